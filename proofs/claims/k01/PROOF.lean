import PyProof.Rows.All
import HandS.ForMost
import HandS.ForExc
import HandS.Wide
import HandS.Walk
import HandS.Flow
import HandS.TupAny
import HandS.TupMul
import HandS.Deep
import HandS.CallSlots
import HandS.TryMany
import HandS.IsInst
import PyProof.ReprRoads
import KE.KExcSuper
import HandS.ExcInit
import HandS.ExcField
import KE.KExcIs
import HandS.Replace
import HandS.Ends
import HandS.ExcIs
import PyProof.ReprLen
import KE.IntTextLaws
import PyProof.StrLawsIn
import PySem.Challenge.RW_leastawry_k01_whole_fractions
set_option Elab.async false
set_option linter.all false
set_option maxRecDepth 100000
/-! The data layer: a frame's slots hold data trees; meanings are functions of the slots and of one cell. -/
namespace L2
open PySem PySem.Spec PyProof.Rows
theorem PE.imp {X : Cx} {e : Expr} {t t' : TE} (h : PE X e t) (hi : ∀ σ H Q, t' σ H Q → t σ H Q) : PE X e t' := ⟨fun pins s σ H Q I q => h.run pins s σ H Q I (hi σ H Q q)⟩
theorem PT.imp {X : Cx} {e : Expr} {t t' : TT} (h : PT X e t) (hi : ∀ σ H Q, t' σ H Q → t σ H Q) : PT X e t' := ⟨fun pins s σ H Q I q => h.run pins s σ H Q I (hi σ H Q q)⟩
theorem PW.imp {X : Cx} {e : Expr} {t t' : TT} (h : PW X e t) (hi : ∀ σ H Q, t' σ H Q → t σ H Q) : PW X e t' := ⟨fun w pins s σ H Q I q => h.run w pins s σ H Q I (hi σ H Q q)⟩
theorem PA.imp {X : Cx} {es : List Expr} {t t' : TA} (h : PA X es t) (hi : ∀ σ H Q, t' σ H Q → t σ H Q) : PA X es t' := ⟨fun pos pins s σ H Q I q => h.run pos pins s σ H Q I (hi σ H Q q)⟩
theorem PS.imp {X : Cx} {st : Stmt} {t t' : TS} (h : PS X st t) (hi : ∀ D σ H, t' D σ H → t D σ H) : PS X st t' := ⟨fun pins s σ H D I q => h.run pins s σ H D I (hi D σ H q)⟩
theorem PSs.imp {X : Cx} {st : List Stmt} {t t' : TS} (h : PSs X st t) (hi : ∀ D σ H, t' D σ H → t D σ H) : PSs X st t' := ⟨fun pins s σ H D I q => h.run pins s σ H D I (hi D σ H q)⟩
namespace DL

/-! ### results -/
/-- an exception: its class by number, its fields -/
structure Xn where
  n : Nat
  fs : List PyData
inductive R (α : Type) where
  | ok (a : α) (c : Int)
  | ex (x : Xn) (c : Int)
  | no
def R.bind {α β : Type} (r : R α) (k : α → Int → R β) : R β := match r with
  | .ok a c => k a c
  | .ex x c => .ex x c
  | .no => .no
def ofO {α : Type} (o : Option α) (c : Int) : R α := match o with
  | some a => .ok a c
  | none => .no
/-- what a slot holds -/
inductive Sl where
  | un
  | dt (d : PyData)
  | ow (ds : List PyData)
  | ce
  | xn (x : Xn)
  | sc (ns : List Int)
abbrev En := List Sl
abbrev FE := En → Int → R PyData
abbrev FT := En → Int → R Bool
abbrev FA := En → Int → R (List Sl)

/-! ### values and data -/
mutual
inductive Rp (K : PySem.W.Frag) (B : Hp) : V → PyData → Prop
  | non : Rp K B .non .none
  | bl (b : Bool) : Rp K B (.bl b) (.bool b)
  | int (i : Int) : Rp K B (.int i) (.int i)
  | str (x : Str) : Rp K B (.str x) (.str x)
  | lst {a : Addr} {xs : List V} {ds : List PyData} : B a = some (.lst xs) → RpA K B xs ds → Rp K B (.ref a) (.list ds)
  | tup {a : Addr} {xs : List V} {ds : List PyData} : SqT K B a xs → RpA K B xs ds → Rp K B (.ref a) (.tuple ds)
inductive RpA (K : PySem.W.Frag) (B : Hp) : List V → List PyData → Prop
  | nil : RpA K B [] []
  | cons {v : V} {vs : List V} {d : PyData} {ds : List PyData} : Rp K B v d → RpA K B vs ds → RpA K B (v :: vs) (d :: ds)
end
theorem Same.seqT {K : PySem.W.Frag} {H H' : Hp} {a : Addr} {xs : List V} (e : Same H H') (h : SqT K H a xs) : SqT K H' a xs := by
  rcases h with (h | ⟨o, h⟩) | h
  · exact Or.inl (Or.inl (e a _ h))
  · exact Or.inl (Or.inr ⟨o, e a _ h⟩)
  · exact Or.inr h
section
variable {K : PySem.W.Frag} {B B' : Hp}
mutual
theorem Rp.mono (e : Same B B') : ∀ {v : V} {d : PyData}, Rp K B v d → Rp K B' v d
  | _, _, .non => .non
  | _, _, .bl b => .bl b
  | _, _, .int i => .int i
  | _, _, .str x => .str x
  | _, _, .lst h r => .lst (e _ _ h) (RpA.mono e r)
  | _, _, .tup h r => .tup (Same.seqT e h) (RpA.mono e r)
theorem RpA.mono (e : Same B B') : ∀ {vs : List V} {ds : List PyData}, RpA K B vs ds → RpA K B' vs ds
  | _, _, .nil => .nil
  | _, _, .cons h r => .cons (Rp.mono e h) (RpA.mono e r)
end
mutual
theorem Rp.dp : ∀ {v : V} {d : PyData}, Rp K B v d → Dp K B v d
  | _, _, .non => .non
  | _, _, .bl b => .bl b
  | _, _, .int i => .int i
  | _, _, .str x => .str x
  | _, _, .lst h r => .lst (SqL.of h) (RpA.dp r)
  | _, _, .tup h r => .tup h (RpA.dp r)
theorem RpA.dp : ∀ {vs : List V} {ds : List PyData}, RpA K B vs ds → DpAll K B vs ds
  | _, _, .nil => .nil
  | _, _, .cons h r => .cons (Rp.dp h) (RpA.dp r)
end
theorem RpA.len {vs : List V} {ds : List PyData} (h : RpA K B vs ds) : vs.length = ds.length := by
  induction ds generalizing vs with
  | nil => cases h; rfl
  | cons d ds ih => cases h with | cons h r => simp [ih r]
theorem RpA.get {vs : List V} {ds : List PyData} (h : RpA K B vs ds) : ∀ {i : Nat} {d : PyData}, ds[i]? = some d → ∃ v, vs[i]? = some v ∧ Rp K B v d := by
  induction ds generalizing vs with
  | nil => intro i d e; simp at e
  | cons d0 ds ih =>
    cases h with
    | cons h r =>
      intro i d e
      cases i with
      | zero => simp at e; subst e; exact ⟨_, rfl, h⟩
      | succ i => simpa using ih r (by simpa using e)
theorem RpA.get' {vs : List V} {ds : List PyData} (h : RpA K B vs ds) {i : Nat} {v : V} (e : vs[i]? = some v) : ∃ d, ds[i]? = some d ∧ Rp K B v d := by
  have hl := h.len
  have hi : i < ds.length := by rw [← hl]; exact (List.getElem?_eq_some_iff.mp e).1
  obtain ⟨v', e', r⟩ := h.get (List.getElem?_eq_getElem hi)
  rw [e] at e'
  cases e'
  exact ⟨_, List.getElem?_eq_getElem hi, r⟩
theorem RpA.app {vs ws : List V} {ds es : List PyData} (h : RpA K B vs ds) (g : RpA K B ws es) : RpA K B (vs ++ ws) (ds ++ es) := by
  induction ds generalizing vs with
  | nil => cases h; exact g
  | cons d ds ih => cases h with | cons h r => exact .cons h (ih r)
theorem RpA.set {vs : List V} {ds : List PyData} (h : RpA K B vs ds) {v : V} {d : PyData} (r : Rp K B v d) : ∀ i : Nat, RpA K B (vs.set i v) (ds.set i d) := by
  induction ds generalizing vs with
  | nil => cases h; intro i; exact .nil
  | cons d0 ds ih =>
    cases h with
    | cons h0 r0 =>
      intro i
      cases i with
      | zero => exact .cons r r0
      | succ i => exact .cons h0 (ih r0 i)
theorem RpA.take {vs : List V} {ds : List PyData} (h : RpA K B vs ds) : ∀ i : Nat, RpA K B (vs.take i) (ds.take i) := by
  induction ds generalizing vs with
  | nil => cases h; intro i; cases i <;> exact .nil
  | cons d0 ds ih =>
    cases h with
    | cons h0 r0 =>
      intro i
      cases i with
      | zero => exact .nil
      | succ i => exact .cons h0 (ih r0 i)
theorem RpA.drop {vs : List V} {ds : List PyData} (h : RpA K B vs ds) : ∀ i : Nat, RpA K B (vs.drop i) (ds.drop i) := by
  induction ds generalizing vs with
  | nil => cases h; intro i; cases i <;> exact .nil
  | cons d0 ds ih =>
    cases h with
    | cons h0 r0 =>
      intro i
      cases i with
      | zero => exact .cons h0 r0
      | succ i => exact ih r0 i
theorem RpA.dropLast {vs : List V} {ds : List PyData} (h : RpA K B vs ds) : RpA K B vs.dropLast ds.dropLast := by
  rw [List.dropLast_eq_take, List.dropLast_eq_take, h.len]
  exact h.take _
theorem RpA.erase {vs : List V} {ds : List PyData} (h : RpA K B vs ds) : ∀ i : Nat, RpA K B (vs.eraseIdx i) (ds.eraseIdx i) := by
  induction ds generalizing vs with
  | nil => cases h; intro i; exact .nil
  | cons d0 ds ih =>
    cases h with
    | cons h0 r0 =>
      intro i
      cases i with
      | zero => exact r0
      | succ i => exact .cons h0 (ih r0 i)
end

/-! ### the state -/
structure XC where
  C : Addr
  ns : List Str
structure Par where
  K : PySem.W.Frag
  C : Option Addr
  B0 : Hp
  H0 : Hp
  xt : List XC
  W : WX
  xa : Option (Addr × Addr × Addr)
  n : Nat
def SlOk (p : Par) (B H : Hp) (o : Option V) : Sl → Prop
  | .un => True
  | .dt d => ∃ v, o = some v ∧ Rp p.K B v d
  | .ow ds => ∃ a xs, o = some (.ref a) ∧ H a = some (.lst xs) ∧ B a = none ∧ p.H0 a = none ∧ RpA p.K B xs ds
  | .ce => ∃ a, p.C = some a ∧ o = some (.ref a)
  | .sc ns => ∃ a, o = some (.ref a) ∧ SqL p.K B a (ns.map V.int)
  | .xn x => ∃ a dd C ns vs, p.xa = some (a, dd, C) ∧ o = some (.ref a) ∧ p.xt[x.n]? = some ⟨C, ns⟩ ∧ H dd = some (.xd (ns.zip vs)) ∧ p.H0 dd ≠ none ∧ RpA p.K B vs x.fs ∧ ns.length = vs.length
structure Sta (p : Par) (B H : Hp) (σ : St) (ρ : En) (c : Int) : Prop where
  sub : Same B H
  ext : Same p.B0 B
  new : ∀ a, B a ≠ none → p.B0 a ≠ none ∨ p.H0 a = none
  keep : ∀ a o, p.H0 a = some o → p.C ≠ some a → H a = some o
  cel : ∀ a, p.C = some a → H a = some (.lst [.int c]) ∧ B a = none ∧ p.H0 a ≠ none
  len : σ.length = ρ.length
  ln : σ.length = p.n
  slot : ∀ (i : Nat) (s : Sl), ρ[i]? = some s → ∃ o, σ[i]? = some o ∧ SlOk p B H o s
  apart : ∀ (i j : Nat) (a : Addr) (ds es : List PyData), ρ[i]? = some (.ow ds) → ρ[j]? = some (.ow es) → σ[i]? = some (some (.ref a)) → σ[j]? = some (some (.ref a)) → i = j
/-- new objects only, but for the cell -/
structure Gr (C : Option Addr) (B H B' H' : Hp) : Prop where
  b : Same B B'
  s : Same B' H'
  n : ∀ a, B' a ≠ none → B a ≠ none ∨ H a = none
  k : ∀ a o, H a = some o → C ≠ some a → H' a = some o
/-- .. and the cell stands -/
structure Gw (B H B' H' : Hp) : Prop where
  b : Same B B'
  s : Same B' H'
  n : ∀ a, B' a ≠ none → B a ≠ none ∨ H a = none
  k : Same H H'
theorem Gw.gr {B H B' H' : Hp} (g : Gw B H B' H') (C : Option Addr) : Gr C B H B' H' := ⟨g.b, g.s, g.n, fun a o e _ => g.k a o e⟩
theorem Gw.refl {B H : Hp} (s : Same B H) : Gw B H B H := ⟨Same.refl _, s, fun _ h => .inl h, Same.refl _⟩
theorem Gw.trans {B H B1 H1 B2 H2 : Hp} (g : Gw B H B1 H1) (h : Gw B1 H1 B2 H2) : Gw B H B2 H2 :=
  ⟨g.b.trans h.b, h.s, fun a q => by
    rcases h.n a q with z | z
    · exact g.n a z
    · exact .inr (g.k.free z), g.k.trans h.k⟩
/-- a new object, frozen at once -/
theorem Gw.new {B H : Hp} (s : Same B H) {a : Addr} (o : HO) (n : H a = none) : Gw B H (upd B a o) (upd H a o) := by
  have nb : B a = none := s.free n
  refine ⟨fun b x e => ?_, fun b x e => ?_, fun b q => ?_, fun b x e => ?_⟩
  · rw [upd_ne (ne_of_none e nb)]; exact e
  · by_cases h : b = a
    · subst h; rw [upd_same] at e ⊢; exact e
    · rw [upd_ne h] at e ⊢; exact s b x e
  · by_cases h : b = a
    · subst h; exact .inr n
    · rw [upd_ne h] at q; exact .inl q
  · rw [upd_ne (ne_of_none e n)]; exact e
/-- a new object, not frozen -/
theorem Gw.held {B H : Hp} (s : Same B H) {a : Addr} (o : HO) (n : H a = none) : Gw B H B (upd H a o) := by
  refine ⟨Same.refl _, fun b x e => ?_, fun _ h => .inl h, fun b x e => ?_⟩
  · rw [upd_ne (ne_of_none (s b x e) n)]; exact s b x e
  · rw [upd_ne (ne_of_none e n)]; exact e
section
variable {p : Par} {B H B' H' : Hp} {σ : St} {ρ : En} {c c' : Int}
theorem Sta.none0 (S : Sta p B H σ ρ c) {a : Addr} (h : H a = none) : p.H0 a = none := by
  cases q : p.H0 a with
  | none => rfl
  | some o =>
    by_cases hc : p.C = some a
    · rw [(S.cel a hc).1] at h; cases h
    · rw [S.keep a o q hc] at h; cases h
theorem Sta.call (S : Sta p B H σ ρ c) (g : Gr p.C B H B' H') (hc : ∀ a, p.C = some a → H' a = some (.lst [.int c'])) : Sta p B' H' σ ρ c' where
  sub := g.s
  ext := S.ext.trans g.b
  new := fun a q => by
    rcases g.n a q with z | z
    · exact S.new a z
    · exact .inr (S.none0 z)
  keep := fun a o e q => g.k a o (S.keep a o e q) q
  cel := fun a e => by
    obtain ⟨h1, h2, h3⟩ := S.cel a e
    refine ⟨hc a e, ?_, h3⟩
    cases q : B' a with
    | none => rfl
    | some o =>
      rcases g.n a (by rw [q]; exact fun z => nomatch z) with z | z
      · exact absurd h2 z
      · rw [h1] at z; cases z
  len := S.len
  ln := S.ln
  slot := fun i s e => by
    obtain ⟨o, h1, h2⟩ := S.slot i s e
    refine ⟨o, h1, ?_⟩
    cases s with
    | un => trivial
    | dt d => obtain ⟨v, e1, r⟩ := h2; exact ⟨v, e1, r.mono g.b⟩
    | ow ds =>
      obtain ⟨a, xs, e1, e2, e3, e4, r⟩ := h2
      refine ⟨a, xs, e1, g.k a _ e2 fun z => ?_, ?_, e4, r.mono g.b⟩
      · exact (S.cel a z).2.2 e4
      · cases q : B' a with
        | none => rfl
        | some o =>
          rcases g.n a (by rw [q]; exact fun z => nomatch z) with z | z
          · exact absurd e3 z
          · rw [e2] at z; cases z
    | ce => exact h2
    | sc ns => obtain ⟨a, k1, k2⟩ := h2; exact ⟨a, k1, g.b.seq k2⟩
    | xn x =>
      obtain ⟨a, dd, D, ns, vs, k1, k2, k3, k4, k5, k6, k7⟩ := h2
      refine ⟨a, dd, D, ns, vs, k1, k2, k3, g.k dd _ k4 fun z => ?_, k5, k6.mono g.b, k7⟩
      rw [(S.cel dd z).1] at k4
      cases k4
  apart := S.apart
theorem Sta.grow (S : Sta p B H σ ρ c) (g : Gw B H B' H') : Sta p B' H' σ ρ c := S.call (g.gr p.C) fun a e => g.k a _ (S.cel a e).1
/-- another wish -/
theorem Sta.wish (S : Sta p B H σ ρ c) (W : WX) : Sta { p with W := W } B H σ ρ c := ⟨S.sub, S.ext, S.new, S.keep, S.cel, S.len, S.ln, S.slot, S.apart⟩
theorem Sta.unwish {W : WX} (S : Sta { p with W := W } B H σ ρ c) : Sta p B H σ ρ c := ⟨S.sub, S.ext, S.new, S.keep, S.cel, S.len, S.ln, S.slot, S.apart⟩
end
def ExOk (K : PySem.W.Frag) (xt : List XC) (B H : Hp) (cls : Value) (d : Option Addr) (x : Xn) : Prop :=
  ∃ C ns dd vs, xt[x.n]? = some ⟨C, ns⟩ ∧ cls = .ref C ∧ d = some dd ∧ H dd = some (.xd (ns.zip vs)) ∧ RpA K B vs x.fs ∧ ns.length = vs.length

/-! ### readings -/
def PostE (p : Par) (σ : St) (ρ : En) (B : Hp) (Q : VK) : R PyData → Prop
  | .ok d c' => ∀ v B' H', Sta p B' H' σ ρ c' → Same B B' → Rp p.K B' v d → Q v H'
  | .ex x c' => ∀ B' H' cls d, Sta p B' H' σ ρ c' → Same B B' → ExOk p.K p.xt B' H' cls d x → p.W cls d σ H'
  | .no => False
def PostT (p : Par) (σ : St) (ρ : En) (B : Hp) (Q : Bool → Hp → Prop) : R Bool → Prop
  | .ok b c' => ∀ B' H', Sta p B' H' σ ρ c' → Same B B' → Q b H'
  | .ex x c' => ∀ B' H' cls d, Sta p B' H' σ ρ c' → Same B B' → ExOk p.K p.xt B' H' cls d x → p.W cls d σ H'
  | .no => False
def ArOk (K : PySem.W.Frag) (C : Option Addr) (B : Hp) (v : V) : Sl → Prop
  | .dt d => Rp K B v d
  | .ce => ∃ a, C = some a ∧ v = .ref a
  | .sc ns => ∃ a, v = .ref a ∧ SqL K B a (ns.map V.int)
  | _ => False
inductive ArA (K : PySem.W.Frag) (C : Option Addr) (B : Hp) : List V → List Sl → Prop
  | nil : ArA K C B [] []
  | cons {v : V} {vs : List V} {s : Sl} {ss : List Sl} : ArOk K C B v s → ArA K C B vs ss → ArA K C B (v :: vs) (s :: ss)
theorem ArOk.mono {K : PySem.W.Frag} {C : Option Addr} {B B' : Hp} (e : Same B B') {v : V} {s : Sl} (h : ArOk K C B v s) : ArOk K C B' v s := by
  cases s with
  | un => exact h
  | dt d => exact Rp.mono e h
  | ow ds => exact h
  | ce => exact h
  | xn x => exact h
  | sc ns => obtain ⟨a, k1, k2⟩ := h; exact ⟨a, k1, e.seq k2⟩
theorem ArA.mono {K : PySem.W.Frag} {C : Option Addr} {B B' : Hp} (e : Same B B') {vs : List V} {ss : List Sl} (h : ArA K C B vs ss) : ArA K C B' vs ss := by
  induction h with
  | nil => exact .nil
  | cons h _ ih => exact .cons (h.mono e) ih
theorem ArA.len {K : PySem.W.Frag} {C : Option Addr} {B : Hp} {vs : List V} {ss : List Sl} (h : ArA K C B vs ss) : vs.length = ss.length := by
  induction h with
  | nil => rfl
  | cons _ _ ih => simp [ih]
def PostA (p : Par) (σ : St) (ρ : En) (B : Hp) (Q : List V → Hp → Prop) : R (List Sl) → Prop
  | .ok ss c' => ∀ vs B' H', Sta p B' H' σ ρ c' → Same B B' → ArA p.K p.C B' vs ss → Q vs H'
  | .ex x c' => ∀ B' H' cls d, Sta p B' H' σ ρ c' → Same B B' → ExOk p.K p.xt B' H' cls d x → p.W cls d σ H'
  | .no => False
def dE (p : Par) (f : FE) : TE := fun σ H Q => ∃ B ρ c, Sta p B H σ ρ c ∧ PostE p σ ρ B Q (f ρ c)
def dT (p : Par) (f : FT) : TT := fun σ H Q => ∃ B ρ c, Sta p B H σ ρ c ∧ PostT p σ ρ B Q (f ρ c)
def dA (p : Par) (f : FA) : TA := fun σ H Q => ∃ B ρ c, Sta p B H σ ρ c ∧ PostA p σ ρ B Q (f ρ c)

section
variable {p : Par} {σ : St} {ρ : En} {B B' : Hp}
theorem PostE.from {Q : VK} {r : R PyData} (h : PostE p σ ρ B Q r) (s : Same B B') : PostE p σ ρ B' Q r := by
  cases r with
  | ok d c => exact fun v B2 H2 S z r => h v B2 H2 S (s.trans z) r
  | ex x c => exact fun B2 H2 cls d S z e => h B2 H2 cls d S (s.trans z) e
  | no => exact h
theorem PostT.from {Q : Bool → Hp → Prop} {r : R Bool} (h : PostT p σ ρ B Q r) (s : Same B B') : PostT p σ ρ B' Q r := by
  cases r with
  | ok d c => exact fun B2 H2 S z => h B2 H2 S (s.trans z)
  | ex x c => exact fun B2 H2 cls d S z e => h B2 H2 cls d S (s.trans z) e
  | no => exact h
theorem PostA.from {Q : List V → Hp → Prop} {r : R (List Sl)} (h : PostA p σ ρ B Q r) (s : Same B B') : PostA p σ ρ B' Q r := by
  cases r with
  | ok d c => exact fun v B2 H2 S z r => h v B2 H2 S (s.trans z) r
  | ex x c => exact fun B2 H2 cls d S z e => h B2 H2 cls d S (s.trans z) e
  | no => exact h
/-- an expression ahead of an expression -/
theorem PostE.bE {Q Q' : VK} {r : R PyData} {k : PyData → Int → R PyData} (h : PostE p σ ρ B Q (r.bind k))
    (hq : ∀ d c' v B' H', Sta p B' H' σ ρ c' → Rp p.K B' v d → Same B B' → PostE p σ ρ B' Q (k d c') → Q' v H') : PostE p σ ρ B Q' r := by
  cases r with
  | ok d c => exact fun v B2 H2 S z r => hq d c v B2 H2 S r z (PostE.from h z)
  | ex x c => exact h
  | no => exact h
theorem PostE.bT {Q : VK} {Q' : Bool → Hp → Prop} {r : R Bool} {k : Bool → Int → R PyData} (h : PostE p σ ρ B Q (r.bind k))
    (hq : ∀ b c' B' H', Sta p B' H' σ ρ c' → Same B B' → PostE p σ ρ B' Q (k b c') → Q' b H') : PostT p σ ρ B Q' r := by
  cases r with
  | ok d c => exact fun B2 H2 S z => hq d c B2 H2 S z (PostE.from h z)
  | ex x c => exact h
  | no => exact h
theorem PostE.bA {Q : VK} {Q' : List V → Hp → Prop} {r : R (List Sl)} {k : List Sl → Int → R PyData} (h : PostE p σ ρ B Q (r.bind k))
    (hq : ∀ ss c' vs B' H', Sta p B' H' σ ρ c' → ArA p.K p.C B' vs ss → Same B B' → PostE p σ ρ B' Q (k ss c') → Q' vs H') : PostA p σ ρ B Q' r := by
  cases r with
  | ok d c => exact fun v B2 H2 S z r => hq d c v B2 H2 S r z (PostE.from h z)
  | ex x c => exact h
  | no => exact h
theorem PostT.bE {Q : Bool → Hp → Prop} {Q' : VK} {r : R PyData} {k : PyData → Int → R Bool} (h : PostT p σ ρ B Q (r.bind k))
    (hq : ∀ d c' v B' H', Sta p B' H' σ ρ c' → Rp p.K B' v d → Same B B' → PostT p σ ρ B' Q (k d c') → Q' v H') : PostE p σ ρ B Q' r := by
  cases r with
  | ok d c => exact fun v B2 H2 S z r => hq d c v B2 H2 S r z (PostT.from h z)
  | ex x c => exact h
  | no => exact h
theorem PostT.bT {Q Q' : Bool → Hp → Prop} {r : R Bool} {k : Bool → Int → R Bool} (h : PostT p σ ρ B Q (r.bind k))
    (hq : ∀ b c' B' H', Sta p B' H' σ ρ c' → Same B B' → PostT p σ ρ B' Q (k b c') → Q' b H') : PostT p σ ρ B Q' r := by
  cases r with
  | ok d c => exact fun B2 H2 S z => hq d c B2 H2 S z (PostT.from h z)
  | ex x c => exact h
  | no => exact h
theorem PostA.bE {Q : List V → Hp → Prop} {Q' : VK} {r : R PyData} {k : PyData → Int → R (List Sl)} (h : PostA p σ ρ B Q (r.bind k))
    (hq : ∀ d c' v B' H', Sta p B' H' σ ρ c' → Rp p.K B' v d → Same B B' → PostA p σ ρ B' Q (k d c') → Q' v H') : PostE p σ ρ B Q' r := by
  cases r with
  | ok d c => exact fun v B2 H2 S z r => hq d c v B2 H2 S r z (PostA.from h z)
  | ex x c => exact h
  | no => exact h
theorem PostA.bA {Q Q' : List V → Hp → Prop} {r : R (List Sl)} {k : List Sl → Int → R (List Sl)} (h : PostA p σ ρ B Q (r.bind k))
    (hq : ∀ ss c' vs B' H', Sta p B' H' σ ρ c' → ArA p.K p.C B' vs ss → Same B B' → PostA p σ ρ B' Q (k ss c') → Q' vs H') : PostA p σ ρ B Q' r := by
  cases r with
  | ok d c => exact fun v B2 H2 S z r => hq d c v B2 H2 S r z (PostA.from h z)
  | ex x c => exact h
  | no => exact h
end

/-! ### names, constants -/
section
variable {X : Cx} {p : Par} {pos : Pos}
def fNm (i : Nat) : FE := fun ρ c => match ρ[i]? with
  | some (.dt d) => .ok d c
  | _ => .no
def fC (d : PyData) : FE := fun _ c => .ok d c
theorem de_nm {e : Expr} (i : Nat) (h : PE X e (tVar i)) : PE X e (dE p (fNm i)) := h.imp fun σ H Q ⟨B, ρ, c, S, m⟩ => by
  unfold fNm at m
  split at m
  · rename_i d e
    obtain ⟨o, e1, v, e2, r⟩ := S.slot i _ e
    subst e2
    exact ⟨v, e1, m v B H S (Same.refl _) r⟩
  · exact m.elim
theorem de_tC {e : Expr} {v : V} {d : PyData} (h : PE X e (tC v)) (r : ∀ B, Same p.B0 B → Rp p.K B v d) : PE X e (dE p (fC d)) := h.imp fun σ H Q ⟨B, ρ, c, S, m⟩ => m v B H S (Same.refl _) (r B S.ext)
theorem de_int {i : Int} {j : Nat} : PE X (.Constant (.int i) j pos) (dE p (fC (.int i))) := de_tC pe_int fun _ _ => .int i
theorem de_str {x : Str} {j : Nat} : PE X (.Constant (.str x) j pos) (dE p (fC (.str x))) := de_tC pe_str fun _ _ => .str x
theorem de_bl {b : Bool} {j : Nat} : PE X (.Constant (.bool b) j pos) (dE p (fC (.bool b))) := de_tC pe_bl fun _ _ => .bl b
theorem de_non {j : Nat} : PE X (.Constant .none j pos) (dE p (fC .none)) := de_tC pe_non fun _ _ => .non

/-! ### operators by values -/
def vOp (K : PySem.W.Frag) (bf : PyData → PyData → Option PyData) : R2 := fun x y H Q => ∃ B d1 d2 d, Same B H ∧ Rp K B x d1 ∧ Rp K B y d2 ∧ bf d1 d2 = some d ∧
  ∀ v B' H', Gw B H B' H' → Rp K B' v d → Q v H'
def vUn (K : PySem.W.Frag) (uf : PyData → Option PyData) : V → Hp → VK → Prop := fun x H Q => ∃ B d1 d, Same B H ∧ Rp K B x d1 ∧ uf d1 = some d ∧
  ∀ v B' H', Gw B H B' H' → Rp K B' v d → Q v H'
def vCl (K : PySem.W.Frag) (cf : List PyData → Option PyData) : List V → Hp → VK → Prop := fun xs H Q => ∃ B ds d, Same B H ∧ RpA K B xs ds ∧ cf ds = some d ∧
  ∀ v B' H', Gw B H B' H' → Rp K B' v d → Q v H'
def vMt (K : PySem.W.Frag) (cf : PyData → List PyData → Option PyData) : V → List V → Hp → VK → Prop := fun x xs H Q => ∃ B e ds d, Same B H ∧ Rp K B x e ∧ RpA K B xs ds ∧ cf e ds = some d ∧
  ∀ v B' H', Gw B H B' H' → Rp K B' v d → Q v H'
def f1 (uf : PyData → Option PyData) (f : FE) : FE := fun ρ c => (f ρ c).bind fun x c1 => ofO (uf x) c1
def f2 (bf : PyData → PyData → Option PyData) (f g : FE) : FE := fun ρ c => (f ρ c).bind fun x c1 => (g ρ c1).bind fun y c2 => ofO (bf x y) c2
variable {a b : Expr} {f g h : FE} {op : Operator}
theorem ofO_ok {σ : St} {ρ : En} {B : Hp} {Q : VK} {o : Option PyData} {c : Int} (m : PostE p σ ρ B Q (ofO o c)) : ∃ d, o = some d ∧ ∀ v B' H', Sta p B' H' σ ρ c → Same B B' → Rp p.K B' v d → Q v H' := by
  cases o with
  | none => exact m.elim
  | some d => exact ⟨d, rfl, m⟩
theorem two {bf : PyData → PyData → Option PyData} {σ : St} {H : Hp} {Q : VK} (h : dE p (f2 bf f g) σ H Q) : tOp (vOp p.K bf) (dE p f) (dE p g) σ H Q := by
  obtain ⟨B, ρ, c, S, m⟩ := h
  refine ⟨B, ρ, c, S, m.bE fun x c1 v B1 H1 S1 r1 s1 m1 => ⟨B1, ρ, c1, S1, m1.bE fun y c2 u B2 H2 S2 r2 s2 m2 => ?_⟩⟩
  obtain ⟨d, e, q⟩ := ofO_ok m2
  exact ⟨B2, x, y, d, S2.sub, r1.mono s2, r2, e, fun v B' H' G r => q v B' H' (S2.grow G) G.b r⟩
theorem one {uf : PyData → Option PyData} {σ : St} {H : Hp} {Q : VK} (h : dE p (f1 uf f) σ H Q) : tUn (vUn p.K uf) (dE p f) σ H Q := by
  obtain ⟨B, ρ, c, S, m⟩ := h
  refine ⟨B, ρ, c, S, m.bE fun x c1 v B1 H1 S1 r1 s1 m1 => ?_⟩
  obtain ⟨d, e, q⟩ := ofO_ok m1
  exact ⟨B1, x, d, S1.sub, r1, e, fun v B' H' G r => q v B' H' (S1.grow G) G.b r⟩
theorem de_op {bf : PyData → PyData → Option PyData} (ho : OpR X (binaryOp op) (vOp p.K bf)) (ha : PE X a (dE p f)) (hb : PE X b (dE p g)) : PE X (.BinOp a op b pos) (dE p (f2 bf f g)) :=
  (pe_op ho ha hb).imp fun _ _ _ h => two h
theorem de_un {op : UnaryOp} {uf : PyData → Option PyData} (ho : UnR X (unaryOp op) (vUn p.K uf)) (ha : PE X a (dE p f)) : PE X (.UnaryOp op a pos) (dE p (f1 uf f)) :=
  (pe_un ho ha).imp fun _ _ _ h => one h
theorem de_cmp {op : CmpOp} {bf : PyData → PyData → Option PyData} (ho : OpR X (compareOp op) (vOp p.K bf)) (hm : behindInMarks op b = false) (ha : PE X a (dE p f)) (hb : PE X b (dE p g)) : PE X (.Compare a [op] [b] pos) (dE p (f2 bf f g)) :=
  (pe_cmpR ho ha hb hm).imp fun _ _ _ h => two h
theorem de_ix {bf : PyData → PyData → Option PyData} (hr : IxR X (vOp p.K bf)) (hs : PlainIx b) (ha : PE X a (dE p f)) (hb : PE X b (dE p g)) : PE X (.Subscript a b pos) (dE p (f2 bf f g)) :=
  (pe_ix hr ha hb hs).imp fun _ _ _ h => two h

/-! ### tests -/
/-- the truth of a bool -/
def asB : PyData → Option Bool
  | .bool b => some b
  | _ => none
def tB1 (f : FE) : FT := fun ρ c => (f ρ c).bind fun d c1 => ofO (asB d) c1
theorem asB_some {d : PyData} {k : Bool} (h : asB d = some k) : d = .bool k := by
  cases d <;> first | (simp [asB] at h; done) | (simp [asB] at h; rw [h])
theorem Rp.of_bl {K : PySem.W.Frag} {B : Hp} {v : V} {k : Bool} (r : Rp K B v (.bool k)) : v = .bl k := by cases r; rfl
theorem Rp.of_int {K : PySem.W.Frag} {B : Hp} {v : V} {k : Int} (r : Rp K B v (.int k)) : v = .int k := by cases r; rfl
theorem Rp.of_str {K : PySem.W.Frag} {B : Hp} {v : V} {k : Str} (r : Rp K B v (.str k)) : v = .str k := by cases r; rfl
theorem Rp.of_non {K : PySem.W.Frag} {B : Hp} {v : V} (r : Rp K B v .none) : v = .non := by cases r; rfl
theorem tB_ok {σ : St} {H : Hp} {Q : Bool → Hp → Prop} (h : dT p (tB1 f) σ H Q) : dE p f σ H fun x H' => ∃ k, x = .bl k ∧ Q k H' := by
  obtain ⟨B, ρ, c, S, m⟩ := h
  refine ⟨B, ρ, c, S, m.bE fun x c1 v B1 H1 S1 r1 s1 m1 => ?_⟩
  cases e : asB x with
  | none => rw [e] at m1; exact m1.elim
  | some k =>
    rw [e] at m1
    have ex := asB_some e
    subst ex
    exact ⟨k, r1.of_bl, m1 B1 H1 S1 (Same.refl _)⟩
theorem dt_cmp {op : CmpOp} {bf : PyData → PyData → Option PyData} (ho : OpR X (compareOp op) (vOp p.K bf)) (hm : behindInMarks op b = false) (ha : PE X a (dE p f)) (hb : PE X b (dE p g)) : PT X (.Compare a [op] [b] pos) (dT p (tB1 (f2 bf f g))) :=
  (pt_cmpR ho ha hb hm).imp fun σ H Q h => by
    obtain ⟨B, ρ, c, S, m⟩ := tB_ok h
    exact two ⟨B, ρ, c, S, m⟩
/-- an expression that gives a bool -/
theorem dt_val (ha : PE X a (dE p f)) (he : ∀ whole, isTrue a X.env whole = (do let v ← whole; standAt a.pos; holding [v] (truthy v)) := by intro _; rfl) : PT X a (dT p (tB1 f)) :=
  (pt_val ha he).imp fun σ H Q h => by
    obtain ⟨B, ρ, c, S, m⟩ := tB_ok h
    exact ⟨B, ρ, c, S, m⟩
/-- the truth of any value -/
def truth : PyData → Option Bool
  | .none => some false
  | .bool b => some b
  | .int i => some (i != 0)
  | .str x => if x.length ≤ sizeLine then some (x.length != 0) else none
  | .list xs => some (!xs.isEmpty)
  | .tuple xs => some (!xs.isEmpty)
  | .dict _ => none
def tTr (f : FE) : FT := fun ρ c => (f ρ c).bind fun d c1 => ofO (truth d) c1
end
end DL
end L2

set_option Elab.async false
set_option linter.all false
set_option maxRecDepth 100000
namespace L2
open PySem PySem.Spec PyProof.Rows
namespace DL

/-! ### arithmetic on data -/
def dAdd : PyData → PyData → Option PyData
  | .int a, .int b => some (.int (a + b))
  | .str a, .str b => if a.length + b.length ≤ sizeLine then some (.str (a ++ b)) else none
  | .tuple a, .tuple b => if a.length + b.length ≤ sizeLine then some (.tuple (a ++ b)) else none
  | .list a, .list b => if a.length + b.length ≤ sizeLine then some (.list (a ++ b)) else none
  | _, _ => none
def dSub : PyData → PyData → Option PyData
  | .int a, .int b => some (.int (a - b))
  | _, _ => none
def mulFits (a b : Int) : Bool := decide (a.natAbs.log2 + b.natAbs.log2 < 1000000)
def dMul : PyData → PyData → Option PyData
  | .int a, .int b => if mulFits a b then some (.int (a * b)) else none
  | .list a, .int k => if 0 ≤ k ∧ k ≤ 1000 ∧ a.length ≤ 1000 then some (.list (List.replicate k.toNat a).flatten) else none
  | .tuple a, .int k => if a ≠ [] ∧ 2 ≤ k ∧ k ≤ 1000 ∧ a.length ≤ 1000 then some (.tuple (List.replicate k.toNat a).flatten) else none
  | _, _ => none
def divFits (b : Int) : Bool := decide (b ≠ 0) && decide (b.natAbs.log2 < 9000)
def dDiv : PyData → PyData → Option PyData
  | .int a, .int b => if divFits b then some (.int (a.fdiv b)) else none
  | _, _ => none
def dMod : PyData → PyData → Option PyData
  | .int a, .int b => if b ≠ 0 then some (.int (a.fmod b)) else none
  | _, _ => none
def dPow : PyData → PyData → Option PyData
  | .int a, .int b => if 0 ≤ b ∧ b ≤ 1000000 ∧ a.natAbs < 2 ^ 64 then some (.int (a ^ b.toNat)) else none
  | _, _ => none
def dNeg : PyData → Option PyData
  | .int a => some (.int (-a))
  | _ => none
section
variable {X : Cx}
theorem RpA.rep {K : PySem.W.Frag} {B : Hp} {xs : List V} {ds : List PyData} (h : RpA K B xs ds) : ∀ n : Nat, RpA K B (List.replicate n xs).flatten (List.replicate n ds).flatten
  | 0 => .nil
  | n + 1 => by
    rw [List.replicate_succ, List.flatten_cons, List.replicate_succ, List.flatten_cons]
    exact h.app (RpA.rep h n)
theorem vop_add : OpR X (binaryOp .Add) (vOp X.K dAdd) := by
  intro pins s σ H x y v u Q I rx ry ⟨B, d1, d2, d, sb, r1, r2, e, q⟩
  unfold dAdd at e
  split at e
  · rename_i a b
    cases e
    obtain rfl := r1.of_int
    obtain rfl := r2.of_int
    exact op_add pins s σ H _ _ v u Q I rx ry ⟨a, b, rfl, rfl, q _ B H (Gw.refl sb) (.int _)⟩
  · rename_i a b
    split at e
    · rename_i hz
      cases e
      obtain rfl := r1.of_str
      obtain rfl := r2.of_str
      exact op_add_str pins s σ H _ _ v u Q I rx ry ⟨a, b, rfl, rfl, hz, q _ B H (Gw.refl sb) (.str _)⟩
    · cases e
  · rename_i a b
    split at e
    · rename_i hz
      cases e
      cases r1 with
      | tup h1 a1 =>
        rename_i p xs
        cases r2 with
        | tup h2 a2 =>
          rename_i p2 xs2
          have l1 := a1.len
          have l2 := a2.len
          refine op_catA pins s σ H _ _ v u Q I rx ry ⟨p, p2, xs, xs2, rfl, rfl, Same.seqT sb h1, Same.seqT sb h2, by omega, fun z => ?_, fun z z2 => ?_, fun z z2 g ng => ?_⟩
          · subst z
            cases a1
            exact q _ B H (Gw.refl sb) (.tup h2 a2)
          · subst z2
            cases a2
            rw [List.append_nil] at q
            exact q _ B H (Gw.refl sb) (.tup h1 a1)
          · refine q _ _ _ (Gw.new sb (.tup (xs ++ xs2)) ng) (.tup (SqT.of upd_same) ?_)
            exact (a1.app a2).mono (Gw.new sb (.tup (xs ++ xs2)) ng).b
    · cases e
  · rename_i a b
    split at e
    · rename_i hz
      cases e
      cases r1 with
      | lst h1 a1 =>
        rename_i p xs
        cases r2 with
        | lst h2 a2 =>
          rename_i p2 xs2
          have l1 := a1.len
          have l2 := a2.len
          refine op_cat pins s σ H _ _ v u Q I rx ry ⟨p, p2, xs, xs2, rfl, rfl, sb _ _ h1, sb _ _ h2, by omega, fun g ng => ?_⟩
          refine q _ _ _ (Gw.new sb (.lst (xs ++ xs2)) ng) (.lst upd_same ?_)
          exact (a1.app a2).mono (Gw.new sb (.lst (xs ++ xs2)) ng).b
    · cases e
  · cases e
theorem vop_sub : OpR X (binaryOp .Sub) (vOp X.K dSub) := by
  intro pins s σ H x y v u Q I rx ry ⟨B, d1, d2, d, sb, r1, r2, e, q⟩
  unfold dSub at e
  split at e
  · rename_i a b
    cases e
    obtain rfl := r1.of_int
    obtain rfl := r2.of_int
    exact op_sub pins s σ H _ _ v u Q I rx ry ⟨a, b, rfl, rfl, q _ B H (Gw.refl sb) (.int _)⟩
  · cases e
theorem vop_mul : OpR X (binaryOp .Mult) (vOp X.K dMul) := by
  intro pins s σ H x y v u Q I rx ry ⟨B, d1, d2, d, sb, r1, r2, e, q⟩
  unfold dMul at e
  have hz := sizeLine_eq
  split at e
  · rename_i a b
    split at e
    · rename_i hf
      cases e
      obtain rfl := r1.of_int
      obtain rfl := r2.of_int
      exact op_mulW pins s σ H _ _ v u Q I rx ry ⟨a, b, rfl, rfl, (show a.natAbs.log2 + b.natAbs.log2 < 1000000 from of_decide_eq_true hf), q _ B H (Gw.refl sb) (.int _)⟩
    · cases e
  · rename_i a k
    split at e
    · rename_i hf
      cases e
      obtain rfl := r2.of_int
      cases r1 with
      | lst h1 a1 =>
        rename_i p xs
        have l1 := a1.len
        have hm : xs.length * k.toNat ≤ 1000 * 1000 := Nat.mul_le_mul (by omega) (by omega)
        refine op_rep pins s σ H _ _ v u Q I rx ry ⟨p, k, xs, rfl, rfl, sb _ _ h1, by omega, by omega, by omega, fun g ng => ?_⟩
        refine q _ _ _ (Gw.new sb _ ng) (.lst upd_same ?_)
        exact (a1.rep _).mono (Gw.new sb _ ng).b
    · cases e
  · rename_i a k
    split at e
    · rename_i hf
      cases e
      obtain rfl := r2.of_int
      cases r1 with
      | tup h1 a1 =>
        rename_i p xs
        have l1 := a1.len
        refine op_repT pins s σ H _ _ v u Q I rx ry ⟨p, k, xs, rfl, rfl, Same.seqT sb h1, fun z => ?_, hf.2.1, hf.2.2.1, by omega, fun g ng => ?_⟩
        · subst z; cases a1; exact hf.1 rfl
        · refine q _ _ _ (Gw.new sb _ ng) (.tup (SqT.of upd_same) ?_)
          exact (a1.rep _).mono (Gw.new sb _ ng).b
    · cases e
  · cases e
theorem op_fdivG : OpR X (binaryOp .FloorDiv) (rI (fun _ j => j ≠ 0 ∧ j.natAbs.log2 < 9000) fun i j => .int (i.fdiv j)) :=
  opI fun _ _ _ _ _ _ _ hc q => floordiv_int hc.1 q (Or.inl (PyProof.noPylong_of_log2 hc.2))
theorem vop_div : OpR X (binaryOp .FloorDiv) (vOp X.K dDiv) := by
  intro pins s σ H x y v u Q I rx ry ⟨B, d1, d2, d, sb, r1, r2, e, q⟩
  unfold dDiv at e
  split at e
  · rename_i a b
    split at e
    · rename_i hf
      cases e
      obtain rfl := r1.of_int
      obtain rfl := r2.of_int
      simp only [divFits, Bool.and_eq_true, decide_eq_true_eq] at hf
      exact op_fdivG pins s σ H _ _ v u Q I rx ry ⟨a, b, rfl, rfl, hf, q _ B H (Gw.refl sb) (.int _)⟩
    · cases e
  · cases e
theorem vop_mod : OpR X (binaryOp .Mod) (vOp X.K dMod) := by
  intro pins s σ H x y v u Q I rx ry ⟨B, d1, d2, d, sb, r1, r2, e, q⟩
  unfold dMod at e
  split at e
  · rename_i a b
    split at e
    · rename_i hf
      cases e
      obtain rfl := r1.of_int
      obtain rfl := r2.of_int
      exact op_modN pins s σ H _ _ v u Q I rx ry ⟨a, b, rfl, rfl, hf, q _ B H (Gw.refl sb) (.int _)⟩
    · cases e
  · cases e
theorem vop_pow : OpR X (binaryOp .Pow) (vOp X.K dPow) := by
  intro pins s σ H x y v u Q I rx ry ⟨B, d1, d2, d, sb, r1, r2, e, q⟩
  unfold dPow at e
  split at e
  · rename_i a b
    split at e
    · rename_i hf
      cases e
      obtain rfl := r1.of_int
      obtain rfl := r2.of_int
      exact op_pow pins s σ H _ _ v u Q I rx ry ⟨a, b, rfl, rfl, hf, q _ B H (Gw.refl sb) (.int _)⟩
    · cases e
  · cases e
theorem vun_neg : UnR X (unaryOp .USub) (vUn X.K dNeg) := by
  intro pins s σ H x v Q I rx ⟨B, d1, d, sb, r1, e, q⟩
  unfold dNeg at e
  split at e
  · rename_i a
    cases e
    obtain rfl := r1.of_int
    exact un_neg pins s σ H _ v Q I rx ⟨a, rfl, q _ B H (Gw.refl sb) (.int _)⟩
  · cases e

/-! ### comparisons -/
def dEq : PyData → PyData → Option PyData
  | .str x, .str y => some (.bool (x == y))
  | a, b => if SeqAt.shaped a && SeqAt.shaped b then some (.bool (PyData.eqv a b)) else none
def dNe : PyData → PyData → Option PyData
  | .str x, .str y => some (.bool (!(x == y)))
  | a, b => if SeqAt.shaped a && SeqAt.shaped b then some (.bool (!PyData.eqv a b)) else none
theorem dec_str' {x y : Str} : decide (V.str x = V.str y) = (x == y) := by
  rw [Bool.eq_iff_iff]
  simp
def dOrd (p : Int → Int → Bool) : PyData → PyData → Option PyData
  | .int a, .int b => some (.bool (p a b))
  | _, _ => none
abbrev dLt := dOrd fun a b => decide (a < b)
abbrev dLe := dOrd fun a b => decide (a ≤ b)
abbrev dGt := dOrd fun a b => decide (b < a)
abbrev dGe := dOrd fun a b => decide (b ≤ a)
def isNon : PyData → Bool
  | .none => true
  | _ => false
def dIs : PyData → PyData → Option PyData
  | a, .none => some (.bool (isNon a))
  | _, _ => none
def dIsNot : PyData → PyData → Option PyData
  | a, .none => some (.bool (!isNon a))
  | _, _ => none
theorem Dp.of {K : PySem.W.Frag} {B H : Hp} (s : Same B H) {v : V} {d : PyData} (r : Rp K B v d) : Dp K H v d := (r.mono s).dp
theorem vop_eq (hu : X.A.units + 64 < cLine) : OpR X (compareOp .Eq) (vOp X.K dEq) := by
  intro pins s σ H x y v u Q I rx ry ⟨B, d1, d2, d, sb, r1, r2, e, q⟩
  unfold dEq at e
  split at e
  · cases e
    obtain rfl := r1.of_str
    obtain rfl := r2.of_str
    refine op_eq pins s σ H _ _ v u Q I rx ry ⟨rfl, ?_⟩
    rw [dec_str']
    exact q _ B H (Gw.refl sb) (.bl _)
  split at e
  · rename_i hf
    cases e
    simp only [Bool.and_eq_true] at hf
    exact op_eqD hu pins s σ H _ _ v u Q I rx ry ⟨d1, d2, Dp.of sb r1, Dp.of sb r2, hf.1, hf.2, q _ B H (Gw.refl sb) (.bl _)⟩
  · cases e
theorem vop_ne (hu : X.A.units + 64 < cLine) : OpR X (compareOp .NotEq) (vOp X.K dNe) := by
  intro pins s σ H x y v u Q I rx ry ⟨B, d1, d2, d, sb, r1, r2, e, q⟩
  unfold dNe at e
  split at e
  · cases e
    obtain rfl := r1.of_str
    obtain rfl := r2.of_str
    refine op_ne pins s σ H _ _ v u Q I rx ry ⟨rfl, ?_⟩
    rw [dec_str']
    exact q _ B H (Gw.refl sb) (.bl _)
  split at e
  · rename_i hf
    cases e
    simp only [Bool.and_eq_true] at hf
    exact op_neD hu pins s σ H _ _ v u Q I rx ry ⟨d1, d2, Dp.of sb r1, Dp.of sb r2, hf.1, hf.2, q _ B H (Gw.refl sb) (.bl _)⟩
  · cases e
theorem vop_ord {op : CmpOp} {p : Int → Int → Bool} (ho : OpR X (compareOp op) (rI0 fun i j => .bl (p i j))) : OpR X (compareOp op) (vOp X.K (dOrd p)) := by
  intro pins s σ H x y v u Q I rx ry ⟨B, d1, d2, d, sb, r1, r2, e, q⟩
  unfold dOrd at e
  split at e
  · rename_i a b
    cases e
    obtain rfl := r1.of_int
    obtain rfl := r2.of_int
    exact ho pins s σ H _ _ v u Q I rx ry ⟨a, b, rfl, rfl, q _ B H (Gw.refl sb) (.bl _)⟩
  · cases e
theorem vop_lt : OpR X (compareOp .Lt) (vOp X.K dLt) := vop_ord op_lt
theorem vop_le : OpR X (compareOp .LtE) (vOp X.K dLe) := vop_ord op_le
theorem vop_gt : OpR X (compareOp .Gt) (vOp X.K dGt) := vop_ord op_gt
theorem vop_ge : OpR X (compareOp .GtE) (vOp X.K dGe) := vop_ord op_ge
theorem Rp.non_iff {K : PySem.W.Frag} {B : Hp} {v : V} {d : PyData} (r : Rp K B v d) : decide (v = .non) = isNon d := by
  cases r <;> simp [isNon]
theorem vop_is : OpR X (compareOp .Is) (vOp X.K dIs) := by
  intro pins s σ H x y v u Q I rx ry ⟨B, d1, d2, d, sb, r1, r2, e, q⟩
  unfold dIs at e
  split at e
  · cases e
    obtain rfl := r2.of_non
    refine op_isN pins s σ H _ _ v u Q I rx ry ⟨rfl, ?_⟩
    rw [r1.non_iff]
    exact q _ B H (Gw.refl sb) (.bl _)
  · cases e
theorem vop_isnot : OpR X (compareOp .IsNot) (vOp X.K dIsNot) := by
  intro pins s σ H x y v u Q I rx ry ⟨B, d1, d2, d, sb, r1, r2, e, q⟩
  unfold dIsNot at e
  split at e
  · cases e
    obtain rfl := r2.of_non
    refine op_notN pins s σ H _ _ v u Q I rx ry ⟨rfl, ?_⟩
    rw [r1.non_iff]
    exact q _ B H (Gw.refl sb) (.bl _)
  · cases e
/-- text in text -/
def strIn (x y : Str) : Bool := !(Builtin.Str.occurrences y x 0 y.length 1).isEmpty
def flatD : PyData → Bool
  | .none | .bool _ | .int _ | .str _ => true
  | _ => false
def inD (a : PyData) (xs : List PyData) : Bool := xs.any fun z => PyData.eqv z a
def dIn : PyData → PyData → Option PyData
  | .str a, .str b => some (.bool (strIn a b))
  | a, .tuple xs => if flatD a && xs.all flatD then some (.bool (inD a xs)) else none
  | a, .list xs => if SeqAt.shaped a && SeqAt.shaped (.list xs) then some (.bool (inD a xs)) else none
  | _, _ => none
def dNotIn (a b : PyData) : Option PyData := match dIn a b with
  | some (.bool k) => some (.bool (!k))
  | _ => none
theorem flat_V {K : PySem.W.Frag} {B : Hp} {v : V} {d : PyData} (r : Rp K B v d) (f : flatD d = true) : flatV v = true := by
  cases r <;> first | rfl | (simp [flatD] at f)
theorem flat_Vs {K : PySem.W.Frag} {B : Hp} {vs : List V} {ds : List PyData} (r : RpA K B vs ds) (f : ds.all flatD = true) : vs.all flatV = true := by
  induction ds generalizing vs with
  | nil => cases r; rfl
  | cons d ds ih =>
    cases r with
    | cons h t =>
      simp only [List.all_cons, Bool.and_eq_true] at f ⊢
      exact ⟨flat_V h f.1, ih t f.2⟩
theorem eqv_V {K : PySem.W.Frag} {B : Hp} {v w : V} {d e : PyData} (r : Rp K B v d) (t : Rp K B w e) (f : flatD d = true) (g : flatD e = true) : eqV v w = PyData.eqv d e := by
  cases r <;> cases t <;> first | (simp [flatD] at f; done) | (simp [flatD] at g; done) | (simp [eqV, PyData.eqv]; done) | (simp [eqV, PyData.eqv, Bool.beq_eq_decide_eq]; done) | skip
end
end DL
end L2

set_option Elab.async false
set_option linter.all false
set_option maxRecDepth 100000
namespace L2
open PySem PySem.Spec PyProof.Rows
namespace DL
section
variable {X : Cx}
theorem inD_V {K : PySem.W.Frag} {B : Hp} {v : V} {d : PyData} (r : Rp K B v d) (f : flatD d = true) {vs : List V} {ds : List PyData} (t : RpA K B vs ds) (g : ds.all flatD = true) : inV v vs = inD d ds := by
  unfold inV inD
  induction ds generalizing vs with
  | nil => cases t; rfl
  | cons e ds ih =>
    cases t with
    | cons h t =>
      simp only [List.all_cons, Bool.and_eq_true] at g
      rw [List.any_cons, List.any_cons, eqv_V h r g.1 f, ih t g.2]
theorem vop_in_aux {neg : Bool} {op : CmpOp} (ho : OpR X (compareOp op) (rIn X.K neg)) (hd : OpR X (compareOp op) (fun x y H Q => ∃ d ds, Dp X.K H x d ∧ Dp X.K H y (.list ds) ∧ SeqAt.shaped d = true ∧ SeqAt.shaped (.list ds) = true ∧ Q (.bl (if neg then !inD d ds else inD d ds)) H))
    (hs : OpR X (compareOp op) (fun x y H Q => ∃ i j, x = .str i ∧ y = .str j ∧ Q (.bl (if neg then !strIn i j else strIn i j)) H)) : OpR X (compareOp op) (vOp X.K (if neg then dNotIn else dIn)) := by
  intro pins s σ H x y v u Q I rx ry ⟨B, d1, d2, d, sb, r1, r2, e, q⟩
  have key : ∃ k, dIn d1 d2 = some (.bool k) ∧ d = .bool (if neg then !k else k) := by
    cases neg with
    | true =>
      simp only [if_true] at e
      unfold dNotIn at e
      split at e
      · rename_i k ek; cases e; exact ⟨k, ek, rfl⟩
      · cases e
    | false =>
      simp only [if_false, Bool.false_eq_true] at e
      unfold dIn at e ⊢
      split at e
      · cases e; exact ⟨_, rfl, rfl⟩
      · split at e
        · rename_i hf
          cases e; exact ⟨_, by rw [if_pos hf]; rfl, rfl⟩
        · cases e
      · split at e
        · rename_i hf
          cases e; exact ⟨_, by rw [if_pos hf]; rfl, rfl⟩
        · cases e
      · cases e
  obtain ⟨k, e1, rfl⟩ := key
  unfold dIn at e1
  split at e1
  · rename_i a b
    cases e1
    obtain rfl := r1.of_str
    obtain rfl := r2.of_str
    exact hs pins s σ H _ _ v u Q I rx ry ⟨a, b, rfl, rfl, q _ B H (Gw.refl sb) (.bl _)⟩
  · rename_i xs _
    split at e1
    · rename_i hf
      cases e1
      simp only [Bool.and_eq_true] at hf
      cases r2 with
      | tup h2 a2 =>
        rename_i p vs
        refine ho pins s σ H _ _ v u Q I rx ry ⟨p, vs, rfl, .inr (Same.seqT sb h2), flat_V r1 hf.1, flat_Vs a2 hf.2, ?_⟩
        rw [inD_V r1 hf.1 a2 hf.2]
        exact q _ B H (Gw.refl sb) (.bl _)
    · cases e1
  · rename_i xs
    split at e1
    · rename_i hf
      cases e1
      simp only [Bool.and_eq_true] at hf
      exact hd pins s σ H _ _ v u Q I rx ry ⟨d1, xs, Dp.of sb r1, Dp.of sb r2, hf.1, hf.2, q _ B H (Gw.refl sb) (.bl _)⟩
    · cases e1
  · cases e1
theorem vop_in (hu : X.A.units + 65 < cLine) : OpR X (compareOp .In) (vOp X.K dIn) :=
  vop_in_aux (neg := false) op_in_seq (op_inD hu) op_in_str
theorem vop_notin (hu : X.A.units + 65 < cLine) : OpR X (compareOp .NotIn) (vOp X.K dNotIn) :=
  vop_in_aux (neg := true) op_notIn_seq (op_notInD hu) op_notIn_str

/-! ### subscripts -/
def dIx : PyData → PyData → Option PyData
  | .list xs, .int i => atI xs i
  | .tuple xs, .int i => atI xs i
  | .str z, .int i => if z.length ≤ sizeLine then (atI z.cps.toList i).map fun c => .str ⟨#[c]⟩ else none
  | _, _ => none
theorem atI_rp {K : PySem.W.Frag} {B : Hp} {vs : List V} {ds : List PyData} (t : RpA K B vs ds) {i : Int} {d : PyData} (e : atI ds i = some d) : ∃ v, atI vs i = some v ∧ Rp K B v d := by
  unfold atI at e ⊢
  rw [t.len]
  cases h : ixN ds.length i with
  | none => rw [h] at e; cases e
  | some j => rw [h] at e; exact t.get e
theorem vix : IxR X (vOp X.K dIx) := by
  intro value slice pins s σ H x y v u Q I rx ry ⟨B, d1, d2, d, sb, r1, r2, e, q⟩ hsub
  refine ix_seq value slice pins s σ H x y v u Q I rx ry ?_ hsub
  unfold dIx at e
  split at e
  · rename_i xs i
    obtain rfl := r2.of_int
    cases r1 with
    | lst h1 a1 =>
      obtain ⟨w, e1, r⟩ := atI_rp a1 e
      exact .inl ⟨_, _, i, w, rfl, rfl, SqL.of (sb _ _ h1), e1, q _ B H (Gw.refl sb) r⟩
  · rename_i xs i
    obtain rfl := r2.of_int
    cases r1 with
    | tup h1 a1 =>
      obtain ⟨w, e1, r⟩ := atI_rp a1 e
      exact .inr (.inl ⟨_, _, i, w, rfl, rfl, Same.seqT sb h1, e1, q _ B H (Gw.refl sb) r⟩)
  · rename_i z i
    obtain rfl := r1.of_str
    obtain rfl := r2.of_int
    split at e
    · rename_i hz
      cases h : atI z.cps.toList i with
      | none => rw [h] at e; cases e
      | some c =>
        rw [h] at e
        cases e
        exact .inr (.inr ⟨z, i, c, rfl, rfl, hz, h, q _ B H (Gw.refl sb) (.str _)⟩)
    · cases e
  · cases e
/-- a cut of a list -/
def cutD {α : Type} (xs : List α) (lo hi : Option Int) : List α := (xs.drop (HT.sIx xs.length 0 lo)).take (HT.sIx xs.length xs.length hi - HT.sIx xs.length 0 lo)
def dSl (d : PyData) (lo hi : Option Int) : Option PyData := match d with
  | .str z => if z.length ≤ sizeLine then some (.str (cutS z lo hi)) else none
  | .tuple xs => some (.tuple (cutD xs lo hi))
  | .list xs => some (.list (cutD xs lo hi))
  | _ => none
def vSl (K : PySem.W.Frag) (sf : PyData → Option Int → Option Int → Option PyData) : V → Option Int → Option Int → Hp → VK → Prop := fun x lo hi H Q => ∃ B d1 d, Same B H ∧ Rp K B x d1 ∧ sf d1 lo hi = some d ∧
  ∀ v B' H', Gw B H B' H' → Rp K B' v d → Q v H'
theorem cut_rp {K : PySem.W.Frag} {B : Hp} {vs : List V} {ds : List PyData} (t : RpA K B vs ds) (lo hi : Option Int) : RpA K B (cutV vs lo hi) (cutD ds lo hi) := by
  unfold cutV cutD
  rw [t.len]
  exact (t.drop _).take _
theorem cut_whole {α : Type} (xs : List α) (lo hi : Option Int) (h : HT.sIx xs.length 0 lo = 0 ∧ HT.sIx xs.length xs.length hi = xs.length) : cutD xs lo hi = xs := by
  unfold cutD
  rw [h.1, h.2, List.drop_zero, Nat.sub_zero, List.take_length]
theorem vsl : SlR X (vSl X.K dSl) := by
  have h0 := ((@sl_str X).or (@sl_tupA X)).or (@sl_list X)
  intro pins s σ H x v vl vu lo hi sl Q I rx hs pl pu ⟨B, d1, d, sb, r1, e, q⟩
  refine h0 pins s σ H x v vl vu lo hi sl Q I rx hs pl pu ?_
  unfold dSl at e
  split at e
  · rename_i z
    obtain rfl := r1.of_str
    split at e
    · rename_i hz
      cases e
      exact .inl (.inl ⟨z, rfl, hz, q _ B H (Gw.refl sb) (.str _)⟩)
    · cases e
  · rename_i xs
    cases e
    cases r1 with
    | tup h1 a1 =>
      rename_i p vs
      refine .inl (.inr ⟨p, vs, rfl, Same.seqT sb h1, fun hw => ?_, fun _ g ng => ?_⟩)
      · rw [a1.len] at hw
        rw [cut_whole xs lo hi hw] at q
        exact q _ B H (Gw.refl sb) (.tup h1 a1)
      · exact q _ _ _ (Gw.new sb _ ng) (.tup (SqT.of upd_same) ((cut_rp a1 lo hi).mono (Gw.new sb _ ng).b))
  · rename_i xs
    cases e
    cases r1 with
    | lst h1 a1 =>
      rename_i p vs
      refine .inr ⟨p, vs, rfl, SqL.of (sb _ _ h1), fun g ng => ?_⟩
      exact q _ _ _ (Gw.new sb _ ng) (.lst upd_same ((cut_rp a1 lo hi).mono (Gw.new sb _ ng).b))
  · cases e
abbrev FO := En → Int → R (Option Int)
def PostO (p : Par) (σ : St) (ρ : En) (B : Hp) (Q : Option Int → Hp → Prop) : R (Option Int) → Prop
  | .ok b c' => ∀ B' H', Sta p B' H' σ ρ c' → Same B B' → Q b H'
  | .ex x c' => ∀ B' H' cls d, Sta p B' H' σ ρ c' → Same B B' → ExOk p.K p.xt B' H' cls d x → p.W cls d σ H'
  | .no => False
def dO (p : Par) (f : FO) : TO := fun σ H Q => ∃ B ρ c, Sta p B H σ ρ c ∧ PostO p σ ρ B Q (f ρ c)
theorem _root_.L2.PO.imp {X : Cx} {e : Option Expr} {t t' : TO} (h : PO X e t) (hi : ∀ σ H Q, t' σ H Q → t σ H Q) : PO X e t' := ⟨fun pins s σ H Q I q => h.run pins s σ H Q I (hi σ H Q q)⟩
theorem PostO.from {p : Par} {σ : St} {ρ : En} {B B' : Hp} {Q : Option Int → Hp → Prop} {r : R (Option Int)} (h : PostO p σ ρ B Q r) (s : Same B B') : PostO p σ ρ B' Q r := by
  cases r with
  | ok d c => exact fun B2 H2 S z => h B2 H2 S (s.trans z)
  | ex x c => exact fun B2 H2 cls d S z e => h B2 H2 cls d S (s.trans z) e
  | no => exact h
theorem PostO.bE {p : Par} {σ : St} {ρ : En} {B : Hp} {Q : Option Int → Hp → Prop} {Q' : VK} {r : R PyData} {k : PyData → Int → R (Option Int)} (h : PostO p σ ρ B Q (r.bind k))
    (hq : ∀ d c' v B' H', Sta p B' H' σ ρ c' → Rp p.K B' v d → Same B B' → PostO p σ ρ B' Q (k d c') → Q' v H') : PostE p σ ρ B Q' r := by
  cases r with
  | ok d c => exact fun v B2 H2 S z r => hq d c v B2 H2 S r z (PostO.from h z)
  | ex x c => exact h
  | no => exact h
theorem PostE.bO {p : Par} {σ : St} {ρ : En} {B : Hp} {Q : VK} {Q' : Option Int → Hp → Prop} {r : R (Option Int)} {k : Option Int → Int → R PyData} (h : PostE p σ ρ B Q (r.bind k))
    (hq : ∀ b c' B' H', Sta p B' H' σ ρ c' → Same B B' → PostE p σ ρ B' Q (k b c') → Q' b H') : PostO p σ ρ B Q' r := by
  cases r with
  | ok d c => exact fun B2 H2 S z => hq d c B2 H2 S z (PostE.from h z)
  | ex x c => exact h
  | no => exact h
section
variable {p : Par} {pos p2 : Pos} {a b c : Expr} {f g h : FE} {lo hi : Option Expr} {fl fh : FO} {ft fu : FT} {rest : List Expr}
def fPn : FO := fun _ c => .ok none c
def asI : PyData → Option (Option Int)
  | .int i => some (some i)
  | _ => none
def fPs (f : FE) : FO := fun ρ c => (f ρ c).bind fun d c1 => ofO (asI d) c1
theorem do_none : PO X none (dO p fPn) := po_none.imp fun σ H Q ⟨B, ρ, c, S, m⟩ => m B H S (Same.refl _)
theorem do_some (ha : PE X a (dE p f)) : PO X (some a) (dO p (fPs f)) := (po_some ha).imp fun σ H Q ⟨B, ρ, c, S, m⟩ => by
  refine ⟨B, ρ, c, S, PostO.bE m fun d c1 v B1 H1 S1 r1 s1 m1 => ?_⟩
  unfold asI at m1
  split at m1
  · rename_i i
    exact ⟨i, r1.of_int, m1 B1 H1 S1 (Same.refl _)⟩
  · exact m1.elim
def fSl (f : FE) (fl fh : FO) : FE := fun ρ c => (f ρ c).bind fun d c1 => (fl ρ c1).bind fun l c2 => (fh ρ c2).bind fun u c3 => ofO (dSl d l u) c3
theorem de_sl (hk : p.K = X.K) (ha : PE X a (dE p f)) (hl : PO X lo (dO p fl)) (hu : PO X hi (dO p fh)) : PE X (.Subscript a (.Slice lo hi none p2) pos) (dE p (fSl f fl fh)) :=
  (pe_slice vsl ha hl hu).imp fun σ H Q ⟨B, ρ, c, S, m⟩ => by
    refine ⟨B, ρ, c, S, m.bE fun d c1 v B1 H1 S1 r1 s1 m1 => ⟨B1, ρ, c1, S1, PostE.bO m1 fun l c2 B2 H2 S2 s2 m2 => ⟨B2, ρ, c2, S2, PostE.bO m2 fun u c3 B3 H3 S3 s3 m3 => ?_⟩⟩⟩
    obtain ⟨d', e, q⟩ := ofO_ok m3
    exact ⟨B3, d, d', S3.sub, hk ▸ (r1.mono (s2.trans s3)), e, fun v B' H' G r => q v B' H' (S3.grow G) G.b (hk ▸ r)⟩

/-! ### truth, and, or, not, if -/
theorem truth_V {K : PySem.W.Frag} {B H : Hp} (sb : Same B H) {v : V} {d : PyData} (r : Rp K B v d) {k : Bool} (e : truth d = some k) : TruV K v H k := by
  cases r with
  | non => cases e; exact rfl
  | bl b => cases e; exact rfl
  | int i => cases e; exact rfl
  | str x =>
    simp only [truth] at e
    split at e
    · rename_i hz
      cases e
      refine ⟨hz, ?_⟩
      by_cases h0 : x.length = 0
      · rw [h0]; rfl
      · have h1 : ((x.length : Int) != 0) = true := by simpa using h0
        have h2 : (x.length != 0) = true := by simpa using h0
        rw [h1, h2]
    · cases e
  | lst h t =>
    rename_i a vs ds
    cases e
    refine .inl ⟨vs, SqL.of (sb _ _ h), ?_⟩
    cases t <;> rfl
  | tup h t =>
    rename_i a vs ds
    cases e
    refine .inr (.inl ⟨vs, Same.seqT sb h, ?_⟩)
    cases t <;> rfl
theorem dt_tr (hk : p.K = X.K) (ha : PE X a (dE p f)) (he : ∀ whole, isTrue a X.env whole = (do let v ← whole; standAt a.pos; holding [v] (truthy v)) := by intro _; rfl) : PT X a (dT p (tTr f)) :=
  (pt_truth ha he).imp fun σ H Q ⟨B, ρ, c, S, m⟩ => by
    refine ⟨B, ρ, c, S, m.bE fun d c1 v B1 H1 S1 r1 s1 m1 => ?_⟩
    cases e : truth d with
    | none => rw [e] at m1; exact m1.elim
    | some k =>
      rw [e] at m1
      exact ⟨k, hk ▸ truth_V S1.sub r1 e, m1 B1 H1 S1 (Same.refl _)⟩
def tAn (f g : FT) : FT := fun ρ c => (f ρ c).bind fun k c1 => if k = true then g ρ c1 else .ok false c1
def tOr' (f g : FT) : FT := fun ρ c => (f ρ c).bind fun k c1 => if k = true then .ok true c1 else g ρ c1
def tNo (f : FT) : FT := fun ρ c => (f ρ c).bind fun k c1 => .ok (!k) c1
theorem dw_an1 (ha : PT X a (dT p ft)) : PW X (.BoolOp .And [a] pos) (dT p ft) := pw_and1 ha
theorem dw_or1 (ha : PT X a (dT p ft)) : PW X (.BoolOp .Or [a] pos) (dT p ft) := pw_or1 ha
theorem dw_an (ha : PT X a (dT p ft)) (hb : PW X (.BoolOp .And (b :: rest) pos) (dT p fu)) : PW X (.BoolOp .And (a :: b :: rest) pos) (dT p (tAn ft fu)) :=
  (pw_and ha hb).imp fun σ H Q ⟨B, ρ, c, S, m⟩ => by
    refine ⟨B, ρ, c, S, m.bT fun k c1 B1 H1 S1 s1 m1 => ?_⟩
    cases k with
    | true => exact ⟨B1, ρ, c1, S1, m1⟩
    | false => exact m1 B1 H1 S1 (Same.refl _)
theorem dw_or (ha : PT X a (dT p ft)) (hb : PW X (.BoolOp .Or (b :: rest) pos) (dT p fu)) : PW X (.BoolOp .Or (a :: b :: rest) pos) (dT p (tOr' ft fu)) :=
  (pw_or ha hb).imp fun σ H Q ⟨B, ρ, c, S, m⟩ => by
    refine ⟨B, ρ, c, S, m.bT fun k c1 B1 H1 S1 s1 m1 => ?_⟩
    cases k with
    | false => exact ⟨B1, ρ, c1, S1, m1⟩
    | true => exact m1 B1 H1 S1 (Same.refl _)
theorem dt_not (ha : PT X a (dT p ft)) : PT X (.UnaryOp .Not a pos) (dT p (tNo ft)) :=
  (pt_not ha).imp fun σ H Q ⟨B, ρ, c, S, m⟩ => ⟨B, ρ, c, S, m.bT fun k c1 B1 H1 S1 s1 m1 => m1 B1 H1 S1 (Same.refl _)⟩
/-- as values -/
def fAn (f g : FE) : FE := fun ρ c => (f ρ c).bind fun d c1 => (ofO (truth d) c1).bind fun k c2 => if k = true then g ρ c2 else .ok d c2
def fOr (f g : FE) : FE := fun ρ c => (f ρ c).bind fun d c1 => (ofO (truth d) c1).bind fun k c2 => if k = true then .ok d c2 else g ρ c2
def fNo (f : FE) : FE := fun ρ c => (f ρ c).bind fun d c1 => (ofO (truth d) c1).bind fun k c2 => .ok (.bool (!k)) c2
theorem de_one {op : BoolOp} (ha : PE X a (dE p f)) : PE X (.BoolOp op [a] pos) (dE p f) := pe_one ha
theorem de_an (hk : p.K = X.K) (ha : PE X a (dE p f)) (hb : PE X (.BoolOp .And (b :: rest) pos) (dE p g)) : PE X (.BoolOp .And (a :: b :: rest) pos) (dE p (fAn f g)) :=
  (pe_andT ha hb).imp fun σ H Q ⟨B, ρ, c, S, m⟩ => by
    refine ⟨B, ρ, c, S, m.bE fun d c1 v B1 H1 S1 r1 s1 m1 => ?_⟩
    cases e : truth d with
    | none => rw [e] at m1; exact m1.elim
    | some k =>
      rw [e] at m1
      refine ⟨k, hk ▸ truth_V S1.sub r1 e, ?_⟩
      cases k with
      | true => exact ⟨B1, ρ, c1, S1, m1⟩
      | false => exact m1 v B1 H1 S1 (Same.refl _) r1
theorem de_or (hk : p.K = X.K) (ha : PE X a (dE p f)) (hb : PE X (.BoolOp .Or (b :: rest) pos) (dE p g)) : PE X (.BoolOp .Or (a :: b :: rest) pos) (dE p (fOr f g)) :=
  (pe_orT ha hb).imp fun σ H Q ⟨B, ρ, c, S, m⟩ => by
    refine ⟨B, ρ, c, S, m.bE fun d c1 v B1 H1 S1 r1 s1 m1 => ?_⟩
    cases e : truth d with
    | none => rw [e] at m1; exact m1.elim
    | some k =>
      rw [e] at m1
      refine ⟨k, hk ▸ truth_V S1.sub r1 e, ?_⟩
      cases k with
      | false => exact ⟨B1, ρ, c1, S1, m1⟩
      | true => exact m1 v B1 H1 S1 (Same.refl _) r1
theorem de_not (hk : p.K = X.K) (ha : PE X a (dE p f)) : PE X (.UnaryOp .Not a pos) (dE p (fNo f)) :=
  (pe_notT ha).imp fun σ H Q ⟨B, ρ, c, S, m⟩ => by
    refine ⟨B, ρ, c, S, m.bE fun d c1 v B1 H1 S1 r1 s1 m1 => ?_⟩
    cases e : truth d with
    | none => rw [e] at m1; exact m1.elim
    | some k =>
      rw [e] at m1
      exact ⟨k, hk ▸ truth_V S1.sub r1 e, m1 _ B1 H1 S1 (Same.refl _) (.bl _)⟩
def fIf (t : FT) (f g : FE) : FE := fun ρ c => (t ρ c).bind fun k c1 => if k = true then f ρ c1 else g ρ c1
theorem de_if (hc : PT X c (dT p ft)) (ha : PE X a (dE p f)) (hb : PE X b (dE p g)) : PE X (.IfExp c a b pos) (dE p (fIf ft f g)) :=
  (pe_ifExp hc ha hb).imp fun σ H Q ⟨B, ρ, c, S, m⟩ => by
    refine ⟨B, ρ, c, S, m.bT fun k c1 B1 H1 S1 s1 m1 => ?_⟩
    cases k with
    | true => exact ⟨B1, ρ, c1, S1, m1⟩
    | false => exact ⟨B1, ρ, c1, S1, m1⟩
/-- a < b < c -/
def fCh (bf bf' : PyData → PyData → Option PyData) (f g h : FE) : FE := fun ρ c => (f ρ c).bind fun x c1 => (g ρ c1).bind fun y c2 => (ofO ((bf x y).bind asB) c2).bind fun k c3 => if k = true then (h ρ c3).bind fun z c4 => ofO (bf' y z) c4 else .ok (.bool false) c3
theorem chain_ok {bf bf' : PyData → PyData → Option PyData} {σ : St} {H : Hp} {Q : VK} (m0 : dE p (fCh bf bf' f g h) σ H Q) : tChain (vOp p.K bf) (vOp p.K bf') (dE p f) (dE p g) (dE p h) σ H Q := by
  obtain ⟨B, ρ, c, S, m⟩ := m0
  refine ⟨B, ρ, c, S, m.bE fun x c1 v B1 H1 S1 r1 s1 m1 => ⟨B1, ρ, c1, S1, m1.bE fun y c2 u B2 H2 S2 r2 s2 m2 => ?_⟩⟩
  cases e : bf x y with
  | none => rw [e] at m2; exact m2.elim
  | some w =>
    cases e2 : asB w with
    | none => rw [e, Option.bind_some, e2] at m2; exact m2.elim
    | some k =>
      rw [e, Option.bind_some, e2] at m2
      have ew := asB_some e2
      subst ew
      refine ⟨B2, x, y, .bool k, S2.sub, r1.mono s2, r2, e, fun v' B' H' G r => ⟨k, r.of_bl, ?_⟩⟩
      have S3 := S2.grow G
      cases k with
      | false => exact m2 _ B' H' S3 G.b (.bl _)
      | true =>
        refine ⟨B', ρ, c2, S3, (PostE.from m2 G.b).bE fun z c3 w' B4 H4 S4 r4 s4 m4 => ?_⟩
        obtain ⟨d', e', q⟩ := ofO_ok m4
        exact ⟨B4, y, z, d', S4.sub, r2.mono (G.b.trans s4), r4, e', fun v' B' H' G r => q v' B' H' (S4.grow G) G.b r⟩
theorem de_ch {op op' : CmpOp} {bf bf' : PyData → PyData → Option PyData} (ho : OpR X (compareOp op) (vOp p.K bf)) (ho' : OpR X (compareOp op') (vOp p.K bf')) (ha : PE X a (dE p f)) (hb : PE X b (dE p g)) (hc : PE X c (dE p h))
    (hm : lastMarks [op, op'] [b, c] = false := by with_unfolding_all rfl) : PE X (.Compare a [op, op'] [b, c] pos) (dE p (fCh bf bf' f g h)) :=
  (pe_chain ho ho' ha hb hc hm).imp fun _ _ _ h => chain_ok h
theorem dt_ch {op op' : CmpOp} {bf bf' : PyData → PyData → Option PyData} (ho : OpR X (compareOp op) (vOp p.K bf)) (ho' : OpR X (compareOp op') (vOp p.K bf')) (ha : PE X a (dE p f)) (hb : PE X b (dE p g)) (hc : PE X c (dE p h))
    (hm : lastMarks [op, op'] [b, c] = false := by with_unfolding_all rfl) : PT X (.Compare a [op, op'] [b, c] pos) (dT p (tB1 (fCh bf bf' f g h))) :=
  (pt_chain ho ho' ha hb hc hm).imp fun σ H Q h => by
    obtain ⟨B, ρ, c, S, m⟩ := tB_ok h
    exact chain_ok ⟨B, ρ, c, S, m⟩
end
end
end DL
end L2

set_option Elab.async false
set_option linter.all false
set_option maxRecDepth 100000
namespace L2
open PySem PySem.Spec PyProof.Rows
namespace DL
/-! ### argument lists -/
section
variable {X : Cx} {p : Par} {pos : Pos} {a b : Expr} {es : List Expr} {f g : FE} {fa : FA}
def aNil : FA := fun _ c => .ok [] c
def aCons (f : FE) (fa : FA) : FA := fun ρ c => (f ρ c).bind fun d c1 => (fa ρ c1).bind fun ss c2 => .ok (.dt d :: ss) c2
def fCe (i : Nat) : FA := fun ρ c => match ρ[i]? with
  | some .ce => .ok [.ce] c
  | _ => .no
def aCel (i : Nat) (fa : FA) : FA := fun ρ c => (fCe i ρ c).bind fun _ c1 => (fa ρ c1).bind fun ss c2 => .ok (.ce :: ss) c2
theorem da_nil : PA X [] (dA p aNil) := pa_nil.imp fun σ H Q ⟨B, ρ, c, S, m⟩ => m [] B H S (Same.refl _) .nil
theorem da_cons (ha : PE X a (dE p f)) (hr : PA X es (dA p fa)) (hs : starEach (a :: es) X.env = (false, eval a X.env) :: starEach es X.env := by rfl) : PA X (a :: es) (dA p (aCons f fa)) :=
  (pa_cons ha hr hs).imp fun σ H Q ⟨B, ρ, c, S, m⟩ => by
    refine ⟨B, ρ, c, S, m.bE fun d c1 v B1 H1 S1 r1 s1 m1 => ⟨B1, ρ, c1, S1, m1.bA fun ss c2 vs B2 H2 S2 a2 s2 m2 => ?_⟩⟩
    exact m2 (v :: vs) B2 H2 S2 (Same.refl _) (.cons (r1.mono s2) a2)
/-- the cell handed on -/
theorem da_cel (i : Nat) (ha : PE X a (tVar i)) (hr : PA X es (dA p fa)) (hs : starEach (a :: es) X.env = (false, eval a X.env) :: starEach es X.env := by rfl) : PA X (a :: es) (dA p (aCel i fa)) :=
  (pa_cons ha hr hs).imp fun σ H Q ⟨B, ρ, c, S, m⟩ => by
    unfold aCel fCe at m
    split at m
    · rename_i e
      obtain ⟨o, e1, a', e2, e3⟩ := S.slot i _ e
      subst e3
      refine ⟨_, e1, B, ρ, c, S, PostA.bA m fun ss c2 vs B2 H2 S2 a2 s2 m2 => ?_⟩
      exact m2 (_ :: vs) B2 H2 S2 (Same.refl _) (.cons ⟨a', e2, rfl⟩ a2)
    · exact m.elim

/-! ### displays -/
/-- the data of an argument list -/
def dts : List Sl → Option (List PyData)
  | [] => some []
  | .dt d :: ss => (dts ss).map (d :: ·)
  | _ :: _ => none
theorem dts_rp {K : PySem.W.Frag} {C : Option Addr} {B : Hp} {vs : List V} {ss : List Sl} {ds : List PyData} (h : ArA K C B vs ss) (e : dts ss = some ds) : RpA K B vs ds := by
  induction h generalizing ds with
  | nil => cases e; exact .nil
  | @cons v vs s ss h t ih =>
    cases s with
    | dt d =>
      unfold dts at e
      cases q : dts ss with
      | none => rw [q] at e; cases e
      | some es => rw [q] at e; cases e; exact .cons h (ih q)
    | un => cases e
    | ow _ => cases e
    | ce => cases e
    | xn _ => cases e
    | sc _ => cases e
def lineOk (n : Nat) : Bool := decide (n ≤ 16777216)
theorem lineOk_le {n : Nat} (h : lineOk n = true) : n ≤ sizeLine := by rw [sizeLine_eq]; exact of_decide_eq_true h
def mkTup (ss : List Sl) : Option PyData := match dts ss with
  | some ds => if lineOk ds.length then some (.tuple ds) else none
  | none => none
def mkLst (ss : List Sl) : Option PyData := match dts ss with
  | some ds => if lineOk ds.length then some (.list ds) else none
  | none => none
def fDis (mk : List Sl → Option PyData) (fa : FA) : FE := fun ρ c => (fa ρ c).bind fun ss c1 => ofO (mk ss) c1
theorem de_tup {k : Nat} (ha : PA X es (dA p fa)) : PE X (.Tuple es k pos) (dE p (fDis mkTup fa)) :=
  (pe_tup ha).imp fun σ H Q ⟨B, ρ, c, S, m⟩ => by
    refine ⟨B, ρ, c, S, m.bA fun ss c1 vs B1 H1 S1 a1 s1 m1 => ?_⟩
    obtain ⟨d, e, q⟩ := ofO_ok m1
    unfold mkTup at e
    split at e
    · rename_i ds e2
      split at e
      · rename_i hz
        cases e
        have r := dts_rp a1 e2
        refine ⟨by rw [r.len]; exact lineOk_le hz, fun g ng => ?_⟩
        have G := Gw.new S1.sub (.tup vs) ng
        exact q _ _ _ (S1.grow G) G.b (.tup (SqT.of upd_same) (r.mono G.b))
      · cases e
    · cases e
theorem de_lst (ha : PA X es (dA p fa)) : PE X (.List es pos) (dE p (fDis mkLst fa)) :=
  (pe_lst ha).imp fun σ H Q ⟨B, ρ, c, S, m⟩ => by
    refine ⟨B, ρ, c, S, m.bA fun ss c1 vs B1 H1 S1 a1 s1 m1 => ?_⟩
    obtain ⟨d, e, q⟩ := ofO_ok m1
    unfold mkLst at e
    split at e
    · rename_i ds e2
      split at e
      · rename_i hz
        cases e
        have r := dts_rp a1 e2
        refine ⟨by rw [r.len]; exact lineOk_le hz, fun g ng => ?_⟩
        have G := Gw.new S1.sub (.lst vs) ng
        exact q _ _ _ (S1.grow G) G.b (.lst upd_same (r.mono G.b))
      · cases e
    · cases e

/-! ### built-ins -/
def fBi (cf : List PyData → Option PyData) (fa : FA) : FE := fun ρ c => (fa ρ c).bind fun ss c1 => ofO ((dts ss).bind cf) c1
theorem bi_ok {cf : List PyData → Option PyData} {σ : St} {H : Hp} {Q : VK} (m0 : dE p (fBi cf fa) σ H Q) : tCB (vCl p.K cf) (dA p fa) σ H Q := by
  obtain ⟨B, ρ, c, S, m⟩ := m0
  refine ⟨B, ρ, c, S, m.bA fun ss c1 vs B1 H1 S1 a1 s1 m1 => ?_⟩
  obtain ⟨d, e, q⟩ := ofO_ok m1
  cases e2 : dts ss with
  | none => rw [e2] at e; cases e
  | some ds =>
    rw [e2] at e
    exact ⟨B1, ds, d, S1.sub, dts_rp a1 e2, e, fun v B' H' G r => q v B' H' (S1.grow G) G.b r⟩
variable {x : Str} {pp : Pos} {id T : String} {cf : List PyData → Option PyData}
theorem de_bi (hc : CallR X (.builtin id) (vCl p.K cf)) (hg : Gl X x) (hm : X.mg x = none) (hv : bootBuiltins x = some (.builtin id)) (ha : PA X (a :: es) (dA p fa)) (hn : x ≠ "__name__" := by decide) (hdb : (x == ("__debug__" : Str)) = false := by decide)
    (he : starEach (a :: es) X.env = (false, eval a X.env) :: starEach es X.env := by rfl) (hpl : (backTo pos (starEach es X.env)).any (·.1) = false := by rfl) : PE X (.Call (.Name x pp) (a :: es) [] pos) (dE p (fBi cf fa)) :=
  (pe_callB hc hg hm hv ha hn hdb he hpl).imp fun _ _ _ h => bi_ok h
theorem de_ty (hc : CallR X (.type T) (vCl p.K cf)) (hg : Gl X x) (hm : X.mg x = none) (hv : bootBuiltins x = some (.type T)) (ha : PA X (a :: es) (dA p fa)) (hn : x ≠ "__name__" := by decide) (hdb : (x == ("__debug__" : Str)) = false := by decide)
    (he : starEach (a :: es) X.env = (false, eval a X.env) :: starEach es X.env := by rfl) (hpl : (backTo pos (starEach es X.env)).any (·.1) = false := by rfl) : PE X (.Call (.Name x pp) (a :: es) [] pos) (dE p (fBi cf fa)) :=
  (pe_callTy hc hg hm hv ha hn hdb he hpl).imp fun _ _ _ h => bi_ok h
/-- len -/
def cLen : List PyData → Option PyData
  | [.str z] => if z.length ≤ sizeLine then some (.int z.length) else none
  | [.list xs] => some (.int xs.length)
  | [.tuple xs] => some (.int xs.length)
  | _ => none
theorem vcl_len : CallR X (.builtin "len") (vCl X.K cLen) := by
  intro pins s σ H vs us Q I r ⟨B, ds, d, sb, rs, e, q⟩
  refine call_len pins s σ H vs us Q I r ?_
  unfold cLen at e
  split at e
  · rename_i z
    split at e
    · rename_i hz
      cases e
      cases rs with
      | cons h t =>
        cases t
        cases h
        exact ⟨_, z.length, rfl, ⟨hz, rfl⟩, q _ B H (Gw.refl sb) (.int _)⟩
    · cases e
  · cases e
    cases rs with
    | cons h t =>
      cases t
      cases h with
      | lst h1 a1 =>
        refine ⟨_, _, rfl, .inl ⟨_, SqL.of (sb _ _ h1), rfl⟩, ?_⟩
        rw [a1.len]
        exact q _ B H (Gw.refl sb) (.int _)
  · cases e
    cases rs with
    | cons h t =>
      cases t
      cases h with
      | tup h1 a1 =>
        refine ⟨_, _, rfl, .inr ⟨_, Same.seqT sb h1, rfl⟩, ?_⟩
        rw [a1.len]
        exact q _ B H (Gw.refl sb) (.int _)
  · cases e
def cAbs : List PyData → Option PyData
  | [.int i] => some (.int (if i < 0 then -i else i))
  | _ => none
theorem vcl_abs : CallR X (.builtin "abs") (vCl X.K cAbs) := by
  intro pins s σ H vs us Q I r ⟨B, ds, d, sb, rs, e, q⟩
  unfold cAbs at e
  split at e
  · rename_i i
    cases e
    cases rs with
    | cons h t =>
      cases t
      cases h
      exact call_abs pins s σ H _ us Q I r ⟨i, rfl, q _ B H (Gw.refl sb) (.int _)⟩
  · cases e
def cInt : List PyData → Option PyData
  | [.int i] => some (.int i)
  | [.bool k] => some (.int (if k then 1 else 0))
  | [.str z] => if z.length ≤ 640 then (PySem.intText? z).map .int else none
  | _ => none
theorem vcl_int : CallR X (.type "int") (vCl X.K cInt) := by
  intro pins s σ H vs us Q I r ⟨B, ds, d, sb, rs, e, q⟩
  unfold cInt at e
  split at e
  · rename_i i
    cases e
    cases rs with
    | cons h t =>
      cases t
      cases h
      exact call_int1 pins s σ H _ us Q I r (.inl ⟨i, rfl, q _ B H (Gw.refl sb) (.int _)⟩)
  · rename_i i
    cases e
    cases rs with
    | cons h t =>
      cases t
      cases h
      exact call_int1 pins s σ H _ us Q I r (.inr ⟨i, rfl, q _ B H (Gw.refl sb) (.int _)⟩)
  · rename_i z
    split at e
    · rename_i hz
      cases e2 : PySem.intText? z with
      | none => rw [e2] at e; cases e
      | some n =>
        rw [e2] at e
        cases e
        cases rs with
        | cons h t =>
          cases t
          cases h
          exact call_int_str pins s σ H _ us Q I r ⟨z, n, rfl, e2, hz, q _ B H (Gw.refl sb) (.int _)⟩
    · cases e
  · cases e
def cStr : List PyData → Option PyData
  | [.int i] => if i.natAbs.log2 < 1920 then some (.str (toString i)) else none
  | _ => none
theorem vcl_str : CallR X (.type "str") (vCl X.K cStr) := by
  intro pins s σ H vs us Q I r ⟨B, ds, d, sb, rs, e, q⟩
  unfold cStr at e
  split at e
  · rename_i i
    split at e
    · rename_i hz
      cases e
      cases rs with
      | cons h t =>
        cases t
        cases h
        exact call_str_int pins s σ H _ us Q I r ⟨i, rfl, hz, q _ B H (Gw.refl sb) (.str _)⟩
    · cases e
  · cases e
def cTuple : List PyData → Option PyData
  | [.list xs] => some (.tuple xs)
  | [.tuple xs] => some (.tuple xs)
  | _ => none
theorem vcl_tuple : CallR X (.type "tuple") (vCl X.K cTuple) := by
  intro pins s σ H vs us Q I r ⟨B, ds, d, sb, rs, e, q⟩
  unfold cTuple at e
  split at e
  · cases e
    cases rs with
    | cons h t =>
      cases t
      cases h with
      | lst h1 a1 =>
        refine call_tuple_of pins s σ H _ us Q I r ⟨_, _, rfl, .inl ⟨SqL.of (sb _ _ h1), fun g ng => ?_⟩⟩
        exact q _ _ _ (Gw.new sb _ ng) (.tup (SqT.of upd_same) (a1.mono (Gw.new sb _ ng).b))
  · cases e
    cases rs with
    | cons h t =>
      cases t
      cases h with
      | tup h1 a1 => exact call_tuple_of pins s σ H _ us Q I r ⟨_, _, rfl, .inr ⟨Same.seqT sb h1, q _ B H (Gw.refl sb) (.tup h1 a1)⟩⟩
  · cases e
def cList : List PyData → Option PyData
  | [.list xs] => some (.list xs)
  | [.tuple xs] => some (.list xs)
  | _ => none
theorem vcl_list : CallR X (.type "list") (vCl X.K cList) := by
  intro pins s σ H vs us Q I r ⟨B, ds, d, sb, rs, e, q⟩
  unfold cList at e
  split at e
  · cases e
    cases rs with
    | cons h t =>
      cases t
      cases h with
      | lst h1 a1 =>
        refine call_list_of pins s σ H _ us Q I r ⟨_, _, rfl, .inl (SqL.of (sb _ _ h1)), fun g ng => ?_⟩
        exact q _ _ _ (Gw.new sb _ ng) (.lst upd_same (a1.mono (Gw.new sb _ ng).b))
  · cases e
    cases rs with
    | cons h t =>
      cases t
      cases h with
      | tup h1 a1 =>
        refine call_list_of pins s σ H _ us Q I r ⟨_, _, rfl, .inr (Same.seqT sb h1), fun g ng => ?_⟩
        exact q _ _ _ (Gw.new sb _ ng) (.lst upd_same (a1.mono (Gw.new sb _ ng).b))
  · cases e
def cMax : List PyData → Option PyData
  | [.int i, .int j] => some (.int (if j > i then j else i))
  | _ => none
def cMin : List PyData → Option PyData
  | [.int i, .int j] => some (.int (if j < i then j else i))
  | _ => none
theorem vcl_max (hc : X.calm = true) : CallR X (.builtin "max") (vCl X.K cMax) := by
  intro pins s σ H vs us Q I r ⟨B, ds, d, sb, rs, e, q⟩
  unfold cMax at e
  split at e
  · rename_i i j
    cases e
    cases rs with
    | cons h t =>
      cases t with
      | cons h2 t2 =>
        cases t2
        cases h
        cases h2
        exact call_max2 hc pins s σ H _ us Q I r ⟨i, j, rfl, q _ B H (Gw.refl sb) (.int _)⟩
  · cases e
theorem vcl_min (hc : X.calm = true) : CallR X (.builtin "min") (vCl X.K cMin) := by
  intro pins s σ H vs us Q I r ⟨B, ds, d, sb, rs, e, q⟩
  unfold cMin at e
  split at e
  · rename_i i j
    cases e
    cases rs with
    | cons h t =>
      cases t with
      | cons h2 t2 =>
        cases t2
        cases h
        cases h2
        exact call_min2 hc pins s σ H _ us Q I r ⟨i, j, rfl, q _ B H (Gw.refl sb) (.int _)⟩
  · cases e
/-- all, any of a list of bools -/
def bools : List PyData → Option (List Bool)
  | [] => some []
  | .bool b :: r => (bools r).map (b :: ·)
  | _ :: _ => none
theorem bools_rp {K : PySem.W.Frag} {B : Hp} {vs : List V} {ds : List PyData} {bs : List Bool} (h : RpA K B vs ds) (e : bools ds = some bs) : vs = bs.map V.bl := by
  induction ds generalizing vs bs with
  | nil => cases h; cases e; rfl
  | cons d ds ih =>
    cases h with
    | cons h t =>
      cases h with
      | bl b =>
        unfold bools at e
        cases q : bools ds with
        | none => rw [q] at e; cases e
        | some cs => rw [q] at e; cases e; rw [ih t q]; rfl
      | _ => cases e
def cAll : List PyData → Option PyData
  | [.list xs] => (bools xs).map fun bs => .bool (bs.all fun x => x)
  | _ => none
def cAny : List PyData → Option PyData
  | [.list xs] => (bools xs).map fun bs => .bool (bs.any fun x => x)
  | _ => none
theorem vcl_all (hc : X.calm = true) : CallR X (.builtin "all") (vCl X.K cAll) := by
  intro pins s σ H vs us Q I r ⟨B, ds, d, sb, rs, e, q⟩
  unfold cAll at e
  split at e
  · rename_i xs
    cases e2 : bools xs with
    | none => rw [e2] at e; cases e
    | some bs =>
      rw [e2] at e
      cases e
      cases rs with
      | cons h t =>
        cases t
        cases h with
        | lst h1 a1 =>
          have ev := bools_rp a1 e2
          subst ev
          exact cr_all hc pins s σ H _ us Q I r ⟨_, bs, rfl, SqL.of (sb _ _ h1), q _ B H (Gw.refl sb) (.bl _)⟩
  · cases e
theorem vcl_any (hc : X.calm = true) : CallR X (.builtin "any") (vCl X.K cAny) := by
  intro pins s σ H vs us Q I r ⟨B, ds, d, sb, rs, e, q⟩
  unfold cAny at e
  split at e
  · rename_i xs
    cases e2 : bools xs with
    | none => rw [e2] at e; cases e
    | some bs =>
      rw [e2] at e
      cases e
      cases rs with
      | cons h t =>
        cases t
        cases h with
        | lst h1 a1 =>
          have ev := bools_rp a1 e2
          subst ev
          exact cr_any hc pins s σ H _ us Q I r ⟨_, bs, rfl, SqL.of (sb _ _ h1), q _ B H (Gw.refl sb) (.bl _)⟩
  · cases e
/-- repr -/
def showOk (d : PyData) : Bool := d.showable && !d.hasDict && decide (d.depth ≤ 64) && lineOk d.shown.length
def cRepr : List PyData → Option PyData
  | [d] => if showOk d then some (.str d.shown) else none
  | _ => none
theorem vcl_repr (hg : X.A.guards = some []) (hu : X.A.units + 66 < cLine) : CallR X (.builtin "repr") (vCl X.K cRepr) := by
  intro pins s σ H vs us Q I r ⟨B, ds, d, sb, rs, e, q⟩
  unfold cRepr at e
  split at e
  · rename_i d0
    split at e
    · rename_i hf
      cases e
      simp only [showOk, Bool.and_eq_true, Bool.not_eq_true', decide_eq_true_eq] at hf
      obtain ⟨⟨⟨hs, hd⟩, hp⟩, hl⟩ := hf
      have hl' := lineOk_le hl
      cases rs with
      | cons h t =>
        cases t
        obtain ⟨u, rfl, ru⟩ := vals1 r
        obtain ⟨as, rd⟩ := Dp.reads I d0 _ u (Dp.of sb h) ru
        cases h with
        | non =>
          cases ru
          exact PySem.P.repr_of_none ⟨.str _, H, I.tok _, ⟨_, rfl⟩, q _ B H (Gw.refl sb) (.str _)⟩
        | bl b =>
          cases ru
          exact PySem.P.repr_of_bool ⟨.str _, H, I.tok _, ⟨_, rfl⟩, q _ B H (Gw.refl sb) (.str _)⟩
        | int i =>
          obtain ⟨t, rfl⟩ := ru
          have hi : i.natAbs.log2 < 1920 := by simpa [PyData.showable] using hs
          exact PySem.P.repr_of_int hi ⟨.str _, H, I.tok _, ⟨_, rfl⟩, q _ B H (Gw.refl sb) (.str _)⟩
        | str x =>
          obtain ⟨t, rfl⟩ := ru
          exact PySem.P.repr_of_str ⟨.str _, H, I.tok _, ⟨_, rfl⟩, q _ B H (Gw.refl sb) (.str _)⟩ hl'
        | lst h1 a1 =>
          cases ru
          exact repr_of_reads' rd hs (PyData.noDict_hsm hd) hg (by omega) (fun _ _ e => e) (fun h' u tk hk => ⟨.str _, H, I.kept hk, ⟨_, rfl⟩, q _ B H (Gw.refl sb) (.str _)⟩) hl'
        | tup h1 a1 =>
          cases ru
          exact repr_of_reads' rd hs (PyData.noDict_hsm hd) hg (by omega) (fun _ _ e => e) (fun h' u tk hk => ⟨.str _, H, I.kept hk, ⟨_, rfl⟩, q _ B H (Gw.refl sb) (.str _)⟩) hl'
    · cases e
  · cases e
/-- isinstance with a built-in type -/
def tyD : PyData → String
  | .none => "NoneType"
  | .bool _ => "bool"
  | .int _ => "int"
  | .str _ => "str"
  | .list _ => "list"
  | .tuple _ => "tuple"
  | .dict _ => "dict"
def isS (a T : String) : Bool := a == T || (T == "int" && a == "bool")
def isT (T : String) (d : PyData) : Bool := isS (tyD d) T
def tyNs : List String := ["NoneType", "bool", "int", "str", "list", "tuple", "dict"]
theorem tyD_in (d : PyData) : tyD d ∈ tyNs := by cases d <;> simp [tyD, tyNs]
theorem isi_tab : ∀ a ∈ tyNs, ∀ T ∈ ["int", "bool", "str", "tuple", "list"], kitB a T = some (isS a T) := by decide +kernel
def dIsi (T : String) (d : PyData) : Option PyData := some (.bool (isT T d))
theorem ty_rp {K : PySem.W.Frag} {B H : Hp} (sb : Same B H) {v : V} {d : PyData} (r : Rp K B v d) : TyX K H v (.type (tyD d)) := by
  cases r with
  | non => exact .base .non
  | bl b => exact .base (.bl b)
  | int i => exact .base (.int i)
  | str x => exact .base (.str x)
  | lst h t => exact .base (.lst (sb _ _ h))
  | tup h t =>
    rcases Same.seqT sb h with (h | ⟨o, h⟩) | ⟨o, its, n, h, hc, _⟩
    · exact .base (.tup h)
    · exact .fTuple h
    · exact .kTuple h hc
theorem isi_table (K : PySem.W.Frag) (T : String) (hT : T ∈ ["int", "bool", "str", "tuple", "list"]) (d : PyData) : PySem.W.kitOne K (.type (tyD d)) (.type T) = some (isT T d) := kit_ty (isi_tab _ (tyD_in d) T hT)
theorem de_isi {p2 : Pos} {x : Str} {T : String} (hT : T ∈ ["int", "bool", "str", "tuple", "list"]) (hk : p.K = X.K) (hg : Gl X "isinstance") (hm : X.mg "isinstance" = none) (hg2 : Gl X x) (hm2 : X.mg x = none) (hv2 : bootBuiltins x = some (.type T))
    (ha : PE X a (dE p f)) (hn2 : x ≠ "__name__" := by decide) (hd2 : (x == ("__debug__" : Str)) = false := by decide)
    (he : starEach (a :: [.Name x p2]) X.env = (false, eval a X.env) :: starEach [.Name x p2] X.env := by rfl) (he2 : starEach ((.Name x p2) :: []) X.env = (false, eval (.Name x p2) X.env) :: starEach [] X.env := by rfl)
    (hpl : (backTo pos (starEach [.Name x p2] X.env)).any (·.1) = false := by rfl) : PE X (.Call (.Name "isinstance" pp) [a, .Name x p2] [] pos) (dE p (f1 (dIsi T) f)) :=
  (pe_callB call_isi hg hm (by decide +kernel) (pa_cons ha (pa_cons (pe_bltn (v := .ty T) hg2 hm2 hv2 rfl hn2 hd2) pa_nil he2) he) (by decide) (by decide) he hpl).imp fun σ H Q ⟨B, ρ, c, S, m⟩ => by
    refine ⟨B, ρ, c, S, m.bE fun d c1 v B1 H1 S1 r1 s1 m1 => ?_⟩
    obtain ⟨d', e', q⟩ := ofO_ok m1
    cases e'
    exact ⟨v, .ty T, .type (tyD d), .type T, isT T d, rfl, .ty T, hk ▸ ty_rp S1.sub r1, isi_table _ T hT d, q _ B1 H1 S1 (Same.refl _) (.bl _)⟩
end
end DL
end L2

set_option Elab.async false
set_option linter.all false
set_option maxRecDepth 100000
namespace L2
open PySem PySem.Spec PyProof.Rows
namespace DL
/-! ### a def's contract -/
structure FnG (P : Program) (w : World) (K : PySem.W.Frag) (mg : Str → Option Value) (base : Heap) (k : Nat) (f : Addr) (fd : FuncData) (ps : List Str) (sp : Sp) : Prop where
  len : ∀ vs H Q E, sp vs H Q E → vs.length = ps.length
  run : ∀ (A : Around) (outer : List Env) (s : Shared) (H : Hp) (args : Args) (us : List Value) (vs : List V) (Q : VK) (E : XK), Room k A → A.guards = some [] →
    Env0 P w K mg base A outer s H → BindsTo s fd args (ps.zip us) → Vals vs us → sp vs H Q E → codeAny (model P w) A (.call (.ref f) args) (CR (L2.CX P w) outer P w H s Q E) s
theorem FnG.up {P : Program} {w : World} {K : PySem.W.Frag} {mg : Str → Option Value} {base : Heap} {j k : Nat} {f : Addr} {fd : FuncData} {ps : List Str} {sp : Sp} (F : FnG P w K mg base j f fd ps sp) (h : j ≤ k) : FnG P w K mg base k f fd ps sp :=
  ⟨F.len, fun A outer s H args us vs Q E hr hg => F.run A outer s H args us vs Q E (hr.mono h) hg⟩
theorem FnG.weak {P : Program} {w : World} {K : PySem.W.Frag} {mg : Str → Option Value} {base : Heap} {k : Nat} {f : Addr} {fd : FuncData} {ps : List Str} {sp sp' : Sp} (F : FnG P w K mg base k f fd ps sp)
    (h : ∀ vs H Q E, sp' vs H Q E → sp vs H Q E) : FnG P w K mg base k f fd ps sp' :=
  ⟨fun vs H Q E q => F.len vs H Q E (h _ _ _ _ q), fun A outer s H args us vs Q E hr hg he hb hv hs => F.run A outer s H args us vs Q E hr hg he hb hv (h _ _ _ _ hs)⟩
theorem FnG.of {P : Program} {w : World} {K : PySem.W.Frag} {mg : Str → Option Value} {base : Heap} {k : Nat} {f : Addr} {fd : FuncData} {ps : List Str} {sp : Sp} (F : FnOk P w K mg base (L2.CX P w) k f fd ps sp) : FnG P w K mg base k f fd ps sp :=
  ⟨F.len, fun A outer s H args us vs Q E hr _ => F.run A outer s H args us vs Q E hr⟩
abbrev MF := List Sl → Int → R PyData
def CelOk (C : Option Addr) (H : Hp) (c : Int) : Prop := ∀ a, C = some a → H a = some (.lst [.int c])
def PostF (K : PySem.W.Frag) (C : Option Addr) (xt : List XC) (B H : Hp) (Q : VK) (E : XK) : R PyData → Prop
  | .ok d c' => ∀ v B' H', Gr C B H B' H' → CelOk C H' c' → Rp K B' v d → Q v H'
  | .ex x c' => ∀ B' H' cls d, Gr C B H B' H' → CelOk C H' c' → ExOk K xt B' H' cls d x → E cls d H'
  | .no => False
def spD (K : PySem.W.Frag) (C : Option Addr) (xt : List XC) (n : Nat) (m : MF) : Sp := fun vs H Q E => vs.length = n ∧ ∃ B ss c, Same B H ∧ CelOk C H c ∧ (∀ a, C = some a → B a = none) ∧ ArA K C B vs ss ∧ PostF K C xt B H Q E (m ss c)
/-- what stands about a name's def -/
structure Kn (P : Program) (w : World) (K : PySem.W.Frag) (mg : Str → Option Value) (base : Heap) (C : Option Addr) (xt : List XC) (x : Str) (k n : Nat) (m : MF) : Prop where
  ex : ∃ f fd ps, ps.length = n ∧ mg x = some (.ref f) ∧ PySem.W.keepIn K (.ref f) = true ∧ Binds K fd ps [] ∧ FnG P w K mg base k f fd ps (spD K C xt n m)
theorem Kn.up {P : Program} {w : World} {K : PySem.W.Frag} {mg : Str → Option Value} {base : Heap} {C : Option Addr} {xt : List XC} {x : Str} {j k n : Nat} {m : MF} (h : Kn P w K mg base C xt x j n m) (hk : j ≤ k) : Kn P w K mg base C xt x k n m := by
  obtain ⟨f, fd, ps, h1, h2, h3, h4, h5⟩ := h.ex
  exact ⟨f, fd, ps, h1, h2, h3, h4, h5.up hk⟩
/-- another meaning that agrees where it is said -/
theorem Kn.to {P : Program} {w : World} {K : PySem.W.Frag} {mg : Str → Option Value} {base : Heap} {C : Option Addr} {xt : List XC} {x : Str} {k n : Nat} {m m' : MF} (h : Kn P w K mg base C xt x k n m) (hm : ∀ ss c, m' ss c ≠ .no → m ss c = m' ss c) : Kn P w K mg base C xt x k n m' := by
  obtain ⟨f, fd, ps, h1, h2, h3, h4, h5⟩ := h.ex
  refine ⟨f, fd, ps, h1, h2, h3, h4, h5.weak fun vs H Q E q => ?_⟩
  obtain ⟨l, B, ss, c, q1, q2, q3, q4, q5⟩ := q
  refine ⟨l, B, ss, c, q1, q2, q3, q4, ?_⟩
  rw [hm ss c fun z => by rw [z] at q5; exact q5]
  exact q5

/-! ### where a derivation stands -/
structure Cz (X : Cx) (p : Par) (k : Nat) : Prop where
  hk : p.K = X.K
  room : Room k X.A
  gd : X.A.guards = some []
  calm : X.calm = true
  nd : X.N.Nodup
  tk : Takes X p.W
  po : PassesOwn (model X.prog X.w) X.A X.env X.xe
theorem Cz.hu {X : Cx} {p : Par} {k : Nat} (Z : Cz X p k) : X.A.units + 66 < cLine := by have := Z.room.un; omega
theorem Cz.h64 {X : Cx} {p : Par} {k : Nat} (Z : Cz X p k) : X.A.units + 64 < cLine := by have := Z.room.un; omega
theorem Cz.h65 {X : Cx} {p : Par} {k : Nat} (Z : Cz X p k) : X.A.units + 65 < cLine := by have := Z.room.un; omega

/-! ### calls -/
section
variable {X : Cx} {p : Par} {k kz n : Nat} {m : MF} {pos pp : Pos} {x : Str} {a : Expr} {es : List Expr} {fa : FA}
theorem run_G {pins : List (Addr × Obj)} {σ : St} {H : Hp} {s : Shared} {Q : VK} {us : List Value} {vs : List V} {f : Addr} {fd : FuncData} {ps : List Str} {sp : Sp} (F : FnG X.prog X.w X.K X.mg X.base k f fd ps sp) (hr : Room k X.A) (hgd : X.A.guards = some [])
    (hb : Binds X.K fd ps []) (tk : Takes X p.W) (I : Inv X pins σ H s) (r : Vals vs us) (h : sp vs H Q (fun cls d H' => p.W cls d σ H')) : wpAny (model X.prog X.w) X.A (call (.ref f) us) (EP X pins σ Q) X.xe s := by
  have hl : us.length = ps.length := r.length.symm.trans (F.len _ _ _ _ h)
  have hbb := hb s us I.kIn (by rw [List.append_nil]; exact hl)
  rw [List.append_nil] at hbb
  have go := F.run X.A X.stack s H ⟨us, []⟩ us vs Q _ hr hgd I.env0 hbb r h
  refine wpAny_call (codeAny_mono go fun res s' hq => ?_)
  match res, hq with
  | .error e, hq => exact tk e s' (XE.of_call I (fun _ _ _ z => z) hq)
  | .ok (.ret u), hq => exact I.after hq
  | .ok .next, hq => exact hq.elim
  | .ok .brk, hq => exact hq.elim
  | .ok .cont, hq => exact hq.elim
def fCall (m : MF) (fa : FA) : FE := fun ρ c => (fa ρ c).bind fun ss c1 => m ss c1
/-- from the caller's state to the callee's promise and back -/
theorem spD_of {σ : St} {ρ : En} {B1 H1 : Hp} {c1 : Int} {Q : VK} {ss : List Sl} {vs : List V} (S1 : Sta p B1 H1 σ ρ c1) (a1 : ArA p.K p.C B1 vs ss) (hn : ss.length = n) (m1 : PostE p σ ρ B1 Q (m ss c1)) :
    spD p.K p.C p.xt n m vs H1 Q (fun cls d H' => p.W cls d σ H') := by
  refine ⟨a1.len.trans hn, B1, ss, c1, S1.sub, fun a e => (S1.cel a e).1, fun a e => (S1.cel a e).2.1, a1, ?_⟩
  cases q : m ss c1 with
  | ok d c' =>
    rw [q] at m1
    exact fun v B' H' g hc r => m1 v B' H' (S1.call g hc) g.b r
  | ex x c' =>
    rw [q] at m1
    exact fun B' H' cls d g hc e => m1 B' H' cls d (S1.call g hc) g.b e
  | no => rw [q] at m1; exact m1
/-- how many arguments a list has -/
def FALen (fa : FA) (n : Nat) : Prop := ∀ ρ c ss c', fa ρ c = .ok ss c' → ss.length = n
theorem falen_nil : FALen aNil 0 := fun ρ c ss c' e => by unfold aNil at e; cases e; rfl
theorem falen_cons {f : FE} {fa : FA} {n : Nat} (h : FALen fa n) : FALen (aCons f fa) (n + 1) := fun ρ c ss c' e => by
  unfold aCons at e
  cases q : f ρ c with
  | ok d c1 =>
    rw [q] at e
    simp only [R.bind] at e
    cases q2 : fa ρ c1 with
    | ok ss2 c2 => rw [q2] at e; cases e; simp [h _ _ _ _ q2]
    | ex x c2 => rw [q2] at e; cases e
    | no => rw [q2] at e; cases e
  | ex x c1 => rw [q] at e; cases e
  | no => rw [q] at e; cases e
theorem falen_cel {i : Nat} {fa : FA} {n : Nat} (h : FALen fa n) : FALen (aCel i fa) (n + 1) := fun ρ c ss c' e => by
  unfold aCel at e
  cases q : fCe i ρ c with
  | ok d c1 =>
    rw [q] at e
    simp only [R.bind] at e
    cases q2 : fa ρ c1 with
    | ok ss2 c2 => rw [q2] at e; cases e; simp [h _ _ _ _ q2]
    | ex x c2 => rw [q2] at e; cases e
    | no => rw [q2] at e; cases e
  | ex x c1 => rw [q] at e; cases e
  | no => rw [q] at e; cases e
theorem de_call (Z : Cz X p kz) (G : Kn X.prog X.w X.K X.mg X.base p.C p.xt x k n m) (hkz : k ≤ kz) (hg : Gl X x) (hl : FALen fa n) (ha : PA X (a :: es) (dA p fa)) (hdb : (x == ("__debug__" : Str)) = false := by decide)
    (he : starEach (a :: es) X.env = (false, eval a X.env) :: starEach es X.env := by rfl) (hpl : (backTo pos (starEach es X.env)).any (·.1) = false := by rfl) : PE X (.Call (.Name x pp) (a :: es) [] pos) (dE p (fCall m fa)) := by
  obtain ⟨f, fd, ps, hn, hm, hkp, hb, F⟩ := G.ex
  refine ⟨fun pins s σ H Q I h => ?_⟩
  obtain ⟨B, ρ, c, S, m0⟩ := h
  refine wpAny_Call_Name_kw (ld_glob I hg hm ?_ hdb)
  have hh : dA p fa σ H fun vs H1 => spD p.K p.C p.xt n m vs H1 Q fun cls d H' => p.W cls d σ H' := by
    refine ⟨B, ρ, c, S, ?_⟩
    unfold fCall at m0
    cases q : fa ρ c with
    | ok ss c1 =>
      rw [q] at m0
      exact fun vs B1 H1 S1 s1 a1 => spD_of S1 a1 (hl _ _ _ _ q) (PostE.from m0 s1)
    | ex x c1 => rw [q] at m0; exact m0
    | no => rw [q] at m0; exact m0
  refine PySem.W.callWith_K (h₀ := X.base) I.ok.mod.kin hkp (thn (ha.run pos pins s σ H _ I hh) fun us s1 hz => ?_) he hpl
  obtain ⟨vs, H1, I1, r, q⟩ := hz
  refine ⟨I1.kIn, ?_⟩
  rw [Z.hk] at q
  exact run_G F (Z.room.mono hkz) Z.gd hb Z.tk I1 r q
theorem de_call0 (Z : Cz X p kz) (G : Kn X.prog X.w X.K X.mg X.base p.C p.xt x k 0 m) (hkz : k ≤ kz) (hg : Gl X x) (hdb : (x == ("__debug__" : Str)) = false := by decide) : PE X (.Call (.Name x pp) [] [] pos) (dE p (fCall m aNil)) := by
  obtain ⟨f, fd, ps, hn, hm, hkp, hb, F⟩ := G.ex
  refine ⟨fun pins s σ H Q I h => ?_⟩
  obtain ⟨B, ρ, c, S, m0⟩ := h
  refine wpAny_Call_Name_kw (ld_glob I hg hm ?_ hdb)
  have q : spD p.K p.C p.xt 0 m [] H Q fun cls d H' => p.W cls d σ H' := spD_of S .nil rfl m0
  rw [Z.hk] at q
  exact PySem.W.callWith_K0 I.kIn hkp (run_G (us := []) F (Z.room.mono hkz) Z.gd hb Z.tk I .nil q)
end

/-! ### statements -/
inductive Fl where
  | nx (ρ : En)
  | rt (d : PyData)
  | bk (ρ : En)
  | ct (ρ : En)
abbrev FS := En → Int → R Fl
def PostS (p : Par) (B : Hp) (D : Ends) : R Fl → Prop
  | .ok (.nx ρ') c' => ∀ σ' B' H', Sta p B' H' σ' ρ' c' → Same B B' → D.nx σ' H'
  | .ok (.rt d) c' => ∀ v σ' ρ' B' H', Sta p B' H' σ' ρ' c' → Same B B' → Rp p.K B' v d → D.rt v H'
  | .ok (.bk ρ') c' => ∀ σ' B' H', Sta p B' H' σ' ρ' c' → Same B B' → D.bk σ' H'
  | .ok (.ct ρ') c' => ∀ σ' B' H', Sta p B' H' σ' ρ' c' → Same B B' → D.ct σ' H'
  | .ex x c' => ∀ σ' ρ' B' H' cls d, Sta p B' H' σ' ρ' c' → Same B B' → ExOk p.K p.xt B' H' cls d x → p.W cls d σ' H'
  | .no => False
def dS (p : Par) (g : FS) : TS := fun D σ H => ∃ B ρ c, Sta p B H σ ρ c ∧ PostS p B D (g ρ c)
theorem PostS.from {p : Par} {B B' : Hp} {D : Ends} {r : R Fl} (h : PostS p B D r) (s : Same B B') : PostS p B' D r := by
  match r, h with
  | .ok (.nx ρ') c', h => exact fun σ' B2 H2 S z => h σ' B2 H2 S (s.trans z)
  | .ok (.rt d) c', h => exact fun v σ' ρ' B2 H2 S z => h v σ' ρ' B2 H2 S (s.trans z)
  | .ok (.bk ρ') c', h => exact fun σ' B2 H2 S z => h σ' B2 H2 S (s.trans z)
  | .ok (.ct ρ') c', h => exact fun σ' B2 H2 S z => h σ' B2 H2 S (s.trans z)
  | .ex x c', h => exact fun σ' ρ' B2 H2 cls d S z => h σ' ρ' B2 H2 cls d S (s.trans z)
  | .no, h => exact h
section
variable {p : Par} {σ : St} {ρ : En} {B : Hp} {D : Ends}
theorem PostS.bE {Q' : VK} {r : R PyData} {k : PyData → Int → R Fl} (h : PostS p B D (r.bind k))
    (hq : ∀ d c' v B' H', Sta p B' H' σ ρ c' → Rp p.K B' v d → Same B B' → PostS p B' D (k d c') → Q' v H') : PostE p σ ρ B Q' r := by
  cases r with
  | ok d c => exact fun v B2 H2 S z r => hq d c v B2 H2 S r z (PostS.from h z)
  | ex x c => exact fun B2 H2 cls d S z e => h σ ρ B2 H2 cls d S z e
  | no => exact h
theorem PostS.bT {Q' : Bool → Hp → Prop} {r : R Bool} {k : Bool → Int → R Fl} (h : PostS p B D (r.bind k))
    (hq : ∀ b c' B' H', Sta p B' H' σ ρ c' → Same B B' → PostS p B' D (k b c') → Q' b H') : PostT p σ ρ B Q' r := by
  cases r with
  | ok d c => exact fun B2 H2 S z => hq d c B2 H2 S z (PostS.from h z)
  | ex x c => exact fun B2 H2 cls d S z e => h σ ρ B2 H2 cls d S z e
  | no => exact h
theorem PostS.bA {Q' : List V → Hp → Prop} {r : R (List Sl)} {k : List Sl → Int → R Fl} (h : PostS p B D (r.bind k))
    (hq : ∀ ss c' vs B' H', Sta p B' H' σ ρ c' → ArA p.K p.C B' vs ss → Same B B' → PostS p B' D (k ss c') → Q' vs H') : PostA p σ ρ B Q' r := by
  cases r with
  | ok d c => exact fun v B2 H2 S z r => hq d c v B2 H2 S r z (PostS.from h z)
  | ex x c => exact fun B2 H2 cls d S z e => h σ ρ B2 H2 cls d S z e
  | no => exact h
end
def sNx : FS := fun ρ c => .ok (.nx ρ) c
def sSeq (g h : FS) : FS := fun ρ c => (g ρ c).bind fun fl c1 => match fl with
  | .nx ρ1 => h ρ1 c1
  | fl => .ok fl c1
section
variable {X : Cx} {p : Par} {pos : Pos} {st : Stmt} {rest : List Stmt} {g h : FS} {a c : Expr} {f : FE} {ft : FT} {b1 b2 : List Stmt} {gs : FS}
theorem dss_nil : PSs X [] (dS p sNx) := pss_nil.imp fun D σ H ⟨B, ρ, c, S, m⟩ => m σ B H S (Same.refl _)
theorem seq_ok {D : Ends} {σ : St} {H : Hp} (m0 : dS p (sSeq g h) D σ H) : tSeq (dS p g) (dS p h) D σ H := by
  obtain ⟨B, ρ, c, S, m⟩ := m0
  refine ⟨B, ρ, c, S, ?_⟩
  unfold sSeq at m
  generalize hr : g ρ c = r at m
  match r, m with
  | .ok (.nx ρ') c', m => exact fun σ' B2 H2 S2 z => ⟨B2, ρ', c', S2, PostS.from m z⟩
  | .ok (.rt d) c', m => exact m
  | .ok (.bk ρ') c', m => exact m
  | .ok (.ct ρ') c', m => exact m
  | .ex x c', m => exact m
  | .no, m => exact m
theorem dss_cons (h1 : PS X st (dS p g)) (h2 : PSs X rest (dS p h)) : PSs X (st :: rest) (dS p (sSeq g h)) := (pss_cons h1 h2).imp fun _ _ _ m => seq_ok m
theorem dss_one (h1 : PS X st (dS p g)) : PSs X [st] (dS p g) := pss_one h1
theorem ds_pass : PS X (.Pass pos) (dS p sNx) := ps_pass.imp fun D σ H ⟨B, ρ, c, S, m⟩ => m σ B H S (Same.refl _)
def sBk : FS := fun ρ c => .ok (.bk ρ) c
def sCt : FS := fun ρ c => .ok (.ct ρ) c
theorem ds_break : PS X (.Break pos) (dS p sBk) := ps_break.imp fun D σ H ⟨B, ρ, c, S, m⟩ => m σ B H S (Same.refl _)
theorem ds_continue : PS X (.Continue pos) (dS p sCt) := ps_continue.imp fun D σ H ⟨B, ρ, c, S, m⟩ => m σ B H S (Same.refl _)
def sRet (f : FE) : FS := fun ρ c => (f ρ c).bind fun d c1 => .ok (.rt d) c1
theorem ds_ret (ha : PE X a (dE p f)) : PS X (.Return (some a) pos) (dS p (sRet f)) := (ps_ret ha).imp fun D σ H ⟨B, ρ, c, S, m⟩ =>
  ⟨B, ρ, c, S, PostS.bE m fun d c1 v B1 H1 S1 r1 s1 m1 => m1 v σ ρ B1 H1 S1 (Same.refl _) r1⟩
def sRetN : FS := fun ρ c => .ok (.rt .none) c
theorem ds_retN : PS X (.Return none pos) (dS p sRetN) := ps_retN.imp fun D σ H ⟨B, ρ, c, S, m⟩ => m .non σ ρ B H S (Same.refl _) .non
def sIf (t : FT) (g h : FS) : FS := fun ρ c => (t ρ c).bind fun k c1 => if k = true then g ρ c1 else h ρ c1
theorem ds_if (hc : PT X c (dT p ft)) (h1 : PSs X b1 (dS p g)) (h2 : PSs X b2 (dS p h)) : PS X (.If c b1 b2 pos) (dS p (sIf ft g h)) :=
  (ps_if hc h1 h2).imp fun D σ H ⟨B, ρ, c, S, m⟩ => by
    refine ⟨B, ρ, c, S, PostS.bT m fun k c1 B1 H1 S1 s1 m1 => ?_⟩
    cases k with
    | true => exact ⟨B1, ρ, c1, S1, m1⟩
    | false => exact ⟨B1, ρ, c1, S1, m1⟩
def sDrop (f : FE) : FS := fun ρ c => (f ρ c).bind fun _ c1 => .ok (.nx ρ) c1
theorem ds_expr (ha : PE X a (dE p f)) (hs : swapsWith a none pos.line X.env = pure false := by rfl) : PS X (.Expr a pos) (dS p (sDrop f)) := (ps_expr ha hs).imp fun D σ H ⟨B, ρ, c, S, m⟩ =>
  ⟨B, ρ, c, S, PostS.bE m fun d c1 v B1 H1 S1 r1 s1 m1 => m1 σ B1 H1 S1 (Same.refl _)⟩

/-! ### a slot is set -/
theorem Sta.set {B H : Hp} {σ : St} {ρ : En} {c : Int} (S : Sta p B H σ ρ c) {i : Nat} {v : V} {d : PyData} (r : Rp p.K B v d) : Sta p B H (σ.set i (some v)) (ρ.set i (.dt d)) c where
  sub := S.sub
  ext := S.ext
  new := S.new
  keep := S.keep
  cel := S.cel
  len := by rw [List.length_set, List.length_set]; exact S.len
  ln := by rw [List.length_set]; exact S.ln
  slot := fun j s e => by
    by_cases hj : i = j
    · subst hj
      have hi : i < ρ.length := by
        have := (List.getElem?_eq_some_iff.mp e).1
        rwa [List.length_set] at this
      rw [List.getElem?_set_self hi] at e
      cases e
      exact ⟨some v, List.getElem?_set_self (by rw [S.len]; exact hi), v, rfl, r⟩
    · rw [List.getElem?_set_ne hj] at e ⊢
      exact S.slot j s e
  apart := fun j l a ds es e1 e2 e3 e4 => by
    have hj : i ≠ j := fun z => by
      subst z
      have hi := (List.getElem?_eq_some_iff.mp e1).1
      rw [List.length_set] at hi
      rw [List.getElem?_set_self hi] at e1
      cases e1
    have hl : i ≠ l := fun z => by
      subst z
      have hi := (List.getElem?_eq_some_iff.mp e2).1
      rw [List.length_set] at hi
      rw [List.getElem?_set_self hi] at e2
      cases e2
    rw [List.getElem?_set_ne hj] at e1 e3
    rw [List.getElem?_set_ne hl] at e2 e4
    exact S.apart j l a ds es e1 e2 e3 e4
/-! ### targets -/
theorem wipe_get (σ : St) (j : Nat) : ∀ vs : List Nat, (wipe σ vs)[j]? = if j ∈ vs ∧ j < σ.length then some none else σ[j]?
  | [] => by simp [wipe]
  | v :: vs => by
    unfold wipe
    by_cases hv : v = j
    · subst hv
      by_cases hl : v < σ.length
      · rw [List.getElem?_set_self (by rw [wipe_length]; exact hl), if_pos ⟨List.mem_cons_self, hl⟩]
      · rw [List.getElem?_eq_none (by rw [List.length_set, wipe_length]; omega), if_neg (fun z => hl z.2), List.getElem?_eq_none (by omega)]
    · rw [List.getElem?_set_ne hv, wipe_get σ j vs]
      have e : (j ∈ v :: vs ∧ j < σ.length) ↔ (j ∈ vs ∧ j < σ.length) := by
        simp only [List.mem_cons]
        constructor
        · rintro ⟨h1 | h1, h2⟩
          · exact absurd h1.symm hv
          · exact ⟨h1, h2⟩
        · exact fun ⟨h1, h2⟩ => ⟨.inr h1, h2⟩
      by_cases h : j ∈ vs ∧ j < σ.length
      · rw [if_pos h, if_pos (e.mpr h)]
      · rw [if_neg h, if_neg fun z => h (e.mp z)]
theorem wipe_set {σ : St} {i : Nat} {x : Option V} {vs : List Nat} (h : i ∈ vs) : wipe (σ.set i x) vs = wipe σ vs := by
  apply List.ext_getElem?
  intro j
  rw [wipe_get, wipe_get, List.length_set]
  by_cases hj : j ∈ vs ∧ j < σ.length
  · rw [if_pos hj, if_pos hj]
  · rw [if_neg hj, if_neg hj]
    by_cases hi : i = j
    · subst hi
      have hl : ¬ i < σ.length := fun z => hj ⟨h, z⟩
      rw [List.getElem?_eq_none (by rw [List.length_set]; omega), List.getElem?_eq_none (by omega)]
    · rw [List.getElem?_set_ne hi]
abbrev FG := PyData → En → Option En
abbrev FGs := List PyData → En → Option En
def PostG (p : Par) (B : Hp) (c : Int) (σ : St) (vs : List Nat) (Q : St → Hp → Prop) : Option En → Prop
  | some ρ' => ∀ σ' B' H', Sta p B' H' σ' ρ' c → Same B B' → wipe σ' vs = wipe σ vs → Q σ' H'
  | none => False
def dG (p : Par) (vs : List Nat) (t : FG) : TG := fun v σ H Q => ∃ B ρ c d, Sta p B H σ ρ c ∧ Rp p.K B v d ∧ PostG p B c σ vs Q (t d ρ)
def dGs (p : Par) (vs : List Nat) (t : FGs) : TGs := fun us σ H Q => ∃ B ρ c ds, Sta p B H σ ρ c ∧ RpA p.K B us ds ∧ PostG p B c σ vs Q (t ds ρ)
theorem _root_.L2.PG.imp {X : Cx} {e : Expr} {t t' : TG} (h : PG X e t) (hi : ∀ v σ H Q, t' v σ H Q → t v σ H Q) : PG X e t' := ⟨fun pins s σ H v u Q I r q => h.run pins s σ H v u Q I r (hi v σ H Q q)⟩
theorem _root_.L2.PGs.imp {X : Cx} {e : List Expr} {t t' : TGs} (h : PGs X e t) (hi : ∀ v σ H Q, t' v σ H Q → t v σ H Q) : PGs X e t' := ⟨fun pins s σ H v u Q I r q => h.run pins s σ H v u Q I r (hi v σ H Q q)⟩
def tNm (i : Nat) : FG := fun d ρ => some (ρ.set i (.dt d))
theorem dg_nm {e : Expr} {vs : List Nat} (i : Nat) (h : PG X e (gName i)) (hv : i ∈ vs) : PG X e (dG p vs (tNm i)) := h.imp fun v σ H Q ⟨B, ρ, c, d, S, r, m⟩ => m _ B H (S.set r) (Same.refl _) (wipe_set hv)
def tsNil : FGs := fun ds ρ => match ds with
  | [] => some ρ
  | _ => none
def tsCons (t : FG) (ts : FGs) : FGs := fun ds ρ => match ds with
  | d :: ds => (t d ρ).bind (ts ds)
  | [] => none
theorem dgs_nil {vs : List Nat} : PGs X [] (dGs p vs tsNil) := pgs_nil.imp fun us σ H Q ⟨B, ρ, c, ds, S, r, m⟩ => by
  cases ds with
  | nil => cases r; exact ⟨rfl, m σ B H S (Same.refl _) rfl⟩
  | cons d ds => exact m.elim
theorem dgs_cons {e : Expr} {es : List Expr} {vs : List Nat} {t : FG} {ts : FGs} (h1 : PG X e (dG p vs t)) (h2 : PGs X es (dGs p vs ts)) (hs : (assignEach (e :: es) X.env).map (·.2) = assign e X.env :: (assignEach es X.env).map (·.2) := by rfl) :
    PGs X (e :: es) (dGs p vs (tsCons t ts)) := (pgs_cons h1 h2 hs).imp fun us σ H Q ⟨B, ρ, c, ds, S, r, m⟩ => by
  cases ds with
  | nil => exact m.elim
  | cons d ds =>
    cases r with
    | cons r rs =>
      refine ⟨_, _, rfl, B, ρ, c, d, S, r, ?_⟩
      unfold tsCons at m
      cases q : t d ρ with
      | none => simp only [q, Option.bind_none] at m; exact m.elim
      | some ρ1 =>
        simp only [q, Option.bind_some] at m
        refine fun σ1 B1 H1 S1 s1 w1 => ⟨B1, ρ1, c, ds, S1, rs.mono s1, ?_⟩
        cases q2 : ts ds ρ1 with
        | none => rw [q2] at m; exact m.elim
        | some ρ2 => rw [q2] at m; exact fun σ2 B2 H2 S2 s2 w2 => m σ2 B2 H2 S2 (s1.trans s2) (w2.trans w1)
def tTup (ts : FGs) : FG := fun d ρ => match d with
  | .tuple ds => ts ds ρ
  | _ => none
theorem dg_tup {es : List Expr} {k n : Nat} {vs : List Nat} {ts : FGs} (hc : X.calm = true) (hk : p.K = X.K) (hts : ∀ ds ρ, ts ds ρ ≠ none → ds.length = n) (h : PGs X es (dGs p vs ts)) (hn : (assignEach es X.env).length = n := by rfl) (hst : (assignEach es X.env).findIdx? (·.1) = none := by rfl) :
    PG X (.Tuple es k pos) (dG p vs (tTup ts)) := (pg_tup hc h hn hst).imp fun v σ H Q ⟨B, ρ, c, d, S, r, m⟩ => by
  unfold tTup at m
  split at m
  · rename_i ds
    cases r with
    | tup h1 a1 =>
      refine ⟨_, _, rfl, hk ▸ Same.seqT S.sub h1, ?_, B, ρ, c, ds, S, a1, m⟩
      rw [a1.len]
      exact hts ds ρ fun z => by rw [z] at m; exact m
  · exact m.elim
theorem ts_len0 {ds : List PyData} {ρ : En} (h : tsNil ds ρ ≠ none) : ds.length = 0 := by
  cases ds with
  | nil => rfl
  | cons d ds => exact absurd rfl h
theorem ts_len {t : FG} {ts : FGs} {n : Nat} (hn : ∀ ds ρ, ts ds ρ ≠ none → ds.length = n) {ds : List PyData} {ρ : En} (h : tsCons t ts ds ρ ≠ none) : ds.length = n + 1 := by
  cases ds with
  | nil => exact absurd rfl h
  | cons d ds =>
    unfold tsCons at h
    cases q : t d ρ with
    | none => simp only [q, Option.bind_none] at h; exact absurd rfl h
    | some ρ1 =>
      simp only [q, Option.bind_some] at h
      rw [List.length_cons, hn ds ρ1 h]
def sAsg (f : FE) (t : FG) : FS := fun ρ c => (f ρ c).bind fun d c1 => (ofO (t d ρ) c1).bind fun ρ1 c2 => .ok (.nx ρ1) c2
theorem ds_asg {tg : Expr} {vs : List Nat} {t : FG} (ha : PE X a (dE p f)) (hg : PG X tg (dG p vs t)) (hs : swapsWithSole [tg] a pos.line X.env = pure false := by rfl) (hw : swappedStores [tg] a X.env = pure none := by rfl)
    (h1 : (assignEach [tg] X.env).map (·.2) = [assign tg X.env] := by rfl) : PS X (.Assign [tg] a pos) (dS p (sAsg f t)) :=
  (ps_asg ha hg hs hw h1).imp fun D σ H ⟨B, ρ, c, S, m⟩ => by
    refine ⟨B, ρ, c, S, PostS.bE m fun d c1 v B1 H1 S1 r1 s1 m1 => ⟨B1, ρ, c1, d, S1, r1, ?_⟩⟩
    cases e : t d ρ with
    | none => rw [e] at m1; exact m1
    | some ρ1 => rw [e] at m1; exact fun σ2 B2 H2 S2 s2 _ => m1 σ2 B2 H2 S2 s2
def sSet (i : Nat) (f : FE) : FS := fun ρ c => (f ρ c).bind fun d c1 => .ok (.nx (ρ.set i (.dt d))) c1
theorem ds_set {i : Nat} {x : Str} {pos' : Pos} (hN : X.N.Nodup) (hi : X.N[i]? = some x) (hx : Loc X.env.scope x) (ha : PE X a (dE p f)) (hs : swapsWith a (some (.Name x pos')) pos.line X.env = pure false := by rfl) (hf : X.fn x = true ∨ X.env.scope.names.lookup x = some .local := by first | exact .inl rfl | exact .inr rfl | assumption) :
    PS X (.Assign [.Name x pos'] a pos) (dS p (sSet i f)) :=
  (ps_set (i := i) hN hi hx ha hs hf).imp fun D σ H ⟨B, ρ, c, S, m⟩ => ⟨B, ρ, c, S, PostS.bE m fun d c1 v B1 H1 S1 r1 s1 m1 => m1 _ B1 H1 (S1.set r1) (Same.refl _)⟩
/-- a, b = e1, e2 -/
def sPar (i j : Nat) (f1 f2 : FE) : FS := fun ρ c => (f1 ρ c).bind fun d c1 => (f2 ρ c1).bind fun e c2 => .ok (.nx ((ρ.set i (.dt d)).set j (.dt e))) c2
theorem ds_par {i j : Nat} {x y : Str} {b : Expr} {f2 : FE} {px py pt : Pos} {kt k2 : Nat} {pt2 : Pos} (hc : X.calm = true) (hN : X.N.Nodup) (hi : X.N[i]? = some x) (hj : X.N[j]? = some y) (hij : i ≠ j)
    (hx : X.env.scope.names.lookup x = some .local) (hy : X.env.scope.names.lookup y = some .local) (ha : PE X a (dE p f)) (hb : PE X b (dE p f2))
    (hw : swappedStores [.Tuple [.Name x px, .Name y py] kt pt] (.Tuple [a, b] k2 pt2) X.env = pure (some [x, y]))
    (hs : swapsWithSole [.Tuple [.Name x px, .Name y py] kt pt] (.Tuple [a, b] k2 pt2) pos.line X.env = pure false := by rfl)
    (h1 : starEach (a :: [b]) X.env = (false, eval a X.env) :: starEach [b] X.env := by rfl) (h2 : starEach (b :: []) X.env = (false, eval b X.env) :: starEach [] X.env := by rfl) :
    PS X (.Assign [.Tuple [.Name x px, .Name y py] kt pt] (.Tuple [a, b] k2 pt2) pos) (dS p (sPar i j f f2)) :=
  (ps_par (i := i) (j := j) hc hN hi hj hij hx hy (pa_cons ha (pa_cons hb pa_nil h2) h1) hw hs).imp fun D σ H ⟨B, ρ, c, S, m⟩ =>
    ⟨B, ρ, c, S, PostS.bE m fun d c1 v B1 H1 S1 r1 s1 m1 => ⟨B1, ρ, c1, S1, PostS.bE m1 fun e c2 u B2 H2 S2 r2 s2 m2 => ⟨v, u, rfl, m2 _ B2 H2 ((S2.set (r1.mono s2)).set r2) (Same.refl _)⟩⟩⟩
end
end DL
end L2

set_option Elab.async false
set_option linter.all false
set_option maxRecDepth 100000
namespace L2
open PySem PySem.Spec PyProof.Rows
namespace DL
/-! ### fresh lists -/
abbrev FL := En → Int → R (List PyData)
/-- no slot holds the list at a as its own -/
def Unheld (σ : St) (ρ : En) (a : Addr) : Prop := ∀ (i : Nat) (es : List PyData), ρ[i]? = some (.ow es) → σ[i]? ≠ some (some (.ref a))
def PostL (p : Par) (σ : St) (ρ : En) (B : Hp) (Q : VK) : R (List PyData) → Prop
  | .ok ds c' => ∀ a xs B' H', Sta p B' H' σ ρ c' → Same B B' → H' a = some (.lst xs) → B' a = none → p.H0 a = none → Unheld σ ρ a → RpA p.K B' xs ds → Q (.ref a) H'
  | .ex x c' => ∀ B' H' cls d, Sta p B' H' σ ρ c' → Same B B' → ExOk p.K p.xt B' H' cls d x → p.W cls d σ H'
  | .no => False
def dF (p : Par) (f : FL) : TE := fun σ H Q => ∃ B ρ c, Sta p B H σ ρ c ∧ PostL p σ ρ B Q (f ρ c)
theorem PostL.from {p : Par} {σ : St} {ρ : En} {B B' : Hp} {Q : VK} {r : R (List PyData)} (h : PostL p σ ρ B Q r) (s : Same B B') : PostL p σ ρ B' Q r := by
  cases r with
  | ok d c => exact fun a xs B2 H2 S z => h a xs B2 H2 S (s.trans z)
  | ex x c => exact fun B2 H2 cls d S z e => h B2 H2 cls d S (s.trans z) e
  | no => exact h
theorem PostL.bE {p : Par} {σ : St} {ρ : En} {B : Hp} {Q Q' : VK} {r : R PyData} {k : PyData → Int → R (List PyData)} (h : PostL p σ ρ B Q (r.bind k))
    (hq : ∀ d c' v B' H', Sta p B' H' σ ρ c' → Rp p.K B' v d → Same B B' → PostL p σ ρ B' Q (k d c') → Q' v H') : PostE p σ ρ B Q' r := by
  cases r with
  | ok d c => exact fun v B2 H2 S z r => hq d c v B2 H2 S r z (PostL.from h z)
  | ex x c => exact h
  | no => exact h
theorem PostL.bA {p : Par} {σ : St} {ρ : En} {B : Hp} {Q : VK} {Q' : List V → Hp → Prop} {r : R (List Sl)} {k : List Sl → Int → R (List PyData)} (h : PostL p σ ρ B Q (r.bind k))
    (hq : ∀ d c' v B' H', Sta p B' H' σ ρ c' → ArA p.K p.C B' v d → Same B B' → PostL p σ ρ B' Q (k d c') → Q' v H') : PostA p σ ρ B Q' r := by
  cases r with
  | ok d c => exact fun v B2 H2 S z r => hq d c v B2 H2 S r z (PostL.from h z)
  | ex x c => exact h
  | no => exact h
theorem PostE.bL {p : Par} {σ : St} {ρ : En} {B : Hp} {Q Q' : VK} {r : R (List PyData)} {k : List PyData → Int → R PyData} (h : PostE p σ ρ B Q (r.bind k))
    (hq : ∀ ds c' a xs B' H', Sta p B' H' σ ρ c' → Same B B' → H' a = some (.lst xs) → B' a = none → p.H0 a = none → Unheld σ ρ a → RpA p.K B' xs ds → PostE p σ ρ B' Q (k ds c') → Q' (.ref a) H') : PostL p σ ρ B Q' r := by
  cases r with
  | ok d c => exact fun a xs B2 H2 S z e1 e2 e3 u r => hq d c a xs B2 H2 S z e1 e2 e3 u r (PostE.from h z)
  | ex x c => exact h
  | no => exact h
theorem PostS.bL {p : Par} {σ : St} {ρ : En} {B : Hp} {D : Ends} {Q' : VK} {r : R (List PyData)} {k : List PyData → Int → R Fl} (h : PostS p B D (r.bind k))
    (hq : ∀ ds c' a xs B' H', Sta p B' H' σ ρ c' → Same B B' → H' a = some (.lst xs) → B' a = none → p.H0 a = none → Unheld σ ρ a → RpA p.K B' xs ds → PostS p B' D (k ds c') → Q' (.ref a) H') : PostL p σ ρ B Q' r := by
  cases r with
  | ok d c => exact fun a xs B2 H2 S z e1 e2 e3 u r => hq d c a xs B2 H2 S z e1 e2 e3 u r (PostS.from h z)
  | ex x c => exact fun B2 H2 cls d S z e => h σ ρ B2 H2 cls d S z e
  | no => exact h
section
variable {p : Par} {B H : Hp} {σ : St} {ρ : En} {c : Int} {a : Addr}
theorem unheld_new (S : Sta p B H σ ρ c) (n : H a = none) : Unheld σ ρ a := fun i es e1 e2 => by
  obtain ⟨o, h1, a', xs, h2, h3, _⟩ := S.slot i _ e1
  rw [h1] at e2
  cases e2
  cases h2
  rw [n] at h3
  cases h3
/-- an unfrozen list of nobody's is frozen -/
theorem Sta.freeze1 (S : Sta p B H σ ρ c) {o : HO} (h : H a = some o) (hb : B a = none) (h0 : p.H0 a = none) (u : Unheld σ ρ a) : Sta p (upd B a o) H σ ρ c ∧ Same B (upd B a o) := by
  have s1 : Same B (upd B a o) := fun b x e => by rw [upd_ne (ne_of_none e hb)]; exact e
  refine ⟨⟨fun b x e => ?_, S.ext.trans s1, fun b q => ?_, S.keep, fun b e => ?_, S.len, S.ln, fun i s e => ?_, S.apart⟩, s1⟩
  · by_cases hx : b = a
    · subst hx; rw [upd_same] at e; cases e; exact h
    · rw [upd_ne hx] at e; exact S.sub b x e
  · by_cases hx : b = a
    · subst hx; exact .inr h0
    · rw [upd_ne hx] at q; exact S.new b q
  · obtain ⟨q1, q2, q3⟩ := S.cel b e
    refine ⟨q1, ?_, q3⟩
    rw [upd_ne (fun z => by subst z; exact q3 h0)]
    exact q2
  · obtain ⟨x, e1, k⟩ := S.slot i s e
    refine ⟨x, e1, ?_⟩
    cases s with
    | un => trivial
    | dt d => obtain ⟨v, k1, k2⟩ := k; exact ⟨v, k1, k2.mono s1⟩
    | ow ds =>
      obtain ⟨a', xs, k1, k2, k3, k4, k5⟩ := k
      subst k1
      refine ⟨a', xs, rfl, k2, ?_, k4, k5.mono s1⟩
      rw [upd_ne (fun z => by subst z; exact u i ds e e1)]
      exact k3
    | ce => exact k
    | sc ns => obtain ⟨b, k1, k2⟩ := k; exact ⟨b, k1, s1.seq k2⟩
    | xn x =>
      obtain ⟨a', dd, D, ns, vs, k1, k2, k3, k4, k5, k6, k7⟩ := k
      exact ⟨a', dd, D, ns, vs, k1, k2, k3, k4, k5, k6.mono s1, k7⟩
/-- an object that is nobody's is written -/
theorem Sta.poke (S : Sta p B H σ ρ c) {o : HO} (hb : B a = none) (h0 : p.H0 a = none) (u : Unheld σ ρ a) : Sta p B (upd H a o) σ ρ c where
  sub := fun b x e => by rw [upd_ne (ne_of_none e hb)]; exact S.sub b x e
  ext := S.ext
  new := S.new
  keep := fun b x e q => by rw [upd_ne (ne_of_none e h0)]; exact S.keep b x e q
  cel := fun b e => by
    obtain ⟨q1, q2, q3⟩ := S.cel b e
    exact ⟨by rw [upd_ne (fun z => by subst z; exact q3 h0)]; exact q1, q2, q3⟩
  len := S.len
  ln := S.ln
  slot := fun i s e => by
    obtain ⟨x, e1, k⟩ := S.slot i s e
    refine ⟨x, e1, ?_⟩
    cases s with
    | un => trivial
    | dt d => exact k
    | ow ds =>
      obtain ⟨a', xs, k1, k2, k3⟩ := k
      subst k1
      refine ⟨a', xs, rfl, ?_, k3⟩
      rw [upd_ne (fun z => by subst z; exact u i ds e e1)]
      exact k2
    | ce => exact k
    | sc ns => exact k
    | xn x =>
      obtain ⟨a', dd, D, ns, vs, k1, k2, k3, k4, k5, k6⟩ := k
      exact ⟨a', dd, D, ns, vs, k1, k2, k3, by rw [upd_ne (fun z => by subst z; exact k5 h0)]; exact k4, k5, k6⟩
  apart := S.apart
/-- an own list is set into a slot -/
theorem Sta.setOw (S : Sta p B H σ ρ c) {i : Nat} {xs : List V} {ds : List PyData} (h : H a = some (.lst xs)) (hb : B a = none) (h0 : p.H0 a = none) (u : Unheld σ ρ a) (r : RpA p.K B xs ds) :
    Sta p B H (σ.set i (some (.ref a))) (ρ.set i (.ow ds)) c where
  sub := S.sub
  ext := S.ext
  new := S.new
  keep := S.keep
  cel := S.cel
  len := by rw [List.length_set, List.length_set]; exact S.len
  ln := by rw [List.length_set]; exact S.ln
  slot := fun j s e => by
    by_cases hj : i = j
    · subst hj
      have hi : i < ρ.length := by
        have := (List.getElem?_eq_some_iff.mp e).1
        rwa [List.length_set] at this
      rw [List.getElem?_set_self hi] at e
      cases e
      exact ⟨some (.ref a), List.getElem?_set_self (by rw [S.len]; exact hi), a, xs, rfl, h, hb, h0, r⟩
    · rw [List.getElem?_set_ne hj] at e ⊢
      exact S.slot j s e
  apart := fun j l b es es' e1 e2 e3 e4 => by
    by_cases hj : i = j
    · by_cases hl : i = l
      · exact hj.symm.trans hl
      · subst hj
        have hi := (List.getElem?_eq_some_iff.mp e3).1
        rw [List.length_set] at hi
        rw [List.getElem?_set_self hi] at e3
        cases e3
        rw [List.getElem?_set_ne hl] at e2 e4
        exact absurd e4 (u l es' e2)
    · by_cases hl : i = l
      · subst hl
        have hi := (List.getElem?_eq_some_iff.mp e4).1
        rw [List.length_set] at hi
        rw [List.getElem?_set_self hi] at e4
        cases e4
        rw [List.getElem?_set_ne hj] at e1 e3
        exact absurd e3 (u j es e1)
      · rw [List.getElem?_set_ne hj] at e1 e3
        rw [List.getElem?_set_ne hl] at e2 e4
        exact S.apart j l b es es' e1 e2 e3 e4
/-- an own list is changed -/
theorem Sta.mut (S : Sta p B H σ ρ c) {i : Nat} {ds es : List PyData} {ys : List V} (hi : ρ[i]? = some (.ow ds)) (ha : σ[i]? = some (some (.ref a))) (r : RpA p.K B ys es) : Sta p B (upd H a (.lst ys)) σ (ρ.set i (.ow es)) c := by
  obtain ⟨o, e1, a', xs, k1, k2, k3, k4, k5⟩ := S.slot i _ hi
  rw [ha] at e1
  cases e1
  cases k1
  refine ⟨fun b x e => ?_, S.ext, S.new, fun b x e q => ?_, fun b e => ?_, ?_, S.ln, fun j s e => ?_, fun j l b ds1 ds2 f1 f2 f3 f4 => ?_⟩
  · rw [upd_ne (ne_of_none e k3)]; exact S.sub b x e
  · rw [upd_ne (ne_of_none e k4)]; exact S.keep b x e q
  · obtain ⟨q1, q2, q3⟩ := S.cel b e
    exact ⟨by rw [upd_ne (fun z => by subst z; exact q3 k4)]; exact q1, q2, q3⟩
  · rw [List.length_set]; exact S.len
  · by_cases hj : i = j
    · subst hj
      have hl : i < ρ.length := (List.getElem?_eq_some_iff.mp hi).1
      rw [List.getElem?_set_self hl] at e
      cases e
      exact ⟨_, ha, a, ys, rfl, upd_same, k3, k4, r⟩
    · rw [List.getElem?_set_ne hj] at e
      obtain ⟨x, e1, k⟩ := S.slot j s e
      refine ⟨x, e1, ?_⟩
      cases s with
      | un => trivial
      | dt d => exact k
      | ow ds' =>
        obtain ⟨b, zs, l1, l2, l3⟩ := k
        subst l1
        refine ⟨b, zs, rfl, ?_, l3⟩
        rw [upd_ne (fun z => by subst z; exact hj (S.apart i j _ _ _ hi e ha e1))]
        exact l2
      | ce => exact k
      | sc ns => exact k
      | xn x =>
        obtain ⟨b, dd, D, ns, vs, l1, l2, l3, l4, l5, l6⟩ := k
        exact ⟨b, dd, D, ns, vs, l1, l2, l3, by rw [upd_ne (fun z => by subst z; exact l5 k4)]; exact l4, l5, l6⟩
  · have back : ∀ {m : Nat} {gs : List PyData}, (ρ.set i (.ow es))[m]? = some (.ow gs) → ∃ gs', ρ[m]? = some (.ow gs') := fun {m gs} g => by
      by_cases hm : i = m
      · subst hm; exact ⟨_, hi⟩
      · rw [List.getElem?_set_ne hm] at g; exact ⟨_, g⟩
    obtain ⟨g1, f1⟩ := back f1
    obtain ⟨g2, f2⟩ := back f2
    exact S.apart j l b g1 g2 f1 f2 f3 f4
end
def fFz (f : FL) : FE := fun ρ c => (f ρ c).bind fun ds c1 => .ok (.list ds) c1
section
variable {X : Cx} {p : Par} {pos pp cp : Pos} {k kz : Nat} {a b e : Expr} {es : List Expr} {f g : FE} {fl : FL} {fa : FA} {x : Str} {st : Stmt} {gs : FS}
/-- a fresh list, frozen -/
theorem de_fz (h : PE X e (dF p fl)) : PE X e (dE p (fFz fl)) := h.imp fun σ H Q ⟨B, ρ, c, S, m⟩ =>
  ⟨B, ρ, c, S, m.bL fun ds c1 a xs B1 H1 S1 s1 e1 e2 e3 u r m1 => by
    obtain ⟨S2, s2⟩ := S1.freeze1 e1 e2 e3 u
    exact m1 _ _ H1 S2 s2 (.lst upd_same (r.mono s2))⟩
def lLst (fa : FA) : FL := fun ρ c => (fa ρ c).bind fun ss c1 => match dts ss with
  | some ds => if lineOk ds.length then .ok ds c1 else .no
  | none => .no
/-- from «any new place» to a fresh list -/
theorem fresh_of {B H : Hp} {σ : St} {ρ : En} {c : Int} {Q : VK} {vs : List V} {ds : List PyData} (S : Sta p B H σ ρ c) (r : RpA p.K B vs ds) (m : PostL p σ ρ B Q (.ok ds c)) : ∀ g, H g = none → Q (.ref g) (upd H g (.lst vs)) := fun g ng =>
  m g vs B _ (S.grow (Gw.held S.sub _ ng)) (Same.refl _) upd_same (S.sub.free ng) (S.none0 ng) (unheld_new S ng) r
theorem df_lst (ha : PA X es (dA p fa)) : PE X (.List es pos) (dF p (lLst fa)) :=
  (pe_lst ha).imp fun σ H Q ⟨B, ρ, c, S, m⟩ => by
    refine ⟨B, ρ, c, S, PostL.bA m fun ss c1 vs B1 H1 S1 a1 s1 m1 => ?_⟩
    cases e2 : dts ss with
    | none => rw [e2] at m1; exact m1.elim
    | some ds =>
      rw [e2] at m1
      have r := dts_rp a1 e2
      simp only at m1
      split at m1
      · rename_i hz
        exact ⟨by rw [r.len]; exact lineOk_le hz, fresh_of S1 r m1⟩
      · exact m1.elim
/-- list(e) -/
def lOf (f : FE) : FL := fun ρ c => (f ρ c).bind fun d c1 => match d with
  | .list ds => .ok ds c1
  | .tuple ds => .ok ds c1
  | _ => .no
theorem df_list {pp : Pos} (hg : Gl X "list") (hm : X.mg "list" = none) (hk : p.K = X.K) (ha : PE X a (dE p f)) (he : starEach (a :: []) X.env = (false, eval a X.env) :: starEach [] X.env := by rfl) (hpl : (backTo pos (starEach [] X.env)).any (·.1) = false := by rfl) :
    PE X (.Call (.Name "list" pp) [a] [] pos) (dF p (lOf f)) :=
  (pe_callTy call_list_of hg hm (by decide +kernel) (pa_cons ha pa_nil he) (by decide) (by decide) he hpl).imp fun σ H Q ⟨B, ρ, c, S, m⟩ => by
    refine ⟨B, ρ, c, S, PostL.bE m fun d c1 v B1 H1 S1 r1 s1 m1 => ?_⟩
    split at m1
    · cases r1 with
      | lst h1 a1 => exact ⟨_, _, rfl, .inl (SqL.of (S1.sub _ _ h1)), fresh_of S1 a1 m1⟩
    · cases r1 with
      | tup h1 a1 => exact ⟨_, _, rfl, .inr (hk ▸ Same.seqT S1.sub h1), fresh_of S1 a1 m1⟩
    · exact m1.elim
/-- [..] * k -/
def lRep (fl : FL) (g : FE) : FL := fun ρ c => (fl ρ c).bind fun ds c1 => (g ρ c1).bind fun d c2 => match d with
  | .int k => if 0 ≤ k ∧ k ≤ 1000 ∧ ds.length ≤ 1000 then .ok (List.replicate k.toNat ds).flatten c2 else .no
  | _ => .no

/-! ### x = a fresh list; freezing; x.append(e); x[i] = e -/
def sOw (i : Nat) (fl : FL) : FS := fun ρ c => (fl ρ c).bind fun ds c1 => .ok (.nx (ρ.set i (.ow ds))) c1
theorem ds_ow {i : Nat} {pos' : Pos} (hN : X.N.Nodup) (hi : X.N[i]? = some x) (hx : Loc X.env.scope x) (ha : PE X a (dF p fl)) (hs : swapsWith a (some (.Name x pos')) pos.line X.env = pure false := by rfl) (hf : X.fn x = true ∨ X.env.scope.names.lookup x = some .local := by first | exact .inl rfl | exact .inr rfl | assumption) :
    PS X (.Assign [.Name x pos'] a pos) (dS p (sOw i fl)) :=
  (ps_set (i := i) hN hi hx ha hs hf).imp fun D σ H ⟨B, ρ, c, S, m⟩ => ⟨B, ρ, c, S, PostS.bL m fun ds c1 a xs B1 H1 S1 s1 e1 e2 e3 u r m1 => m1 _ B1 H1 (S1.setOw e1 e2 e3 u r) (Same.refl _)⟩
def fzE (i : Nat) (ρ : En) : En := match ρ[i]? with
  | some (.ow ds) => ρ.set i (.dt (.list ds))
  | _ => ρ
theorem Sta.fz {B H : Hp} {σ : St} {ρ : En} {c : Int} (S : Sta p B H σ ρ c) (i : Nat) : ∃ B', Sta p B' H σ (fzE i ρ) c ∧ Same B B' := by
  unfold fzE
  split
  · rename_i ds e
    obtain ⟨o, e1, a, xs, k1, k2, k3, k4, k5⟩ := S.slot i _ e
    subst k1
    -- the slot is emptied, then its list frozen, then the slot set
    have hi : i < ρ.length := (List.getElem?_eq_some_iff.mp e).1
    have S1 : Sta p B H σ (ρ.set i .un) c := by
      refine ⟨S.sub, S.ext, S.new, S.keep, S.cel, by rw [List.length_set]; exact S.len, S.ln, fun j s q => ?_, fun j l b d1 d2 q1 q2 q3 q4 => ?_⟩
      · by_cases hj : i = j
        · subst hj
          rw [List.getElem?_set_self hi] at q
          cases q
          exact ⟨_, e1, trivial⟩
        · rw [List.getElem?_set_ne hj] at q
          exact S.slot j s q
      · have hj : i ≠ j := fun z => by subst z; rw [List.getElem?_set_self hi] at q1; cases q1
        have hl : i ≠ l := fun z => by subst z; rw [List.getElem?_set_self hi] at q2; cases q2
        rw [List.getElem?_set_ne hj] at q1
        rw [List.getElem?_set_ne hl] at q2
        exact S.apart j l b d1 d2 q1 q2 q3 q4
    have u : Unheld σ (ρ.set i .un) a := fun j es q1 q2 => by
      have hj : i ≠ j := fun z => by subst z; rw [List.getElem?_set_self hi] at q1; cases q1
      rw [List.getElem?_set_ne hj] at q1
      exact hj (S.apart i j a _ _ e q1 e1 q2)
    obtain ⟨S2, s2⟩ := S1.freeze1 k2 k3 k4 u
    have S3 := S2.set (i := i) (v := .ref a) (d := .list ds) (.lst upd_same (k5.mono s2))
    rw [List.set_set] at S3
    have es : σ.set i (some (V.ref a)) = σ := by
      have hiσ : i < σ.length := (List.getElem?_eq_some_iff.mp e1).1
      apply List.ext_getElem?
      intro j
      by_cases hj : i = j
      · subst hj; rw [List.getElem?_set_self hiσ, e1]
      · rw [List.getElem?_set_ne hj]
    rw [es] at S3
    exact ⟨_, S3, s2⟩
  · exact ⟨B, S, Same.refl _⟩
def sFz (i : Nat) (g : FS) : FS := fun ρ c => g (fzE i ρ) c
theorem ds_fz (i : Nat) (h : PS X st (dS p gs)) : PS X st (dS p (sFz i gs)) := h.imp fun D σ H ⟨B, ρ, c, S, m⟩ => by
  obtain ⟨B', S', s'⟩ := S.fz i
  exact ⟨B', _, c, S', PostS.from m s'⟩
/-- x.append(e) -/
def sApp (i : Nat) (f : FE) : FS := fun ρ c => match ρ[i]? with
  | some (.ow ds) => (f ρ c).bind fun d c1 => if lineOk (ds.length + 1) then .ok (.nx (ρ.set i (.ow (ds ++ [d])))) c1 else .no
  | _ => .no
theorem ds_app (i : Nat) {pn ap : Pos} (hn : PE X (.Name x pn) (tVar i)) (ha : PE X a (dE p f)) (hb : attributeBase (.Name x pn) "append" X.env (eval (.Name x pn) X.env) = eval (.Name x pn) X.env := by rfl)
    (hfew : ((backTo cp (starEach (a :: []) X.env)).all (fun x => !x.1) && (backToKw cp (keywordEach [] X.env)).all (fun x => x.1.isSome)
      && decide ((a :: []).length + ([] : List Keyword).length + (if ([] : List Keyword).isEmpty then 0 else 1) < 30)) = true := by rfl)
    (hline : (ap.endLine == cp.line) = true := by rfl) (hs : starEach (a :: []) X.env = (false, eval a X.env) :: starEach [] X.env := by rfl) (hplain : (backTo cp (starEach [] X.env)).any (·.1) = false := by rfl)
    (hsw : swapsWith (.Call (.Attribute (.Name x pn) "append" ap) [a] [] cp) none pos.line X.env = pure false := by rfl) :
    PS X (.Expr (.Call (.Attribute (.Name x pn) "append" ap) [a] [] cp) pos) (dS p (sApp i f)) :=
  (ps_expr (pe_bm PySem.F.plainAttrs_list PySem.F.slot_list_append PySem.F.type_list_append mt_append hn (pa_cons ha pa_nil hs) hb hfew hline hs hplain) hsw).imp fun D σ H ⟨B, ρ, c, S, m⟩ => by
    unfold sApp at m
    split at m
    · rename_i ds e
      obtain ⟨o, e1, a', xs, k1, k2, k3, k4, k5⟩ := S.slot i _ e
      subst k1
      refine ⟨_, e1, .inl ⟨rfl, xs, SqL.of k2⟩, B, ρ, c, S, PostS.bE m fun d c1 v B1 H1 S1 r1 s1 m1 => ?_⟩
      obtain ⟨o2, e2, a2, xs2, l1, l2, l3, l4, l5⟩ := S1.slot i _ e
      rw [e1] at e2
      cases e2
      cases l1
      split at m1
      · rename_i hz
        have hz' := lineOk_le hz
        refine ⟨a', xs2, v, rfl, rfl, l2, by rw [l5.len]; omega, ?_⟩
        exact m1 σ B1 _ (S1.mut e e1 (l5.app (.cons r1 .nil))) (Same.refl _)
      · exact m1.elim
    · exact m.elim
/-- x[i] = e, x an own list -/
def sSetIx (i : Nat) (fi f : FE) : FS := fun ρ c => match ρ[i]? with
  | some (.ow ds) => (f ρ c).bind fun d c1 => (fi ρ c1).bind fun j c2 => match j with
    | .int j => match ixN ds.length j with
      | some n => .ok (.nx (ρ.set i (.ow (ds.set n d)))) c2
      | none => .no
    | _ => .no
  | _ => .no
theorem ds_setIx (i : Nat) {pn sp : Pos} {ix : Expr} {fi : FE} (hn : PE X (.Name x pn) (tVar i)) (hi : PE X ix (dE p fi)) (ha : PE X a (dE p f))
    (hg : ∀ v, assign (.Subscript (.Name x pn) ix sp) X.env v = (do
      let ov ← holding [v] (eval (.Name x pn) X.env)
      let iv ← holding [v, ov] (eval ix X.env)
      standAt sp
      holding [v, ov, iv] (setItem ov iv v)
      release [v, ov, iv] []) := by intro _; rfl)
    (hs : swapsWithSole [.Subscript (.Name x pn) ix sp] a pos.line X.env = pure false := by rfl) (hw : swappedStores [.Subscript (.Name x pn) ix sp] a X.env = pure none := by rfl)
    (h1 : (assignEach [.Subscript (.Name x pn) ix sp] X.env).map (·.2) = [assign (.Subscript (.Name x pn) ix sp) X.env] := by rfl) :
    PS X (.Assign [.Subscript (.Name x pn) ix sp] a pos) (dS p (sSetIx i fi f)) :=
  (ps_asg ha (pg_sub hn hi set_list hg) hs hw h1).imp fun D σ H ⟨B, ρ, c, S, m⟩ => by
    unfold sSetIx at m
    split at m
    · rename_i ds e
      refine ⟨B, ρ, c, S, PostS.bE m fun d c1 v B1 H1 S1 r1 s1 m1 => ?_⟩
      obtain ⟨o, e1, a', xs, k1, k2, k3, k4, k5⟩ := S1.slot i _ e
      subst k1
      refine ⟨_, e1, B1, ρ, c1, S1, PostS.bE m1 fun j c2 u B2 H2 S2 r2 s2 m2 => ?_⟩
      obtain ⟨o2, e2, a2, xs2, l1, l2, l3, l4, l5⟩ := S2.slot i _ e
      rw [e1] at e2
      cases e2
      cases l1
      split at m2
      · rename_i j'
        split at m2
        · rename_i n hn'
          refine ⟨a', xs2, j', n, rfl, r2.of_int, l2, by rw [l5.len]; exact hn', ?_⟩
          exact m2 σ B2 _ (S2.mut e e1 (l5.set (r1.mono s2) n)) (Same.refl _)
        · exact m2.elim
      · exact m2.elim
    · exact m.elim
/-- the cell: at[0], at[0] = e -/
def fCell (i : Nat) : FE := fun ρ c => match ρ[i]? with
  | some .ce => .ok (.int c) c
  | _ => .no
theorem de_cell (i : Nat) {pn sp kp : Pos} {j : Nat} (hn : PE X (.Name x pn) (tVar i)) : PE X (.Subscript (.Name x pn) (.Constant (.int 0) j kp) sp) (dE p (fCell i)) :=
  (pe_ix ix_list hn pe_int (fun _ _ => rfl)).imp fun σ H Q ⟨B, ρ, c, S, m⟩ => by
    unfold fCell at m
    split at m
    · rename_i e
      obtain ⟨o, e1, a', e2, e3⟩ := S.slot i _ e
      subst e3
      exact ⟨_, e1, a', [.int c], 0, .int c, rfl, rfl, SqL.of (S.cel a' e2).1, rfl, m _ B H S (Same.refl _) (.int _)⟩
    · exact m.elim
def sCell (i : Nat) (f : FE) : FS := fun ρ c => match ρ[i]? with
  | some .ce => (f ρ c).bind fun d _ => match d with
    | .int n => .ok (.nx ρ) n
    | _ => .no
  | _ => .no
theorem Sta.cellSet {B H : Hp} {σ : St} {ρ : En} {c : Int} (S : Sta p B H σ ρ c) {a : Addr} (h : p.C = some a) (n : Int) : Sta p B (upd H a (.lst [.int n])) σ ρ n := by
  obtain ⟨q1, q2, q3⟩ := S.cel a h
  refine ⟨fun b x e => ?_, S.ext, S.new, fun b x e q => ?_, fun b e => ?_, S.len, S.ln, fun i s e => ?_, S.apart⟩
  · rw [upd_ne (ne_of_none e q2)]; exact S.sub b x e
  · rw [upd_ne (fun z => by subst z; exact q h)]; exact S.keep b x e q
  · rw [h] at e
    cases e
    exact ⟨upd_same, q2, q3⟩
  · obtain ⟨x, e1, k⟩ := S.slot i s e
    refine ⟨x, e1, ?_⟩
    cases s with
    | un => trivial
    | dt d => exact k
    | ow ds =>
      obtain ⟨b, zs, l1, l2, l3, l4, l5⟩ := k
      refine ⟨b, zs, l1, ?_, l3, l4, l5⟩
      rw [upd_ne (fun z => by subst z; exact q3 l4)]
      exact l2
    | ce => exact k
    | sc ns => exact k
    | xn x =>
      obtain ⟨b, dd, D, ns, vs, l1, l2, l3, l4, l5, l6⟩ := k
      exact ⟨b, dd, D, ns, vs, l1, l2, l3, by rw [upd_ne (fun z => by subst z; rw [q1] at l4; cases l4)]; exact l4, l5, l6⟩
theorem ds_cell (i : Nat) {pn sp kp : Pos} {j : Nat} (hn : PE X (.Name x pn) (tVar i)) (ha : PE X a (dE p f))
    (hg : ∀ v, assign (.Subscript (.Name x pn) (.Constant (.int 0) j kp) sp) X.env v = (do
      let ov ← holding [v] (eval (.Name x pn) X.env)
      let iv ← holding [v, ov] (eval (.Constant (.int 0) j kp) X.env)
      standAt sp
      holding [v, ov, iv] (setItem ov iv v)
      release [v, ov, iv] []) := by intro _; rfl)
    (hs : swapsWithSole [.Subscript (.Name x pn) (.Constant (.int 0) j kp) sp] a pos.line X.env = pure false := by rfl) (hw : swappedStores [.Subscript (.Name x pn) (.Constant (.int 0) j kp) sp] a X.env = pure none := by rfl)
    (h1 : (assignEach [.Subscript (.Name x pn) (.Constant (.int 0) j kp) sp] X.env).map (·.2) = [assign (.Subscript (.Name x pn) (.Constant (.int 0) j kp) sp) X.env] := by rfl) :
    PS X (.Assign [.Subscript (.Name x pn) (.Constant (.int 0) j kp) sp] a pos) (dS p (sCell i f)) :=
  (ps_asg ha (pg_sub hn pe_int set_list hg) hs hw h1).imp fun D σ H ⟨B, ρ, c, S, m⟩ => by
    unfold sCell at m
    split at m
    · rename_i e
      refine ⟨B, ρ, c, S, PostS.bE m fun d c1 v B1 H1 S1 r1 s1 m1 => ?_⟩
      obtain ⟨o, e1, a', e2, e3⟩ := S1.slot i _ e
      subst e3
      split at m1
      · rename_i n
        have rv := r1.of_int
        subst rv
        exact ⟨_, e1, a', [.int c1], 0, 0, rfl, rfl, (S1.cel a' e2).1, rfl, m1 σ B1 _ (S1.cellSet e2 n) (Same.refl _)⟩
      · exact m1.elim
    · exact m.elim
/-- reading an own list: x[e], len(x), its truth -/
def fOwIx (i : Nat) (f : FE) : FE := fun ρ c => match ρ[i]? with
  | some (.ow ds) => (f ρ c).bind fun d c1 => ofO (dIx (.list ds) d) c1
  | some (.dt e) => (f ρ c).bind fun d c1 => ofO (dIx e d) c1
  | _ => .no
theorem de_owIx (hk : p.K = X.K) (i : Nat) {pn sp : Pos} (hn : PE X (.Name x pn) (tVar i)) (hp : PlainIx a) (ha : PE X a (dE p f)) : PE X (.Subscript (.Name x pn) a sp) (dE p (fOwIx i f)) :=
  (pe_ix (ix_list.or (vix)) hn ha hp).imp fun σ H Q ⟨B, ρ, c, S, m⟩ => by
    unfold fOwIx at m
    split at m
    · rename_i ds e
      obtain ⟨o, e1, a', xs, k1, k2, k3, k4, k5⟩ := S.slot i _ e
      subst k1
      refine ⟨_, e1, B, ρ, c, S, m.bE fun d c1 v B1 H1 S1 r1 s1 m1 => ?_⟩
      obtain ⟨o2, e2, a2, xs2, l1, l2, l3, l4, l5⟩ := S1.slot i _ e
      rw [e1] at e2
      cases e2
      cases l1
      obtain ⟨d', e', q⟩ := ofO_ok m1
      unfold dIx at e'
      split at e'
      · rename_i hx
        cases hx
        obtain ⟨w, e3, r⟩ := atI_rp l5 e'
        exact .inl ⟨a', xs2, _, w, rfl, r1.of_int, SqL.of l2, e3, q w B1 H1 S1 (Same.refl _) r⟩
      · rename_i hx; cases hx
      · rename_i hx; cases hx
      · cases e'
    · rename_i d0 e
      obtain ⟨o, e1, v0, k1, k2⟩ := S.slot i _ e
      subst k1
      refine ⟨_, e1, B, ρ, c, S, m.bE fun d c1 v B1 H1 S1 r1 s1 m1 => ?_⟩
      obtain ⟨d', e', q⟩ := ofO_ok m1
      exact .inr ⟨B1, d0, d, d', S1.sub, hk ▸ k2.mono s1, hk ▸ r1, e', fun v' B' H' G r => q v' B' H' (S1.grow G) G.b (hk ▸ r)⟩
    · exact m.elim
end
end DL
end L2

set_option Elab.async false
set_option linter.all false
set_option maxRecDepth 100000
namespace L2
open PySem PySem.Spec PyProof.Rows
namespace DL
/-! ### what is walked -/
structure WalkD (K : PySem.W.Frag) (J : It) (ds : List PyData) (B1 : Hp) : Prop where
  goes : ∀ i B2 H, i < ds.length → Same B1 B2 → Same B2 H → J.go i H
  stops : ∀ B2 H, Same B1 B2 → Same B2 H → J.stop ds.length H
  yields : ∀ i B2 H x H', i < ds.length → Same B1 B2 → Same B2 H → J.yld i H x H' → ∃ B3 d, Gw B2 H B3 H' ∧ ds[i]? = some d ∧ Rp K B3 x d
def PostI (p : Par) (σ : St) (ρ : En) (B : Hp) (T : It → Hp → Prop) : R (List PyData) → Prop
  | .ok ds c' => ∀ J B' H', Sta p B' H' σ ρ c' → Same B B' → WalkD p.K J ds B' → T J H'
  | .ex x c' => ∀ B' H' cls d, Sta p B' H' σ ρ c' → Same B B' → ExOk p.K p.xt B' H' cls d x → p.W cls d σ H'
  | .no => False
def dI (p : Par) (f : FL) : TI := fun σ H T => ∃ B ρ c, Sta p B H σ ρ c ∧ PostI p σ ρ B T (f ρ c)
theorem PostI.from {p : Par} {σ : St} {ρ : En} {B B' : Hp} {T : It → Hp → Prop} {r : R (List PyData)} (h : PostI p σ ρ B T r) (s : Same B B') : PostI p σ ρ B' T r := by
  cases r with
  | ok d c => exact fun J B2 H2 S z => h J B2 H2 S (s.trans z)
  | ex x c => exact fun B2 H2 cls d S z e => h B2 H2 cls d S (s.trans z) e
  | no => exact h
theorem PostI.bE {p : Par} {σ : St} {ρ : En} {B : Hp} {T : It → Hp → Prop} {Q' : VK} {r : R PyData} {k : PyData → Int → R (List PyData)} (h : PostI p σ ρ B T (r.bind k))
    (hq : ∀ d c' v B' H', Sta p B' H' σ ρ c' → Rp p.K B' v d → Same B B' → PostI p σ ρ B' T (k d c') → Q' v H') : PostE p σ ρ B Q' r := by
  cases r with
  | ok d c => exact fun v B2 H2 S z r => hq d c v B2 H2 S r z (PostI.from h z)
  | ex x c => exact h
  | no => exact h
theorem PostI.bA {p : Par} {σ : St} {ρ : En} {B : Hp} {T : It → Hp → Prop} {Q' : List V → Hp → Prop} {r : R (List Sl)} {k : List Sl → Int → R (List PyData)} (h : PostI p σ ρ B T (r.bind k))
    (hq : ∀ d c' v B' H', Sta p B' H' σ ρ c' → ArA p.K p.C B' v d → Same B B' → PostI p σ ρ B' T (k d c') → Q' v H') : PostA p σ ρ B Q' r := by
  cases r with
  | ok d c => exact fun v B2 H2 S z r => hq d c v B2 H2 S r z (PostI.from h z)
  | ex x c => exact h
  | no => exact h
theorem walkD_list {K : PySem.W.Frag} {B : Hp} {a : Addr} {xs : List V} {ds : List PyData} (h : B a = some (.lst xs)) (r : RpA K B xs ds) : WalkD K (Itl K a) ds B where
  goes := fun i B2 H hi s1 s2 => by
    obtain ⟨v, e, _⟩ := r.get (List.getElem?_eq_getElem hi)
    exact ⟨xs, v, SqL.of (s2 _ _ (s1 _ _ h)), e⟩
  stops := fun B2 H s1 s2 => ⟨xs, SqL.of (s2 _ _ (s1 _ _ h)), by rw [r.len]; exact Nat.le_refl _⟩
  yields := fun i B2 H x H' hi s1 s2 y => by
    obtain ⟨e, y⟩ := y
    subst e
    have e2 := y xs (SqL.of (s2 _ _ (s1 _ _ h)))
    obtain ⟨d, e3, rd⟩ := r.get' e2
    exact ⟨B2, d, Gw.refl s2, e3, rd.mono s1⟩
theorem walkD_tup {K : PySem.W.Frag} {B : Hp} {a : Addr} {xs : List V} {ds : List PyData} (h : SqT K B a xs) (r : RpA K B xs ds) : WalkD K (Itt K a) ds B where
  goes := fun i B2 H hi s1 s2 => by
    obtain ⟨v, e, _⟩ := r.get (List.getElem?_eq_getElem hi)
    exact ⟨xs, v, Same.seqT s2 (Same.seqT s1 h), e⟩
  stops := fun B2 H s1 s2 => ⟨xs, Same.seqT s2 (Same.seqT s1 h), by rw [r.len]; exact Nat.le_refl _⟩
  yields := fun i B2 H x H' hi s1 s2 y => by
    obtain ⟨e, y⟩ := y
    subst e
    have e2 := y xs (Same.seqT s2 (Same.seqT s1 h))
    obtain ⟨d, e3, rd⟩ := r.get' e2
    exact ⟨B2, d, Gw.refl s2, e3, rd.mono s1⟩
def chars (z : Str) : List PyData := z.cps.toList.map fun c => .str ⟨#[c]⟩
theorem walkD_str {K : PySem.W.Frag} {B : Hp} (z : Str) : WalkD K (Its z) (chars z) B where
  goes := fun i B2 H hi _ _ => by
    simp only [chars, List.length_map, Array.length_toList] at hi
    exact hi
  stops := fun B2 H _ _ => by
    simp only [chars, List.length_map, Array.length_toList]
    exact Nat.le_refl _
  yields := fun i B2 H x H' hi _ s2 y => by
    obtain ⟨e, c, h1, h2⟩ := y
    subst e h2
    refine ⟨B2, .str ⟨#[c]⟩, Gw.refl s2, ?_, .str _⟩
    simp only [chars, List.getElem?_map, Array.getElem?_toList, h1, Option.map_some]
/-- lo, lo + 1, .. -/
def rngD (lo : Int) (n : Nat) : List PyData := (List.range n).map fun (i : Nat) => .int (lo + i)
theorem walkD_range {K : PySem.W.Frag} {B : Hp} (lo : Int) (n : Nat) : WalkD K (Itr lo n) (rngD lo n) B where
  goes := fun i B2 H hi _ _ => by
    simp only [rngD, List.length_map, List.length_range] at hi
    exact hi
  stops := fun B2 H _ _ => by
    simp only [rngD, List.length_map, List.length_range]
    exact Nat.le_refl _
  yields := fun i B2 H x H' hi _ s2 y => by
    obtain ⟨e, h2⟩ := y
    subst e h2
    simp only [rngD, List.length_map, List.length_range] at hi
    refine ⟨B2, .int (lo + i), Gw.refl s2, ?_, .int _⟩
    simp only [rngD, List.getElem?_map, List.getElem?_range hi, Option.map_some]
section
variable {X : Cx} {p : Par} {pos pp : Pos} {k : Nat} {a b tg : Expr} {f g : FE} {fa : FA}
/-- a list, a tuple, a text -/
def asSeq : PyData → Option (List PyData)
  | .list ds => some ds
  | .tuple ds => some ds
  | .str z => some (chars z)
  | _ => none
def lIt (f : FE) : FL := fun ρ c => (f ρ c).bind fun d c1 => ofO (asSeq d) c1
theorem di_seq (hk : p.K = X.K) (ha : PE X a (dE p f)) : PI X tg a (dI p (lIt f)) := by
  refine ⟨fun pins s σ H T I ⟨B, ρ, c, S, m⟩ => ?_⟩
  unfold lIt at m
  cases q : f ρ c with
  | no => rw [q] at m; exact m.elim
  | ex x c1 =>
    rw [q] at m
    refine (pi_list (tg := tg) ha).run pins s σ H T I ⟨B, ρ, c, S, ?_⟩
    rw [q]
    exact m
  | ok d c1 =>
    rw [q] at m
    simp only [R.bind] at m
    cases d with
    | list ds =>
      refine (pi_list (tg := tg) ha).run pins s σ H T I ⟨B, ρ, c, S, ?_⟩
      rw [q]
      intro v B1 H1 S1 s1 r1
      cases r1 with
      | lst h1 a1 => exact ⟨_, rfl, ⟨_, SqL.of (S1.sub _ _ h1)⟩, hk ▸ m _ B1 H1 S1 s1 (walkD_list h1 a1)⟩
    | tuple ds =>
      refine (pi_tup (tg := tg) ha).run pins s σ H T I ⟨B, ρ, c, S, ?_⟩
      rw [q]
      intro v B1 H1 S1 s1 r1
      cases r1 with
      | tup h1 a1 => exact ⟨_, rfl, ⟨_, hk ▸ Same.seqT S1.sub h1⟩, hk ▸ m _ B1 H1 S1 s1 (walkD_tup h1 a1)⟩
    | str z =>
      refine (pi_str (tg := tg) ha).run pins s σ H T I ⟨B, ρ, c, S, ?_⟩
      rw [q]
      intro v B1 H1 S1 s1 r1
      exact ⟨z, r1.of_str, m _ B1 H1 S1 s1 (walkD_str z)⟩
    | _ => exact m.elim
def rngOk (i : Int) : Bool := decide (i.natAbs < 2 ^ 62)
def rng1 : List Sl → Option (List PyData)
  | [.dt (.int j)] => if rngOk j then some (rngD 0 j.toNat) else none
  | _ => none
def rng2 : List Sl → Option (List PyData)
  | [.dt (.int i), .dt (.int j)] => if rngOk i && rngOk j then some (rngD i (j - i).toNat) else none
  | _ => none
def lRng (r : List Sl → Option (List PyData)) (fa : FA) : FL := fun ρ c => (fa ρ c).bind fun ss c1 => ofO (r ss) c1
theorem di_rng1 (hg : Gl X "range") (hm : X.mg "range" = none) (ha : PA X [a] (dA p fa)) (hs : starEach [a] X.env = [(false, eval a X.env)] := by rfl) : PI X tg (.Call (.Name "range" pp) [a] [] pos) (dI p (lRng rng1 fa)) := by
  refine ⟨fun pins s σ H T I ⟨B, ρ, c, S, m⟩ => (pi_range1 (tg := tg) hg hm ha hs).run pins s σ H T I ⟨B, ρ, c, S, PostI.bA m fun ss c1 vs B1 H1 S1 a1 s1 m1 => ?_⟩⟩
  unfold rng1 at m1
  split at m1
  · rename_i j
    split at m1
    · rename_i hf
      simp only [rngOk, Bool.and_eq_true, decide_eq_true_eq] at hf
      cases a1 with
      | cons h t =>
        cases t
        have e := Rp.of_int h
        exact ⟨j, by rw [e], by omega, by omega, m1 _ B1 H1 S1 (Same.refl _) (walkD_range 0 j.toNat)⟩
    · exact m1.elim
  · exact m1.elim
theorem di_rng2 (hg : Gl X "range") (hm : X.mg "range" = none) (ha : PA X [a, b] (dA p fa)) (hs : starEach [a, b] X.env = [(false, eval a X.env), (false, eval b X.env)] := by rfl) (hs2 : starEach [b] X.env = [(false, eval b X.env)] := by rfl) :
    PI X tg (.Call (.Name "range" pp) [a, b] [] pos) (dI p (lRng rng2 fa)) := by
  refine ⟨fun pins s σ H T I ⟨B, ρ, c, S, m⟩ => (pi_range2 (tg := tg) hg hm ha hs hs2).run pins s σ H T I ⟨B, ρ, c, S, PostI.bA m fun ss c1 vs B1 H1 S1 a1 s1 m1 => ?_⟩⟩
  unfold rng2 at m1
  split at m1
  · rename_i i j
    split at m1
    · rename_i hf
      simp only [rngOk, Bool.and_eq_true, decide_eq_true_eq] at hf
      cases a1 with
      | cons h t =>
        cases t with
        | cons h2 t2 =>
          cases t2
          have e := Rp.of_int h
          have e2 := Rp.of_int h2
          exact ⟨i, j, by rw [e, e2], ⟨by omega, by omega, by omega, by omega⟩, m1 _ B1 H1 S1 (Same.refl _) (walkD_range i (j - i).toNat)⟩
    · exact m1.elim
  · exact m1.elim
end

/-! ### for, while -/
def forD (t : FG) (g : FS) : List PyData → En → Int → R Fl
  | [], ρ, c => .ok (.nx ρ) c
  | d :: ds, ρ, c => match t d ρ with
    | none => .no
    | some ρ1 => (g ρ1 c).bind fun fl c1 => match fl with
      | .nx ρ2 => forD t g ds ρ2 c1
      | .ct ρ2 => forD t g ds ρ2 c1
      | .bk ρ2 => .ok (.nx ρ2) c1
      | .rt d => .ok (.rt d) c1
def sFor (fi : FL) (t : FG) (g : FS) : FS := fun ρ c => (fi ρ c).bind fun ds c1 => forD t g ds ρ c1
/-- behind a loop's turn -/
theorem turn_ok {p : Par} {B : Hp} {D : Ends} {r : R Fl} {go : En → Int → R Fl} {N : St → Hp → Prop}
    (m : PostS p B D (r.bind fun fl c1 => match fl with
      | .nx ρ2 => go ρ2 c1
      | .ct ρ2 => go ρ2 c1
      | .bk ρ2 => .ok (.nx ρ2) c1
      | .rt d => .ok (.rt d) c1))
    (hN : ∀ σ' B' H' ρ' c', Sta p B' H' σ' ρ' c' → Same B B' → PostS p B' D (go ρ' c') → N σ' H') : PostS p B { D with nx := N, ct := N, bk := D.nx } r := by
  match r, m with
  | .ok (.nx ρ2) c1, m => exact fun σ' B' H' S s => hN σ' B' H' ρ2 c1 S s (PostS.from m s)
  | .ok (.ct ρ2) c1, m => exact fun σ' B' H' S s => hN σ' B' H' ρ2 c1 S s (PostS.from m s)
  | .ok (.bk ρ2) c1, m => exact m
  | .ok (.rt d) c1, m => exact m
  | .ex x c1, m => exact m
  | .no, m => exact m
section
variable {X : Cx} {p : Par} {pos : Pos} {k : Nat} {tg iter cnd : Expr} {body : List Stmt} {fi : FL} {t : FG} {vs : List Nat} {g : FS} {ft : FT}
theorem ds_for (Z : Cz X p k) (hi : PI X tg iter (dI p fi)) (hg : PG X tg (dG p vs t)) (hb : PSs X body (dS p g)) (hs : ∀ x, foldedSetIterable iter X.env x = pure x := by intro _; rfl) : PS X (.For tg iter body [] pos) (dS p (sFor fi t g)) :=
  (ps_for Z.po Z.calm hi hg hb hs).imp fun D σ H ⟨B, ρ, c, S, m⟩ => by
    refine ⟨B, ρ, c, S, ?_⟩
    unfold sFor at m
    cases q : fi ρ c with
    | no => rw [q] at m; exact m.elim
    | ex x c1 => rw [q] at m; exact fun B2 H2 cls d S2 z e => m σ ρ B2 H2 cls d S2 z e
    | ok ds c1 =>
      rw [q] at m
      intro J B1 H1 S1 s1 W
      refine ⟨fun i n σ' H' => n = ds.length - i ∧ i ≤ ds.length ∧ ∃ B' ρ' c', Sta p B' H' σ' ρ' c' ∧ Same B1 B' ∧ PostS p B' D (forD t g (ds.drop i) ρ' c'), ⟨ds.length, by simp, Nat.zero_le _, B1, ρ, c1, S1, Same.refl _, PostS.from m s1⟩, ?_⟩
      rintro i n σ2 H2 ⟨rfl, hi2, B2, ρ2, c2, S2, s2, m2⟩
      by_cases hlt : i < ds.length
      · have ed : ds.drop i = ds[i] :: ds.drop (i + 1) := List.drop_eq_getElem_cons hlt
        rw [ed] at m2
        unfold forD at m2
        refine .inr ⟨W.goes i B2 H2 hlt s2 S2.sub, fun σ' H' => ∃ B' ρ' c', Sta p B' H' σ' ρ' c' ∧ Same B1 B' ∧ PostS p B' D (forD t g (ds.drop (i + 1)) ρ' c'),
          fun σ' H' ⟨B', ρ', c', S', s', m'⟩ => ⟨ds.length - (i + 1), by omega, rfl, hlt, B', ρ', c', S', s', m'⟩, fun x H3 y => ?_⟩
        obtain ⟨B3, d, G3, e3, r3⟩ := W.yields i B2 H2 x H3 hlt s2 S2.sub y
        rw [List.getElem?_eq_getElem hlt] at e3
        cases e3
        refine ⟨B3, ρ2, c2, _, S2.grow G3, r3, ?_⟩
        cases q2 : t ds[i] ρ2 with
        | none => rw [q2] at m2; exact m2.elim
        | some ρ3 =>
          rw [q2] at m2
          refine fun σ4 B4 H4 S4 s4 _ => ⟨B4, ρ3, c2, S4, turn_ok (PostS.from m2 (G3.b.trans s4)) fun σ5 B5 H5 ρ5 c5 S5 s5 m5 => ⟨B5, ρ5, c5, S5, ?_, m5⟩⟩
          exact s2.trans (G3.b.trans (s4.trans s5))
      · have ei : i = ds.length := by omega
        subst ei
        rw [List.drop_length] at m2
        exact .inl ⟨W.stops B2 H2 s2 S2.sub, m2 σ2 B2 H2 S2 (Same.refl _)⟩
/-- while: by so many turns at most -/
def whD (ft : FT) (g : FS) : Nat → En → Int → R Fl
  | 0, _, _ => .no
  | n + 1, ρ, c => (ft ρ c).bind fun k c1 => if k = true then (g ρ c1).bind fun fl c2 => match fl with
      | .nx ρ2 => whD ft g n ρ2 c2
      | .ct ρ2 => whD ft g n ρ2 c2
      | .bk ρ2 => .ok (.nx ρ2) c2
      | .rt d => .ok (.rt d) c2
    else .ok (.nx ρ) c1
open Classical in
noncomputable def sWh (ft : FT) (g : FS) : FS := fun ρ c => if h : ∃ n, whD ft g n ρ c ≠ .no then whD ft g (Classical.choose h) ρ c else .no
theorem ds_while (Z : Cz X p k) (hc : PT X cnd (dT p ft)) (hb : PSs X body (dS p g)) : PS X (.While cnd body [] pos) (dS p (sWh ft g)) :=
  (ps_while Z.po hc hb).imp fun D σ H ⟨B, ρ, c, S, m⟩ => by
    unfold sWh at m
    split at m
    · rename_i hx
      generalize Classical.choose hx = n0 at m
      refine ⟨fun n σ' H' => ∃ B' ρ' c', Sta p B' H' σ' ρ' c' ∧ PostS p B' D (whD ft g n ρ' c'), ⟨n0, B, ρ, c, S, m⟩, ?_⟩
      rintro n σ1 H1 ⟨B1, ρ1, c1, S1, m1⟩
      cases n with
      | zero => exact m1.elim
      | succ n =>
        unfold whD at m1
        refine ⟨B1, ρ1, c1, S1, PostS.bT m1 fun kk c2 B2 H2 S2 s2 m2 => ?_⟩
        cases kk with
        | true =>
          simp only [if_true] at m2 ⊢
          refine ⟨fun σ' H' => ∃ B' ρ' c', Sta p B' H' σ' ρ' c' ∧ PostS p B' D (whD ft g n ρ' c'), fun σ' H' q => ⟨n, Nat.lt_succ_self n, q⟩, B2, ρ1, c2, S2, turn_ok m2 fun σ5 B5 H5 ρ5 c5 S5 s5 m5 => ⟨B5, ρ5, c5, S5, m5⟩⟩
        | false =>
          simp only [if_false, Bool.false_eq_true] at m2 ⊢
          exact m2 σ1 B2 H2 S2 (Same.refl _)
    · exact m.elim
theorem whD_mono {ft : FT} {g : FS} : ∀ (n m : Nat) (ρ : En) (c : Int), n ≤ m → whD ft g n ρ c ≠ .no → whD ft g m ρ c = whD ft g n ρ c := by
  intro n
  induction n with
  | zero => intro m ρ c _ h; exact absurd rfl h
  | succ n ih =>
    intro m ρ c hm h
    cases m with
    | zero => omega
    | succ m =>
      unfold whD at h ⊢
      cases q : ft ρ c with
      | no => rfl
      | ex x c1 => rfl
      | ok kk c1 =>
        rw [q] at h
        simp only [R.bind] at h ⊢
        cases kk with
        | false => rfl
        | true =>
          simp only [if_true] at h ⊢
          cases q2 : g ρ c1 with
          | no => rfl
          | ex x c2 => rfl
          | ok fl c2 =>
            rw [q2] at h
            simp only at h ⊢
            cases fl with
            | nx ρ2 => exact ih m ρ2 c2 (by omega) h
            | ct ρ2 => exact ih m ρ2 c2 (by omega) h
            | bk ρ2 => rfl
            | rt d => rfl
theorem sWh_of {ft : FT} {g : FS} {ρ : En} {c : Int} {n : Nat} {r : R Fl} (h : whD ft g n ρ c = r) (hr : r ≠ .no) : sWh ft g ρ c = r := by
  have hx : ∃ n, whD ft g n ρ c ≠ .no := ⟨n, by rw [h]; exact hr⟩
  unfold sWh
  rw [dif_pos hx]
  have h1 := Classical.choose_spec hx
  rcases Nat.le_total n (Classical.choose hx) with l | l
  · rw [whD_mono n _ ρ c l (by rw [h]; exact hr), h]
  · rw [← whD_mono _ n ρ c l h1, h]
end

/-! ### comprehensions -/
def hide1 : Sl → Sl
  | .ow _ => .un
  | .xn _ => .un
  | s => s
def wipeE (ρ : En) : List Nat → En
  | [] => ρ
  | v :: vs => (wipeE ρ vs).set v .un
def blkE (ρ : En) (vs : List Nat) : En := wipeE (ρ.map hide1) vs
def compD (t : FG) (ft : FT) (fe : FE) (ρb : En) : List PyData → Int → R (List PyData)
  | [], c => .ok [] c
  | d :: ds, c => match t d ρb with
    | none => .no
    | some ρ1 => (ft ρ1 c).bind fun k c1 => if k = true then (fe ρ1 c1).bind fun e c2 => (compD t ft fe ρb ds c2).bind fun es c3 => .ok (e :: es) c3 else compD t ft fe ρb ds c1
def lComp (fi : FL) (vs : List Nat) (t : FG) (ft : FT) (fe : FE) : FL := fun ρ c => (fi ρ c).bind fun ds c1 => match compD t ft fe (blkE ρ vs) ds c1 with
  | .ok es c2 => if lineOk es.length then .ok es c2 else .no
  | _ => .no
theorem wipeE_len (ρ : En) : ∀ vs : List Nat, (wipeE ρ vs).length = ρ.length
  | [] => rfl
  | v :: vs => by unfold wipeE; rw [List.length_set, wipeE_len ρ vs]
theorem wipeE_get {ρ : En} {i : Nat} {s : Sl} : ∀ {vs : List Nat}, (wipeE ρ vs)[i]? = some s → s ≠ .un → ρ[i]? = some s ∧ i ∉ vs
  | [], h, _ => ⟨h, by simp⟩
  | v :: vs, h, hs => by
    unfold wipeE at h
    by_cases hv : v = i
    · subst hv
      by_cases hl : v < (wipeE ρ vs).length
      · rw [List.getElem?_set_self hl] at h; cases h; exact absurd rfl hs
      · rw [List.getElem?_eq_none (by rw [List.length_set]; omega)] at h; cases h
    · rw [List.getElem?_set_ne hv] at h
      obtain ⟨h1, h2⟩ := wipeE_get h hs
      exact ⟨h1, by simp only [List.mem_cons, not_or]; exact ⟨fun e => hv e.symm, h2⟩⟩
/-- the block's own view -/
theorem Sta.block {p : Par} {B H : Hp} {σ : St} {ρ : En} {c : Int} (S : Sta p B H σ ρ c) (vs : List Nat) (W : WX) : Sta ⟨p.K, p.C, B, H, p.xt, W, none, p.n⟩ B H (wipe σ vs) (blkE ρ vs) c where
  sub := S.sub
  ext := Same.refl _
  new := fun a h => .inl h
  keep := fun a o e _ => e
  cel := fun a e => by
    obtain ⟨q1, q2, q3⟩ := S.cel a e
    exact ⟨q1, q2, fun z => by have z' : H a = none := z; rw [q1] at z'; cases z'⟩
  len := by unfold blkE; rw [wipe_length, wipeE_len, List.length_map]; exact S.len
  ln := by rw [wipe_length]; exact S.ln
  slot := fun i s e => by
    have hi : i < σ.length := by
      have h := (List.getElem?_eq_some_iff.mp e).1
      unfold blkE at h
      rw [wipeE_len, List.length_map] at h
      rw [S.len]; exact h
    by_cases hs : s = .un
    · subst hs
      exact ⟨_, List.getElem?_eq_getElem (by rw [wipe_length]; exact hi), trivial⟩
    · obtain ⟨e1, hv⟩ := wipeE_get e hs
      rw [List.getElem?_map] at e1
      cases q : ρ[i]? with
      | none => rw [q] at e1; cases e1
      | some s0 =>
        rw [q] at e1
        simp only [Option.map_some, Option.some.injEq] at e1
        obtain ⟨o, k1, k2⟩ := S.slot i s0 q
        refine ⟨o, by rw [wipe_get, if_neg fun z => hv z.1]; exact k1, ?_⟩
        cases s0 with
        | un => simp only [hide1] at e1; exact absurd e1.symm hs
        | ow ds => simp only [hide1] at e1; exact absurd e1.symm hs
        | xn x => simp only [hide1] at e1; exact absurd e1.symm hs
        | sc ns => simp only [hide1] at e1; subst e1; exact k2
        | dt d => simp only [hide1] at e1; subst e1; exact k2
        | ce => simp only [hide1] at e1; subst e1; exact k2
  apart := fun i j a ds es e1 _ _ _ => by
    obtain ⟨q, _⟩ := wipeE_get (ρ := ρ.map hide1) e1 (fun z => nomatch z)
    rw [List.getElem?_map] at q
    cases q2 : ρ[i]? with
    | none => rw [q2] at q; cases q
    | some s0 => rw [q2] at q; cases s0 <;> simp [hide1] at q
/-- what a block leaves, seen from without -/
theorem Sta.unblock {p : Par} {B H B' H' : Hp} {σ σ' : St} {ρ ρ' : En} {c c' : Int} {W : WX} (S : Sta p B H σ ρ c) (S' : Sta ⟨p.K, p.C, B, H, p.xt, W, none, p.n⟩ B' H' σ' ρ' c') : Gr p.C B H B' H' ∧ Sta p B' H' σ ρ c' := by
  have g : Gr p.C B H B' H' := ⟨S'.ext, S'.sub, S'.new, S'.keep⟩
  exact ⟨g, S.call g fun a e => (S'.cel a e).1⟩
def W0 : WX := fun _ _ _ _ => False
/-- readings that hold for every entry -/
def anE (K : PySem.W.Frag) (C : Option Addr) (xt : List XC) (n : Nat) (f : FE) : TE := fun σ H Q => ∃ B0 H0, dE ⟨K, C, B0, H0, xt, W0, none, n⟩ f σ H Q
def anT (K : PySem.W.Frag) (C : Option Addr) (xt : List XC) (n : Nat) (f : FT) : TT := fun σ H Q => ∃ B0 H0, dT ⟨K, C, B0, H0, xt, W0, none, n⟩ f σ H Q
def anG (K : PySem.W.Frag) (C : Option Addr) (xt : List XC) (n : Nat) (vs : List Nat) (t : FG) : TG := fun v σ H Q => ∃ B0 H0, dG ⟨K, C, B0, H0, xt, W0, none, n⟩ vs t v σ H Q
theorem PTs.of_pt {X : Cx} {cnd : Expr} {t : TT} (h : PT X cnd t) : PTs X [cnd] t := pts_one h
def tYs : FT := fun _ c => .ok true c
section
variable {X : Cx} {K : PySem.W.Frag} {C : Option Addr} {B0 H0 : Hp} {xt : List XC} {W : WX} {k n : Nat} {pos : Pos} {elt tg iter : Expr} {ifs : List Expr} {scope : Scope} {own : List (Str × Nat)} {fi : FL} {t : FG} {ft : FT} {fe : FE}
theorem comp_ok {σ : St} {H : Hp} {Q : VK} {vs : List Nat} (m0 : dF ⟨K, C, B0, H0, xt, W, none, n⟩ (lComp fi vs t ft fe) σ H Q) :
    tLc (dI ⟨K, C, B0, H0, xt, W, none, n⟩ fi) (anG K C xt n vs t) (anT K C xt n ft) (anE K C xt n fe) vs σ H Q := by
  obtain ⟨B, ρ, c, S, m⟩ := m0
  refine ⟨B, ρ, c, S, ?_⟩
  unfold lComp at m
  cases q : fi ρ c with
  | no => rw [q] at m; exact m.elim
  | ex x c1 => rw [q] at m; exact m
  | ok ds c1 =>
    rw [q] at m
    intro J B1 H1 S1 s1 Wk D hD
    simp only [R.bind] at m
    cases q2 : compD t ft fe (blkE ρ vs) ds c1 with
    | no => rw [q2] at m; exact m.elim
    | ex x c2 => rw [q2] at m; exact m.elim
    | ok es cf =>
      rw [q2] at m
      simp only at m
      split at m
      · rename_i hz
        have hz' := lineOk_le hz
        have hD0 := S1.none0 hD
        have hDu := unheld_new S1 hD
        have hDB := S1.sub.free hD
        have hDC : C ≠ some D := fun z => by
          have := (S1.cel D z).1
          rw [hD] at this
          cases this
        refine ⟨fun i m' H' => m' = ds.length - i ∧ i ≤ ds.length ∧ ∃ B' c' acc as rs, Sta ⟨K, C, B0, H0, xt, W, none, n⟩ B' H' σ ρ c' ∧ Same B1 B' ∧ B' D = none ∧ H' D = some (.lst acc) ∧ RpA K B' acc as ∧ compD t ft fe (blkE ρ vs) (ds.drop i) c' = .ok rs cf ∧ es = as ++ rs,
          ⟨ds.length, by simp, Nat.zero_le _, B1, c1, [], [], es, S1.grow (Gw.held S1.sub _ hD), Same.refl _, hDB, upd_same, .nil, q2, rfl⟩, ?_⟩
        rintro i m' H2 ⟨rfl, hi2, B2, c2, acc, as, rs, S2, s2, d2, h2, r2, cp, ee⟩
        by_cases hlt : i < ds.length
        · have ed : ds.drop i = ds[i] :: ds.drop (i + 1) := List.drop_eq_getElem_cons hlt
          rw [ed] at cp
          unfold compD at cp
          refine .inr ⟨Wk.goes i B2 H2 hlt s2 S2.sub, fun H' => ∃ B' c' acc as rs, Sta ⟨K, C, B0, H0, xt, W, none, n⟩ B' H' σ ρ c' ∧ Same B1 B' ∧ B' D = none ∧ H' D = some (.lst acc) ∧ RpA K B' acc as ∧ compD t ft fe (blkE ρ vs) (ds.drop (i + 1)) c' = .ok rs cf ∧ es = as ++ rs,
            fun H' z => ⟨ds.length - (i + 1), by omega, rfl, hlt, z⟩, fun x H3 y => ?_⟩
          obtain ⟨B3, d, G3, e3, r3⟩ := Wk.yields i B2 H2 x H3 hlt s2 S2.sub y
          rw [List.getElem?_eq_getElem hlt] at e3
          cases e3
          have S3 := S2.grow G3
          have d3 : B3 D = none := by
            cases z : B3 D with
            | none => rfl
            | some o =>
              rcases G3.n D (by rw [z]; exact fun z => nomatch z) with z2 | z2
              · exact absurd d2 z2
              · rw [h2] at z2; cases z2
          have h3 := G3.k _ _ h2
          have Sb := S3.block vs W0
          cases q3 : t ds[i] (blkE ρ vs) with
          | none => rw [q3] at cp; cases cp
          | some ρ1 =>
            rw [q3] at cp
            simp only at cp
            refine ⟨B3, H3, B3, blkE ρ vs, c2, _, Sb, r3, ?_⟩
            rw [q3]
            refine fun σ4 B4 H4 S4 s4 w4 => ⟨by rw [w4]; apply List.ext_getElem?; intro j; rw [wipe_get, wipe_get, wipe_length]; by_cases hj : j ∈ vs ∧ j < σ.length <;> simp [hj], B3, H3, B4, ρ1, c2, S4, ?_⟩
            cases q4 : ft ρ1 c2 with
            | no => rw [q4] at cp; cases cp
            | ex x c3 => rw [q4] at cp; cases cp
            | ok kk c3 =>
              rw [q4] at cp
              simp only [R.bind] at cp
              intro B5 H5 S5 s5
              have gD : ∀ {B' H' σ' ρ' c'}, Sta ⟨K, C, B3, H3, xt, W0, none, n⟩ B' H' σ' ρ' c' → B' D = none ∧ H' D = some (.lst acc) := fun {B' H' σ' ρ' c'} S' => by
                refine ⟨?_, S'.keep D _ h3 hDC⟩
                cases z : B' D with
                | none => rfl
                | some o =>
                  rcases S'.new D (by rw [z]; exact fun z => nomatch z) with z2 | z2
                  · exact absurd d3 z2
                  · have z3 : H3 D = none := z2
                    rw [h3] at z3; cases z3
              cases kk with
              | false =>
                simp only [if_false, Bool.false_eq_true] at cp ⊢
                obtain ⟨g5, U5⟩ := S3.unblock S5
                obtain ⟨x1, x2⟩ := gD S5
                exact ⟨B5, c3, acc, as, rs, U5, s2.trans (G3.b.trans g5.b), x1, x2, r2.mono (G3.b.trans g5.b), cp, ee⟩
              | true =>
                simp only [if_true] at cp ⊢
                refine ⟨B3, H3, B5, ρ1, c3, S5, ?_⟩
                cases q5 : fe ρ1 c3 with
                | no => rw [q5] at cp; cases cp
                | ex x c4 => rw [q5] at cp; cases cp
                | ok e c4 =>
                  rw [q5] at cp
                  simp only at cp
                  cases q6 : compD t ft fe (blkE ρ vs) (ds.drop (i + 1)) c4 with
                  | no => rw [q6] at cp; cases cp
                  | ex x c5 => rw [q6] at cp; cases cp
                  | ok rs2 c5 =>
                    rw [q6] at cp
                    cases cp
                    intro v B6 H6 S6 s6 r6
                    obtain ⟨g6, U6⟩ := S3.unblock S6
                    obtain ⟨x1, x2⟩ := gD S6
                    refine ⟨acc, x2, ?_, B6, c4, acc ++ [v], as ++ [e], rs2, U6.poke x1 hD0 hDu, s2.trans (G3.b.trans g6.b), x1, upd_same, (r2.mono (G3.b.trans g6.b)).app (.cons r6 .nil), q6, by rw [ee, List.append_assoc]; rfl⟩
                    rw [r2.len]
                    have : es.length = as.length + (rs2.length + 1) := by rw [ee, List.length_append, List.length_cons]
                    omega
        · have ei : i = ds.length := by omega
          subst ei
          rw [List.drop_length] at cp
          unfold compD at cp
          cases cp
          rw [List.append_nil] at ee
          subst ee
          exact .inl ⟨Wk.stops B2 H2 s2 S2.sub, m D acc B2 H2 S2 (s1.trans s2) h2 d2 hD0 hDu r2⟩
      · exact m.elim
theorem Cz.blk (Z : Cz X ⟨K, C, B0, H0, xt, W, none, n⟩ k) (s : Shared) (H : Hp) (Cc : Addr) (cl : List (Str × Addr)) (fp : List Addr) (B1 H1 : Hp) : Cz (X.blk s H scope (compEnvC scope cl Cc X.env) fp) ⟨K, C, B1, H1, xt, W0, none, n⟩ k :=
  ⟨Z.hk, Z.room, Z.gd, Z.calm, Z.nd, takes0, PassesOwn.never⟩
theorem df_lc (Z : Cz X ⟨K, C, B0, H0, xt, W, none, n⟩ k) (hi : PI X tg iter (dI ⟨K, C, B0, H0, xt, W, none, n⟩ fi)) (ok : BlkOk X.N X.env.scope scope own)
    (hg : ∀ (s : Shared) (H : Hp) (Cc : Addr) (cl : List (Str × Addr)) (fp : List Addr) (B1 H1 : Hp), Cz (X.blk s H scope (compEnvC scope cl Cc X.env) fp) ⟨K, C, B1, H1, xt, W0, none, n⟩ k → PG (X.blk s H scope (compEnvC scope cl Cc X.env) fp) tg (dG ⟨K, C, B1, H1, xt, W0, none, n⟩ (own.map (·.2)) t))
    (ht : ∀ (s : Shared) (H : Hp) (Cc : Addr) (cl : List (Str × Addr)) (fp : List Addr) (B1 H1 : Hp), Cz (X.blk s H scope (compEnvC scope cl Cc X.env) fp) ⟨K, C, B1, H1, xt, W0, none, n⟩ k → PTs (X.blk s H scope (compEnvC scope cl Cc X.env) fp) ifs (dT ⟨K, C, B1, H1, xt, W0, none, n⟩ ft))
    (he : ∀ (s : Shared) (H : Hp) (Cc : Addr) (cl : List (Str × Addr)) (fp : List Addr) (B1 H1 : Hp), Cz (X.blk s H scope (compEnvC scope cl Cc X.env) fp) ⟨K, C, B1, H1, xt, W0, none, n⟩ k → PE (X.blk s H scope (compEnvC scope cl Cc X.env) fp) elt (dE ⟨K, C, B1, H1, xt, W0, none, n⟩ fe))
    (hs : ∀ x, foldedSetIterable iter X.env x = pure x := by intro _; rfl) :
    PE X (.ListComp elt [⟨tg, iter, ifs, 0⟩] scope pos) (dF ⟨K, C, B0, H0, xt, W, none, n⟩ (lComp fi (own.map (·.2)) t ft fe)) :=
  (pe_lc Z.calm Z.nd hi ok (g := anG K C xt n (own.map (·.2)) t) (tt := anT K C xt n ft) (te := anE K C xt n fe)
    (fun s H Cc cl fp => ⟨fun pins s' σ H' v u Q I r ⟨B1, H1, z⟩ => (hg s H Cc cl fp B1 H1 (Z.blk s H Cc cl fp B1 H1)).run pins s' σ H' v u Q I r z⟩)
    (fun s H Cc cl fp => ⟨fun pins s' σ H' Q I ⟨B1, H1, z⟩ => (ht s H Cc cl fp B1 H1 (Z.blk s H Cc cl fp B1 H1)).run pins s' σ H' Q I z⟩)
    (fun s H Cc cl fp => ⟨fun pins s' σ H' Q I ⟨B1, H1, z⟩ => (he s H Cc cl fp B1 H1 (Z.blk s H Cc cl fp B1 H1)).run pins s' σ H' Q I z⟩) hs).imp fun _ _ _ h => comp_ok h
theorem dts_nil {X : Cx} {p : Par} : PTs X [] (dT p tYs) := ⟨fun pins s σ H Q I ⟨B, ρ, c, S, m⟩ => pts_nil.run pins s σ H Q I (m B H S (Same.refl _))⟩
/-- y = [..] on one line -/
theorem ds_lc {i : Nat} {y : Str} {py spos : Pos} (Z : Cz X ⟨K, C, B0, H0, xt, W, none, n⟩ k) (hy : X.N[i]? = some y) (hyl : X.env.scope.names.lookup y = some .local)
    (hsw : swapsWith (.ListComp elt [⟨tg, iter, ifs, 0⟩] scope pos) (some (.Name y py)) spos.line X.env = pure true) (hi : PI X tg iter (dI ⟨K, C, B0, H0, xt, W, none, n⟩ fi)) (ok : BlkOk X.N X.env.scope scope own)
    (hg : ∀ (s : Shared) (H : Hp) (Cc : Addr) (cl : List (Str × Addr)) (fp : List Addr) (B1 H1 : Hp), Cz (X.blk s H scope (compEnvC scope cl Cc X.env) fp) ⟨K, C, B1, H1, xt, W0, none, n⟩ k → PG (X.blk s H scope (compEnvC scope cl Cc X.env) fp) tg (dG ⟨K, C, B1, H1, xt, W0, none, n⟩ (own.map (·.2)) t))
    (ht : ∀ (s : Shared) (H : Hp) (Cc : Addr) (cl : List (Str × Addr)) (fp : List Addr) (B1 H1 : Hp), Cz (X.blk s H scope (compEnvC scope cl Cc X.env) fp) ⟨K, C, B1, H1, xt, W0, none, n⟩ k → PTs (X.blk s H scope (compEnvC scope cl Cc X.env) fp) ifs (dT ⟨K, C, B1, H1, xt, W0, none, n⟩ ft))
    (he : ∀ (s : Shared) (H : Hp) (Cc : Addr) (cl : List (Str × Addr)) (fp : List Addr) (B1 H1 : Hp), Cz (X.blk s H scope (compEnvC scope cl Cc X.env) fp) ⟨K, C, B1, H1, xt, W0, none, n⟩ k → PE (X.blk s H scope (compEnvC scope cl Cc X.env) fp) elt (dE ⟨K, C, B1, H1, xt, W0, none, n⟩ fe))
    (hs : ∀ x, foldedSetIterable iter X.env x = pure x := by intro _; rfl) :
    PS X (.Assign [.Name y py] (.ListComp elt [⟨tg, iter, ifs, 0⟩] scope pos) spos) (dS ⟨K, C, B0, H0, xt, W, none, n⟩ (sOw i (lComp fi (own.map (·.2)) t ft fe))) :=
  (ps_setLc (i := i) Z.calm Z.nd hy hyl hsw hi ok (g := anG K C xt n (own.map (·.2)) t) (tt := anT K C xt n ft) (te := anE K C xt n fe)
    (fun s H Cc cl fp => ⟨fun pins s' σ H' v u Q I r ⟨B1, H1, z⟩ => (hg s H Cc cl fp B1 H1 (Z.blk s H Cc cl fp B1 H1)).run pins s' σ H' v u Q I r z⟩)
    (fun s H Cc cl fp => ⟨fun pins s' σ H' Q I ⟨B1, H1, z⟩ => (ht s H Cc cl fp B1 H1 (Z.blk s H Cc cl fp B1 H1)).run pins s' σ H' Q I z⟩)
    (fun s H Cc cl fp => ⟨fun pins s' σ H' Q I ⟨B1, H1, z⟩ => (he s H Cc cl fp B1 H1 (Z.blk s H Cc cl fp B1 H1)).run pins s' σ H' Q I z⟩) hs).imp fun D σ H ⟨B, ρ, c, S, m⟩ =>
    comp_ok (Q := fun x H1 => gName i x σ H1 D.nx) ⟨B, ρ, c, S, PostS.bL m fun ds c1 a xs B1 H1 S1 s1 e1 e2 e3 u r m1 => m1 _ B1 H1 (S1.setOw e1 e2 e3 u r) (Same.refl _)⟩
end
end DL
end L2

set_option Elab.async false
set_option linter.all false
set_option maxRecDepth 100000
namespace L2
open PySem PySem.Spec PyProof.Rows
namespace DL
/-! ### a def of the text -/
section
variable {P : Program} {w : World} {K : PySem.W.Frag} {mg : Str → Option Value} {base : Heap} {C : Option Addr} {xt : List XC}
/-- by its body, as L2.fn_of, the guards told -/
theorem fnG_of {k : Nat} {f : Addr} {nm qual : Str} {params : Arguments} {body : List Stmt} {scope : Scope} {dV kV doc pm cdv ct oc : Value} {an od : Option Addr} {osl : Array (Option Value)} {N ps : List Str} {sp : Sp}
    (lk : K.lookup f = some ⟨oc, od, .func (PySem.W.fnOf nm qual params body scope dV kV doc pm an cdv ct), osl⟩) (hcd : PySem.W.codeIn K cdv qual = true) (S : FnScope N ps scope) (len : ∀ vs H Q E, sp vs H Q E → vs.length = ps.length)
    (hbody : ∀ (A : Around) (outer : List Env) (s : Shared) (H : Hp) (vs : List V) (Q : VK) (E : XK), Room k (A.deeper (envOfC qual scope s.heap.objs.size f cdv)) → A.guards = some [] → sp vs H Q E →
      ∃ t, PSs (cxOf (L2.CX P w) P w K mg base N qual scope f cdv A outer s H E) body t ∧ t { nx := fun _ H' => Q .non H', rt := Q } (start N vs) H) :
    FnG P w K mg base (k + 1) f (PySem.W.fnOf nm qual params body scope dV kV doc pm an cdv ct) ps sp where
  len := len
  run := by
    intro A outer s H args us vs Q E hr hg e0 hb r hsp
    have hlen := len vs H Q E hsp
    have KX : K.In s.heap := e0.mod.kin.keeps (fun b o e => (e0.bs b o e).1)
    have lim : s.heap.NoLimit := e0.mod.nolimit.keeps (fun b o e => (e0.bs b o e).1)
    have kinds : ∀ y ∈ ps.zip us, scope.names.lookup y.1 = some .local ∨ (scope.names.lookup y.1 = some .cell ∧ ((cellsFrom (s.heap.objs.size + 1) scope.names []).lookup y.1).isSome = true) := by
      rintro ⟨n, v⟩ hy
      rcases S.par n (List.of_mem_zip hy).1 with z | z
      · exact Or.inl z
      · exact Or.inr ⟨z, PySem.W.cellsFrom_some _ _ _ (Or.inl z)⟩
    refine codeAny_call_function hr.depth (KX _ _ lk) rfl S.co S.gen rfl (PySem.W.codeRec_of KX hcd) (hb _ _ _ _ ?_)
    refine wpAny_newFunctionEnv_cells S.kind kinds fun env he s1 x => ?_
    subst he
    refine ⟨lim.keeps x.toInCall.keep, codeAny_func ?_⟩
    obtain ⟨t, ht, hq⟩ := hbody A outer s H vs Q E (hr.deeper _) hg hsp
    have I0 : Inv (cxOf (L2.CX P w) P w K mg base N qual scope f cdv A outer s H E) [] (start N vs) H s1 := inv_start S hr.hd e0 hlen r x
    refine wpAny_mono (ht.run [] s1 (start N vs) H _ I0 hq) (fun fl s' hs => ?_) (fun e s' hs => hs)
    match fl, hs with
    | .ret u, ⟨v, σ', H', J, rv, q⟩ => exact ⟨v, H', J.os, J.bare, J.base, J.hok, rv, q⟩
    | .next, ⟨σ', H', J, q⟩ => exact ⟨V.non, H', J.os, J.bare, J.base, J.hok, rfl, q⟩
    | .brk, ⟨_, _, _, q⟩ => exact q.elim
    | .cont, ⟨_, _, _, q⟩ => exact q.elim
/-- the meaning of a def by the meaning of its body: n slots -/
def mOf (n : Nat) (g : FS) : MF := fun ss c => match g (ss ++ List.replicate (n - ss.length) .un) c with
  | .ok (.nx _) c' => .ok .none c'
  | .ok (.rt d) c' => .ok d c'
  | .ok (.bk _) _ => .no
  | .ok (.ct _) _ => .no
  | .ex x c' => .ex x c'
  | .no => .no
theorem start_get {N : List Str} {vs : List V} {i : Nat} {o : Option V} (h : (start N vs)[i]? = some o) : o = vs[i]? := by
  unfold start at h
  by_cases hi : i < vs.length
  · rw [List.getElem?_append_left (by simpa using hi), List.getElem?_map, List.getElem?_eq_getElem hi] at h
    rw [List.getElem?_eq_getElem hi]
    cases h
    rfl
  · rw [List.getElem?_append_right (by simpa using hi), List.getElem?_replicate] at h
    rw [List.getElem?_eq_none (by omega)]
    split at h <;> cases h
    rfl
theorem sta_start {B H : Hp} {N : List Str} {vs : List V} {ss : List Sl} {c : Int} {W : WX} (hn : vs.length ≤ N.length) (sb : Same B H) (hc : CelOk C H c) (hB : ∀ a, C = some a → B a = none) (h : ArA K C B vs ss) :
    Sta ⟨K, C, B, H, xt, W, none, N.length⟩ B H (start N vs) (ss ++ List.replicate (N.length - ss.length) .un) c where
  sub := sb
  ext := Same.refl _
  new := fun a q => .inl q
  keep := fun a o e _ => e
  cel := fun a e => ⟨hc a e, hB a e, fun z => by have z' : H a = none := z; rw [hc a e] at z'; cases z'⟩
  len := by
    unfold start
    rw [List.length_append, List.length_append, List.length_map, List.length_replicate, List.length_replicate, h.len]
  ln := by
    unfold start
    rw [List.length_append, List.length_map, List.length_replicate]
    show vs.length + (N.length - vs.length) = N.length
    omega
  slot := fun i s e => by
    have hl := h.len
    have hi : i < (start N vs).length := by
      have := (List.getElem?_eq_some_iff.mp e).1
      rw [List.length_append, List.length_replicate] at this
      unfold start
      rw [List.length_append, List.length_map, List.length_replicate]
      omega
    refine ⟨_, List.getElem?_eq_getElem hi, ?_⟩
    rw [start_get (List.getElem?_eq_getElem hi)]
    by_cases hs : i < ss.length
    · rw [List.getElem?_append_left hs] at e
      have key : ∀ {vs : List V} {ss : List Sl}, ArA K C B vs ss → ∀ {i : Nat}, ss[i]? = some s → ∃ v, vs[i]? = some v ∧ ArOk K C B v s := by
        intro vs ss h
        induction h with
        | nil => intro i e; simp at e
        | cons h t ih =>
          intro i e
          cases i with
          | zero => simp at e; subst e; exact ⟨_, rfl, h⟩
          | succ i => simpa using ih (by simpa using e)
      obtain ⟨v, e1, k⟩ := key h e
      rw [e1]
      cases s with
      | un => exact k.elim
      | dt d => exact ⟨v, rfl, k⟩
      | ow ds => exact k.elim
      | ce => obtain ⟨a, k1, k2⟩ := k; subst k2; exact ⟨a, k1, rfl⟩
      | xn x => exact k.elim
      | sc ns => obtain ⟨a, k1, k2⟩ := k; subst k1; exact ⟨a, rfl, k2⟩
    · rw [List.getElem?_append_right (by omega), List.getElem?_replicate] at e
      split at e
      · cases e; trivial
      · cases e
  apart := fun i j a ds es e1 _ _ _ => by
    exfalso
    by_cases hs : i < ss.length
    · rw [List.getElem?_append_left hs] at e1
      have bad : ∀ {vs : List V} {ss : List Sl}, ArA K C B vs ss → ∀ {i : Nat}, ss[i]? = some (.ow ds) → False := by
        intro vs ss h
        induction h with
        | nil => intro i e; simp at e
        | cons h t ih =>
          intro i e
          cases i with
          | zero => simp at e; subst e; exact h
          | succ i => exact ih (by simpa using e)
      exact bad h e1
    · rw [List.getElem?_append_right (by omega), List.getElem?_replicate] at e1
      split at e1 <;> cases e1
/-- THE RULE of a def: its body's derivation -/
theorem fng_of {x qual : Str} {st : Stmt} {f : Addr} {fd : FuncData} {N ps : List Str} {k : Nat} {g : FS} (F : Fun K x qual st f fd) (S : FnScope N ps (defScope st))
    (body : ∀ (cdv : Value) (A : Around) (outer : List Env) (s : Shared) (H : Hp) (E : XK) (B : Hp),
      Cz (cxOf (L2.CX P w) P w K mg base N qual (defScope st) f cdv A outer s H E) ⟨K, C, B, H, xt, fun cls d _ H' => E cls d H', none, N.length⟩ k →
      PSs (cxOf (L2.CX P w) P w K mg base N qual (defScope st) f cdv A outer s H E) (defBody st) (dS ⟨K, C, B, H, xt, fun cls d _ H' => E cls d H', none, N.length⟩ g)) :
    FnG P w K mg base (k + 1) f fd ps (spD K C xt ps.length (mOf N.length g)) := by
  obtain ⟨oc, od, kV, doc, pm, an, cdv, ct, osl, rfl, lk, hcd⟩ := F.ex
  refine fnG_of lk hcd S (fun vs H Q E h => h.1) fun A outer s H vs Q E hr hg hsp => ?_
  obtain ⟨hl, B, ss, c, sb, hc, hB, ha, post⟩ := hsp
  have Z : Cz (cxOf (L2.CX P w) P w K mg base N qual (defScope st) f cdv A outer s H E) ⟨K, C, B, H, xt, fun cls d _ H' => E cls d H', none, N.length⟩ k :=
    ⟨rfl, hr, hg, rfl, S.nd, takes_of rfl rfl rfl rfl, passes_of rfl⟩
  have hpl : ps.length ≤ N.length := by have := congrArg List.length S.pre; rw [List.length_take] at this; omega
  refine ⟨_, body cdv A outer s H E B Z, B, _, c, sta_start (by omega) sb hc hB ha, ?_⟩
  unfold mOf at post
  have out : ∀ {B' H' : Hp} {σ' : St} {ρ' : En} {c' : Int}, Sta ⟨K, C, B, H, xt, fun cls d _ H' => E cls d H', none, N.length⟩ B' H' σ' ρ' c' → Gr C B H B' H' ∧ CelOk C H' c' := fun {B' H' σ' ρ' c'} S' =>
    ⟨⟨S'.ext, S'.sub, S'.new, S'.keep⟩, fun a e => (S'.cel a e).1⟩
  generalize hr' : g (ss ++ List.replicate (N.length - ss.length) .un) c = r at post
  match r, post with
  | .ok (.nx _) c', post => exact fun σ' B' H' S' s' => post .non B' H' (out S').1 (out S').2 .non
  | .ok (.rt d) c', post => exact fun v σ' ρ' B' H' S' s' r' => post v B' H' (out S').1 (out S').2 r'
  | .ex x c', post => exact fun σ' ρ' B' H' cls d S' s' e' => post B' H' cls d (out S').1 (out S').2 e'
  | .no, post => exact post.elim
  | .ok (.bk _) _, post => exact post.elim
  | .ok (.ct _) _, post => exact post.elim
theorem kn_of {x qual : Str} {st : Stmt} {f : Addr} {fd : FuncData} {N ps : List Str} {k : Nat} {g : FS} (F : Fun K x qual st f fd) (hm : mg x = some (.ref f)) (hb : Binds K fd ps []) (S : FnScope N ps (defScope st))
    (body : ∀ (cdv : Value) (A : Around) (outer : List Env) (s : Shared) (H : Hp) (E : XK) (B : Hp),
      Cz (cxOf (L2.CX P w) P w K mg base N qual (defScope st) f cdv A outer s H E) ⟨K, C, B, H, xt, fun cls d _ H' => E cls d H', none, N.length⟩ k →
      PSs (cxOf (L2.CX P w) P w K mg base N qual (defScope st) f cdv A outer s H E) (defBody st) (dS ⟨K, C, B, H, xt, fun cls d _ H' => E cls d H', none, N.length⟩ g)) :
    Kn P w K mg base C xt x (k + 1) ps.length (mOf N.length g) := ⟨f, fd, ps, rfl, hm, F.kp, hb, fng_of F S body⟩
end
end DL
end L2

set_option Elab.async false
set_option linter.all false
set_option maxRecDepth 100000
set_option maxHeartbeats 1000000
/-! The program's own errors: class X over AwryError over ValueError, whose __init__ (its own or its base's) says super().__init__(nm); self.nm = nm. -/
namespace PySem
namespace AwX
open PySem.W PySem.Calls PyProof.Rows PySem.HandSPX
def iA (nm : Str) (p1 p2 : Pos) : Arguments := { posonlyargs := [], args := [{ arg := "self", annotation := .none, pos := p1 }, { arg := nm, annotation := .none, pos := p2 }], vararg := .none, kwonlyargs := [], kw_defaults := [], kwarg := .none, defaults := [] }
def iB (nm : Str) (p0 p1 p2 p3 p4 p5 q1 q2 q3 q4 : Pos) : List Stmt :=
  [.Expr (.Call (.Attribute (.Call (.Name "super" p0) [] [] p1) "__init__" p2) [.Name nm p3] [] p4) p5, .Assign [.Attribute (.Name "self" q1) nm q2] (.Name nm q3) q4]
def iS (nm : Str) : Scope := { kind := .function, names := [(PySem.Str.ofString "self", .local), (nm, .local), (PySem.Str.ofString "__class__", .free), (PySem.Str.ofString "super", .globalImplicit)], isGenerator := false, isCoroutine := false, more := [] }
/-- what the written part says of X at C, of the __init__ at fI that class D says, of D's cell cc -/
structure XTxt (prog : Program) (K : Frag) (mg : Str → Option Value) (x : Str) (C fI : Addr) (nm : Str) : Prop where
  gC : mg x = some (.ref C)
  cls : ∃ nm' q N bs bm sn sub ab col dd k0 k1 k2 k3 k5, K.lookup C = some (excClassObj nm' q C N bs bm true sn sub ab col dd k0 k1 k2 k3 k5 "ValueError.__new__") ∧ refsVE bm = true
  sa : findIn K (.ref C) "__setattr__" = some (some (.builtin "object.__setattr__"))
  ga : findIn K (.ref C) "__getattribute__" = some (some (.builtin "BaseException.__getattribute__"))
  gg : findIn K (.ref C) "__getattr__" = some none
  noN : findIn K (.ref C) nm = some none
  iC : findIn K (.ref C) "__init__" = some (some (.ref fI))
  tC : typeIn K (.ref fI) = some (.type "function")
  kC : keepIn K (.ref C) = true
  exC : subIn K (.ref C) (.type "BaseException") = some true
  tyC : typeIn K (.ref C) = some (.type "type")
  hdC : hasDictIn K C = true
  veC : subIn K (.ref C) (.type "ValueError") = some true
  tp : nsIn K cStatics "thirdparty.any" = some none
  sup : mg "super" = none
  top : (prog.main.scope.names.lookup ("super" : Str)).isSome = false
  fn : ∃ (oc : Value) (od : Option Addr) (qual : Str) (doc pm : Value) (an : Option Addr) (cda cc D : Addr) (ct : Value) (osl : Array (Option Value)) (p1 p2 r0 r1 r2 r3 r4 r5 q1 q2 q3 q4 : Pos) (vs : Array Value) (file : Str) (tf : Tok) (ccl cl : Value) (cdd cld : Option Addr) (ccs csl : Array (Option Value)) (cdD : ClassData),
    K.lookup fI = some ⟨oc, od, .func (fnX "__init__" qual (iA nm p1 p2) (iB nm r0 r1 r2 r3 r4 r5 q1 q2 q3 q4) (iS nm) [("__class__", cc)] .none .none doc pm an (.ref cda) ct), osl⟩ ∧ codeIn K (.ref cda) qual = true ∧
    K.lookup cda = some ⟨ccl, cdd, .fields vs, ccs⟩ ∧ vs[2]? = some (.str file tf) ∧ ((prog.main.file : Str) == file) = true ∧
    K.lookup cc = some ⟨cl, cld, .cell (some (.ref D)), csl⟩ ∧ clsIn K D = some cdD ∧ mroIn K C (.ref D) = some true ∧ ks_superIn K C D "__init__" = some (some (.builtin "ValueError.__init__")) ∧ (r2.endLine == r4.line) = true
/-- the name of the field, as the scope finds it -/
structure NmOk (nm : Str) : Prop where
  a : (iS nm).names.lookup nm = some .local
  b : (iS nm).names.lookup ("super" : Str) = some .globalImplicit
  c : (iS nm).names.lookup ("__class__" : Str) = some .free
  d : (nm == ("__debug__" : Str)) = false
  e : ((PySem.Str.ofString "self" : Str) == nm) = false
  bind : ∀ (qual : Str) (body : List Stmt) (doc pm cdv ct : Value) (an : Option Addr) (cc : Addr) (p1 p2 : Pos) (a b : Value),
    bindArgs (fnX "__init__" qual (iA nm p1 p2) body (iS nm) [("__class__", cc)] .none .none doc pm an cdv ct) ⟨[a, b], []⟩ = pure [((PySem.Str.ofString "self" : Str), a), (nm, b)]
theorem nm_reason : NmOk "reason" := ⟨rfl, rfl, rfl, by decide, by decide, fun _ _ _ _ _ _ _ _ _ _ _ _ => by first | rfl | with_unfolding_all rfl⟩
theorem nm_at : NmOk "at" := ⟨rfl, rfl, rfl, by decide, by decide, fun _ _ _ _ _ _ _ _ _ _ _ _ => by first | rfl | with_unfolding_all rfl⟩
theorem nm_line : NmOk "line" := ⟨rfl, rfl, rfl, by decide, by decide, fun _ _ _ _ _ _ _ _ _ _ _ _ => by first | rfl | with_unfolding_all rfl⟩
structure InitEnd (h h' : Heap) (x C dx t1 : Addr) (nm : Str) (v : Value) : Prop where
  keep : ∀ b o, b ≠ x → h.get? b = some o → h'.get? b = some o
  obj : h'.get? x = some { cls := .ref C, dict := some dx, data := .fields #[.ref t1, .none, .none, .none, .bool false, .none] }
  dbig : h.objs.size ≤ dx
  dne : dx ≠ x
  ns : h'.Ns1 dx (fun y => if y = nm then some v else none)
section
variable {prog : Program} {w : World} {A : Around} {E : Value → Shared → Prop} {R : Result → Shared → Prop} {s : Shared} {K : Frag} {mg : Str → Option Value} {x : Str} {C fI : Addr} {nm : Str}
/-- the bound ValueError.__init__ is called: the args are laid anew -/
theorem mw_call {h : Heap} {g : Array GenState} {d : Drawn} {t : Nat} {os : OsState} {u e t0 : Addr} {rest : List Value} {Q : Value → Shared → Prop} {nm' q : Str} {N : Addr} {bs bm : List Value} {hdct : Bool} {sn : List Str} {sub : List Value} {ab : Bool} {col : Option Bool} {dd : Option Addr} {k0 k1 k2 k3 k5 : Option Value}
    (hC : h.get? C = some (excClassObj nm' q C N bs bm hdct sn sub ab col dd k0 k1 k2 k3 k5 "ValueError.__new__")) (he : h.get? e = some (excO C t0)) (hu : h.get? u = some (kxs_mw "ValueError.__init__" e)) (hz : rest.length ≤ sizeLine)
    (hq : ∀ h', (∀ b o, b ≠ e → h.get? b = some o → h'.get? b = some o) → h'.get? e = some (excO C h.objs.size) → Q .none ⟨h', g, d, t, os⟩) : wpAny (model prog w) A (call (.ref u) rest) Q E ⟨h, g, d, t, os⟩ := by
  refine wpAny_call (codeAny_of_tree (show wpAny _ A.in1 (callAny (.ref u) _) _ _ _ from ?_))
  simp only [callAny]
  refine wpAny_bind (wpAny_load hu (?_ : wpAny _ _ _ _ _ _))
  rw [show (kxs_mw "ValueError.__init__" e).cls = Value.type "method-wrapper" from rfl]
  simp only [show ((Value.type "method-wrapper" == .type "method") || (Value.type "method-wrapper" == .type "builtin_function_or_method") || (Value.type "method-wrapper" == .type "method-wrapper")) = true by decide, if_true]
  refine KFB.if_so (by decide) ?_
  refine wpAny_bind (check_bound_init (PySem.F.excBase_ValueError).toExcCallFacts hC he rfl ?_)
  refine wpAny_bind (wpAny_pure (wpAny_pure (⟨plainId_quiet (PySem.F.excBase_ValueError).init.plain _, codeAny_builtin (PySem.F.excBase_ValueError).initEntry ?_⟩)))
  exact exc_init_tree (cls := .ref C) (dv := none) (c2 := .none) (c3 := .none) (b4 := .bool false) he hz fun h' k e' _ => hq h' k e'
/-- o.m(e) on one line: how it is evaluated -/
theorem eval_meth1 {env : Env} {o e : Expr} {name : Str} {ap cp : Pos} (hl : (ap.endLine == cp.line) = true) (he : starEach [e] env = [(false, eval e env)]) : eval (.Call (.Attribute o name ap) [e] [] cp) env = (do
      let ov ← attributeBase o name env (eval o env)
      standAt ap.atName
      let (f, first) ← holding [ov] (getMethod ov name (do return (← importBound o env).getD true))
      callWith cp f first (backTo cp (starEach [e] env)) []) := by
  rw [arm_eval_Call]
  have hp : methodCallPos true o env ap cp = pure cp := by unfold methodCallPos; simp [hl]
  have hf : methodCallForm ([e].length + ([] : List Keyword).length) (backTo cp (starEach [e] env)) (backToKw cp (keywordEach [] env)) = true := by rw [he]; rfl
  unfold methodCall
  rw [hf, hp]
  simp only [calleeOf, if_true, pure_bind]
  rfl
theorem ax_init (T : XTxt prog K mg x C fI nm) (hn : NmOk nm) {e t0 : Addr} {v : Value} (X : K.In s.heap) (hlim : s.heap.NoLimit) (hG : s.heap.Ns mainGlobals mg) (hB : ∃ mb, s.heap.Ns builtinsNs mb ∧ mb "super" = bootBuiltins "super")
    (hx : s.heap.get? e = some (excO C t0)) (hnx : K.lookup e = none) (hroom : A.depth < recursionLimit)
    (hq : ∀ h' tk dx t1, InitEnd s.heap h' e C dx t1 nm v → R (.ok (.ret .none)) { s with heap := h', toks := tk }) : codeAny (model prog w) A (.call (.ref fI) ⟨[.ref e, v], []⟩) R s := by
  obtain ⟨oc, od, qual, doc, pm, an, cda, cc, D, ct, osl, p1, p2, r0, r1, r2, r3, r4, r5, q1, q2, q3, q4, vs, file, tf, ccl, cl, cdd, cld, ccs, csl, cdD, f1, f2, f3, f4, f5, f6, f7, f8, f9, f10⟩ := T.fn
  obtain ⟨nm', q, N, bs, bm, sn, sub, ab, col, dd, k0, k1, k2, k3, k5, hC, hbm⟩ := T.cls
  have hcl : clsIn K C = some { name := nm', bases := bs, mro := .ref C :: bm, ns := N, qualname := q, hasDict := true, slotNames := sn, subclasses := sub, abstract := ab, collection := col, hasDel := false } := by unfold clsIn; rw [hC] <;> rfl
  obtain ⟨mb, hB1, hB2⟩ := hB
  have hbind : BindsTo s (fnX "__init__" qual (iA nm p1 p2) (iB nm r0 r1 r2 r3 r4 r5 q1 q2 q3 q4) (iS nm) [("__class__", cc)] .none .none doc pm an (.ref cda) ct) ⟨[.ref e, v], []⟩ [("self", .ref e), (nm, v)] := BindsTo.of_eq (hn.bind _ _ _ _ _ _ _ _ _ _ _ _)
  refine ks_codeAny_call_defAt (body := iB nm r0 r1 r2 r3 r4 r5 q1 q2 q3 q4) hroom (X _ _ f1) rfl hlim (codeRec_of X f2) rfl hbind ?_ ?_ (fun h1 hns hk => ?_) rfl rfl rfl
  · intro y hy
    simp only [iS, List.mem_cons, List.not_mem_nil, or_false] at hy
    rcases hy with rfl | rfl | rfl | rfl <;> (intro z; cases z)
  · intro y hy
    simp only [List.mem_cons, List.not_mem_nil, or_false] at hy
    rcases hy with rfl | rfl
    · rfl
    · exact hn.a
  have k1 : ∀ b o, s.heap.get? b = some o → h1.get? b = some o := hk
  have X1 : K.In h1 := X.keeps k1
  have hx1 := k1 _ _ hx
  have lself : (fun y => List.lookup y (List.reverse [(("self" : Str), Value.ref e), (nm, v)])) "self" = some (.ref e) := by
    simp only [List.reverse_cons, List.reverse_nil, List.nil_append, List.cons_append, List.lookup, hn.e, beq_self_eq_true]
  have lnm : (fun y => List.lookup y (List.reverse [(("self" : Str), Value.ref e), (nm, v)])) nm = some v := by simp [List.lookup]
  have hbD : ∃ oD, h1.get? D = some oD ∧ oD.data = .cls cdD := by
    unfold clsIn at f7
    split at f7
    · rename_i c0 d0 cd0 sl0 ho0
      cases f7
      exact ⟨_, X1 _ _ ho0, rfl⟩
    · cases f7
  obtain ⟨oD, hD1, hD2⟩ := hbD
  refine ks_wpAt_execs_cons (ks_wpAt_Expr_any (ks_wpAt_MethodCall ?_ (eval_meth1 f10 rfl)) rfl rfl)
  refine ks_wpAt_super_base hn.b hn.c (by decide) rfl (X1 _ _ f1) rfl rfl rfl (X1 _ _ f3) rfl f4 f5 T.top ?_
  refine ks_loadName_global rfl hn.b (loadGlobal_builtin (hG.keeps k1) T.sup (hB1.keeps k1) (hB2.trans (by decide +kernel)) ⟨rfl, ?_⟩)
  refine wpAny_loadName_free rfl hn.c rfl ⟨_, X1 _ _ f6, rfl⟩ ?_
  refine wpAny_loadName_local rfl rfl hns lself ?_
  refine ks_wpAny_isType_cls hD1 hD2 ⟨rfl, ?_⟩
  refine ks_wpAny_call_super hD1 hD2 hx1 rfl (fun c z => by cases z) (looks_mroIn X1 f8) (fun h2 e2 k2 => ?_)
  have X2 : K.In h2 := X1.keeps k2
  have hx2 := k2 _ _ hx1
  have hCne : e ≠ C := fun z => by
    have q := X1 _ _ hC
    rw [← z, hx1] at q
    cases q
  have I2 : InstAt h2 e (excO C t0) C none := ⟨hx2, rfl, rfl, trivial⟩
  have hm : Looks (model prog w) h2 (mroOf (.ref C)) (.ref C :: bm) := fun A Q E s k q => wpAny_bind ((looks_clsIn X2 hcl) A _ E s k (wpAny_pure q))
  have hal : alongIn K "__init__" (((Value.ref C :: bm).dropWhile (· != .ref D)).drop 1) = some (some (.builtin "ValueError.__init__")) := by
    have z := f9
    unfold ks_superIn at z
    rw [hcl] at z
    exact z
  refine kxs_getMethod kxs_ValueError e2 (looks_opaque X2 T.tp) hm rfl X2 hal (I2.type.andThen (looks_subIn X2 T.veC)) hCne (by decide) ?_
  have k3 : ∀ b o, h2.get? b = some o → (h2.push (kxs_mw "ValueError.__init__" e)).get? b = some o := fun b o z => Heap.get?_push_of_some _ z
  refine kxs_callWith (i := "ValueError.__init__") (x := e) rfl (evalArgs_plain ?_)
  show wpAny _ _ (spliced [(false, eval (.Name nm r3) _)]) _ _ _
  have k13 : ∀ b o, h1.get? b = some o → (h2.push (kxs_mw "ValueError.__init__" e)).get? b = some o := fun b o z => k3 b o (k2 b o z)
  refine Calls.spliced_cons (wpAny_Name (wpAny_loadName_local rfl hn.a (hns.keeps k13) lnm ?_) hn.d)
  refine Calls.spliced_nil ⟨Heap.get?_push_size _ rfl, ?_⟩
  have X3 : K.In (h2.push (kxs_mw "ValueError.__init__" e)) := X2.keeps k3
  refine mw_call (X3 _ _ hC) (k3 _ _ hx2) (Heap.get?_push_size _ rfl) (by show 1 ≤ sizeLine; rw [sizeLine_eq]; decide) (fun h4 k4 e4 => ?_)
  -- self.nm = nm
  have k04 : ∀ b o, b ≠ e → s.heap.get? b = some o → h4.get? b = some o := fun b o hb z => k4 b o hb (k3 b o (k2 b o (k1 b o z)))
  have eL : s.heap.objs.size ≠ e := Nat.ne_of_gt (Heap.lt_size hx)
  have X4 : K.In h4 := fun a o z => k04 a o (fun y => by rw [y, hnx] at z; cases z) (X a o z)
  obtain ⟨oL, esL, epL, hL, restL⟩ := hns
  have hns4 : h4.Ns s.heap.objs.size (fun x => List.lookup x [(PySem.Str.ofString "self", Value.ref e), (nm, v)].reverse) := ⟨oL, esL, epL, k4 _ _ eL (k13 _ _ hL), restL⟩
  refine wpAt_of_wpAny ?_
  refine wpAny_execs_cons (plainObj_wpAny_Assign_Attribute ?_ rfl)
  refine wpAny_Name (wpAny_loadName_local rfl hn.a hns4 lnm ?_) hn.d
  refine wpAny_Name (wpAny_loadName_local rfl rfl hns4 lself ?_) (by decide)
  have I4 : InstAt h4 e (excO C (h2.push (kxs_mw "ValueError.__init__" e)).objs.size) C none := ⟨e4, rfl, rfl, trivial⟩
  refine set_plain X4 I4 T.sa ?_
  refine exc_osa X4 e4 hcl (show refsVE (.ref C :: bm) = true from hbm) rfl T.noN (fun h5 tk5 dx k5 dn dne e5 n5 => ?_)
  have big : s.heap.objs.size ≤ h4.objs.size := by
    exact Nat.le_of_lt (Heap.lt_size (k4 _ _ eL (k13 _ _ hL)))
  refine wpAny_execs_nil (hq h5 tk5 dx _ ⟨fun b o hb z => k5 b o hb (k04 b o hb z), e5, Nat.le_trans big dn, dne, n5⟩)
/-- X(v) made -/
structure Made1 (h h' : Heap) (e C d : Addr) (nm : Str) (v : Value) : Prop where
  keep : ∀ b o, h.get? b = some o → h'.get? b = some o
  new : h.objs.size ≤ e
  obj : ∃ oe vs, h'.get? e = some oe ∧ oe.cls = .ref C ∧ oe.dict = some d ∧ oe.data = .fields vs ∧ vs[1]? = some .none
  dbig : h.objs.size ≤ d
  dne : d ≠ e
  ns : h'.Ns1 d (fun y => if y = nm then some v else none)
theorem ax_made (T : XTxt prog K mg x C fI nm) (hn : NmOk nm) {v : Value} (X : K.In s.heap) (hlim : s.heap.NoLimit) (hG : s.heap.Ns mainGlobals mg) (hB : ∃ mb, s.heap.Ns builtinsNs mb ∧ mb "super" = bootBuiltins "super") (hroom : A.depth + 1 < recursionLimit)
    (hq : ∀ h' tk e d, Made1 s.heap h' e C d nm v → R (.ok (.ret (.ref e))) { s with heap := h', toks := tk }) : codeAny (model prog w) A (.call (.ref C) ⟨[v], []⟩) R s := by
  obtain ⟨nm', q, N, bs, bm, sn, sub, ab, col, dd, k0, k1, k2, k3, k5, hC, hbm⟩ := T.cls
  obtain ⟨hp, g, dr, tk, os⟩ := s
  have kp : ∀ b o, hp.get? b = some o → ((hp.push (kdv_tup [v])).push (excO C hp.objs.size)).get? b = some o := fun b o e => Heap.get?_push_of_some _ (Heap.get?_push_of_some _ e)
  have he : ((hp.push (kdv_tup [v])).push (excO C hp.objs.size)).get? (hp.objs.size + 1) = some (excO C hp.objs.size) := by heap_get
  have hnx : K.lookup (hp.objs.size + 1) = none := by
    cases z : K.lookup (hp.objs.size + 1) with
    | none => rfl
    | some o =>
      have y := Heap.lt_size (show hp.get? (hp.objs.size + 1) = some o from X _ _ z)
      exact absurd (Nat.lt_of_succ_lt y) (Nat.lt_irrefl _)
  obtain ⟨mb, hB1, hB2⟩ := hB
  refine call_own PySem.F.excBase_ValueError (fun Y => refsVE_contains Y bm hbm) (X _ _ hC) (looks_findIn X T.iC) (fun self => bind_fn X self T.tC) (by show 1 ≤ sizeLine; rw [sizeLine_eq]; decide) ?_
  refine ax_init (s := ⟨(hp.push (kdv_tup [v])).push (excO C hp.objs.size), g, dr, tk, os⟩) T hn (X.keeps kp) (hlim.keeps kp) (hG.keeps kp) ⟨mb, hB1.keeps kp, hB2⟩ he hnx (show A.depth + 1 < recursionLimit from hroom) fun h' tk' dx t1 M => ?_
  have z : hp.objs.size + 1 + 1 ≤ dx := by
    first
      | (simpa only [Heap.size_push] using M.dbig)
      | exact M.dbig
  exact ⟨rfl, hq h' tk' (hp.objs.size + 1) dx ⟨fun b o e => M.keep b o (Nat.ne_of_lt (Nat.lt_succ_of_lt (Heap.lt_size e))) (kp b o e), Nat.le_succ _, ⟨_, _, M.obj, rfl, rfl, rfl, rfl⟩, Nat.le_trans (Nat.le_trans (Nat.le_succ _) (Nat.le_succ _)) z, M.dne, M.ns⟩⟩
end
end AwX
end PySem
namespace L2
open PySem PySem.Spec PyProof.Rows
namespace DL
section
variable {X : Cx} {p : Par} {C fI : Addr} {x nm : Str} {a : Expr} {pp pos pos2 : Pos} {f : FE} {k n : Nat}
theorem relO_1 {v : V} {v' : Value} (r : RelV v v') (nm g : Str) : RelO (List.lookup g [(nm, v)]) (if g = nm then some v' else none) := by
  by_cases hw : g = nm
  · subst hw
    simp only [List.lookup, beq_self_eq_true, if_true]
    exact r
  · have qw : (g == nm) = false := by simpa using hw
    simp only [List.lookup, qw, if_neg hw]
    trivial
def tMk (C : Addr) (nm : Str) (ta : TA) : St → Hp → XK → Prop := fun σ H Q => ta σ H fun vs H1 => ∃ v, vs = [v] ∧ ∀ d, H1 d = none → Q (.ref C) (some d) (upd H1 d (.xd [(nm, v)]))
theorem pmk_x (T : PySem.AwX.XTxt X.prog X.K X.mg x C fI nm) (hn : PySem.AwX.NmOk nm) (hr : Room k X.A) {ta : TA} (ha : PA X [a] ta) (hg : Gl X x) (hdb : (x == ("__debug__" : Str)) = false)
    (he : starEach (a :: []) X.env = (false, eval a X.env) :: starEach [] X.env) (hpl : (backTo pos (starEach [] X.env)).any (·.1) = false) : PMk X (.Call (.Name x pp) [a] [] pos) (tMk C nm ta) := by
  intro pins s σ H Q I h
  refine wpAny_Call_Name_kw (ld_glob I hg T.gC ?_ hdb)
  refine PySem.W.callWith_K (h₀ := X.base) I.ok.mod.kin T.kC (thn (ha.run pos pins s σ H _ I h) fun us s1 hz => ?_) he hpl
  obtain ⟨vs, H1, I1, r1, v, ev, q1⟩ := hz
  subst ev
  refine ⟨I1.kIn, ?_⟩
  obtain ⟨u, rfl, ru⟩ := vals1 r1
  have lim := I1.nolimit
  have gG : s1.heap.Ns mainGlobals X.mg := I1.mod.glob.keeps I1.bk
  have gB : ∃ mb, s1.heap.Ns builtinsNs mb ∧ mb "super" = bootBuiltins "super" := by
    obtain ⟨mb, y1, y2⟩ := I1.mod.blt
    exact ⟨mb, y1.keeps I1.bk, y2 _ (by decide)⟩
  obtain ⟨hp, g, dr, tk, os⟩ := s1
  refine wpAny_call (PySem.AwX.ax_made (s := ⟨hp, g, dr, tk, os⟩) T hn I1.kIn lim gG gB (by have := hr.dp; omega) fun h' tk' e d M => ?_)
  show MkP X pins σ Q (.ref e) ⟨h', g, dr, tk', os⟩
  obtain ⟨oe, fv, hoe, hc, hd, hdat, hx1⟩ := M.obj
  -- the state without the exception's own object
  obtain ⟨G', g1, g2⟩ := restrict h' fun b => decide (b ≠ e)
  have gk : ∀ b, b ≠ e → G'.get? b = h'.get? b := fun b hb => g1 b (by simpa using hb)
  have ge : G'.get? e = none := g2 e (by simp)
  have old : ∀ b o, hp.get? b = some o → G'.get? b = some o := fun b o q => by
    rw [gk b (Nat.ne_of_lt (Nat.lt_of_lt_of_le (Heap.lt_size q) M.new))]
    exact M.keep b o q
  have ob : ObjOk X.prog X.w (upd H1 d (.xd [(nm, v)])) G' d (.xd [(nm, v)]) := ⟨_, M.ns.at (fun o q => (gk d M.dne).trans q), fun f => relO_1 ru nm f⟩
  have J : Inv X pins σ (upd H1 d (.xd [(nm, v)])) ⟨G', g, dr, tk', os⟩ := I1.laid (t' := tk') old M.dbig ob
  refine ⟨e, oe, fv, ⟨G', g, dr, tk', os⟩, _, .ref C, some d, rfl, J, fun b o q => ?_, ge, hoe, ⟨hc, hd⟩, hdat, hx1, ?_, rfl, I1.bare, raises_own T.exC T.tyC, q1 d (I1.hok.fresh M.dbig)⟩
  · have q' : G'.get? b = some o := q
    by_cases hb : b = e
    · rw [hb, ge] at q'; cases q'
    · show h'.get? b = some o
      rw [← gk b hb]
      exact q'
  · rw [upd_ne (Ne.symm M.dne)]
    exact I1.hok.fresh M.new
/-- raise X(e) -/
def sRaise (n : Nat) (f : FE) : FS := fun ρ c => (f ρ c).bind fun d c1 => .ex ⟨n, [d]⟩ c1
theorem ds_raise (Z : Cz X p k) (T : PySem.AwX.XTxt X.prog X.K X.mg x C fI nm) (hn : PySem.AwX.NmOk nm) (hx : p.xt[n]? = some ⟨C, [nm]⟩) (ha : PE X a (dE p f)) (hg : Gl X x) (hdb : (x == ("__debug__" : Str)) = false := by decide)
    (he : starEach (a :: []) X.env = (false, eval a X.env) :: starEach [] X.env := by rfl) (hpl : (backTo pos (starEach [] X.env)).any (·.1) = false := by rfl) : PS X (.Raise (some (.Call (.Name x pp) [a] [] pos)) none pos2) (dS p (sRaise n f)) :=
  (ps_raise Z.calm Z.tk (pmk_x T hn Z.room (pa_cons ha pa_nil he) hg hdb he hpl)).imp fun D σ H ⟨B, ρ, c, S, m⟩ =>
    ⟨B, ρ, c, S, PostS.bE m fun d c1 v B1 H1 S1 r1 s1 m1 => ⟨v, rfl, fun dd nd => m1 σ ρ B1 _ _ _ (S1.grow (Gw.held S1.sub _ nd)) (Same.refl _) ⟨C, [nm], dd, [v], hx, rfl, rfl, upd_same, .cons r1 .nil, rfl⟩⟩⟩
end
end DL
end L2

set_option Elab.async false
set_option linter.all false
set_option maxRecDepth 100000
set_option maxHeartbeats 1000000
namespace L2
open PySem PySem.Spec PyProof.Rows
namespace DL
/-! ### try .. except, several clauses, with names or without -/
structure HC where
  c : Value
  i : Option Nat
  ts : Addr → Value → Option Addr → TS
/-- the ends of a suite whose name goes behind it -/
def endsAt (i : Nat) (D : Ends) : Ends := { nx := fun σ' H' => D.nx (σ'.set i none) H', rt := D.rt, bk := fun σ' H' => D.bk (σ'.set i none) H', ct := fun σ' H' => D.ct (σ'.set i none) H' }
def wCl (K : PySem.W.Frag) (Wout : WX) (D : Ends) : List HC → WX
  | [] => Wout
  | h :: r => fun cls d σ H => ∃ b, PySem.W.exmOne K cls h.c = some b ∧ (b = true → ∀ a, H a = none → match h.i with
      | none => h.ts a cls d D σ H
      | some i => h.ts a cls d (endsAt i D) (σ.set i (some (.ref a))) H) ∧ (b = false → wCl K Wout D r cls d σ H)
/-- a suite's derivation: for every exception at hand -/
def SuiteOk (X : Cx) (sts : List Stmt) (ts : Addr → Value → Option Addr → TS) : Prop :=
  ∀ (a : Addr) (oe : Obj) (cls : Value) (d : Option Addr) (pn : List (Addr × Obj)), Zc cls d oe → (∃ vs, oe.data = .fields vs) → PSs (X.suite a ((a, oe) :: pn)) sts (ts a cls d)
inductive HsOk (X : Cx) : List ExceptHandler → List HC → Prop
  | nil : HsOk X [] []
  | plain {x : Str} {c : Value} {ts : Addr → Value → Option Addr → TS} {b₀ : Stmt} {suite : List Stmt} {np pos' : Pos} {hds : List ExceptHandler} {l : List HC} (hc : Names X x c) (hsu : SuiteOk X (b₀ :: suite) ts) (r : HsOk X hds l) :
      HsOk X (.ExceptHandler (some (.Name x np)) none (b₀ :: suite) pos' :: hds) (⟨c, none, ts⟩ :: l)
  | named {x n : Str} {i : Nat} {c : Value} {ts : Addr → Value → Option Addr → TS} {b₀ : Stmt} {suite : List Stmt} {np pos' : Pos} {hds : List ExceptHandler} {l : List HC} (hc : Names X x c) (hi : X.N[i]? = some n) (hln : X.env.kindOf n = some .local)
      (hsu : SuiteOk X (b₀ :: suite) ts) (r : HsOk X hds l) : HsOk X (.ExceptHandler (some (.Name x np)) (some n) (b₀ :: suite) pos' :: hds) (⟨c, some i, ts⟩ :: l)
section
variable {X : Cx} {pins : List (Addr × Obj)} {σ : St} {H : Hp} {sI s' : Shared} {B : Heap} {a : Addr} {cls : Value} {d : Option Addr} {D : Ends} {Wout : WX} {h3 : Heap}
/-- out of a suite -/
theorem suite_out {oe : Obj} {pn' : List (Addr × Obj)} {f : Flow} {s6 : Shared} (ok : X.Ok) (h : SP (X.suite a ((a, oe) :: (X.pn ++ pins))) pn' D f s6) : SP X pins D f s6 := by
  match f, h with
  | .next, ⟨u, G, J, q⟩ => exact ⟨u, G, J.unsuite ok, q⟩
  | .brk, ⟨u, G, J, q⟩ => exact ⟨u, G, J.unsuite ok, q⟩
  | .cont, ⟨u, G, J, q⟩ => exact ⟨u, G, J.unsuite ok, q⟩
  | .ret v, ⟨x, u, G, J, r, q⟩ => exact ⟨x, u, G, J.unsuite ok, r, q⟩
/-- the clauses, one after the other -/
theorem clauses_ok (ok : X.Ok) (hN : X.N.Nodup) (hs : X.stack = X.env :: X.outer) (hf : X.env.frame = some X.env.locals) (tk : Takes X Wout) (J : Inv X pins σ H sI) (nb : ∀ b o, sI.heap.get? b = some o → b ∉ frs X.stack → B.get? b = some o)
    (up3 : sI.heap.UpToSlots h3) (fl3 : HandSPX.FlyingZ B (X.env :: X.outer) a (Zc cls d) h3) (na : H a = none) (nL : a ≠ X.env.locals) (nF : a ∉ X.fs) (os : s'.os = sI.os) (ag : AllBare s'.gens) {hds : List ExceptHandler} {l : List HC} (hk : HsOk X hds l) :
    wCl X.K Wout D l cls d σ H → wpAny (model X.prog X.w) X.A (handleBy (.ref a) X.env hds) (SP X pins D) X.xe { s' with heap := h3 } := by
  have J3 : Inv X pins σ H { s' with heap := h3 } := J.landed nb fl3.1 up3 os ag
  obtain ⟨oe3, vs3, he3, hz3, hd3⟩ := fl3.there
  have S3 := J3.suite he3 hd3 na nL nF
  have LT : PySem.W.Looks (model X.prog X.w) h3 (typeOf (.ref a)) cls := by
    intro A Q E s k q
    exact wpAny_typeOf_ref (k _ _ he3) (by rw [hz3.1]; exact q)
  have named : ∀ {x : Str} {c : Value} {np : Pos} {Q E : Value → Shared → Prop}, Names X x c → Q c { s' with heap := h3 } → wpAny (model X.prog X.w) (X.A.mark (some (.ref a))) (eval (.Name x np) X.env) Q E { s' with heap := h3 } := by
    intro x c np Q E hc q
    rcases hc with ⟨hg, hdb, hm | ⟨hm, hv, hnn⟩⟩
    · exact ld_glob (X := X.suite a ((a, oe3) :: (X.pn ++ pins))) S3 hg hm q hdb
    · exact ld_blt (X := X.suite a ((a, oe3) :: (X.pn ++ pins))) S3 hg hm hv q hnn hdb
  induction hk with
  | nil =>
    intro w
    refine wpAny_handleBy_nil ?_
    obtain ⟨y1, y2, y3, oe, vs, T, oT, ts', he, hz, hd, hv1, hr⟩ := id fl3
    unfold PySem.passOn
    refine wpAny_bind (wpAny_field he hd hv1 ?_)
    rw [if_neg (by simp : ¬ ((Value.ref T == Value.none) = true))]
    have last : wpAny (model X.prog X.w) X.A (setFlight (.ref a) X.env.frame) (fun _ s4 => wpAny (model X.prog X.w) X.A (throw (.ref a) : Sem Flow) (SP X pins D) X.xe s4) X.xe { s' with heap := h3 } := by
      rw [hf]
      refine HandSPX.setFlight_upZ fl3 fun h4 hh4 up4 => wpAny_throw (tk _ _ ⟨a, B, sI, pins, σ, H, cls, d, rfl, J, nb, up3.trans up4, ?_, na, os, ag, w⟩)
      exact Or.inr (Or.inr (by rw [hs]; exact hh4))
    first
      | exact wpAny_bind (wpAny_pure (wpAny_bind last))
      | exact wpAny_bind last
  | @plain x c ts b₀ suite np pos' hds2 l2 hc hsu r ih =>
    intro w
    obtain ⟨b, hb1, hyes, hno⟩ := w
    refine wpAny_handleBy_cons (codeAny_handlers_test (named hc ((PySem.W.exm_one (M := model X.prog X.w) J3.kIn LT hb1).here ?_))) (by intro q; cases q)
    cases b with
    | false => exact ih (hno rfl)
    | true =>
      refine codeAny_handlers_suite (HandSPX.lands_againZ fl3 fun h4 fl4 up4 => ?_)
      have J4 : Inv X pins σ H { s' with heap := h4 } := J.landed nb fl4.1 (up3.trans up4) os ag
      obtain ⟨oe4, vs4, he4, hz4, hd4⟩ := fl4.there
      have go := (hsu a oe4 cls d (X.pn ++ pins) hz4 ⟨_, hd4⟩).run [] _ _ H _ (J4.suite he4 hd4 na nL nF) (hyes rfl a na)
      exact wpAny_mono go (fun f s6 q6 => suite_out ok q6) (fun _ _ z => z.elim)
  | @named x n i c ts b₀ suite np pos' hds2 l2 hc hi hln hsu r ih =>
    intro w
    obtain ⟨b, hb1, hyes, hno⟩ := w
    refine wpAny_handleBy_cons (codeAny_handlers_test (named hc ((PySem.W.exm_one (M := model X.prog X.w) J3.kIn LT hb1).here ?_))) (by intro q; cases q)
    cases b with
    | false => exact ih (hno rfl)
    | true =>
      refine codeAny_handlers_suite_as (HandSPX.lands_againZ fl3 fun h4 fl4 up4 => ?_)
      have J4 : Inv X pins σ H { s' with heap := h4 } := J.landed nb fl4.1 (up3.trans up4) os ag
      obtain ⟨oe4, vs4, he4, hz4, hd4⟩ := fl4.there
      refine store_ok (X := X.suite a ((a, oe4) :: (X.pn ++ pins))) (v := .ref a) (J4.suite he4 hd4 na nL nF) hN hi (Or.inl hln) rfl (fun s5 S5 => ?_) (Or.inr hln)
      have go := (hsu a oe4 cls d (X.pn ++ pins) hz4 ⟨_, hd4⟩).run [] s5 _ H _ S5 (hyes rfl a na)
      refine wpAny_mono go (fun f s6 q6 => ?_) (fun _ _ z => z.elim)
      match f, q6 with
      | .next, ⟨u, G, S6, q⟩ => exact gone_ok (S6.unsuite ok) hN hi hln fun s7 J7 => ⟨_, _, J7, q⟩
      | .brk, ⟨u, G, S6, q⟩ => exact gone_ok (S6.unsuite ok) hN hi hln fun s7 J7 => ⟨_, _, J7, q⟩
      | .cont, ⟨u, G, S6, q⟩ => exact gone_ok (S6.unsuite ok) hN hi hln fun s7 J7 => ⟨_, _, J7, q⟩
      | .ret v, ⟨y, u, G, S6, rv, q⟩ => exact gone_ok (S6.unsuite ok) hN hi hln fun s7 J7 => ⟨_, _, _, J7, rv, q⟩
end
section
variable {X : Cx} {body : List Stmt} {h₀ : ExceptHandler} {hds : List ExceptHandler} {l : List HC} {pos : Pos} {tb : WX → TS} {Wout : WX}
theorem ps_tryM (hN : X.N.Nodup) (hs : X.stack = X.env :: X.outer) (hf : X.env.frame = some X.env.locals) (tk : Takes X Wout)
    (hb : ∀ (W : WX) (pn : List (Addr × Obj)) (xe : Value → Shared → Prop), Takes (X.tr pn xe) W → PassesOwn (model X.prog X.w) X.A X.env xe → PSs (X.tr pn xe) body (tb W)) (hh : HsOk X (h₀ :: hds) l) :
    PS X (.Try body (h₀ :: hds) [] [] pos) (fun D σ H => tb (wCl X.K Wout D l) D σ H) := by
  constructor
  intro pins s σ H D I h
  have ok := I.ok
  have frm : X.A.frames = some (X.env :: X.outer) := by rw [ok.frames, hs]
  refine wpAny_Try_except ?_
  refine wpAny_mono ((hb (wCl X.K Wout D l) (X.pn ++ pins) _ (fun u s' xx => ?_) PassesOwn.looking).run [] s σ H D (I.toTry _) h) (fun f s1 hsp => ?_) (fun e s1 he => he)
  · obtain ⟨a, B, sI, pins', σ', H', cls, d, rfl, J', nb, up, sky, na, os, ag, w⟩ := xx
    have J : Inv X pins σ' H' sI := J'.ofTry ok
    have sky2 : Sky B (X.env :: X.outer) a (Zc cls d) X.env.locals s'.heap := by rw [← hs]; exact sky
    refine (show wpAny _ X.A (noteFrame (.ref a) X.env) _ _ _ from Sky.land Zc.steady frm hf sky2 fun h3 fl3 up3 => ?_)
    obtain ⟨oe3, vs3, he3, hz3, hd3⟩ := fl3.there
    have nfr : a ∉ frs (X.env :: X.outer) := fun hm => by
      obtain ⟨_, o', e', hnf⟩ := fl3.2.2.1.mem hm
      rw [he3] at e'
      cases e'
      exact hnf _ hd3
    have nL : a ≠ X.env.locals := fun z => nfr (List.mem_filterMap.mpr ⟨X.env, List.mem_cons_self, by rw [hf, z]⟩)
    have nF : a ∉ X.fs := fun hm => by
      obtain ⟨v, hv, q⟩ := List.mem_filterMap.mp hm
      exact nfr (List.mem_filterMap.mpr ⟨v, List.mem_cons_of_mem _ hv, q⟩)
    exact clauses_ok ok hN hs hf tk J nb (up.trans up3) fl3 na nL nF os ag hh w
  · match f, hsp with
    | .next, ⟨u, G, J', q⟩ => exact wpAny_execs_nil ⟨u, G, J'.ofTry ok, q⟩
    | .brk, ⟨u, G, J', q⟩ => exact ⟨u, G, J'.ofTry ok, q⟩
    | .cont, ⟨u, G, J', q⟩ => exact ⟨u, G, J'.ofTry ok, q⟩
    | .ret v, ⟨x, u, G, J', r, q⟩ => exact ⟨x, u, G, J'.ofTry ok, r, q⟩
end
end DL
end L2

set_option Elab.async false
set_option linter.all false
set_option maxRecDepth 100000
set_option maxHeartbeats 1000000
namespace L2
open PySem PySem.Spec PyProof.Rows
namespace DL
/-! ### try on data: each clause returns -/
structure HdS where
  ns : List Nat
  i : Option Nat
  f : FE
def enX (n : Nat) (i : Option Nat) (x : Xn) : En := match i with
  | none => List.replicate n .un
  | some i => (List.replicate n .un).set i (.xn x)
def noEx (r : R PyData) : R Fl := match r with
  | .ok d c => .ok (.rt d) c
  | _ => .no
def hdD (n : Nat) (hs : List HdS) (x : Xn) (c : Int) : R Fl := match hs with
  | [] => .ex x c
  | h :: r => if x.n ∈ h.ns then noEx (h.f (enX n h.i x) c) else hdD n r x c
def sTry (n : Nat) (g : FS) (hs : List HdS) : FS := fun ρ c => match g ρ c with
  | .ex x c1 => hdD n hs x c1
  | r => r
/-- a suite's expression -/
def SuE (X : Cx) (p : Par) (e : Expr) (f : FE) : Prop :=
  ∀ (a : Addr) (oe : Obj) (C dd : Addr) (pn : List (Addr × Obj)) (B0 H0 : Hp), Zc (.ref C) (some dd) oe → (∃ vs, oe.data = .fields vs) → PE (X.suite a ((a, oe) :: pn)) e (dE ⟨p.K, p.C, B0, H0, p.xt, W0, some (a, dd, C), p.n⟩ f)
def CatchT (p : Par) (c : Value) (ns : List Nat) : Prop := ∀ (m : Nat) (C : Addr) (nm : List Str), p.xt[m]? = some ⟨C, nm⟩ → PySem.W.exmOne p.K (.ref C) c = some (decide (m ∈ ns))
inductive HsD (X : Cx) (p : Par) : List ExceptHandler → List HdS → Prop
  | nil : HsD X p [] []
  | plain {x : Str} {c : Value} {nsl : List Nat} {f : FE} {e : Expr} {np pos2 pos' : Pos} {hds : List ExceptHandler} {hs : List HdS} (hc : Names X x c) (ht : CatchT p c nsl) (he : SuE X p e f) (r : HsD X p hds hs) :
      HsD X p (.ExceptHandler (some (.Name x np)) none [.Return (some e) pos2] pos' :: hds) (⟨nsl, none, f⟩ :: hs)
  | named {x nm : Str} {i : Nat} {c : Value} {nsl : List Nat} {f : FE} {e : Expr} {np pos2 pos' : Pos} {hds : List ExceptHandler} {hs : List HdS} (hc : Names X x c) (hi : X.N[i]? = some nm) (hln : X.env.kindOf nm = some .local) (ht : CatchT p c nsl) (he : SuE X p e f) (r : HsD X p hds hs) :
      HsD X p (.ExceptHandler (some (.Name x np)) (some nm) [.Return (some e) pos2] pos' :: hds) (⟨nsl, some i, f⟩ :: hs)
def tsD (p : Par) (f : FE) : Addr → Value → Option Addr → TS := fun a cls d D σ H => ∃ B0 C dd, cls = .ref C ∧ d = some dd ∧ dE ⟨p.K, p.C, B0, H, p.xt, W0, some (a, dd, C), p.n⟩ f σ H D.rt
theorem suite_ok {X : Cx} {p : Par} {e : Expr} {f : FE} {pos : Pos} (he : SuE X p e f) : SuiteOk X [.Return (some e) pos] (tsD p f) := by
  intro a oe cls d pn hz hf
  refine ⟨fun pins s σ H D I ⟨B0, C, dd, h1, h2, h⟩ => ?_⟩
  subst h1
  subst h2
  exact (pss_one (ps_ret (he a oe C dd pn B0 H hz hf))).run pins s σ H D I h
section
variable {X : Cx} {p : Par}
/-- the suite's own view of the state -/
theorem Sta.inSuite {B H : Hp} {σ : St} {ρ : En} {c : Int} (S : Sta p B H σ ρ c) {C dd : Addr} {ns : List Str} {vs : List V} {x : Xn} (a : Addr) (hx : p.xt[x.n]? = some ⟨C, ns⟩) (hd : H dd = some (.xd (ns.zip vs))) (hr : RpA p.K B vs x.fs) (hl : ns.length = vs.length) (i : Option Nat) :
    Sta ⟨p.K, p.C, B, H, p.xt, W0, some (a, dd, C), p.n⟩ B H (match i with | none => σ | some i => σ.set i (some (.ref a))) (enX p.n i x) c := by
  have hln : (match i with | none => σ | some i => σ.set i (some (V.ref a))).length = σ.length := by cases i <;> simp
  have hen : (enX p.n i x).length = p.n := by cases i <;> simp [enX]
  refine ⟨S.sub, Same.refl _, fun a h => .inl h, fun a o e _ => e, fun b e => ?_, by rw [hln, hen]; exact S.ln, by rw [hln]; exact S.ln, fun j s e => ?_, fun j k b ds es e1 _ _ _ => ?_⟩
  · obtain ⟨q1, q2, q3⟩ := S.cel b e
    exact ⟨q1, q2, fun z => by have z' : H b = none := z; rw [q1] at z'; cases z'⟩
  · have hj : j < p.n := by rw [← hen]; exact (List.getElem?_eq_some_iff.mp e).1
    have hjσ : j < (match i with | none => σ | some i => σ.set i (some (V.ref a))).length := by rw [hln, S.ln]; exact hj
    cases i with
    | none =>
      simp only [enX, List.getElem?_replicate, if_pos hj, Option.some.injEq] at e
      subst e
      exact ⟨_, List.getElem?_eq_getElem hjσ, trivial⟩
    | some i =>
      simp only [enX] at e
      by_cases hij : i = j
      · subst hij
        rw [List.getElem?_set_self (by simpa using hj)] at e
        cases e
        refine ⟨some (.ref a), ?_, a, dd, C, ns, vs, rfl, rfl, hx, hd, fun z => ?_, hr, hl⟩
        · have : i < σ.length := by rw [S.ln]; exact hj
          simp [this]
        · have z' : H dd = none := z
          rw [hd] at z'
          cases z'
      · rw [List.getElem?_set_ne hij] at e
        simp only [List.getElem?_replicate, if_pos hj, Option.some.injEq] at e
        subst e
        exact ⟨_, List.getElem?_eq_getElem hjσ, trivial⟩
  · exfalso
    cases i with
    | none =>
      simp only [enX, List.getElem?_replicate] at e1
      split at e1 <;> cases e1
    | some i =>
      simp only [enX] at e1
      by_cases hij : i = j
      · subst hij
        by_cases hl : i < p.n
        · rw [List.getElem?_set_self (by simpa using hl)] at e1; cases e1
        · rw [List.getElem?_eq_none (by simp; omega)] at e1; cases e1
      · rw [List.getElem?_set_ne hij] at e1
        simp only [List.getElem?_replicate] at e1
        split at e1 <;> cases e1
def setO (σ : St) (i : Option Nat) (a : Addr) : St := match i with
  | none => σ
  | some i => σ.set i (some (.ref a))
theorem suite_in {B0 H : Hp} {σ : St} {ρ : En} {c1 : Int} {D : Ends} {cls : Value} {d : Option Addr} {x : Xn} {f : FE} {a : Addr} (S : Sta p B0 H σ ρ c1) (i : Option Nat) (ex : ExOk p.K p.xt B0 H cls d x) (m : PostS p B0 D (noEx (f (enX p.n i x) c1))) :
    tsD p f a cls d D (setO σ i a) H := by
  obtain ⟨C, ns, dd, vs, k1, k2, k3, k4, k5, k6⟩ := ex
  refine ⟨B0, C, dd, k2, k3, B0, _, c1, S.inSuite a k1 k4 k5 k6 i, ?_⟩
  unfold noEx at m
  cases q : f (enX p.n i x) c1 with
  | no => rw [q] at m; exact m.elim
  | ex y c2 => rw [q] at m; exact m.elim
  | ok e c2 =>
    rw [q] at m
    intro v B' H' S' s' r'
    exact m v σ ρ B' H' (S.call ⟨S'.ext, S'.sub, S'.new, S'.keep⟩ fun a e => (S'.cel a e).1) s' r'
theorem hs_ok {hds : List ExceptHandler} {hs : List HdS} (hh : HsD X p hds hs) : ∃ l, HsOk X hds l ∧ ∀ (B : Hp) (D : Ends) (x : Xn) (c : Int), PostS p B D (hdD p.n hs x c) →
    ∀ σ' ρ' B' H' cls d, Sta p B' H' σ' ρ' c → Same B B' → ExOk p.K p.xt B' H' cls d x → wCl p.K p.W D l cls d σ' H' := by
  induction hh with
  | nil => exact ⟨[], .nil, fun B D x c m σ' ρ' B' H' cls d S s e => m σ' ρ' B' H' cls d S s e⟩
  | @plain x c nsl f e np pos2 pos' hds hs hc ht he r ih =>
    obtain ⟨l, h1, h2⟩ := ih
    refine ⟨⟨c, none, tsD p f⟩ :: l, .plain hc (suite_ok he) h1, fun B D x c1 m σ' ρ' B' H' cls d S s ex => ?_⟩
    obtain ⟨C, ns, dd, vs, k1, k2, k3, k4, k5, k6⟩ := id ex
    refine ⟨decide (x.n ∈ nsl), by rw [k2]; exact ht _ _ _ k1, fun y a na => ?_, fun y => ?_⟩
    · unfold hdD at m
      rw [if_pos (of_decide_eq_true y)] at m
      exact suite_in S none ex (PostS.from m s)
    · unfold hdD at m
      rw [if_neg (of_decide_eq_false y)] at m
      exact h2 B D x c1 m σ' ρ' B' H' cls d S s ex
  | @named x nm i c nsl f e np pos2 pos' hds hs hc hi hln ht he r ih =>
    obtain ⟨l, h1, h2⟩ := ih
    refine ⟨⟨c, some i, tsD p f⟩ :: l, .named hc hi hln (suite_ok he) h1, fun B D x c1 m σ' ρ' B' H' cls d S s ex => ?_⟩
    obtain ⟨C, ns, dd, vs, k1, k2, k3, k4, k5, k6⟩ := id ex
    refine ⟨decide (x.n ∈ nsl), by rw [k2]; exact ht _ _ _ k1, fun y a na => ?_, fun y => ?_⟩
    · unfold hdD at m
      rw [if_pos (of_decide_eq_true y)] at m
      exact suite_in (D := endsAt i D) (a := a) S (some i) ex (by
        have m2 : PostS p B' D (noEx (f (enX p.n (some i) x) c1)) := PostS.from m s
        unfold noEx at m2 ⊢
        cases q : f (enX p.n (some i) x) c1 with
        | no => rw [q] at m2; exact m2.elim
        | ex y c2 => rw [q] at m2; exact m2.elim
        | ok e c2 => rw [q] at m2; exact m2)
    · unfold hdD at m
      rw [if_neg (of_decide_eq_false y)] at m
      exact h2 B D x c1 m σ' ρ' B' H' cls d S s ex
theorem Cz.try {k : Nat} (Z : Cz X p k) {W : WX} {pn : List (Addr × Obj)} {xe : Value → Shared → Prop} (tk : Takes (X.tr pn xe) W) (po : PassesOwn (model X.prog X.w) X.A X.env xe) : Cz (X.tr pn xe) { p with W := W } k :=
  ⟨Z.hk, Z.room, Z.gd, Z.calm, Z.nd, tk, po⟩
theorem ds_try {k : Nat} {body : List Stmt} {h₀ : ExceptHandler} {hds : List ExceptHandler} {hs : List HdS} {pos : Pos} {g : FS} (Z : Cz X p k) (hst : X.stack = X.env :: X.outer) (hf : X.env.frame = some X.env.locals)
    (hb : ∀ (W : WX) (pn : List (Addr × Obj)) (xe : Value → Shared → Prop), Cz (X.tr pn xe) { p with W := W } k → PSs (X.tr pn xe) body (dS { p with W := W } g)) (hh : HsD X p (h₀ :: hds) hs) : PS X (.Try body (h₀ :: hds) [] [] pos) (dS p (sTry p.n g hs)) := by
  obtain ⟨l, hl, hw⟩ := hs_ok hh
  refine (ps_tryM (tb := fun W => dS { p with W := W } g) Z.nd hst hf Z.tk (fun W pn xe tk po => hb W pn xe (Z.try tk po)) hl).imp fun D σ H ⟨B, ρ, c, S, m⟩ => ⟨B, ρ, c, S.wish _, ?_⟩
  unfold sTry at m
  generalize g ρ c = r at m ⊢
  match r, m with
  | .ok (.nx ρ') c', m => exact fun σ' B2 H2 S2 z => m σ' B2 H2 S2.unwish z
  | .ok (.rt d) c', m => exact fun v σ' ρ' B2 H2 S2 z => m v σ' ρ' B2 H2 S2.unwish z
  | .ok (.bk ρ') c', m => exact fun σ' B2 H2 S2 z => m σ' B2 H2 S2.unwish z
  | .ok (.ct ρ') c', m => exact fun σ' B2 H2 S2 z => m σ' B2 H2 S2.unwish z
  | .ex x c', m => exact fun σ' ρ' B' H' cls d S' s' ex => by have z := hw B D x c' m σ' ρ' B' H' cls d S'.unwish s' ex; rw [Z.hk] at z; exact z
  | .no, m => exact m.elim
/-- e.name in a suite -/
def fXat (nms : List (List Str)) (i : Nat) (nm : Str) : FE := fun ρ c => match ρ[i]? with
  | some (.xn x) => match nms[x.n]? with
    | some ns => ofO ((ns.zip x.fs).lookup nm) c
    | none => .no
  | _ => .no
structure XatOk (K : PySem.W.Frag) (xt : List XC) (nm : Str) : Prop where
  at1 : ∀ (m : Nat) (C : Addr) (ns : List Str), xt[m]? = some ⟨C, ns⟩ → XfC K C ∧ (nm ∈ ns → PySem.W.findIn K (.ref C) nm = some none)
theorem lookup_zip {K : PySem.W.Frag} {B : Hp} {ns : List Str} {vs : List V} {ds : List PyData} (h : RpA K B vs ds) {nm : Str} {d : PyData} (e : (ns.zip ds).lookup nm = some d) : nm ∈ ns ∧ ∃ v, (ns.zip vs).lookup nm = some v ∧ Rp K B v d := by
  induction ns generalizing vs ds with
  | nil => simp at e
  | cons x ns ih =>
    cases h with
    | nil => simp at e
    | @cons v vs d0 ds h t =>
      simp only [List.zip_cons_cons, List.lookup] at e ⊢
      by_cases hx : nm == x
      · rw [hx] at e ⊢
        simp only at e ⊢
        cases e
        exact ⟨by simp [beq_iff_eq.mp hx], v, rfl, h⟩
      · have hx' : (nm == x) = false := by simpa using hx
        rw [hx'] at e ⊢
        simp only at e ⊢
        obtain ⟨h1, h2⟩ := ih t e
        exact ⟨List.mem_cons_of_mem _ h1, h2⟩
theorem pe_xat {nms : List (List Str)} {i : Nat} {nm en : Str} {pn2 pos2 : Pos} {a : Addr} {oe : Obj} {C dd : Addr} {pn : List (Addr × Obj)} {B0 H0 : Hp} (hk : p.K = X.K) (hnm : p.xt.map XC.ns = nms) (hx : XatOk p.K p.xt nm) (hz : Zc (.ref C) (some dd) oe) (hf : ∃ vs, oe.data = .fields vs)
    (hn : PE (X.suite a ((a, oe) :: pn)) (.Name en pn2) (tVar i)) (hb : attributeBase (.Name en pn2) nm X.env (eval (.Name en pn2) X.env) = eval (.Name en pn2) X.env := by rfl) :
    PE (X.suite a ((a, oe) :: pn)) (.Attribute (.Name en pn2) nm pos2) (dE ⟨p.K, p.C, B0, H0, p.xt, W0, some (a, dd, C), p.n⟩ (fXat nms i nm)) := by
  refine ⟨fun pins s σ H Q I h => ?_⟩
  obtain ⟨B, ρ, c, S, m⟩ := h
  unfold fXat at m
  split at m
  · rename_i x e
    obtain ⟨o, e1, a', dd', C', ns, vs, k1, k2, k3, k4, k5, k6, k7⟩ := S.slot i _ e
    cases k1
    subst k2
    have hns : nms[x.n]? = some ns := by rw [← hnm, List.getElem?_map, show p.xt[x.n]? = some ⟨C, ns⟩ from k3]; rfl
    rw [hns] at m
    obtain ⟨d, e2, q⟩ := ofO_ok m
    obtain ⟨m1, v, e3, r⟩ := lookup_zip k6 e2
    obtain ⟨T, T2⟩ := hx.at1 _ _ _ k3
    refine (pe_xf (X := X) (hk ▸ T) (hk ▸ T2 m1) hz hf hn hb).run pins s σ H Q I ⟨_, e1, rfl, rfl, dd, ns.zip vs, v, rfl, k4, e3, q v B H S (Same.refl _) r⟩
  · exact m.elim
/-- isinstance(e, X) in a suite -/
structure XisOk (K : PySem.W.Frag) (C : Addr) : Prop where
  xf : XfC K C
  cl : (PySem.W.clsIn K C).isSome = true
  ha : PySem.W.findIn K (.ref C) "__class__" = some (some (.builtin "object.__class__"))
  hm : PySem.W.mroIn K C (.type "object") = some true
structure XisK (K : PySem.W.Frag) : Prop where
  hn : PySem.W.specialIn K (.builtin "object.__class__") "__get__" = some (some (.builtin "getset_descriptor.__get__"))
  ht : PySem.W.takesIn K (.builtin "object.__class__") = some true
def rIsX (K : PySem.W.Frag) (C a dd : Addr) : List V → Hp → VK → Prop := fun xs H Q => ∃ (c : V) (cv : Value) (b : Bool) (fs : List (Str × V)), xs = [.ref a, c] ∧ (∀ u, RelV c u → u = cv) ∧ PySem.W.kitOne K (.ref C) cv = some b ∧ H dd = some (.xd fs) ∧ Q (.bl b) H
theorem call_isX {a C dd : Addr} {oe : Obj} {pn : List (Addr × Obj)} (T : XisOk X.K C) (T0 : XisK X.K) (hz : Zc (.ref C) (some dd) oe) (hf : ∃ vs, oe.data = .fields vs) : CallR (X.suite a ((a, oe) :: pn)) (.builtin "isinstance") (rIsX X.K C a dd) := by
  intro pins s σ H xs us Q I r h
  obtain ⟨c, cv, b, fs, rfl, hcv, e, hd, q⟩ := h
  cases r with
  | cons rx rr =>
    cases rr with
    | cons rt rr =>
      cases rr
      cases rx
      have ec := hcv _ rt
      subst ec
      obtain ⟨hget, _⟩ := I.pin (a, oe) (List.mem_append.mpr (.inl List.mem_cons_self))
      obtain ⟨vs, hv⟩ := hf
      obtain ⟨mA, hns, hr⟩ : ObjOk X.prog X.w H s.heap dd (.xd fs) := I.hok dd _ hd
      obtain ⟨od, ho, hl⟩ := lookIn_ns hns
      have J : PySem.W.InstAt s.heap a oe C (some od) := ⟨hget, hz.1, by unfold PySem.W.notCls; rw [hv] <;> rfl, by rw [hz.2]; exact ho⟩
      exact PySem.W.kia_one (PySem.W.kitx_exc T.cl T.xf.ga T.xf.gg T.xf.exC T.ha T0.hn T0.ht T.hm) I.kIn J e (fun z => nomatch z) fun tk => ⟨.bl b, H, I.kept (t' := tk) fun _ _ z => z, rfl, q⟩
def fXis (ns : List Nat) (i : Nat) : FE := fun ρ c => match ρ[i]? with
  | some (.xn x) => .ok (.bool (decide (x.n ∈ ns))) c
  | _ => .no
theorem pe_xis {ns : List Nat} {i : Nat} {x en : Str} {pn2 pn3 pp pos : Pos} {a : Addr} {oe : Obj} {C dd Cx : Addr} {pn : List (Addr × Obj)} {B0 H0 : Hp} (hk : p.K = X.K) (hx : ∀ (m : Nat) (C : Addr) (ns' : List Str), p.xt[m]? = some ⟨C, ns'⟩ → XisOk p.K C ∧ PySem.W.kitOne p.K (.ref C) (.ref Cx) = some (decide (m ∈ ns))) (T0 : XisK X.K)
    (hz : Zc (.ref C) (some dd) oe) (hf : ∃ vs, oe.data = .fields vs) (hg : Gl X "isinstance") (hm : X.mg "isinstance" = none) (hn : PE (X.suite a ((a, oe) :: pn)) (.Name en pn2) (tVar i)) (hc : PE (X.suite a ((a, oe) :: pn)) (.Name x pn3) (tC (.ref Cx)))
    (he : starEach ((.Name en pn2) :: [.Name x pn3]) X.env = (false, eval (.Name en pn2) X.env) :: starEach [.Name x pn3] X.env := by rfl) (he2 : starEach ((.Name x pn3) :: []) X.env = (false, eval (.Name x pn3) X.env) :: starEach [] X.env := by rfl)
    (hpl : (backTo pos (starEach [.Name x pn3] X.env)).any (·.1) = false := by rfl) :
    PE (X.suite a ((a, oe) :: pn)) (.Call (.Name "isinstance" pp) [.Name en pn2, .Name x pn3] [] pos) (dE ⟨p.K, p.C, B0, H0, p.xt, W0, some (a, dd, C), p.n⟩ (fXis ns i)) := by
  refine ⟨fun pins s σ H Q I h => ?_⟩
  obtain ⟨B, ρ, c, S, m⟩ := h
  unfold fXis at m
  split at m
  · rename_i y e
    obtain ⟨o, e1, a', dd', C', ns', vs, k1, k2, k3, k4, k5, k6, k7⟩ := S.slot i _ e
    cases k1
    subst k2
    obtain ⟨T, T2⟩ := hx _ _ _ k3
    refine (pe_callB (X := X.suite a ((a, oe) :: pn)) (call_isX (hk ▸ T) T0 hz hf) hg hm (by decide +kernel) (pa_cons hn (pa_cons hc pa_nil he2) he) (by decide) (by decide) he hpl).run pins s σ H Q I ?_
    exact ⟨_, e1, .ref Cx, .ref Cx, _, _, rfl, fun u h => h, hk ▸ T2, k4, m _ B H S (Same.refl _) (.bl _)⟩
  · exact m.elim
end
end DL
end L2

set_option Elab.async false
set_option linter.all false
set_option maxRecDepth 100000
set_option maxHeartbeats 1000000
namespace L2
open PySem PySem.Spec PyProof.Rows
namespace DL
/-! ### the module's constants -/
def KT (K : PySem.W.Frag) (a : Addr) (d : PyData) : Prop := ∀ B : Hp, Rp K B (.ref a) d
theorem kt_of {K : PySem.W.Frag} {a : Addr} {dd : Option Addr} {its : List Value} {n : Nat} {sl : Array (Option Value)} {xs : List V} {ds : List PyData} (l : K.lookup a = some ⟨.type "tuple", dd, .seq its.toArray n, sl⟩) (hz : its.length ≤ sizeLine) (hv : Vals xs its) (h : ∀ B : Hp, RpA K B xs ds) : KT K a (.tuple ds) :=
  fun B => .tup (.inr ⟨_, its.toArray, n, l, rfl, rfl, by simpa using hz, by simpa using hv⟩) (h B)
section
variable {X : Cx} {p : Par} {pos : Pos} {k kz n i : Nat} {x : Str} {f : FE} {a e : Expr}
theorem de_gi {m : Int} {t : Tok} (hg : Gl X x) (hm : X.mg x = some (.int m t)) (hd : (x == ("__debug__" : Str)) = false := by decide) : PE X (.Name x pos) (dE p (fC (.int m))) := de_tC (pe_glob (v := .int m) hg hm ⟨t, rfl⟩ hd) fun _ _ => .int m
theorem de_gs {m : Str} {t : Tok} (hg : Gl X x) (hm : X.mg x = some (.str m t)) (hd : (x == ("__debug__" : Str)) = false := by decide) : PE X (.Name x pos) (dE p (fC (.str m))) := de_tC (pe_glob (v := .str m) hg hm ⟨t, rfl⟩ hd) fun _ _ => .str m
theorem de_gt {a : Addr} {d : PyData} (hg : Gl X x) (hm : X.mg x = some (.ref a)) (h : KT p.K a d) (hd : (x == ("__debug__" : Str)) = false := by decide) : PE X (.Name x pos) (dE p (fC d)) := de_tC (pe_glob (v := .ref a) hg hm rfl hd) fun B _ => h B

/-! ### x op= e on data -/
def sAug (i : Nat) (bf : PyData → PyData → Option PyData) (f : FE) : FS := fun ρ c => match ρ[i]? with
  | some (.dt d0) => (f ρ c).bind fun d c1 => (ofO (bf d0 d) c1).bind fun e c2 => .ok (.nx (ρ.set i (.dt e))) c2
  | _ => .no
theorem ds_aug {op : Operator} {bf : PyData → PyData → Option PyData} {pos' : Pos} (hN : X.N.Nodup) (hi : X.N[i]? = some x) (hx : Loc X.env.scope x) (he : PE X e (dE p f)) (ho : PIp X op (vOp p.K bf)) (hf : X.fn x = true ∨ X.env.scope.names.lookup x = some .local := by first | exact .inl rfl | exact .inr rfl | assumption) :
    PS X (.AugAssign (.Name x pos') op e pos) (dS p (sAug i bf f)) :=
  (ps_aug (i := i) hN hi hx he ho hf).imp fun D σ H ⟨B, ρ, c, S, m⟩ => by
    unfold sAug at m
    split at m
    · rename_i d0 e0
      obtain ⟨o, e1, v, e2, r⟩ := S.slot i _ e0
      subst e2
      refine ⟨v, e1, B, ρ, c, S, PostS.bE m fun d c1 u B1 H1 S1 r1 s1 m1 => ?_⟩
      cases q : bf d0 d with
      | none => rw [q] at m1; exact m1.elim
      | some w =>
        rw [q] at m1
        exact ⟨B1, d0, d, w, S1.sub, r.mono s1, r1, q, fun v' B' H' G r' => m1 _ B' H' ((S1.grow G).set r') G.b⟩
    · exact m.elim
def iAdd : PyData → PyData → Option PyData
  | .int a, .int b => some (.int (a + b))
  | _, _ => none
def iSub : PyData → PyData → Option PyData
  | .int a, .int b => some (.int (a - b))
  | _, _ => none
theorem vip_add : PIp X .Add (vOp X.K iAdd) := by
  intro pins s σ H x y v u Q I r1 r2 ⟨B, d1, d2, d, sb, k1, k2, e, q⟩
  unfold iAdd at e
  split at e
  · cases e
    obtain rfl := k1.of_int
    obtain rfl := k2.of_int
    exact ip_add pins s σ H _ _ v u Q I r1 r2 ⟨_, _, rfl, rfl, q _ B H (Gw.refl sb) (.int _)⟩
  · cases e
theorem vip_sub : PIp X .Sub (vOp X.K iSub) := by
  intro pins s σ H x y v u Q I r1 r2 ⟨B, d1, d2, d, sb, k1, k2, e, q⟩
  unfold iSub at e
  split at e
  · cases e
    obtain rfl := k1.of_int
    obtain rfl := k2.of_int
    exact ip_sub pins s σ H _ _ v u Q I r1 r2 ⟨_, _, rfl, rfl, q _ B H (Gw.refl sb) (.int _)⟩
  · cases e

/-! ### methods of texts and lists -/
def fMt (T : String) (cf : PyData → List PyData → Option PyData) (f : FE) (fa : FA) : FE := fun ρ c => (f ρ c).bind fun d c1 => if tyD d = T then (fa ρ c1).bind fun ss c2 => ofO ((dts ss).bind (cf d)) c2 else .no
theorem tyV_d {K : PySem.W.Frag} {B H : Hp} (sb : Same B H) {v : V} {d : PyData} (r : Rp K B v d) {T : String} (hT : T = "str" ∨ T = "list" ∨ T = "int") (e : tyD d = T) : tyV K T v H := by
  subst e
  cases r with
  | non => simp [tyD] at hT
  | bl b => simp [tyD] at hT
  | int i => rfl
  | str z => rfl
  | lst h t => exact .inl ⟨rfl, _, SqL.of (sb _ _ h)⟩
  | tup h t => simp [tyD] at hT
theorem de_mt {T id : String} {nm : Str} {apos cpos : Pos} {o e : Expr} {es : List Expr} {cf : PyData → List PyData → Option PyData} {fa : FA} (hk : p.K = X.K) (hT : T = "str" ∨ T = "list" ∨ T = "int") (pa : PlainAttrs T) (slot : Slot T nm id) (hty : typeOf (.builtin id) = pure (.type "method_descriptor")) (hm : MtR X id (vMt p.K cf)) (ho : PE X o (dE p f)) (ha : PA X (e :: es) (dA p fa))
    (hbase : attributeBase o nm X.env (eval o X.env) = eval o X.env := by rfl)
    (hfew : ((backTo cpos (starEach (e :: es) X.env)).all (fun x => !x.1) && (backToKw cpos (keywordEach [] X.env)).all (fun x => x.1.isSome)
      && decide ((e :: es).length + ([] : List Keyword).length + (if ([] : List Keyword).isEmpty then 0 else 1) < 30)) = true := by rfl)
    (hline : (apos.endLine == cpos.line) = true := by rfl) (hs : starEach (e :: es) X.env = (false, eval e X.env) :: starEach es X.env := by rfl) (hplain : (backTo cpos (starEach es X.env)).any (·.1) = false := by rfl) :
    PE X (.Call (.Attribute o nm apos) (e :: es) [] cpos) (dE p (fMt T cf f fa)) :=
  (pe_bm pa slot hty hm ho ha hbase hfew hline hs hplain).imp fun σ H Q ⟨B, ρ, c, S, m⟩ => by
    refine ⟨B, ρ, c, S, m.bE fun d c1 v B1 H1 S1 r1 s1 m1 => ?_⟩
    split at m1
    · rename_i hd
      refine ⟨hk ▸ tyV_d S1.sub r1 hT hd, B1, ρ, c1, S1, PostE.bA m1 fun ss c2 vs B2 H2 S2 a2 s2 m2 => ?_⟩
      obtain ⟨d', e', q⟩ := ofO_ok m2
      cases e3 : dts ss with
      | none => rw [e3] at e'; cases e'
      | some ds =>
        rw [e3] at e'
        exact ⟨B2, d, ds, d', S2.sub, r1.mono s2, dts_rp a2 e3, e', fun v' B' H' G r => q v' B' H' (S2.grow G) G.b r⟩
    · exact m1.elim
def mSIndex : PyData → List PyData → Option PyData
  | .str a, [.str b] => match Builtin.Str.occurrences a b 0 a.length 1 with
    | i :: _ => some (.int (i : Nat))
    | [] => none
  | _, _ => none
theorem vmt_sindex : MtR X "str.index" (vMt X.K mSIndex) := by
  intro pins s σ H x xs v us Q I rx r ⟨B, d1, ds, d, sb, r1, rs, e, q⟩
  refine mt_sindex pins s σ H x xs v us Q I rx r ?_
  unfold mSIndex at e
  split at e
  · rename_i a b
    split at e
    · rename_i i rest hi
      cases e
      cases rs with
      | cons h t =>
        cases t
        cases h
        exact ⟨a, b, i, rest, r1.of_str, rfl, hi, q _ B H (Gw.refl sb) (.int _)⟩
    · cases e
  · cases e

/-! ### the script -/
def aSc (i : Nat) (fa : FA) : FA := fun ρ c => match ρ[i]? with
  | some (.sc ns) => (fa ρ c).bind fun ss c2 => .ok (.sc ns :: ss) c2
  | _ => .no
theorem da_sc (i : Nat) {es : List Expr} {fa : FA} (ha : PE X a (tVar i)) (hr : PA X es (dA p fa)) (hs : starEach (a :: es) X.env = (false, eval a X.env) :: starEach es X.env := by rfl) : PA X (a :: es) (dA p (aSc i fa)) :=
  (pa_cons ha hr hs).imp fun σ H Q ⟨B, ρ, c, S, m⟩ => by
    unfold aSc at m
    split at m
    · rename_i ns e
      obtain ⟨o, e1, a', e2, e3⟩ := S.slot i _ e
      subst e2
      refine ⟨_, e1, B, ρ, c, S, PostA.bA m fun ss c2 vs B2 H2 S2 a2 s2 m2 => ?_⟩
      exact m2 (_ :: vs) B2 H2 S2 (Same.refl _) (.cons ⟨a', rfl, s2.seq e3⟩ a2)
    · exact m.elim
theorem falen_sc {i : Nat} {fa : FA} {n : Nat} (h : FALen fa n) : FALen (aSc i fa) (n + 1) := fun ρ c ss c' e => by
  unfold aSc at e
  split at e
  · cases q2 : fa ρ c with
    | ok ss2 c2 => rw [q2] at e; cases e; simp [h _ _ _ _ q2]
    | ex x c2 => rw [q2] at e; cases e
    | no => rw [q2] at e; cases e
  · cases e
/-- script[:m], as a fresh list -/
def lSc (i : Nat) (m : Nat) : FL := fun ρ c => match ρ[i]? with
  | some (.sc ns) => .ok ((ns.take m).map PyData.int) c
  | _ => .no
theorem rpA_ints {K : PySem.W.Frag} {B : Hp} : ∀ ns : List Int, RpA K B (ns.map V.int) (ns.map PyData.int)
  | [] => .nil
  | n :: ns => .cons (.int n) (rpA_ints ns)
theorem df_sc (i : Nat) {m : Nat} {pn p2 kp : Pos} {j : Nat} (hk : p.K = X.K) (hn : PE X (.Name x pn) (tVar i)) : PE X (.Subscript (.Name x pn) (.Slice none (some (.Constant (.int (m : Int)) j kp)) none p2) pos) (dF p (lSc i m)) :=
  (pe_slice sl_list hn po_none (po_some pe_int)).imp fun σ H Q ⟨B, ρ, c, S, md⟩ => by
    unfold lSc at md
    split at md
    · rename_i ns e
      obtain ⟨o, e1, a', e2, e3⟩ := S.slot i _ e
      subst e2
      refine ⟨_, e1, (m : Int), rfl, a', _, rfl, hk ▸ S.sub.seq e3, ?_⟩
      have ec : cutV (ns.map V.int) none (some (m : Int)) = (ns.take m).map V.int := by
        unfold cutV
        rw [HT.sIx_none, HT.sIx_nat, List.drop_zero, Nat.sub_zero, List.map_take]
        rw [List.take_eq_take_iff]
        simp
      rw [ec]
      exact fresh_of S (rpA_ints _) md
    · exact md.elim

/-! ### at = [0]: the cell is made, the rest goes on with it -/
def sCel (i : Nat) (g : FS) : FS := fun ρ c => match g ((blkE ρ []).set i .ce) 0 with
  | .ok (.rt d) _ => .ok (.rt d) c
  | _ => .no
theorem Sta.toCell {K : PySem.W.Frag} {B H : Hp} {xt : List XC} {W : WX} {σ : St} {ρ : En} {c : Int} {a : Addr} (S : Sta ⟨K, none, B, H, xt, W, none, n⟩ B H σ ρ c) (ha : H a = some (.lst [.int 0])) (hb : B a = none) (i : Nat) :
    Sta ⟨K, some a, B, H, xt, W, none, n⟩ B H (σ.set i (some (.ref a))) (ρ.set i .ce) 0 := by
  refine ⟨S.sub, S.ext, fun b h => .inl h, fun b o e _ => e, fun b e => ?_, by rw [List.length_set, List.length_set]; exact S.len, by rw [List.length_set]; exact S.ln, fun j s e => ?_, fun j k b ds es e1 _ e3 _ => ?_⟩
  · cases e
    exact ⟨ha, hb, fun z => by have z' : H a = none := z; rw [ha] at z'; cases z'⟩
  · by_cases hj : i = j
    · subst hj
      have hl : i < ρ.length := by have := (List.getElem?_eq_some_iff.mp e).1; rw [List.length_set] at this; exact this
      rw [List.getElem?_set_self hl] at e
      cases e
      exact ⟨_, List.getElem?_set_self (by rw [S.len]; exact hl), a, rfl, rfl⟩
    · rw [List.getElem?_set_ne hj] at e
      obtain ⟨o, k1, k2⟩ := S.slot j s e
      refine ⟨o, by rw [List.getElem?_set_ne hj]; exact k1, ?_⟩
      cases s with
      | un => exact k2
      | dt d => exact k2
      | ow ds => obtain ⟨b, xs, q1, q2, q3, q4, q5⟩ := k2; have q4' : H b = none := q4; rw [q2] at q4'; cases q4'
      | ce => obtain ⟨b, q1, _⟩ := k2; cases q1
      | xn x => exact k2
      | sc ns => exact k2
  · exfalso
    by_cases hj : i = j
    · subst hj
      have hl : i < ρ.length := by have := (List.getElem?_eq_some_iff.mp e1).1; rw [List.length_set] at this; exact this
      rw [List.getElem?_set_self hl] at e1
      cases e1
    · rw [List.getElem?_set_ne hj] at e1
      obtain ⟨o, k1, b, xs, q1, q2, q3, q4, q5⟩ := S.slot j _ e1
      have q4' : H b = none := q4
      rw [q2] at q4'
      cases q4'
theorem dss_newcell {pos' kp lp : Pos} {j : Nat} {rest : List Stmt} {g : FS} {K : PySem.W.Frag} {B0 H0 : Hp} {xt : List XC} {W : WX} (Z : Cz X ⟨K, none, B0, H0, xt, W, none, n⟩ k) (hi : X.N[i]? = some x) (hx : Loc X.env.scope x)
    (h : ∀ (a : Addr) (B H : Hp), Cz X ⟨K, some a, B, H, xt, W, none, n⟩ k → PSs X rest (dS ⟨K, some a, B, H, xt, W, none, n⟩ g)) (hst : starEach [.Constant (.int 0) j kp] X.env = (false, eval (.Constant (.int 0) j kp) X.env) :: starEach [] X.env := by rfl)
    (hs : swapsWith (.List [.Constant (.int 0) j kp] lp) (some (.Name x pos')) pos.line X.env = pure false := by rfl) (hf : X.fn x = true ∨ X.env.scope.names.lookup x = some .local := by first | exact .inl rfl | exact .inr rfl | assumption) :
    PSs X (.Assign [.Name x pos'] (.List [.Constant (.int 0) j kp] lp) pos :: rest) (dS ⟨K, none, B0, H0, xt, W, none, n⟩ (sCel i g)) := by
  have hr : PSs X rest (fun D σ H => ∃ a B H1, dS ⟨K, some a, B, H1, xt, W, none, n⟩ g D σ H) :=
    ⟨fun pins s σ H D I ⟨a, B, H1, q⟩ => (h a B H1 ⟨Z.hk, Z.room, Z.gd, Z.calm, Z.nd, Z.tk, Z.po⟩).run pins s σ H D I q⟩
  refine (pss_cons (ps_set (i := i) Z.nd hi hx (pe_lst (pa_cons pe_int pa_nil hst)) hs hf) hr).imp fun D σ H ⟨B, ρ, c, S, m⟩ => ?_
  refine ⟨show 1 ≤ sizeLine by rw [sizeLine_eq]; decide, fun a na => ?_⟩
  have S1 := S.grow (Gw.held S.sub (a := a) (.lst [V.int 0]) na)
  have S2 := S1.block [] W
  have S3 := Sta.toCell S2 upd_same (S.sub.free na) i
  refine ⟨a, B, _, B, _, 0, S3, ?_⟩
  unfold sCel at m
  generalize g ((blkE ρ []).set i .ce) 0 = r at m
  match r, m with
  | .ok (.rt d) c', m =>
    intro v σ' ρ' B' H' S' s' r'
    refine m v σ ρ B' H' (S.call ⟨S'.ext, S'.sub, fun b q => ?_, fun b o e _ => ?_⟩ fun b e => nomatch e) s' r'
    · rcases S'.new b q with z | z
      · exact .inl z
      · have z' : upd H a (.lst [V.int 0]) b = none := z
        by_cases hb : b = a
        · subst hb; exact .inr na
        · rw [upd_ne hb] at z'; exact .inr z'
    · refine S'.keep b o ?_ fun z => ?_
      · show upd H a (.lst [V.int 0]) b = some o
        rw [upd_ne (ne_of_none e na)]; exact e
      · cases z; rw [na] at e; cases e
  | .ok (.nx _) _, m => exact m.elim
  | .ok (.bk _) _, m => exact m.elim
  | .ok (.ct _) _, m => exact m.elim
  | .ex _ _, m => exact m.elim
  | .no, m => exact m.elim

/-! ### a list of functions, one of them called -/
def tCallG (X : Cx) (p : Par) (k n : Nat) (te : TE) (ta : TA) : TE := fun σ H Q => te σ H fun v H1 => ∃ f fd ps m, v = .ref f ∧ PySem.W.keepIn X.K (.ref f) = true ∧ Binds X.K fd ps [] ∧ FnG X.prog X.w X.K X.mg X.base k f fd ps (spD X.K p.C p.xt n m) ∧
  ta σ H1 fun vs H2 => spD X.K p.C p.xt n m vs H2 Q (fun cls d H' => p.W cls d σ H')
theorem pe_callX {fe : Expr} {es : List Expr} {te : TE} {ta : TA} (Z : Cz X p kz) (hkz : k ≤ kz) (hf : PE X fe te) (ha : PA X (a :: es) ta)
    (ht : eval (.Call fe (a :: es) [] pos) X.env = (do callWith pos (← eval fe X.env) [] (backTo pos (starEach (a :: es) X.env)) (backToKw pos (keywordEach [] X.env))) := by rfl)
    (he : starEach (a :: es) X.env = (false, eval a X.env) :: starEach es X.env := by rfl) (hpl : (backTo pos (starEach es X.env)).any (·.1) = false := by rfl) : PE X (.Call fe (a :: es) [] pos) (tCallG X p k n te ta) := by
  refine ⟨fun pins s σ H Q I h => ?_⟩
  refine Call_ (thn (hf.run pins s σ H _ I h) fun u s1 ⟨y, H1, I1, ry, f, fd, ps, m, ey, hkp, hb, F, q⟩ => ?_) ht
  subst ey
  obtain rfl : u = Value.ref f := ry
  refine PySem.W.callWith_K (h₀ := X.base) I1.ok.mod.kin hkp (thn (ha.run pos pins s1 σ H1 _ I1 q) fun us s2 hz => ?_) he hpl
  obtain ⟨vs, H2, I2, r, q2⟩ := hz
  exact ⟨I2.kIn, run_G F (Z.room.mono hkz) Z.gd hb Z.tk I2 r q2⟩
inductive FnL (X : Cx) (p : Par) (k n : Nat) : List Expr → List MF → Prop
  | nil : FnL X p k n [] []
  | cons {x : Str} {pp : Pos} {es : List Expr} {m : MF} {ms : List MF} (hg : Gl X x) (G : Kn X.prog X.w X.K X.mg X.base p.C p.xt x k n m) (hdb : (x == ("__debug__" : Str)) = false) (hs : starEach (.Name x pp :: es) X.env = (false, eval (.Name x pp) X.env) :: starEach es X.env) (r : FnL X p k n es ms) :
      FnL X p k n (.Name x pp :: es) (m :: ms)
theorem fnl_pa {es : List Expr} {ms : List MF} (h : FnL X p k n es ms) : ∃ vs : List V, PA X es (fun σ H Q => Q vs H) ∧ vs.length = ms.length ∧ ∀ (j : Nat) (m : MF), ms[j]? = some m → ∃ f fd ps, vs[j]? = some (.ref f) ∧ PySem.W.keepIn X.K (.ref f) = true ∧ Binds X.K fd ps [] ∧
    FnG X.prog X.w X.K X.mg X.base k f fd ps (spD X.K p.C p.xt n m) := by
  induction h with
  | nil => exact ⟨[], pa_nil, rfl, fun j m e => by simp at e⟩
  | cons hg G hdb hs r ih =>
    obtain ⟨f, fd, ps, hn, hm, hkp, hb, F⟩ := G.ex
    obtain ⟨vs, h1, h2, h3⟩ := ih
    refine ⟨.ref f :: vs, (pa_cons (pe_glob (v := .ref f) hg hm rfl hdb) h1 hs).imp fun σ H Q q => q, by simp [h2], fun j m e => ?_⟩
    cases j with
    | zero => simp at e; subst e; exact ⟨f, fd, ps, rfl, hkp, hb, F⟩
    | succ j => simpa using h3 j m (by simpa using e)
def atF (ms : List MF) : PyData → Option MF
  | .int j => atI ms j
  | _ => none
def sSel (i : Nat) (ms : List MF) (fi : FE) (fa : FA) : FS := fun ρ c => if lineOk ms.length && decide (i < ρ.length) then (fi (ρ.set i .un) c).bind fun d c1 => match atF ms d with
  | some m => (fa (ρ.set i .un) c1).bind fun ss c2 => (m ss c2).bind fun e c3 => .ok (.rt e) c3
  | none => .no
  else .no
theorem Sta.setUn {B H : Hp} {σ : St} {ρ : En} {c : Int} (S : Sta p B H σ ρ c) (i : Nat) (o : Option V) : Sta p B H (σ.set i o) (ρ.set i .un) c := by
  refine ⟨S.sub, S.ext, S.new, S.keep, S.cel, by rw [List.length_set, List.length_set]; exact S.len, by rw [List.length_set]; exact S.ln, fun j s e => ?_, fun j k b ds es e1 e2 e3 e4 => ?_⟩
  · by_cases hj : i = j
    · subst hj
      have hl : i < ρ.length := by have := (List.getElem?_eq_some_iff.mp e).1; rw [List.length_set] at this; exact this
      rw [List.getElem?_set_self hl] at e
      cases e
      exact ⟨_, List.getElem?_set_self (by rw [S.len]; exact hl), trivial⟩
    · rw [List.getElem?_set_ne hj] at e
      obtain ⟨o', k1, k2⟩ := S.slot j s e
      exact ⟨o', by rw [List.getElem?_set_ne hj]; exact k1, k2⟩
  · have gone : ∀ {j : Nat} {ds : List PyData}, (ρ.set i .un)[j]? = some (.ow ds) → i ≠ j := fun {j ds} e z => by
      subst z
      have hl : i < ρ.length := by have := (List.getElem?_eq_some_iff.mp e).1; rw [List.length_set] at this; exact this
      rw [List.getElem?_set_self hl] at e
      cases e
    have hj := gone e1
    have hk := gone e2
    rw [List.getElem?_set_ne hj] at e1 e3
    rw [List.getElem?_set_ne hk] at e2 e4
    exact S.apart j k b ds es e1 e2 e3 e4
theorem dss_sel {es as : List Expr} {ms : List MF} {fi : FE} {fa : FA} {pr lp spos pr2 ps cpos rpos : Pos} {ix : Expr} (Z : Cz X p kz) (hkz : k ≤ kz) (hi : X.N[i]? = some x) (hx : Loc X.env.scope x) (hF : FnL X p k n es ms) (hl : FALen fa n)
    (hv : PE X (.Name x pr2) (tVar i)) (hix : PE X ix (dE p fi)) (hp : PlainIx ix) (ha : PA X (a :: as) (dA p fa))
    (hs : swapsWith (.List es lp) (some (.Name x pr)) spos.line X.env = pure false := by rfl) (hf : X.fn x = true ∨ X.env.scope.names.lookup x = some .local := by first | exact .inl rfl | exact .inr rfl | assumption)
    (ht : eval (.Call (.Subscript (.Name x pr2) ix ps) (a :: as) [] cpos) X.env = (do callWith cpos (← eval (.Subscript (.Name x pr2) ix ps) X.env) [] (backTo cpos (starEach (a :: as) X.env)) (backToKw cpos (keywordEach [] X.env))) := by rfl)
    (he : starEach (a :: as) X.env = (false, eval a X.env) :: starEach as X.env := by rfl) (hpl : (backTo cpos (starEach as X.env)).any (·.1) = false := by rfl) :
    PSs X [.Assign [.Name x pr] (.List es lp) spos, .Return (some (.Call (.Subscript (.Name x pr2) ix ps) (a :: as) [] cpos)) rpos] (dS p (sSel i ms fi fa)) := by
  obtain ⟨fs, h1, h2, h3⟩ := fnl_pa hF
  refine (pss_cons (ps_set (i := i) Z.nd hi hx (pe_lst h1) hs hf) (pss_one (ps_ret (pe_callX (n := n) Z hkz (pe_ix ix_list hv hix hp) ha ht he hpl)))).imp fun D σ H ⟨B, ρ, c, S, m⟩ => ?_
  unfold sSel at m
  split at m
  · rename_i hz0
    obtain ⟨hz, hi0⟩ := Bool.and_eq_true_iff.mp hz0
    refine ⟨by rw [h2]; exact lineOk_le hz, fun g ng => ?_⟩
    have G := Gw.new S.sub (.lst fs) ng
    have S1 := (S.grow G).setUn i (some (.ref g))
    have hi' : i < σ.length := by rw [S.len]; exact of_decide_eq_true hi0
    refine ⟨.ref g, List.getElem?_set_self hi', upd B g (.lst fs), _, c, S1, PostS.bE (PostS.from m G.b) fun d c1 v B1 H1 S2 r2 s2 m2 => ?_⟩
    unfold atF at m2
    cases d with
    | int j =>
      simp only at m2
      cases q : atI ms j with
      | none => rw [q] at m2; exact m2.elim
      | some mf =>
        rw [q] at m2
        have e1 : H1 g = some (.lst fs) := S2.sub _ _ (s2 _ _ upd_same)
        unfold atI at q
        cases q3 : ixN ms.length j with
        | none => rw [q3] at q; cases q
        | some jn =>
          rw [q3] at q
          obtain ⟨f, fd, ps', k1, k2, k3, k4⟩ := h3 jn mf q
          refine ⟨g, fs, j, .ref f, rfl, r2.of_int, SqL.of e1, by unfold atI; rw [h2, q3]; exact k1, f, fd, ps', mf, rfl, k2, k3, Z.hk ▸ k4, B1, _, c1, S2, ?_⟩
          cases q5 : fa (ρ.set i .un) c1 with
          | no => rw [q5] at m2; exact m2.elim
          | ex y c2 => rw [q5] at m2; exact fun B3 H3 cls d S3 z e => m2 _ _ B3 H3 cls d S3 z e
          | ok ss c2 =>
            rw [q5] at m2
            intro vs B3 H3 S3 s3 a3
            refine Z.hk ▸ spD_of S3 a3 (hl _ _ _ _ q5) (PostS.bE (PostS.from m2 s3) fun e c4 v4 B4 H4 S4 r4 s4 m4 => ?_)
            exact m4 v4 _ _ B4 H4 S4 (Same.refl _) r4
    | _ => exact m2.elim
  · exact m.elim
end
end DL
end L2

set_option Elab.async false
set_option linter.all false
set_option maxRecDepth 100000
set_option maxHeartbeats 1000000
/-! The law's end: the def's promise FnG (no guards) is met at the top's own call. -/
namespace L2
open PySem PySem.Spec PyProof.Rows
namespace DL
section
variable {P : Program} {w : World} {K : PySem.W.Frag} {mg mb : Str → Option Value} {t : Shared} {b : Addr} {us : List Value} {is : List Int} {G : Hp}
/-- the script's own object as the abstract heap G knows it: nowhere else anything -/
structure Sole (P : Program) (w : World) (K : PySem.W.Frag) (h : Heap) (b : Addr) (is : List Int) (G : Hp) : Prop where
  sq : SqL K G b (is.map V.int)
  ok : HOk P w G h
  only : ∀ a, G a ≠ none → a = b ∧ K.lookup a = none ∧ ∃ o xs, G a = some (.frz o (.lst xs))
theorem Sole.free (S : Sole P w K t.heap b is G) (hb : t.heap.get? b = some { cls := .type "list", data := .seq us.toArray }) {a : Addr} {o : Obj} {es : Array DictEntry} {n : Nat} (e : t.heap.get? a = some o) (d : o.data = .dict es n) : G a = none := by
  by_cases q : G a = none
  · exact q
  · obtain ⟨rfl, _⟩ := S.only a q
    rw [hb] at e
    cases e
    cases d
theorem Sole.ns (S : Sole P w K t.heap b is G) (hb : t.heap.get? b = some { cls := .type "list", data := .seq us.toArray }) {a : Addr} {m : Str → Option Value} (h : t.heap.Ns a m) : (hidT t.heap G).Ns a m := by
  obtain ⟨o, es, n, e, d, r⟩ := h
  exact ⟨o, es, n, hidT_get e (S.free hb e d), d, r⟩
theorem Sole.kin (S : Sole P w K t.heap b is G) (X : K.In t.heap) : K.In (hidT t.heap G) := fun a o e => hidT_get (X a o e) (by
  by_cases q : G a = none
  · exact q
  · have z := (S.only a q).2.1
    rw [z] at e
    cases e)
theorem Sole.env (S : Sole P w K t.heap b is G) (hb : t.heap.get? b = some { cls := .type "list", data := .seq us.toArray }) (X : K.In t.heap) (hn : t.heap.Ns mainGlobals mg) (hbn : t.heap.Ns builtinsNs mb) (hbb : ∀ x : Str, x ≠ "__name__" → mb x = bootBuiltins x) (hl : t.heap.NoLimit) (hg : t.gens = #[]) :
    Env0 P w K mg (hidT t.heap G) callerA [] t G where
  frames := rfl
  mod := ⟨S.kin X, S.ns hb hn, ⟨mb, S.ns hb hbn, hbb⟩, by obtain ⟨m, h1, h2⟩ := hl; exact ⟨m, S.ns hb h1, h2⟩⟩
  bs := fun a o e => of_hidT e
  bsz := by rw [hidT_size]; exact Nat.le_refl _
  funs := trivial
  frf := fun a z => by cases z
  hok := S.ok
  bare := .of_eq hg
/-- behind the call: the old objects stand -/
theorem Sole.old (S : Sole P w K t.heap b is G) {t' : Shared} {G' : Hp} (un : Un (frs ([] : List Env)) [] G G' t.heap t'.heap) (ok' : HOk P w G' t'.heap) : OldK t.heap t'.heap := OldK.of_keep fun a o e => by
  by_cases q : G a = none
  · exact un.keep a o e q (fun z => by cases z) (fun z => by cases z)
  · obtain ⟨_, _, oa, xs, z⟩ := S.only a q
    obtain ⟨k1, _⟩ := S.ok a _ z
    obtain ⟨k2, _⟩ := ok' a _ (un.frzs a oa _ z)
    rw [e] at k1
    cases k1
    exact k2
theorem sole_of (X : K.In t.heap) (hb : t.heap.get? b = some { cls := .type "list", data := .seq us.toArray }) (hi : IntsAre us is) (hz : is.length ≤ sizeLine) : ∃ G, Sole P w K t.heap b is G := by
  have r := vals_ints hi
  by_cases hk : K.lookup b = none
  · let G : Hp := fun a => if a = b then some (.frz { cls := .type "list", data := .seq us.toArray } (.lst (is.map V.int))) else none
    have at1 : G b = some (.frz { cls := .type "list", data := .seq us.toArray } (.lst (is.map V.int))) := if_pos rfl
    have at2 : ∀ a, a ≠ b → G a = none := fun a h => if_neg h
    refine ⟨G, .inl (.inr ⟨_, at1⟩), fun a u e => ?_, fun a q => ?_⟩
    · by_cases h : a = b
      · subst h
        rw [at1] at e
        cases e
        exact ⟨hb, by rw [List.length_map]; exact hz, us, _, r, hb⟩
      · rw [at2 a h] at e; cases e
    · by_cases h : a = b
      · subst h; exact ⟨rfl, hk, _, _, at1⟩
      · exact absurd (at2 a h) q
  · obtain ⟨o, ho⟩ := Option.ne_none_iff_exists'.mp hk
    have e := X b o ho
    rw [hb] at e
    cases e
    refine ⟨fun _ => none, .inr ⟨_, us.toArray, _, ho, rfl, rfl, rfl, by rw [List.size_toArray, hi.length]; exact hz, by simpa using r⟩, fun a u e => (by cases e), fun a q => absurd rfl q⟩
end
/-- THE END of a walk: the law's def, its meaning true at every script -/
theorem walk_dl {l : PySem.W.OpenLaw} {n k : Nat} {q : Program} {loose : List Str} {XP : (Str → Option Value) → Heap → Prop} {YP : World → Heap → Prop} {d : DefRec} {K : Params → PySem.W.Frag} {x : Str} {m : MF} (hn : l.most = some n) (hsz : n ≤ sizeLine) (hdf : d.params.defaults = [])
    (hr : Room k callerA) (hgd : callerA.guards = some []) (hY : ∀ (w : World) (h : Heap), YP w h → (K w.params).In h)
    (F : ∀ (w : World) (mg : Str → Option Value) (fa : Addr) (h : Heap), (K w.params).In h → h.Ns mainGlobals mg → mg d.name = some (.ref fa) →
      ∃ (fd : FuncData) (xt : List XC), (∀ (s : Shared) (u : Value), BindsTo s fd ⟨[u], []⟩ [(x, u)]) ∧ ∀ base : Heap, (K w.params).In base → base.Ns mainGlobals mg → FnG l.prog w (K w.params) mg base k fa fd [x] (spD (K w.params) none xt 1 m))
    (true_ : ∀ is : List Int, is.length ≤ n → ∃ c, m [.sc is] 0 = .ok (.bool true) c) : PySem.W.WalkO q loose XP YP l.row.toRowW d [] (fun f vs => PySem.call f vs) := by
  refine Att.attach_call hn hdf fun w t0 t mg mb fa o pm cd doc b us is G Y ho hd hcd hmg hobj hints hlen hgens => ?_
  have X := hY w _ Y
  obtain ⟨fd, xt, hbind, hF⟩ := F w mg fa _ X G.T.g hmg
  obtain ⟨H, S⟩ := sole_of (P := l.prog) (w := w) X hobj hints (Nat.le_trans hlen hsz)
  obtain ⟨c, hm⟩ := true_ is hlen
  have go := (hF _ (S.kin X) (S.ns hobj G.T.g)).run callerA [] t H ⟨[.ref b], []⟩ [.ref b] [.ref b] (fun v _ => v = .bl true) (fun _ _ _ => False) hr hgd (S.env hobj X G.T.g G.T.b G.T.builtins G.T.nolimit hgens) (hbind t (.ref b)) (.cons rfl .nil)
    ⟨rfl, H, [.sc is], 0, Same.refl _, fun _ z => (nomatch z), fun _ z => (nomatch z), .cons ⟨b, rfl, S.sq⟩ .nil, by rw [hm]; exact fun v B' H' _ _ r => by cases r; rfl⟩
  refine codeAny_mono go fun r t' h => ?_
  match r, h with
  | .error e, ⟨_, _, _, _, _, _, _, _, _, _, _, _, z⟩ => exact z.elim
  | .ok .next, h => exact False.elim h
  | .ok .brk, h => exact False.elim h
  | .ok .cont, h => exact False.elim h
  | .ok (.ret u), ⟨v, H', os, bare, un, ok', rv, qv⟩ =>
    have qv' : v = .bl true := qv
    subst qv'
    obtain rfl : u = Value.bool true := rv
    exact ⟨rfl, S.old un ok', os, bare⟩
end DL
end L2

set_option Elab.async false
set_option linter.all false
set_option maxRecDepth 100000
set_option maxHeartbeats 1000000
namespace L2
open PySem PySem.Spec PyProof.Rows
namespace DL
abbrev Cz.ctx {X : Cx} {p : Par} {k : Nat} (_ : Cz X p k) : Cx := X
section
variable {X : Cx} {K : PySem.W.Frag} {C : Option Addr} {B0 H0 : Hp} {xt : List XC} {W : WX} {k n : Nat} {pos : Pos} {elt tg iter : Expr} {ifs : List Expr} {scope : Scope} {own : List (Str × Nat)} {fi : FL} {t : FG} {ft : FT} {fe : FE}
def sOz (i : Nat) (fl : FL) : FS := fun ρ c => (fl ρ c).bind fun ds c1 => .ok (.nx (ρ.set i (.dt (.list ds)))) c1
/-- y = [..], at once frozen -/
theorem ds_lcz {i : Nat} {y : Str} {py spos : Pos} (Z : Cz X ⟨K, C, B0, H0, xt, W, none, n⟩ k) (hy : X.N[i]? = some y) (hyl : X.env.scope.names.lookup y = some .local)
    (hsw : swapsWith (.ListComp elt [⟨tg, iter, ifs, 0⟩] scope pos) (some (.Name y py)) spos.line X.env = pure true) (hi : PI X tg iter (dI ⟨K, C, B0, H0, xt, W, none, n⟩ fi)) (ok : BlkOk X.N X.env.scope scope own)
    (hg : ∀ (s : Shared) (H : Hp) (Cc : Addr) (cl : List (Str × Addr)) (fp : List Addr) (B1 H1 : Hp), Cz (X.blk s H scope (compEnvC scope cl Cc X.env) fp) ⟨K, C, B1, H1, xt, W0, none, n⟩ k → PG (X.blk s H scope (compEnvC scope cl Cc X.env) fp) tg (dG ⟨K, C, B1, H1, xt, W0, none, n⟩ (own.map (·.2)) t))
    (ht : ∀ (s : Shared) (H : Hp) (Cc : Addr) (cl : List (Str × Addr)) (fp : List Addr) (B1 H1 : Hp), Cz (X.blk s H scope (compEnvC scope cl Cc X.env) fp) ⟨K, C, B1, H1, xt, W0, none, n⟩ k → PTs (X.blk s H scope (compEnvC scope cl Cc X.env) fp) ifs (dT ⟨K, C, B1, H1, xt, W0, none, n⟩ ft))
    (he : ∀ (s : Shared) (H : Hp) (Cc : Addr) (cl : List (Str × Addr)) (fp : List Addr) (B1 H1 : Hp), Cz (X.blk s H scope (compEnvC scope cl Cc X.env) fp) ⟨K, C, B1, H1, xt, W0, none, n⟩ k → PE (X.blk s H scope (compEnvC scope cl Cc X.env) fp) elt (dE ⟨K, C, B1, H1, xt, W0, none, n⟩ fe))
    (hs : ∀ x, foldedSetIterable iter X.env x = pure x := by intro _; rfl) :
    PS X (.Assign [.Name y py] (.ListComp elt [⟨tg, iter, ifs, 0⟩] scope pos) spos) (dS ⟨K, C, B0, H0, xt, W, none, n⟩ (sOz i (lComp fi (own.map (·.2)) t ft fe))) :=
  (ps_setLc (i := i) Z.calm Z.nd hy hyl hsw hi ok (g := anG K C xt n (own.map (·.2)) t) (tt := anT K C xt n ft) (te := anE K C xt n fe)
    (fun s H Cc cl fp => ⟨fun pins s' σ H' v u Q I r ⟨B1, H1, z⟩ => (hg s H Cc cl fp B1 H1 (Z.blk s H Cc cl fp B1 H1)).run pins s' σ H' v u Q I r z⟩)
    (fun s H Cc cl fp => ⟨fun pins s' σ H' Q I ⟨B1, H1, z⟩ => (ht s H Cc cl fp B1 H1 (Z.blk s H Cc cl fp B1 H1)).run pins s' σ H' Q I z⟩)
    (fun s H Cc cl fp => ⟨fun pins s' σ H' Q I ⟨B1, H1, z⟩ => (he s H Cc cl fp B1 H1 (Z.blk s H Cc cl fp B1 H1)).run pins s' σ H' Q I z⟩) hs).imp fun D σ H ⟨B, ρ, c, S, m⟩ =>
    comp_ok (Q := fun x H1 => gName i x σ H1 D.nx) ⟨B, ρ, c, S, PostS.bL m fun ds c1 a xs B1 H1 S1 s1 e1 e2 e3 u r m1 => by
      obtain ⟨S2, s2⟩ := S1.freeze1 e1 e2 e3 u
      exact m1 _ _ H1 (S2.set (.lst upd_same (r.mono s2))) s2⟩
/-- what a clause catches, class by class -/
abbrev Catches (K : PySem.W.Frag) (xt : List XC) (c : Value) (ns : List Nat) : Prop := ∀ (m : Nat) (C : Addr) (nm : List Str), xt[m]? = some ⟨C, nm⟩ → PySem.W.exmOne K (.ref C) c = some (decide (m ∈ ns))
/-- classes of the program in a clause, in isinstance -/
theorem kit_up {K : PySem.W.Frag} {D C : Addr} {cd : ClassData} (h1 : PySem.W.clsIn K C = some cd) (h2 : PySem.W.typeIn K (.ref C) = some (.type "type")) (h3 : PySem.W.subIn K (.ref D) (.ref C) = some true) : PySem.W.kitOne K (.ref D) (.ref C) = some true := by
  unfold PySem.W.kitOne
  split
  · rfl
  · unfold PySem.W.kitCls
    show (if ((PySem.W.clsIn K C).isSome && PySem.W.typeIn K (.ref C) == some (.type "type")) = true then PySem.W.subIn K (.ref D) (.ref C) else none) = some true
    rw [h1, h2]
    exact h3
theorem xat_of {K : PySem.W.Frag} {xt : List XC} {nm : Str} (h : ∀ q ∈ xt, XfC K q.C ∧ (nm ∈ q.ns → PySem.W.findIn K (.ref q.C) nm = some none)) : XatOk K xt nm := ⟨fun m C ns e => h ⟨C, ns⟩ (List.mem_of_getElem? e)⟩
end
end DL
end L2

set_option Elab.async false
set_option linter.all false
set_option maxRecDepth 100000
/-! The combinators' equations, for simp. -/
namespace L2
open PySem PySem.Spec PyProof.Rows
namespace DL
section
variable {α β : Type} {a : α} {c : Int} {x : Xn} {k : α → Int → R β}
@[simp] theorem bind_ok : (R.ok a c).bind k = k a c := rfl
@[simp] theorem bind_ex : (R.ex x c : R α).bind k = .ex x c := rfl
@[simp] theorem bind_no : (R.no : R α).bind k = .no := rfl
@[simp] theorem ofO_some : ofO (some a) c = .ok a c := rfl
@[simp] theorem ofO_none : ofO (none : Option α) c = .no := rfl
theorem bind_ite {p : Prop} [Decidable p] {r s : R α} : (if p then r else s).bind k = if p then r.bind k else s.bind k := by split <;> rfl
end
section
variable {ρ : En} {c : Int} {i j : Nat} {d : PyData} {f g h : FE} {t u : FT} {fa : FA} {s s2 : FS} {fl : FL}
@[simp] theorem fNm_ : fNm i ρ c = match ρ[i]? with | some (.dt d) => .ok d c | _ => .no := rfl
@[simp] theorem fC_ : fC d ρ c = .ok d c := rfl
@[simp] theorem f1_ {uf : PyData → Option PyData} : f1 uf f ρ c = (f ρ c).bind fun x c1 => ofO (uf x) c1 := rfl
@[simp] theorem f2_ {bf : PyData → PyData → Option PyData} : f2 bf f g ρ c = (f ρ c).bind fun x c1 => (g ρ c1).bind fun y c2 => ofO (bf x y) c2 := rfl
@[simp] theorem tB1_ : tB1 f ρ c = (f ρ c).bind fun d c1 => ofO (asB d) c1 := rfl
@[simp] theorem asB_ {b : Bool} : asB (.bool b) = some b := rfl
@[simp] theorem tTr_ : tTr f ρ c = (f ρ c).bind fun d c1 => ofO (truth d) c1 := rfl
@[simp] theorem tAn_ : tAn t u ρ c = (t ρ c).bind fun k c1 => if k = true then u ρ c1 else .ok false c1 := rfl
@[simp] theorem tOr_ : tOr' t u ρ c = (t ρ c).bind fun k c1 => if k = true then .ok true c1 else u ρ c1 := rfl
@[simp] theorem tNo_ : tNo t ρ c = (t ρ c).bind fun k c1 => .ok (!k) c1 := rfl
@[simp] theorem fAn_ : fAn f g ρ c = (f ρ c).bind fun d c1 => (ofO (truth d) c1).bind fun k c2 => if k = true then g ρ c2 else .ok d c2 := rfl
@[simp] theorem fOr_ : fOr f g ρ c = (f ρ c).bind fun d c1 => (ofO (truth d) c1).bind fun k c2 => if k = true then .ok d c2 else g ρ c2 := rfl
@[simp] theorem fNo_ : fNo f ρ c = (f ρ c).bind fun d c1 => (ofO (truth d) c1).bind fun k c2 => .ok (.bool (!k)) c2 := rfl
@[simp] theorem fIf_ : fIf t f g ρ c = (t ρ c).bind fun k c1 => if k = true then f ρ c1 else g ρ c1 := rfl
@[simp] theorem aNil_ : aNil ρ c = .ok [] c := rfl
@[simp] theorem aCons_ : aCons f fa ρ c = (f ρ c).bind fun d c1 => (fa ρ c1).bind fun ss c2 => .ok (.dt d :: ss) c2 := rfl
@[simp] theorem aCel_ : aCel i fa ρ c = (match ρ[i]? with | some .ce => .ok [.ce] c | _ => .no : R (List Sl)).bind fun _ c1 => (fa ρ c1).bind fun ss c2 => .ok (.ce :: ss) c2 := rfl
@[simp] theorem fDis_ {mk : List Sl → Option PyData} : fDis mk fa ρ c = (fa ρ c).bind fun ss c1 => ofO (mk ss) c1 := rfl
@[simp] theorem dts_0 : dts [] = some [] := rfl
@[simp] theorem dts_1 {ss : List Sl} : dts (.dt d :: ss) = (dts ss).map (d :: ·) := rfl
@[simp] theorem fBi_ {cf : List PyData → Option PyData} : fBi cf fa ρ c = (fa ρ c).bind fun ss c1 => ofO ((dts ss).bind cf) c1 := rfl
@[simp] theorem fCall_ {m : MF} : fCall m fa ρ c = (fa ρ c).bind fun ss c1 => m ss c1 := rfl
@[simp] theorem fPn_ : fPn ρ c = .ok none c := rfl
@[simp] theorem fPs_ : fPs f ρ c = (f ρ c).bind fun d c1 => ofO (asI d) c1 := rfl
@[simp] theorem asI_ {n : Int} : asI (.int n) = some (some n) := rfl
@[simp] theorem fSl_ {fl fh : FO} : fSl f fl fh ρ c = (f ρ c).bind fun d c1 => (fl ρ c1).bind fun l c2 => (fh ρ c2).bind fun u c3 => ofO (dSl d l u) c3 := rfl
@[simp] theorem sSeq_ : sSeq s s2 ρ c = (s ρ c).bind fun fl c1 => match fl with | .nx ρ1 => s2 ρ1 c1 | fl => .ok fl c1 := rfl
@[simp] theorem sNx_ : sNx ρ c = .ok (.nx ρ) c := rfl
@[simp] theorem sRet_ : sRet f ρ c = (f ρ c).bind fun d c1 => .ok (.rt d) c1 := rfl
@[simp] theorem sIf_ : sIf t s s2 ρ c = (t ρ c).bind fun k c1 => if k = true then s ρ c1 else s2 ρ c1 := rfl
@[simp] theorem sSet_ : sSet i f ρ c = (f ρ c).bind fun d c1 => .ok (.nx (ρ.set i (.dt d))) c1 := rfl
@[simp] theorem sPar_ : sPar i j f g ρ c = (f ρ c).bind fun d c1 => (g ρ c1).bind fun e c2 => .ok (.nx ((ρ.set i (.dt d)).set j (.dt e))) c2 := rfl
@[simp] theorem sDrop_ : sDrop f ρ c = (f ρ c).bind fun _ c1 => .ok (.nx ρ) c1 := rfl
@[simp] theorem sAsg_ {tg : FG} : sAsg f tg ρ c = (f ρ c).bind fun d c1 => (ofO (tg d ρ) c1).bind fun ρ1 c2 => .ok (.nx ρ1) c2 := rfl
@[simp] theorem sRaise_ {n : Nat} : sRaise n f ρ c = (f ρ c).bind fun d c1 => .ex ⟨n, [d]⟩ c1 := rfl
@[simp] theorem sAug_ {bf : PyData → PyData → Option PyData} : sAug i bf f ρ c = match ρ[i]? with | some (.dt d0) => (f ρ c).bind fun d c1 => (ofO (bf d0 d) c1).bind fun e c2 => .ok (.nx (ρ.set i (.dt e))) c2 | _ => .no := rfl
@[simp] theorem tNm_ : tNm i d ρ = some (ρ.set i (.dt d)) := rfl
@[simp] theorem fCell_ : fCell i ρ c = match ρ[i]? with | some .ce => .ok (.int c) c | _ => .no := rfl
@[simp] theorem mOf_ {n : Nat} {ss : List Sl} : mOf n s ss c = match s (ss ++ List.replicate (n - ss.length) .un) c with
  | .ok (.nx _) c' => .ok .none c'
  | .ok (.rt d) c' => .ok d c'
  | .ok (.bk _) _ => .no
  | .ok (.ct _) _ => .no
  | .ex x c' => .ex x c'
  | .no => .no := rfl
/-! operators on concrete kinds -/
variable {a b : Int} {xs ys : List PyData} {x y : Str}
@[simp] theorem dAdd_i : dAdd (.int a) (.int b) = some (.int (a + b)) := rfl
@[simp] theorem dSub_i : dSub (.int a) (.int b) = some (.int (a - b)) := rfl
@[simp] theorem iAdd_i : iAdd (.int a) (.int b) = some (.int (a + b)) := rfl
@[simp] theorem dNeg_i : dNeg (.int a) = some (.int (-a)) := rfl
@[simp] theorem dLt_i : dOrd (fun a b => decide (a < b)) (.int a) (.int b) = some (.bool (decide (a < b))) := rfl
@[simp] theorem dOrd_i {q : Int → Int → Bool} : dOrd q (.int a) (.int b) = some (.bool (q a b)) := rfl
@[simp] theorem dIsi_ {T : String} : dIsi T d = some (.bool (isT T d)) := rfl
@[simp] theorem truth_b {k : Bool} : truth (.bool k) = some k := rfl
@[simp] theorem truth_i : truth (.int a) = some (a != 0) := rfl
@[simp] theorem cAbs_i : cAbs [.int a] = some (.int (if a < 0 then -a else a)) := rfl
@[simp] theorem cInt_i : cInt [.int a] = some (.int a) := rfl
@[simp] theorem cLen_l : cLen [.list xs] = some (.int xs.length) := rfl
@[simp] theorem cLen_t : cLen [.tuple xs] = some (.int xs.length) := rfl
@[simp] theorem mkTup_ {ss : List Sl} : mkTup ss = match dts ss with | some ds => if lineOk ds.length then some (.tuple ds) else none | none => none := rfl
@[simp] theorem mkLst_ {ss : List Sl} : mkLst ss = match dts ss with | some ds => if lineOk ds.length then some (.list ds) else none | none => none := rfl
theorem mul_i (h : mulFits a b = true) : dMul (.int a) (.int b) = some (.int (a * b)) := if_pos h
theorem div_i (h : divFits b = true) : dDiv (.int a) (.int b) = some (.int (a.fdiv b)) := if_pos h
theorem mod_i (h : b ≠ 0) : dMod (.int a) (.int b) = some (.int (a.fmod b)) := if_pos h
theorem atI_n {α : Type} {xs : List α} {n : Nat} : atI xs (n : Int) = xs[n]? := by
  cases h : xs[n]? with
  | some v => exact atI_nat h
  | none =>
    have h' := List.getElem?_eq_none_iff.mp h
    unfold atI ixN
    rw [if_pos (by omega), if_neg (by omega)]
    rfl
@[simp] theorem ix_t0 : dIx (.tuple xs) (.int 0) = xs[0]? := atI_n (n := 0)
@[simp] theorem ix_t1 : dIx (.tuple xs) (.int 1) = xs[1]? := atI_n (n := 1)
@[simp] theorem ix_t2 : dIx (.tuple xs) (.int 2) = xs[2]? := atI_n (n := 2)
theorem ix_tn {n : Nat} : dIx (.tuple xs) (.int n) = xs[n]? := atI_n
theorem ix_ln {n : Nat} : dIx (.list xs) (.int n) = xs[n]? := atI_n
theorem ix_t {k : Int} (h : 0 ≤ k) : dIx (.tuple xs) (.int k) = xs[k.toNat]? := by
  obtain ⟨n, rfl⟩ := Int.eq_ofNat_of_zero_le h
  exact atI_n
theorem ix_l {k : Int} (h : 0 ≤ k) : dIx (.list xs) (.int k) = xs[k.toNat]? := by
  obtain ⟨n, rfl⟩ := Int.eq_ofNat_of_zero_le h
  exact atI_n
@[simp] theorem sTry_ {n : Nat} {hs : List HdS} : sTry n s hs ρ c = match s ρ c with | .ex x c1 => hdD n hs x c1 | r => r := rfl
@[simp] theorem hdD_0 {n : Nat} {x : Xn} : hdD n [] x c = .ex x c := rfl
@[simp] theorem hdD_1 {n : Nat} {x : Xn} {h : HdS} {r : List HdS} : hdD n (h :: r) x c = if x.n ∈ h.ns then noEx (h.f (enX n h.i x) c) else hdD n r x c := rfl
@[simp] theorem noEx_ok : noEx (.ok d c) = .ok (.rt d) c := rfl
@[simp] theorem noEx_ex {x : Xn} : noEx (.ex x c) = .no := rfl
@[simp] theorem noEx_no : noEx .no = .no := rfl
@[simp] theorem enX_s {n : Nat} {x : Xn} : enX n (some i) x = (List.replicate n .un).set i (.xn x) := rfl
@[simp] theorem enX_n {n : Nat} {x : Xn} : enX n none x = List.replicate n .un := rfl
@[simp] theorem fXis_ {ns : List Nat} : fXis ns i ρ c = match ρ[i]? with | some (.xn x) => .ok (.bool (decide (x.n ∈ ns))) c | _ => .no := rfl
@[simp] theorem fXat_ {nms : List (List Str)} {nm : Str} : fXat nms i nm ρ c = match ρ[i]? with | some (.xn x) => (match nms[x.n]? with | some ns => ofO ((ns.zip x.fs).lookup nm) c | none => .no) | _ => .no := rfl
theorem sSel_ {ms : List MF} {n : Nat} {m : MF} (hl : ms.length ≤ 1000) (hi : i < ρ.length) (hf : f (ρ.set i .un) c = .ok (.int n) c) (hm : ms[n]? = some m) : sSel i ms f fa ρ c = (fa (ρ.set i .un) c).bind fun ss c2 => (m ss c2).bind fun e c3 => .ok (.rt e) c3 := by
  unfold sSel
  rw [if_pos (by simp [lineOk, hi]; omega), hf]
  simp only [bind_ok, atF]
  rw [atI_n, hm]
end
/-! ### what repr can show -/
mutual
def Nc : PyData → Prop
  | .none | .bool _ => True
  | .int i => i.natAbs < 2 ^ 200
  | .str x => PyData.canLay0 (.str x) = true ∧ x.length ≤ 200
  | .list xs | .tuple xs => NcAll xs
  | .dict _ => False
def NcAll : List PyData → Prop
  | [] => True
  | x :: xs => Nc x ∧ NcAll xs
end
mutual
def cnt : PyData → Nat
  | .list xs | .tuple xs => cntAll xs + 1
  | .none | .bool _ | .int _ | .str _ | .dict _ => 1
def cntAll : List PyData → Nat
  | [] => 0
  | x :: xs => cnt x + cntAll xs
end
theorem small_log {i : Int} (h : i.natAbs < 2 ^ 200) : i.natAbs.log2 < 200 := by
  by_cases h0 : i.natAbs = 0
  · rw [h0]; decide
  · exact (Nat.log2_lt h0).mpr h
theorem small_shown {i : Int} (h : i.natAbs < 2 ^ 200) : (PyData.shown (.int i)).length ≤ 62 := by
  have e := int_text_length_le10 (k := 61) (by decide) (Nat.lt_of_lt_of_le h (by decide))
  show (Str.ofString (toString i)).length ≤ 62
  rw [PySem.ofString_length]
  exact e
mutual
theorem Nc.facts : ∀ d : PyData, Nc d → d.canLay0 = true ∧ d.showable = true ∧ d.hasDict = false ∧ d.intsShort 62 = true ∧ d.weight + 1 ≤ 202 * cnt d
  | .none, _ => ⟨rfl, rfl, rfl, rfl, by simp [PyData.weight, cnt]⟩
  | .bool _, _ => ⟨rfl, rfl, rfl, rfl, by simp [PyData.weight, cnt]⟩
  | .int i, h => by
    have hi : i.natAbs < 2 ^ 200 := h
    have hl := small_log hi
    refine ⟨rfl, decide_eq_true (by omega), rfl, decide_eq_true (small_shown hi), ?_⟩
    simp only [PyData.weight, cnt]
    split <;> omega
  | .str x, h => by
    have h' : PyData.canLay0 (.str x) = true ∧ x.length ≤ 200 := h
    refine ⟨h'.1, rfl, rfl, rfl, ?_⟩
    have e : x.length = x.cps.size := rfl
    simp only [PyData.weight, cnt]
    omega
  | .list xs, h => by
    obtain ⟨h1, h2, h3, h4, h5⟩ := NcAll.facts xs h
    refine ⟨h1, h2, h3, h4, ?_⟩
    simp only [PyData.weight, cnt]
    omega
  | .tuple xs, h => by
    obtain ⟨h1, h2, h3, h4, h5⟩ := NcAll.facts xs h
    refine ⟨h1, h2, h3, h4, ?_⟩
    simp only [PyData.weight, cnt]
    omega
  | .dict _, h => h.elim
theorem NcAll.facts : ∀ xs : List PyData, NcAll xs → PyData.canLayAll0 xs = true ∧ PyData.showableAll xs = true ∧ PyData.hasDictAll xs = false ∧ PyData.intsShortAll 62 xs = true ∧ PyData.weightAll xs ≤ 202 * cntAll xs
  | [], _ => ⟨rfl, rfl, rfl, rfl, by simp [PyData.weightAll, cntAll]⟩
  | x :: xs, h => by
    have h' : Nc x ∧ NcAll xs := h
    obtain ⟨h1, h2, h3, h4, h5⟩ := Nc.facts x h'.1
    obtain ⟨k1, k2, k3, k4, k5⟩ := NcAll.facts xs h'.2
    refine ⟨by simp only [PyData.canLayAll0, h1, k1, Bool.and_self], by simp only [PyData.showableAll, h2, k2, Bool.and_self], by simp only [PyData.hasDictAll, h3, k3, Bool.or_self], by simp only [PyData.intsShortAll, h4, k4, Bool.and_self], ?_⟩
    simp only [PyData.weightAll, cntAll]
    omega
end
theorem showOk_of {d : PyData} (h : Nc d) (hc : cnt d ≤ 1000) (hd : d.depth ≤ 64) : showOk d = true := by
  obtain ⟨h1, h2, h3, h4, h5⟩ := Nc.facts d h
  have e := PyData.shown_le 62 (by decide) d (PyData.leavesShort_of_canLay0 62 d h1 h4)
  unfold showOk lineOk
  simp only [h2, h3, Bool.not_false, Bool.and_self, Bool.true_and, Bool.and_eq_true, decide_eq_true_eq]
  exact ⟨hd, by omega⟩
theorem shaped_of {d : PyData} (h : Nc d) (hd : d.depth ≤ 64) : SeqAt.shaped d = true := by
  obtain ⟨h1, _⟩ := Nc.facts d h
  unfold SeqAt.shaped
  rw [h1, decide_eq_true hd]
  rfl
theorem eq_self {d : PyData} (h : Nc d) (hd : d.depth ≤ 64) : dEq d d = some (.bool true) := by
  unfold dEq
  split
  · simp
  · rw [shaped_of h hd, SeqAt.eqv_refl d (Nc.facts d h).1]
    rfl
theorem repr_self {d : PyData} (h : Nc d) (hc : cnt d ≤ 1000) (hd : d.depth ≤ 64) : cRepr [d] = some (.str d.shown) := if_pos (showOk_of h hc hd)
@[simp] theorem eq_ss {x y : Str} : dEq (.str x) (.str y) = some (.bool (x == y)) := rfl
@[simp] theorem ne_ss {x y : Str} : dNe (.str x) (.str y) = some (.bool (!(x == y))) := rfl
theorem eq_ii (a b : Int) : dEq (.int a) (.int b) = some (.bool (decide (a = b))) := by
  show (if (SeqAt.shaped (.int a) && SeqAt.shaped (.int b)) = true then some (PyData.bool (PyData.eqv (.int a) (.int b))) else none) = _
  rw [if_pos (by rfl)]
  simp only [PyData.eqv]
  rfl
theorem ne_ii (a b : Int) : dNe (.int a) (.int b) = some (.bool (!decide (a = b))) := by
  show (if (SeqAt.shaped (.int a) && SeqAt.shaped (.int b)) = true then some (PyData.bool (!PyData.eqv (.int a) (.int b))) else none) = _
  rw [if_pos (by rfl)]
  simp only [PyData.eqv]
  rfl
theorem eq_tt {xs ys : List PyData} (h1 : SeqAt.shaped (.tuple xs) = true) (h2 : SeqAt.shaped (.tuple ys) = true) : dEq (.tuple xs) (.tuple ys) = some (.bool (PyData.eqvAll xs ys)) := by
  show (if (SeqAt.shaped (.tuple xs) && SeqAt.shaped (.tuple ys)) = true then some (PyData.bool (PyData.eqv (.tuple xs) (.tuple ys))) else none) = _
  rw [h1, h2]
  simp [PyData.eqv]
theorem eq_ll {xs ys : List PyData} (h1 : SeqAt.shaped (.list xs) = true) (h2 : SeqAt.shaped (.list ys) = true) : dEq (.list xs) (.list ys) = some (.bool (PyData.eqvAll xs ys)) := by
  show (if (SeqAt.shaped (.list xs) && SeqAt.shaped (.list ys)) = true then some (PyData.bool (PyData.eqv (.list xs) (.list ys))) else none) = _
  rw [h1, h2]
  simp [PyData.eqv]
theorem ne_ll {xs ys : List PyData} (h1 : SeqAt.shaped (.list xs) = true) (h2 : SeqAt.shaped (.list ys) = true) : dNe (.list xs) (.list ys) = some (.bool (!PyData.eqvAll xs ys)) := by
  show (if (SeqAt.shaped (.list xs) && SeqAt.shaped (.list ys)) = true then some (PyData.bool (!PyData.eqv (.list xs) (.list ys))) else none) = _
  rw [h1, h2]
  simp [PyData.eqv]
theorem ne_self {d : PyData} (h : Nc d) (hd : d.depth ≤ 64) : dNe d d = some (.bool false) := by
  unfold dNe
  split
  · simp
  · rw [shaped_of h hd, SeqAt.eqv_refl d (Nc.facts d h).1]
    rfl
section
variable {ρ : En} {c : Int} {i j : Nat} {d : PyData} {f g h : FE} {t u : FT} {fa : FA} {s s2 : FS} {fl : FL} {tg : FG}
@[simp] theorem sOw_ : sOw i fl ρ c = (fl ρ c).bind fun ds c1 => .ok (.nx (ρ.set i (.ow ds))) c1 := rfl
@[simp] theorem sApp_ : sApp i f ρ c = match ρ[i]? with | some (.ow ds) => (f ρ c).bind fun d c1 => if lineOk (ds.length + 1) then .ok (.nx (ρ.set i (.ow (ds ++ [d])))) c1 else .no | _ => .no := rfl
@[simp] theorem sFor_ : sFor fl tg s ρ c = (fl ρ c).bind fun ds c1 => forD tg s ds ρ c1 := rfl
@[simp] theorem lRng_ {r : List Sl → Option (List PyData)} : lRng r fa ρ c = (fa ρ c).bind fun ss c1 => ofO (r ss) c1 := rfl
@[simp] theorem lIt_ : lIt f ρ c = (f ρ c).bind fun d c1 => ofO (asSeq d) c1 := rfl
@[simp] theorem asSeq_l {ds : List PyData} : asSeq (.list ds) = some ds := rfl
@[simp] theorem asSeq_t {ds : List PyData} : asSeq (.tuple ds) = some ds := rfl
@[simp] theorem fFz_ : fFz fl ρ c = (fl ρ c).bind fun ds c1 => .ok (.list ds) c1 := rfl
@[simp] theorem lLst_ : lLst fa ρ c = (fa ρ c).bind fun ss c1 => match dts ss with | some ds => if lineOk ds.length then .ok ds c1 else .no | none => .no := rfl
@[simp] theorem lSc_ {m : Nat} : lSc i m ρ c = match ρ[i]? with | some (.sc ns) => .ok ((ns.take m).map PyData.int) c | _ => .no := rfl
@[simp] theorem sFz_ : sFz i s ρ c = s (fzE i ρ) c := rfl
@[simp] theorem fzE_ : fzE i ρ = match ρ[i]? with | some (.ow ds) => ρ.set i (.dt (.list ds)) | _ => ρ := rfl
@[simp] theorem sCel_ : sCel i s ρ c = match s ((blkE ρ []).set i .ce) 0 with | .ok (.rt d) _ => .ok (.rt d) c | _ => .no := rfl
@[simp] theorem sCell_ : sCell i f ρ c = match ρ[i]? with | some .ce => ((f ρ c).bind fun d _ => match d with | .int n => .ok (.nx ρ) n | _ => .no) | _ => .no := rfl
@[simp] theorem aSc_ : aSc i fa ρ c = match ρ[i]? with | some (.sc ns) => (fa ρ c).bind fun ss c2 => .ok (.sc ns :: ss) c2 | _ => .no := rfl
@[simp] theorem tTup_ {ts : FGs} {ds : List PyData} : tTup ts (.tuple ds) ρ = ts ds ρ := rfl
@[simp] theorem tsNil_ : tsNil [] ρ = some ρ := rfl
@[simp] theorem tsCons_ {ts : FGs} {ds : List PyData} : tsCons tg ts (d :: ds) ρ = (tg d ρ).bind fun ρ1 => ts ds ρ1 := rfl
@[simp] theorem rng1_ {n : Nat} (h : n < 2 ^ 62 := by decide) : rng1 [.dt (.int n)] = some (rngD 0 n) := by
  have e : rngOk (n : Int) = true := decide_eq_true (by omega)
  show (if rngOk (n : Int) = true then some (rngD 0 (n : Int).toNat) else none) = _
  rw [if_pos e]
  rfl
theorem pow_i {a : Int} {b : Nat} (h : a.natAbs < 2 ^ 64) (hb : b ≤ 1000000) : dPow (.int a) (.int b) = some (.int (a ^ b)) := by
  show (if 0 ≤ (b : Int) ∧ (b : Int) ≤ 1000000 ∧ a.natAbs < 2 ^ 64 then some (PyData.int (a ^ (b : Int).toNat)) else none) = _
  rw [if_pos ⟨by omega, by omega, h⟩]
  rfl
/-- a loop by an invariant -/
theorem forD_inv (P : Nat → En → Int → Prop) : ∀ (ds : List PyData) (i : Nat) (ρ : En) (c : Int),
    (∀ j d, ds[j]? = some d → ∀ ρ c, P (i + j) ρ c → ∃ ρ1, tg d ρ = some ρ1 ∧ ∃ ρ2 c2, (s ρ1 c = .ok (.nx ρ2) c2 ∨ s ρ1 c = .ok (.ct ρ2) c2) ∧ P (i + j + 1) ρ2 c2) → P i ρ c →
    ∃ ρ' c', forD tg s ds ρ c = .ok (.nx ρ') c' ∧ P (i + ds.length) ρ' c'
  | [], i, ρ, c, _, h => ⟨ρ, c, rfl, h⟩
  | d :: ds, i, ρ, c, hs, h => by
    obtain ⟨ρ1, e1, ρ2, c2, e2, h2⟩ := hs 0 d rfl ρ c h
    obtain ⟨ρ', c', e3, h3⟩ := forD_inv P ds (i + 1) ρ2 c2 (fun j d' e ρ c q => by
      have z := hs (j + 1) d' (by simpa using e) ρ c (by rw [show i + (j + 1) = i + 1 + j by omega]; exact q)
      rw [show i + (j + 1) + 1 = i + 1 + j + 1 by omega] at z
      exact z) h2
    refine ⟨ρ', c', ?_, by rw [List.length_cons, show i + (ds.length + 1) = i + 1 + ds.length by omega]; exact h3⟩
    rw [forD, e1]
    rcases e2 with e2 | e2
    · simp only [e2, bind_ok]; exact e3
    · simp only [e2, bind_ok]; exact e3
end
theorem rngD_get {lo : Int} {n j : Nat} {d : PyData} (h : (rngD lo n)[j]? = some d) : j < n ∧ d = .int (lo + j) := by
  unfold rngD at h
  rw [List.getElem?_map] at h
  by_cases hj : j < n
  · rw [List.getElem?_range hj] at h
    cases h
    exact ⟨hj, rfl⟩
  · rw [List.getElem?_eq_none (by simpa using hj)] at h
    cases h
@[simp] theorem truth_l {xs : List PyData} : truth (.list xs) = some (!xs.isEmpty) := rfl
@[simp] theorem truth_t {xs : List PyData} : truth (.tuple xs) = some (!xs.isEmpty) := rfl
@[simp] theorem truth_n : truth .none = some false := rfl
end DL
end L2

set_option Elab.async false
set_option linter.all false
set_option maxRecDepth 100000
namespace L2
open PySem PySem.Spec PyProof.Rows
namespace DL
/-! ### comprehensions -/
@[simp] theorem hide_d {d : PyData} : hide1 (.dt d) = .dt d := rfl
@[simp] theorem hide_c : hide1 .ce = .ce := rfl
@[simp] theorem hide_s {ns : List Int} : hide1 (.sc ns) = .sc ns := rfl
@[simp] theorem hide_u : hide1 .un = .un := rfl
@[simp] theorem blkE_0 {ρ : En} : blkE ρ [] = ρ.map hide1 := rfl
@[simp] theorem blkE_1 {ρ : En} {v : Nat} : blkE ρ [v] = (ρ.map hide1).set v .un := rfl
@[simp] theorem blkE_2 {ρ : En} {v w : Nat} : blkE ρ [v, w] = ((ρ.map hide1).set w .un).set v .un := rfl
@[simp] theorem tYs_ {ρ : En} {c : Int} : tYs ρ c = .ok true c := rfl
theorem lComp_ {fi : FL} {vs : List Nat} {t : FG} {ft : FT} {fe : FE} {ρ : En} {c : Int} : lComp fi vs t ft fe ρ c = (fi ρ c).bind fun ds c1 => match compD t ft fe (blkE ρ vs) ds c1 with
  | .ok es c2 => if lineOk es.length then .ok es c2 else .no
  | _ => .no := rfl
theorem compD_map {i : Nat} {fe : FE} {ρb : En} {f : PyData → PyData} {c : Int} : ∀ ds : List PyData, (∀ d ∈ ds, fe (ρb.set i (.dt d)) c = .ok (f d) c) → compD (tNm i) tYs fe ρb ds c = .ok (ds.map f) c
  | [], _ => rfl
  | d :: ds, h => by
    rw [compD]
    simp only [tNm_, tYs_, bind_ok, if_true]
    rw [h d (List.mem_cons_self ..)]
    simp only [bind_ok]
    rw [compD_map ds fun x hx => h x (List.mem_cons_of_mem _ hx)]
    rfl
theorem lComp_map {i : Nat} {fi : FL} {fe : FE} {ρ : En} {f : PyData → PyData} {c c1 : Int} {ds : List PyData} (hi : fi ρ c = .ok ds c1) (hl : ds.length ≤ 1000) (h : ∀ d ∈ ds, fe ((blkE ρ [i]).set i (.dt d)) c1 = .ok (f d) c1) : lComp fi [i] (tNm i) tYs fe ρ c = .ok (ds.map f) c1 := by
  rw [lComp_, hi]
  simp only [bind_ok]
  rw [compD_map ds h]
  simp only [List.length_map]
  rw [if_pos (show lineOk ds.length = true from decide_eq_true (by omega))]
end DL
end L2

set_option Elab.async false
set_option linter.all false
set_option maxRecDepth 100000
namespace K01
open PySem PySem.Spec PyProof.Rows L2 L2.DL
def nms : List (List Str) := [["reason"], ["at"]]
/-- is_integer -/
noncomputable def g_is_integer : FS :=
  (sRet (fAn (f1 (dIsi "int") (fNm 0)) (fNo (f1 (dIsi "bool") (fNm 0)))))
noncomputable def m_is_integer : MF := mOf 1 g_is_integer
/-- common -/
noncomputable def g_common : FS :=
  (sSeq (sPar 0 1 (fBi cAbs (aCons (fNm 0) aNil)) (fBi cAbs (aCons (fNm 1) aNil)))
  (sSeq (sWh (tTr (fNm 1)) (sPar 0 1 (fNm 1) (f2 dSub (fNm 0) (f2 dMul (f2 dDiv (fNm 0) (fNm 1)) (fNm 1)))))
  (sRet (fNm 0))))
noncomputable def m_common : MF := mOf 2 g_common
/-- made -/
noncomputable def g_made : FS :=
  (sSeq (sIf (tB1 (f2 dLt (fNm 1) (fC (.int 0)))) (sPar 0 1 (f2 dSub (fC (.int 0)) (fNm 0)) (f2 dSub (fC (.int 0)) (fNm 1)))
  sNx)
  (sSeq (sSet 2 (fCall m_common (aCons (fNm 0) (aCons (fNm 1) aNil))))
  (sRet (fDis mkTup (aCons (f2 dDiv (fNm 0) (fNm 2)) (aCons (f2 dDiv (fNm 1) (fNm 2)) aNil))))))
noncomputable def m_made : MF := mOf 3 g_made
/-- is_fraction -/
noncomputable def g_is_fraction : FS :=
  (sSeq (sIf (tOr' (tNo (tTr (f1 (dIsi "tuple") (fNm 0)))) (tOr' (tB1 (f2 dNe (fBi cLen (aCons (fNm 0) aNil)) (fC (.int 2)))) (tOr' (tNo (tTr (fCall m_is_integer (aCons (f2 dIx (fNm 0) (fC (.int 0))) aNil)))) (tNo (tTr (fCall m_is_integer (aCons (f2 dIx (fNm 0) (fC (.int 1))) aNil))))))) (sRet (fC (.bool false)))
  sNx)
  (sRet (fAn (f2 dGt (f2 dIx (fNm 0) (fC (.int 1))) (fC (.int 0))) (f2 dEq (fCall m_common (aCons (f2 dIx (fNm 0) (fC (.int 0))) (aCons (f2 dIx (fNm 0) (fC (.int 1))) aNil))) (fC (.int 1))))))
noncomputable def m_is_fraction : MF := mOf 1 g_is_fraction
/-- is_small -/
noncomputable def g_is_small : FS :=
  (sRet (fAn (fCall m_is_fraction (aCons (fNm 0) aNil)) (fAn (f2 dLe (fBi cAbs (aCons (f2 dIx (fNm 0) (fC (.int 0))) aNil)) (fC (.int 1000000))) (f2 dLe (f2 dIx (fNm 0) (fC (.int 1))) (fC (.int 1000000))))))
noncomputable def m_is_small : MF := mOf 1 g_is_small
/-- added -/
noncomputable def g_added : FS :=
  (sRet (fCall m_made (aCons (f2 dAdd (f2 dMul (f2 dIx (fNm 0) (fC (.int 0))) (f2 dIx (fNm 1) (fC (.int 1)))) (f2 dMul (f2 dIx (fNm 1) (fC (.int 0))) (f2 dIx (fNm 0) (fC (.int 1))))) (aCons (f2 dMul (f2 dIx (fNm 0) (fC (.int 1))) (f2 dIx (fNm 1) (fC (.int 1)))) aNil))))
noncomputable def m_added : MF := mOf 2 g_added
/-- lessened -/
noncomputable def g_lessened : FS :=
  (sRet (fCall m_made (aCons (f2 dSub (f2 dMul (f2 dIx (fNm 0) (fC (.int 0))) (f2 dIx (fNm 1) (fC (.int 1)))) (f2 dMul (f2 dIx (fNm 1) (fC (.int 0))) (f2 dIx (fNm 0) (fC (.int 1))))) (aCons (f2 dMul (f2 dIx (fNm 0) (fC (.int 1))) (f2 dIx (fNm 1) (fC (.int 1)))) aNil))))
noncomputable def m_lessened : MF := mOf 2 g_lessened
/-- multiplied -/
noncomputable def g_multiplied : FS :=
  (sRet (fCall m_made (aCons (f2 dMul (f2 dIx (fNm 0) (fC (.int 0))) (f2 dIx (fNm 1) (fC (.int 0)))) (aCons (f2 dMul (f2 dIx (fNm 0) (fC (.int 1))) (f2 dIx (fNm 1) (fC (.int 1)))) aNil))))
noncomputable def m_multiplied : MF := mOf 2 g_multiplied
/-- divided -/
noncomputable def g_divided : FS :=
  (sRet (fCall m_made (aCons (f2 dMul (f2 dIx (fNm 0) (fC (.int 0))) (f2 dIx (fNm 1) (fC (.int 1)))) (aCons (f2 dMul (f2 dIx (fNm 0) (fC (.int 1))) (f2 dIx (fNm 1) (fC (.int 0)))) aNil))))
noncomputable def m_divided : MF := mOf 2 g_divided
/-- negated -/
noncomputable def g_negated : FS :=
  (sRet (fDis mkTup (aCons (f2 dSub (fC (.int 0)) (f2 dIx (fNm 0) (fC (.int 0)))) (aCons (f2 dIx (fNm 0) (fC (.int 1))) aNil))))
noncomputable def m_negated : MF := mOf 1 g_negated
/-- is_less -/
noncomputable def g_is_less : FS :=
  (sRet (f2 dLt (f2 dMul (f2 dIx (fNm 0) (fC (.int 0))) (f2 dIx (fNm 1) (fC (.int 1)))) (f2 dMul (f2 dIx (fNm 1) (fC (.int 0))) (f2 dIx (fNm 0) (fC (.int 1))))))
noncomputable def m_is_less : MF := mOf 2 g_is_less
/-- demand_two -/
noncomputable def g_demand_two : FS :=
  (sSeq (sIf (tNo (tTr (fCall m_is_fraction (aCons (fNm 0) aNil)))) (sRaise 0 (fC (.str "one")))
  sNx)
  (sIf (tNo (tTr (fCall m_is_fraction (aCons (fNm 1) aNil)))) (sRaise 0 (fC (.str "other")))
  sNx))
noncomputable def m_demand_two : MF := mOf 2 g_demand_two
/-- fraction -/
noncomputable def g_fraction : FS :=
  (sSeq (sIf (tNo (tTr (fCall m_is_integer (aCons (fNm 0) aNil)))) (sRaise 0 (fC (.str "top")))
  sNx)
  (sSeq (sIf (tOr' (tNo (tTr (fCall m_is_integer (aCons (fNm 1) aNil)))) (tNo (tTr (fNm 1)))) (sRaise 0 (fC (.str "under")))
  sNx)
  (sRet (fCall m_made (aCons (fNm 0) (aCons (fNm 1) aNil))))))
noncomputable def m_fraction : MF := mOf 2 g_fraction
/-- plus -/
noncomputable def g_plus : FS :=
  (sSeq (sDrop (fCall m_demand_two (aCons (fNm 0) (aCons (fNm 1) aNil))))
  (sRet (fCall m_added (aCons (fNm 0) (aCons (fNm 1) aNil)))))
noncomputable def m_plus : MF := mOf 2 g_plus
/-- minus -/
noncomputable def g_minus : FS :=
  (sSeq (sDrop (fCall m_demand_two (aCons (fNm 0) (aCons (fNm 1) aNil))))
  (sRet (fCall m_lessened (aCons (fNm 0) (aCons (fNm 1) aNil)))))
noncomputable def m_minus : MF := mOf 2 g_minus
/-- times -/
noncomputable def g_times : FS :=
  (sSeq (sDrop (fCall m_demand_two (aCons (fNm 0) (aCons (fNm 1) aNil))))
  (sRet (fCall m_multiplied (aCons (fNm 0) (aCons (fNm 1) aNil)))))
noncomputable def m_times : MF := mOf 2 g_times
/-- over -/
noncomputable def g_over : FS :=
  (sSeq (sDrop (fCall m_demand_two (aCons (fNm 0) (aCons (fNm 1) aNil))))
  (sSeq (sIf (tNo (tTr (f2 dIx (fNm 1) (fC (.int 0))))) (sRaise 0 (fC (.str "nought")))
  sNx)
  (sRet (fCall m_divided (aCons (fNm 0) (aCons (fNm 1) aNil))))))
noncomputable def m_over : MF := mOf 2 g_over
/-- opposite -/
noncomputable def g_opposite : FS :=
  (sSeq (sDrop (fCall m_demand_two (aCons (fNm 0) (aCons (fC (.tuple [(.int 0), (.int 1)])) aNil))))
  (sRet (fCall m_negated (aCons (fNm 0) aNil))))
noncomputable def m_opposite : MF := mOf 1 g_opposite
/-- compare -/
noncomputable def g_compare : FS :=
  (sSeq (sDrop (fCall m_demand_two (aCons (fNm 0) (aCons (fNm 1) aNil))))
  (sRet (fIf (tB1 (f2 dEq (fNm 0) (fNm 1))) (fC (.int 0)) (fIf (tTr (fCall m_is_less (aCons (fNm 0) (aCons (fNm 1) aNil)))) (f1 dNeg (fC (.int 1))) (fC (.int 1))))))
noncomputable def m_compare : MF := mOf 2 g_compare
/-- digits_from -/
noncomputable def g_digits_from : FS :=
  (sSeq (sSet 2 (fNm 1))
  (sSeq (sWh (tAn (tB1 (f2 dLt (fNm 2) (fBi cLen (aCons (fNm 0) aNil)))) (tB1 (f2 dIn (f2 dIx (fNm 0) (fNm 2)) (fC (.str "0123456789"))))) (sAug 2 iAdd (fC (.int 1))))
  (sSeq (sIf (tOr' (tB1 (f2 dEq (fNm 2) (fNm 1))) (tOr' (tB1 (f2 dGt (f2 dSub (fNm 2) (fNm 1)) (fC (.int 7)))) (tOr' (tAn (tB1 (f2 dEq (f2 dIx (fNm 0) (fNm 1)) (fC (.str "0")))) (tB1 (f2 dGt (f2 dSub (fNm 2) (fNm 1)) (fC (.int 1))))) (tB1 (f2 dGt (fBi cInt (aCons (fSl (fNm 0) (fPs (fNm 1)) (fPs (fNm 2))) aNil)) (fC (.int 1000000))))))) (sRaise 1 (fNm 1))
  sNx)
  (sRet (fDis mkTup (aCons (fBi cInt (aCons (fSl (fNm 0) (fPs (fNm 1)) (fPs (fNm 2))) aNil)) (aCons (fNm 2) aNil)))))))
noncomputable def m_digits_from : MF := mOf 3 g_digits_from
/-- read_fraction -/
noncomputable def g_read_fraction : FS :=
  (sSeq (sIf (tNo (tTr (f1 (dIsi "str") (fNm 0)))) (sRaise 1 (fC (.int 0)))
  sNx)
  (sSeq (sSet 1 (fIf (tB1 (f2 dEq (fSl (fNm 0) fPn (fPs (fC (.int 1)))) (fC (.str "-")))) (fC (.int 1)) (fC (.int 0))))
  (sSeq (sAsg (fCall m_digits_from (aCons (fNm 0) (aCons (fNm 1) aNil))) (tTup (tsCons (tNm 2) (tsCons (tNm 3) tsNil))))
  (sSeq (sSet 4 (fC (.int 1)))
  (sSeq (sIf (tAn (tTr (fNm 1)) (tNo (tTr (fNm 2)))) (sRaise 1 (fC (.int 1)))
  sNx)
  (sSeq (sIf (tB1 (f2 dLt (fNm 3) (fBi cLen (aCons (fNm 0) aNil)))) (sSeq (sIf (tB1 (f2 dNe (f2 dIx (fNm 0) (fNm 3)) (fC (.str "/")))) (sRaise 1 (fNm 3))
  sNx)
  (sSeq (sSet 5 (f2 dAdd (fNm 3) (fC (.int 1))))
  (sSeq (sAsg (fCall m_digits_from (aCons (fNm 0) (aCons (fNm 5) aNil))) (tTup (tsCons (tNm 4) (tsCons (tNm 3) tsNil))))
  (sIf (tNo (tTr (fNm 4))) (sRaise 1 (fNm 5))
  sNx))))
  sNx)
  (sSeq (sIf (tB1 (f2 dLt (fNm 3) (fBi cLen (aCons (fNm 0) aNil)))) (sRaise 1 (fNm 3))
  sNx)
  (sRet (fCall m_made (aCons (fIf (tTr (fNm 1)) (f2 dSub (fC (.int 0)) (fNm 2)) (fNm 2)) (aCons (fNm 4) aNil)))))))))))
noncomputable def m_read_fraction : MF := mOf 6 g_read_fraction
/-- text_of -/
noncomputable def g_text_of : FS :=
  (sRet (fIf (tB1 (f2 dEq (f2 dIx (fNm 0) (fC (.int 1))) (fC (.int 1)))) (fBi cStr (aCons (f2 dIx (fNm 0) (fC (.int 0))) aNil)) (f2 dAdd (f2 dAdd (fBi cStr (aCons (f2 dIx (fNm 0) (fC (.int 0))) aNil)) (fC (.str "/"))) (fBi cStr (aCons (f2 dIx (fNm 0) (fC (.int 1))) aNil)))))
noncomputable def m_text_of : MF := mOf 1 g_text_of
/-- write_fraction -/
noncomputable def g_write_fraction : FS :=
  (sSeq (sIf (tNo (tTr (fCall m_is_small (aCons (fNm 0) aNil)))) (sRaise 0 (fC (.str "one")))
  sNx)
  (sRet (fCall m_text_of (aCons (fNm 0) aNil))))
noncomputable def m_write_fraction : MF := mOf 1 g_write_fraction
/-- _law_draws -/
noncomputable def g__law_draws : FS :=
  (sSeq (sOw 1 (lLst aNil))
  (sSeq (sFor (lIt (fFz (lSc 0 63))) (tNm 2)
  (sSeq (sSet 3 (fBi cAbs (aCons (fNm 2) aNil)))
  (sIf (tB1 (f2 dGe (fNm 3) (f2 dPow (fC (.int 10)) (fC (.int 18))))) (sFor (lRng rng1 (aCons (fC (.int 60)) aNil)) (tNm 4)
  (sIf (tB1 (f2 dGt (fNm 3) (fC (.int 0)))) (sSeq (sApp 1 (f2 dMod (fBi cInt (aCons (fNm 3) aNil)) (fC (.int 1009))))
  (sSet 3 (f2 dDiv (fNm 3) (fC (.int 1009)))))
  sNx))
  (sSeq (sSet 5 (f2 dMod (fBi cInt (aCons (f2 dAdd (f2 dMul (fNm 3) (fC (.int 48271))) (fC (.int 11))) aNil)) (fC (.int 2147483647))))
  (sFor (lRng rng1 (aCons (fC (.int 12)) aNil)) (tNm 4)
  (sSeq (sSet 5 (f2 dMod (fBi cInt (aCons (f2 dAdd (f2 dAdd (f2 dMul (fNm 5) (fC (.int 16807))) (f2 dMul (fC (.int 69621)) (fNm 4))) (fC (.int 5))) aNil)) (fC (.int 2147483629))))
  (sApp 1 (f2 dDiv (fNm 5) (fC (.int 1009))))))))))
  (sFz 1 (sRet (fNm 1)))))
noncomputable def m__law_draws : MF := mOf 6 g__law_draws
/-- _law_more -/
noncomputable def g__law_more : FS :=
  (sSeq (sSet 2 (f2 dMod (fBi cInt (aCons (f2 dAdd (f2 dAdd (f2 dMul (fNm 1) (fC (.int 48271))) (fBi cLen (aCons (fNm 0) aNil))) (fC (.int 11))) aNil)) (fC (.int 2147483629))))
  (sSeq (sFor (lRng rng1 (aCons (fC (.int 3)) aNil)) (tNm 3)
  (sSeq (sIf (tTr (fNm 0)) (sSet 2 (f2 dAdd (fNm 2) (f2 dIx (fNm 0) (f2 dMod (fBi cInt (aCons (f2 dAdd (f2 dMul (fNm 1) (f2 dAdd (fNm 3) (fC (.int 5)))) (fNm 3)) aNil)) (fBi cLen (aCons (fNm 0) aNil))))))
  sNx)
  (sSet 2 (f2 dMod (fBi cInt (aCons (f2 dAdd (f2 dAdd (f2 dMul (fNm 2) (fC (.int 16807))) (f2 dMul (fC (.int 69621)) (fNm 3))) (fC (.int 5))) aNil)) (fC (.int 2147483629))))))
  (sRet (f2 dDiv (fNm 2) (fC (.int 1009))))))
noncomputable def m__law_more : MF := mOf 4 g__law_more
/-- _law_take -/
noncomputable def g__law_take : FS :=
  (sSeq (sSet 3 (fCell 1))
  (sSeq (sCell 1 (f2 dAdd (fNm 3) (fC (.int 1))))
  (sRet (f2 dMod (fBi cInt (aCons (fIf (tB1 (f2 dLt (fNm 3) (fBi cLen (aCons (fNm 0) aNil)))) (f2 dIx (fNm 0) (fNm 3)) (fCall m__law_more (aCons (fNm 0) (aCons (fNm 3) aNil)))) aNil)) (fNm 2)))))
noncomputable def m__law_take : MF := mOf 4 g__law_take
/-- _law_one -/
noncomputable def g__law_one : FS :=
  (sRet (f2 dIx (fNm 0) (fCall m__law_take (aCons (fNm 1) (aCel 2 (aCons (fBi cLen (aCons (fNm 0) aNil)) aNil))))))
noncomputable def m__law_one : MF := mOf 3 g__law_one
/-- _law_same_as -/
noncomputable def g__law_same_as : FS :=
  (sRet (fAn (f2 dEq (fNm 0) (fNm 1)) (f2 dEq (fBi cRepr (aCons (fNm 0) aNil)) (fBi cRepr (aCons (fNm 1) aNil)))))
noncomputable def m__law_same_as : MF := mOf 2 g__law_same_as
/-- _law_common -/
noncomputable def g__law_common : FS :=
  (sSeq (sFor (lRng rng1 (aCons (fC (.int 3000)) aNil)) (tNm 2)
  (sSeq (sIf (tB1 (f2 dEq (fNm 1) (fC (.int 0)))) (sRet (fBi cAbs (aCons (fNm 0) aNil)))
  sNx)
  (sPar 0 1 (fNm 1) (f2 dSub (fNm 0) (f2 dMul (f2 dDiv (fNm 0) (fNm 1)) (fNm 1))))))
  (sRet (fC (.int 1))))
noncomputable def m__law_common : MF := mOf 3 g__law_common
/-- _law_made -/
noncomputable def g__law_made : FS :=
  (sSeq (sSet 2 (f2 dMul (fCall m__law_common (aCons (fNm 0) (aCons (fNm 1) aNil))) (fIf (tB1 (f2 dGt (fNm 1) (fC (.int 0)))) (fC (.int 1)) (f1 dNeg (fC (.int 1))))))
  (sRet (fDis mkTup (aCons (f2 dDiv (fNm 0) (fNm 2)) (aCons (f2 dDiv (fNm 1) (fNm 2)) aNil)))))
noncomputable def m__law_made : MF := mOf 3 g__law_made
/-- _law_add -/
noncomputable def g__law_add : FS :=
  (sRet (fCall m__law_made (aCons (f2 dAdd (f2 dMul (f2 dIx (fNm 0) (fC (.int 0))) (f2 dIx (fNm 1) (fC (.int 1)))) (f2 dMul (f2 dIx (fNm 1) (fC (.int 0))) (f2 dIx (fNm 0) (fC (.int 1))))) (aCons (f2 dMul (f2 dIx (fNm 0) (fC (.int 1))) (f2 dIx (fNm 1) (fC (.int 1)))) aNil))))
noncomputable def m__law_add : MF := mOf 2 g__law_add
/-- _law_mul -/
noncomputable def g__law_mul : FS :=
  (sRet (fCall m__law_made (aCons (f2 dMul (f2 dIx (fNm 0) (fC (.int 0))) (f2 dIx (fNm 1) (fC (.int 0)))) (aCons (f2 dMul (f2 dIx (fNm 0) (fC (.int 1))) (f2 dIx (fNm 1) (fC (.int 1)))) aNil))))
noncomputable def m__law_mul : MF := mOf 2 g__law_mul
/-- _law_neg -/
noncomputable def g__law_neg : FS :=
  (sRet (fDis mkTup (aCons (f2 dSub (fC (.int 0)) (f2 dIx (fNm 0) (fC (.int 0)))) (aCons (f2 dIx (fNm 0) (fC (.int 1))) aNil))))
noncomputable def m__law_neg : MF := mOf 1 g__law_neg
/-- _law_div -/
noncomputable def g__law_div : FS :=
  (sRet (fCall m__law_made (aCons (f2 dMul (f2 dIx (fNm 0) (fC (.int 0))) (f2 dIx (fNm 1) (fC (.int 1)))) (aCons (f2 dMul (f2 dIx (fNm 0) (fC (.int 1))) (f2 dIx (fNm 1) (fC (.int 0)))) aNil))))
noncomputable def m__law_div : MF := mOf 2 g__law_div
/-- _law_told -/
noncomputable def g__law_told : FS :=
  (sTry 5 (sSeq (sIf (tB1 (f2 dLt (fNm 0) (fC (.int 6)))) (sSel 3 [m_fraction, m_plus, m_minus, m_times, m_over, m_compare] (fNm 0) (aCons (fNm 1) (aCons (fNm 2) aNil)))
  sNx)
  (sRet (fIf (tB1 (f2 dEq (fNm 0) (fC (.int 6)))) (fCall m_opposite (aCons (fNm 1) aNil)) (fIf (tB1 (f2 dEq (fNm 0) (fC (.int 7)))) (fCall m_write_fraction (aCons (fNm 1) aNil)) (fCall m_read_fraction (aCons (fNm 1) aNil)))))) [⟨[0], some 4, (fIf (tTr (fXis [0, 1] 4)) (fDis mkTup (aCons (fC (.str "argument")) (aCons (fXat nms 4 "reason") aNil))) (fC (.str "")))⟩, ⟨[1], some 4, (fDis mkTup (aCons (fC (.str "at")) (aCons (fXat nms 4 "at") aNil)))⟩])
noncomputable def m__law_told : MF := mOf 5 g__law_told
/-- _law_figures -/
noncomputable def g__law_figures : FS :=
  (sSeq (sSet 2 (fNm 1))
  (sSeq (sFor (lRng rng1 (aCons (fBi cLen (aCons (fNm 0) aNil)) aNil)) (tNm 3)
  (sIf (tAn (tB1 (f2 dLt (fNm 2) (fBi cLen (aCons (fNm 0) aNil)))) (tB1 (f2 dIn (f2 dIx (fNm 0) (fNm 2)) (fC (.str "0123456789"))))) (sSet 2 (f2 dAdd (fNm 2) (fC (.int 1))))
  sNx))
  (sSeq (sIf (tOr' (tB1 (f2 dEq (fNm 2) (fNm 1))) (tOr' (tAn (tB1 (f2 dEq (f2 dIx (fNm 0) (fNm 1)) (fC (.str "0")))) (tB1 (f2 dGt (fNm 2) (f2 dAdd (fNm 1) (fC (.int 1)))))) (tB1 (f2 dGt (fNm 2) (f2 dAdd (fNm 1) (fC (.int 7))))))) (sRet (fDis mkTup (aCons (fC .none) (aCons (fNm 2) aNil))))
  sNx)
  (sSeq (sSet 4 (fC (.int 0)))
  (sSeq (sFor (lIt (fSl (fNm 0) (fPs (fNm 1)) (fPs (fNm 2)))) (tNm 5)
  (sSet 4 (f2 dAdd (f2 dMul (fC (.int 10)) (fNm 4)) (fMt "str" mSIndex (fC (.str "0123456789")) (aCons (fNm 5) aNil)))))
  (sRet (fDis mkTup (aCons (fIf (tB1 (f2 dLe (fNm 4) (fC (.int 1000000)))) (fNm 4) (fC .none)) (aCons (fNm 2) aNil)))))))))
noncomputable def m__law_figures : MF := mOf 6 g__law_figures
/-- _law_read -/
noncomputable def g__law_read : FS :=
  (sSeq (sSet 1 (fIf (tB1 (f2 dEq (fSl (fNm 0) fPn (fPs (fC (.int 1)))) (fC (.str "-")))) (fC (.int 1)) (fC (.int 0))))
  (sSeq (sAsg (fCall m__law_figures (aCons (fNm 0) (aCons (fNm 1) aNil))) (tTup (tsCons (tNm 2) (tsCons (tNm 3) tsNil))))
  (sSeq (sIf (tOr' (tB1 (f2 dIs (fNm 2) (fC .none))) (tAn (tB1 (f2 dEq (fNm 1) (fC (.int 1)))) (tB1 (f2 dEq (fNm 2) (fC (.int 0)))))) (sRet (fDis mkTup (aCons (fC (.str "at")) (aCons (fNm 1) aNil))))
  sNx)
  (sSeq (sIf (tB1 (f2 dEq (fNm 3) (fBi cLen (aCons (fNm 0) aNil)))) (sRet (fDis mkTup (aCons (fIf (tB1 (f2 dEq (fNm 1) (fC (.int 1)))) (f2 dSub (fC (.int 0)) (fNm 2)) (fNm 2)) (aCons (fC (.int 1)) aNil))))
  sNx)
  (sSeq (sIf (tB1 (f2 dNe (f2 dIx (fNm 0) (fNm 3)) (fC (.str "/")))) (sRet (fDis mkTup (aCons (fC (.str "at")) (aCons (fNm 3) aNil))))
  sNx)
  (sSeq (sAsg (fCall m__law_figures (aCons (fNm 0) (aCons (f2 dAdd (fNm 3) (fC (.int 1))) aNil))) (tTup (tsCons (tNm 4) (tsCons (tNm 5) tsNil))))
  (sSeq (sIf (tOr' (tB1 (f2 dIs (fNm 4) (fC .none))) (tB1 (f2 dEq (fNm 4) (fC (.int 0))))) (sRet (fDis mkTup (aCons (fC (.str "at")) (aCons (f2 dAdd (fNm 3) (fC (.int 1))) aNil))))
  sNx)
  (sRet (fIf (tB1 (f2 dLt (fNm 5) (fBi cLen (aCons (fNm 0) aNil)))) (fDis mkTup (aCons (fC (.str "at")) (aCons (fNm 5) aNil))) (fCall m__law_made (aCons (fIf (tB1 (f2 dEq (fNm 1) (fC (.int 1)))) (f2 dSub (fC (.int 0)) (fNm 2)) (fNm 2)) (aCons (fNm 4) aNil))))))))))))
noncomputable def m__law_read : MF := mOf 6 g__law_read
/-- _law_text -/
noncomputable def g__law_text : FS :=
  (sRet (f2 dAdd (fBi cStr (aCons (f2 dIx (fNm 0) (fC (.int 0))) aNil)) (fIf (tB1 (f2 dEq (f2 dIx (fNm 0) (fC (.int 1))) (fC (.int 1)))) (fC (.str "")) (f2 dAdd (fC (.str "/")) (fBi cStr (aCons (f2 dIx (fNm 0) (fC (.int 1))) aNil))))))
noncomputable def m__law_text : MF := mOf 1 g__law_text
/-- _law_drawn -/
noncomputable def g__law_drawn : FS :=
  (sSeq (sSet 2 (fCall m__law_one (aCons (fDis mkLst (aCons (fC (.int 5)) (aCons (fC (.int 5)) (aCons (fC (.int 12)) (aCons (fC (.int 1000)) (aCons (f2 dPow (fC (.int 10)) (fC (.int 9))) aNil)))))) (aCons (fNm 0) (aCel 1 aNil)))))
  (sSeq (sSet 3 (f2 dSub (fCall m__law_take (aCons (fNm 0) (aCel 1 (aCons (fC (.int 1009)) aNil)))) (fC (.int 504))))
  (sRet (fCall m__law_made (aCons (f2 dMul (f2 dMod (fBi cInt (aCons (f2 dMul (fNm 3) (fCall m__law_one (aCons (fDis mkLst (aCons (fC (.int 1)) (aCons (fC (.int 1)) (aCons (fC (.int 1)) (aCons (fC (.int 7)) (aCons (f2 dAdd (f2 dPow (fC (.int 10)) (fC (.int 8))) (fC (.int 7))) aNil)))))) (aCons (fNm 0) (aCel 1 aNil))))) aNil)) (fNm 2)) (fCall m__law_one (aCons (fDis mkLst (aCons (fC (.int 1)) (aCons (f1 dNeg (fC (.int 1))) aNil))) (aCons (fNm 0) (aCel 1 aNil))))) (aCons (f2 dAdd (fC (.int 1)) (f2 dMod (fBi cInt (aCons (fCall m__law_take (aCons (fNm 0) (aCel 1 (aCons (fC (.int 1009)) aNil)))) aNil)) (fNm 2))) aNil))))))
noncomputable def m__law_drawn : MF := mOf 4 g__law_drawn
/-- _law_spoilt -/
noncomputable def g__law_spoilt : FS :=
  (sSeq (sPar 3 4 (fCall m__law_take (aCons (fNm 1) (aCel 2 (aCons (f2 dAdd (fBi cLen (aCons (fNm 0) aNil)) (fC (.int 1))) aNil)))) (fCall m__law_one (aCons (fDis mkLst (aCons (fC (.str "-")) (aCons (fC (.str "/")) (aCons (fC (.str "0")) (aCons (fC (.str "1")) (aCons (fC (.str " ")) (aCons (fC (.str "a")) (aCons (fC (.str "00")) aNil)))))))) (aCons (fNm 1) (aCel 2 aNil)))))
  (sSeq (sSet 5 (fCall m__law_take (aCons (fNm 1) (aCel 2 (aCons (fC (.int 3)) aNil)))))
  (sRet (fIf (tB1 (f2 dEq (fNm 5) (fC (.int 0)))) (f2 dAdd (f2 dAdd (fSl (fNm 0) fPn (fPs (fNm 3))) (fNm 4)) (fSl (fNm 0) (fPs (fNm 3)) fPn)) (fIf (tB1 (f2 dEq (fNm 5) (fC (.int 1)))) (f2 dAdd (fSl (fNm 0) fPn (fPs (fNm 3))) (fSl (fNm 0) (fPs (f2 dAdd (fNm 3) (fC (.int 1)))) fPn)) (f2 dAdd (f2 dAdd (fSl (fNm 0) fPn (fPs (fNm 3))) (fNm 4)) (fSl (fNm 0) (fPs (f2 dAdd (fNm 3) (fC (.int 1)))) fPn)))))))
noncomputable def m__law_spoilt : MF := mOf 6 g__law_spoilt
/-- law -/
noncomputable def g_law : FS :=
  (sSeq (sSet 1 (fCall m__law_draws (aSc 0 aNil)))
  (sCel 2 (sSeq (sFor (lRng rng1 (aCons (fC (.int 5)) aNil)) (tNm 3)
  (sSeq (sAsg (fDis mkTup (aCons (fCall m__law_drawn (aCons (fNm 1) (aCel 2 aNil))) (aCons (fCall m__law_drawn (aCons (fNm 1) (aCel 2 aNil))) aNil))) (tTup (tsCons (tNm 4) (tsCons (tNm 5) tsNil))))
  (sSeq (sSet 6 (fDis mkLst (aCons (fCall m__law_add (aCons (fNm 4) (aCons (fNm 5) aNil))) (aCons (fCall m__law_add (aCons (fNm 4) (aCons (fCall m__law_neg (aCons (fNm 5) aNil)) aNil))) (aCons (fCall m__law_mul (aCons (fNm 4) (aCons (fNm 5) aNil))) (aCons (fIf (tB1 (f2 dNe (f2 dIx (fNm 5) (fC (.int 0))) (fC (.int 0)))) (fCall m__law_div (aCons (fNm 4) (aCons (fNm 5) aNil))) (fDis mkTup (aCons (fC (.str "argument")) (aCons (fC (.str "nought")) aNil)))) aNil))))))
  (sSeq (sSet 7 (f2 dSub (f2 dMul (f2 dIx (fNm 4) (fC (.int 0))) (f2 dIx (fNm 5) (fC (.int 1)))) (f2 dMul (f2 dIx (fNm 5) (fC (.int 0))) (f2 dIx (fNm 4) (fC (.int 1))))))
  (sSeq (sSet 6 (f2 dAdd (fNm 6) (fDis mkLst (aCons (fIf (tB1 (f2 dEq (fNm 7) (fC (.int 0)))) (fC (.int 0)) (fIf (tB1 (f2 dGt (fNm 7) (fC (.int 0)))) (fC (.int 1)) (f1 dNeg (fC (.int 1))))) (aCons (fCall m__law_neg (aCons (fNm 4) aNil)) aNil)))))
  (sSeq (sIf (tNo (tTr (fCall m__law_same_as (aCons (fFz (lComp (lRng rng2 (aCons (fC (.int 1)) (aCons (fC (.int 7)) aNil))) [17] (tNm 17) tYs (fCall m__law_told (aCons (fNm 17) (aCons (fNm 4) (aCons (fNm 5) aNil)))))) (aCons (fNm 6) aNil))))) (sRet (fC (.bool false)))
  sNx)
  (sSeq (sPar 8 9 (f2 dSub (f2 dMod (fBi cInt (aCons (fCall m__law_take (aCons (fNm 1) (aCel 2 (aCons (fC (.int 1009)) aNil)))) aNil)) (fC (.int 41))) (fC (.int 20))) (f2 dSub (f2 dMod (fBi cInt (aCons (fCall m__law_take (aCons (fNm 1) (aCel 2 (aCons (fC (.int 1009)) aNil)))) aNil)) (fC (.int 25))) (fC (.int 12))))
  (sSeq (sIf (tNo (tTr (fCall m__law_same_as (aCons (fCall m__law_told (aCons (fC (.int 0)) (aCons (fNm 8) (aCons (fNm 9) aNil)))) (aCons (fIf (tB1 (f2 dNe (fNm 9) (fC (.int 0)))) (fCall m__law_made (aCons (fNm 8) (aCons (fNm 9) aNil))) (fDis mkTup (aCons (fC (.str "argument")) (aCons (fC (.str "under")) aNil)))) aNil))))) (sRet (fC (.bool false)))
  sNx)
  (sSeq (sSet 10 (f2 dLe (fBi cMax (aCons (fBi cAbs (aCons (f2 dIx (fNm 4) (fC (.int 0))) aNil)) (aCons (f2 dIx (fNm 4) (fC (.int 1))) aNil))) (fC (.int 1000000))))
  (sSeq (sIf (tNo (tTr (fCall m__law_same_as (aCons (fCall m__law_told (aCons (fC (.int 7)) (aCons (fNm 4) (aCons (fC .none) aNil)))) (aCons (fIf (tTr (fNm 10)) (fCall m__law_text (aCons (fNm 4) aNil)) (fDis mkTup (aCons (fC (.str "argument")) (aCons (fC (.str "one")) aNil)))) aNil))))) (sRet (fC (.bool false)))
  sNx)
  (sSeq (sSet 11 (fIf (tTr (fNm 10)) (fCall m__law_text (aCons (fNm 4) aNil)) (fC (.str "-7/12"))))
  (sSeq (sSet 12 (f2 dAdd (fC (.int 1)) (fCall m__law_take (aCons (fNm 1) (aCel 2 (aCons (fC (.int 6)) aNil))))))
  (sSeq (sSet 11 (fCall m__law_one (aCons (fDis mkLst (aCons (fNm 11) (aCons (fNm 11) (aCons (f2 dAdd (f2 dAdd (fBi cStr (aCons (f2 dMul (fNm 8) (fNm 12)) aNil)) (fC (.str "/"))) (fBi cStr (aCons (f2 dMul (fBi cAbs (aCons (fNm 9) aNil)) (fNm 12)) aNil))) (aCons (fCall m__law_spoilt (aCons (fNm 11) (aCons (fNm 1) (aCel 2 aNil)))) (aCons (fC (.str "1000000")) (aCons (fC (.str "1000001")) (aCons (fC (.str "-0")) (aCons (fC (.str "0/5")) (aCons (fC (.str "5/0")) aNil)))))))))) (aCons (fNm 1) (aCel 2 aNil)))))
  (sSeq (sSet 13 (fCall m__law_one (aCons (fDis mkLst (aCons (fNm 11) (aCons (fCall m__law_spoilt (aCons (fNm 11) (aCons (fNm 1) (aCel 2 aNil)))) aNil))) (aCons (fNm 1) (aCel 2 aNil)))))
  (sIf (tNo (tTr (fCall m__law_same_as (aCons (fFz (lComp (lIt (fDis mkTup (aCons (fNm 11) (aCons (fNm 13) (aCons (fC (.str "")) (aCons (fC (.str "-")) (aCons (fC (.str "7/")) (aCons (fC (.str "01")) (aCons (fC (.str "3/1")) aNil))))))))) [18] (tNm 18) tYs (fCall m__law_told (aCons (fC (.int 8)) (aCons (fNm 18) (aCons (fC .none) aNil)))))) (aCons (fFz (lComp (lIt (fDis mkTup (aCons (fNm 11) (aCons (fNm 13) (aCons (fC (.str "")) (aCons (fC (.str "-")) (aCons (fC (.str "7/")) (aCons (fC (.str "01")) (aCons (fC (.str "3/1")) aNil))))))))) [18] (tNm 18) tYs (fCall m__law_read (aCons (fNm 18) aNil)))) aNil))))) (sRet (fC (.bool false)))
  sNx)))))))))))))))
  (sSeq (sSet 14 (fCall m__law_one (aCons (fDis mkLst (aCons (fC .none) (aCons (fC (.int 1)) (aCons (fDis mkTup (aCons (fC (.int 1)) aNil)) (aCons (fDis mkTup (aCons (fC (.int 2)) (aCons (fC (.int 4)) aNil))) (aCons (fDis mkTup (aCons (fC (.int 1)) (aCons (f1 dNeg (fC (.int 2))) aNil))) (aCons (fDis mkTup (aCons (fC (.int 0)) (aCons (fC (.int 2)) aNil))) (aCons (fDis mkTup (aCons (fC (.int 1)) (aCons (fC (.int 0)) aNil))) (aCons (fDis mkTup (aCons (fC (.bool true)) (aCons (fC (.int 2)) aNil))) (aCons (fDis mkTup (aCons (fC (.int 1)) (aCons (fC (.int 2)) (aCons (fC (.int 3)) aNil)))) (aCons (fDis mkLst (aCons (fC (.int 1)) (aCons (fC (.int 2)) aNil))) (aCons (fDis mkTup (aCons (fC (.str "1")) (aCons (fC (.int 2)) aNil))) aNil)))))))))))) (aCons (fNm 1) (aCel 2 aNil)))))
  (sSeq (sSet 15 (f2 dAdd (fFz (lComp (lRng rng2 (aCons (fC (.int 1)) (aCons (fC (.int 6)) aNil))) [17] (tNm 17) tYs (fCall m__law_told (aCons (fNm 17) (aCons (fNm 14) (aCons (fDis mkTup (aCons (fC (.int 1)) (aCons (fC (.int 1)) aNil))) aNil)))))) (fFz (lComp (lRng rng2 (aCons (fC (.int 1)) (aCons (fC (.int 6)) aNil))) [17] (tNm 17) tYs (fCall m__law_told (aCons (fNm 17) (aCons (fDis mkTup (aCons (fC (.int 1)) (aCons (fC (.int 1)) aNil))) (aCons (fNm 14) aNil))))))))
  (sSeq (sIf (tOr' (tB1 (f2 dNe (fNm 15) (f2 dAdd (f2 dMul (fDis mkLst (aCons (fDis mkTup (aCons (fC (.str "argument")) (aCons (fC (.str "one")) aNil))) aNil)) (fC (.int 5))) (f2 dMul (fDis mkLst (aCons (fDis mkTup (aCons (fC (.str "argument")) (aCons (fC (.str "other")) aNil))) aNil)) (fC (.int 5)))))) (tB1 (f2 dNe (fFz (lComp (lIt (fDis mkTup (aCons (fC (.int 6)) (aCons (fC (.int 7)) aNil)))) [17] (tNm 17) tYs (fCall m__law_told (aCons (fNm 17) (aCons (fNm 14) (aCons (fC .none) aNil)))))) (f2 dMul (fDis mkLst (aCons (fDis mkTup (aCons (fC (.str "argument")) (aCons (fC (.str "one")) aNil))) aNil)) (fC (.int 2)))))) (sRet (fC (.bool false)))
  sNx)
  (sSeq (sSet 16 (fCall m__law_one (aCons (fDis mkLst (aCons (fC .none) (aCons (fC (.bool true)) (aCons (fC (.str "1")) (aCons (fDis mkTup (aCons (fC (.int 1)) (aCons (fC (.int 1)) aNil))) aNil))))) (aCons (fNm 1) (aCel 2 aNil)))))
  (sSeq (sIf (tB1 (f2 dNe (fDis mkLst (aCons (fCall m__law_told (aCons (fC (.int 0)) (aCons (fNm 16) (aCons (fC (.int 1)) aNil)))) (aCons (fCall m__law_told (aCons (fC (.int 0)) (aCons (fC (.int 1)) (aCons (fNm 16) aNil)))) (aCons (fCall m__law_told (aCons (fC (.int 0)) (aCons (fC (.int 1)) (aCons (fC (.int 0)) aNil)))) aNil)))) (fDis mkLst (aCons (fDis mkTup (aCons (fC (.str "argument")) (aCons (fC (.str "top")) aNil))) (aCons (fDis mkTup (aCons (fC (.str "argument")) (aCons (fC (.str "under")) aNil))) (aCons (fDis mkTup (aCons (fC (.str "argument")) (aCons (fC (.str "under")) aNil))) aNil)))))) (sRet (fC (.bool false)))
  sNx)
  (sRet (f2 dEq (fFz (lComp (lIt (fDis mkTup (aCons (fC .none) (aCons (fC (.int 7)) (aCons (fDis mkTup (aCons (fC (.str "1")) aNil)) (aCons (fC (.bool true)) aNil)))))) [18] (tNm 18) tYs (fCall m__law_told (aCons (fC (.int 8)) (aCons (fNm 18) (aCons (fC .none) aNil)))))) (f2 dMul (fDis mkLst (aCons (fDis mkTup (aCons (fC (.str "at")) (aCons (fC (.int 0)) aNil))) aNil)) (fC (.int 4)))))))))))))
noncomputable def m_law : MF := mOf 19 g_law
end K01

set_option Elab.async false
set_option linter.all false
set_option maxRecDepth 100000
namespace K01
open PySem PySem.Spec PyProof.Rows L2 L2.DL
/-! ### sizes -/
def Bd (k : Nat) (n : Int) : Prop := n.natAbs < 2 ^ k
theorem log2_of {n k : Nat} (h : n < 2 ^ k) (hk : 0 < k) : n.log2 < k := by
  by_cases hn : n = 0
  · subst hn; simpa using hk
  · exact (Nat.log2_lt hn).mpr h
theorem mulFits_of {a b : Int} {j k : Nat} (ha : Bd j a) (hb : Bd k b) (hj : 0 < j) (hk : 0 < k) (h : j + k ≤ 1000000) : mulFits a b = true := by
  have h1 := log2_of ha hj
  have h2 := log2_of hb hk
  unfold mulFits
  exact decide_eq_true (by omega)
theorem divFits_of {b : Int} {k : Nat} (hb : Bd k b) (hk : 0 < k) (h : k ≤ 9000) (h0 : b ≠ 0) : divFits b = true := by
  have h2 := log2_of hb hk
  unfold divFits
  simp [h0]
  omega
theorem Bd.mono {j k : Nat} {a : Int} (h : Bd j a) (hk : j ≤ k) : Bd k a := Nat.lt_of_lt_of_le h (Nat.pow_le_pow_right (by decide) hk)
/-! ### the common part -/
theorem e_is_integer (d : PyData) (c : Int) : m_is_integer [.dt d] c = .ok (.bool (isT "int" d && !isT "bool" d)) c := by
  unfold m_is_integer g_is_integer
  simp
  cases h : isT "int" d <;> simp
theorem sub_fdiv (x y : Nat) : (x : Int) - (x : Int).fdiv y * y = ((x % y : Nat) : Int) := by
  rw [Int.fdiv_eq_ediv_of_nonneg _ (by omega)]
  have := Int.emod_def (x : Int) y
  rw [Int.mul_comm, ← this]
  rfl
theorem loop_common {c : Int} : ∀ (n x y : Nat), y < n → x < 2 ^ 8000 → y < 2 ^ 8000 →
    whD (tTr (fNm 1)) (sPar 0 1 (fNm 1) (f2 dSub (fNm 0) (f2 dMul (f2 dDiv (fNm 0) (fNm 1)) (fNm 1)))) n [.dt (.int x), .dt (.int y)] c = .ok (.nx [.dt (.int (Nat.gcd x y)), .dt (.int 0)]) c := by
  intro n
  induction n with
  | zero => intro x y h; omega
  | succ n ih =>
    intro x y h hx hy
    unfold whD
    by_cases h0 : y = 0
    · subst h0
      simp
    · have hd : divFits (y : Int) = true := divFits_of (k := 8000) hy (by decide) (by decide) (by omega)
      have hq : ((x : Int).fdiv y).natAbs < 2 ^ 8000 := by
        rw [Int.fdiv_eq_ediv_of_nonneg _ (by omega)]
        have : ((x : Int) / (y : Int)).natAbs = x / y := by rfl
        rw [this]
        exact Nat.lt_of_le_of_lt (Nat.div_le_self _ _) hx
      have hm : mulFits ((x : Int).fdiv y) y = true := mulFits_of (j := 8000) (k := 8000) hq hy (by decide) (by decide) (by decide)
      have hb : ((y : Int) != 0) = true := by simp; omega
      simp [hb, div_i hd, mul_i hm, sub_fdiv]
      have e := ih y (x % y) (by have := Nat.mod_lt x (show 0 < y by omega); omega) hy (Nat.lt_of_lt_of_le (Nat.mod_lt x (show 0 < y by omega)) (by omega))
      have eg : Nat.gcd y (x % y) = Nat.gcd x y := by rw [Nat.gcd_comm, ← Nat.gcd_rec, Nat.gcd_comm]
      rw [eg] at e
      exact e
theorem abs_i (a : Int) : (if a < 0 then -a else a) = (a.natAbs : Int) := by split <;> omega
theorem e_common {a b : Int} {c : Int} (ha : Bd 8000 a) (hb : Bd 8000 b) : m_common [.dt (.int a), .dt (.int b)] c = .ok (.int (Int.gcd a b)) c := by
  unfold m_common g_common
  simp only [mOf_, sSeq_, sPar_, fBi_, aCons_, aNil_, fNm_, List.cons_append, List.nil_append, List.getElem?_cons_zero, List.getElem?_cons_succ, bind_ok, dts_1, dts_0, Option.map_some, Option.bind_some, cAbs_i, ofO_some, abs_i, List.set_cons_zero, List.set_cons_succ, List.length_cons, List.length_nil, List.replicate, Nat.sub_self]
  rw [sWh_of (n := b.natAbs + 1) (loop_common (b.natAbs + 1) a.natAbs b.natAbs (by omega) ha hb) (by simp)]
  simp
  rfl
/-- t over u in least terms -/
def nu (t u : Int) : Int := (if u < 0 then -t else t) / (Int.gcd t u : Int)
def de (t u : Int) : Int := (u.natAbs : Int) / (Int.gcd t u : Int)
def fr (p : Int × Int) : PyData := .tuple [.int p.1, .int p.2]
def mk (t u : Int) : Int × Int := (nu t u, de t u)
theorem gcd_bd {a b : Int} {k : Nat} (hb : Bd k b) (h0 : b ≠ 0) : Bd k (Int.gcd a b : Int) := by
  have h := Int.gcd_dvd_right (a := a) (b := b)
  have : Int.gcd a b ≤ b.natAbs := Nat.le_of_dvd (by omega) (by
    have := Int.natAbs_dvd_natAbs.mpr h
    simpa using this)
  exact Nat.lt_of_le_of_lt (by simpa using this) hb
theorem gcd_pos {a b : Int} (h0 : b ≠ 0) : 0 < Int.gcd a b := Int.gcd_pos_of_ne_zero_right a h0
theorem lineOk_small {n : Nat} (h : n ≤ 1000) : lineOk n = true := decide_eq_true (by omega)
theorem e_made {t u : Int} {c : Int} (ht : Bd 8000 t) (hu : Bd 8000 u) (h0 : u ≠ 0) : m_made [.dt (.int t), .dt (.int u)] c = .ok (fr (mk t u)) c := by
  have hg := gcd_bd (a := t) hu h0
  have hp := gcd_pos (a := t) h0
  have hd : divFits (Int.gcd t u : Int) = true := divFits_of hg (by decide) (by decide) (by omega)
  have ht' : Bd 8000 (-t) := by unfold Bd; rw [Int.natAbs_neg]; exact ht
  have hu' : Bd 8000 (-u) := by unfold Bd; rw [Int.natAbs_neg]; exact hu
  have en : ∀ x : Int, x.fdiv (Int.gcd t u : Int) = x / (Int.gcd t u : Int) := fun x => Int.fdiv_eq_ediv_of_nonneg _ (by omega)
  unfold m_made g_made
  by_cases hs : u < 0
  · have e : (u.natAbs : Int) = -u := by omega
    simp [hs, e_common ht' hu', div_i hd, en, fr, mk, nu, de, e, lineOk_small]
  · have e : (u.natAbs : Int) = u := by omega
    simp [hs, e_common ht hu, div_i hd, en, fr, mk, nu, de, e, lineOk_small]
/-! ### the law's own common part -/
theorem sub_fdiv_i (x y : Int) : x - x.fdiv y * y = x.fmod y := by rw [Int.fmod_def, Int.mul_comm]
theorem fdiv_bd {x y : Int} (hx : Bd 8000 x) : Bd 8001 (x.fdiv y) := by
  unfold Bd at *
  rw [Int.fdiv_eq_ediv]
  have h1 : (x / y).natAbs ≤ x.natAbs := Int.natAbs_ediv_le_natAbs x y
  have h2 : (x / y - if 0 ≤ y ∨ y ∣ x then 0 else 1).natAbs ≤ (x / y).natAbs + 1 := by split <;> omega
  have h3 : (2 : Nat) ^ 8001 = 2 ^ 8000 * 2 := Nat.pow_succ 2 8000
  generalize (2 : Nat) ^ 8000 = M at *
  generalize (2 : Nat) ^ 8001 = M2 at *
  omega
theorem gcd_fmod (x y : Int) : Int.gcd y (x.fmod y) = Int.gcd x y := by
  rw [← sub_fdiv_i]
  have h : Int.gcd y (x - x.fdiv y * y) = Int.gcd y x := by
    rw [Int.sub_eq_add_neg, ← Int.neg_mul]
    first
      | exact Int.gcd_add_mul_right_right _ _ _
      | simp
  rw [h, Int.gcd_comm]
/-- a step's rest: smaller, of the divisor's sign -/
theorem fmod_step {x y : Int} (h : y ≠ 0) : (x.fmod y).natAbs < y.natAbs ∧ (0 < y → 0 ≤ x.fmod y) ∧ (y < 0 → x.fmod y ≤ 0) := by
  by_cases hp : 0 < y
  · have h1 := Int.fmod_nonneg_of_pos x hp
    have h2 := Int.fmod_lt_of_pos x hp
    exact ⟨by omega, fun _ => h1, fun z => by omega⟩
  · have hn : 0 < -y := by omega
    have h1 := Int.fmod_nonneg_of_pos (-x) hn
    have h2 := Int.fmod_lt_of_pos (-x) hn
    rw [Int.neg_fmod_neg] at h1 h2
    exact ⟨by omega, fun z => by omega, fun _ => by omega⟩
/-- two steps halve -/
theorem fmod_half {x y : Int} (h : y ≠ 0) (h1 : x.fmod y ≠ 0) : 2 * (y.fmod (x.fmod y)).natAbs < y.natAbs := by
  obtain ⟨a, b, c⟩ := fmod_step (x := x) h
  generalize hr : x.fmod y = r at *
  have key : (y.fmod r).natAbs = y.natAbs % r.natAbs := by
    by_cases hp : 0 < y
    · have hr0 := b hp
      rw [Int.fmod_eq_emod_of_nonneg _ hr0]
      obtain ⟨m, rfl⟩ := Int.eq_ofNat_of_zero_le (show 0 ≤ y by omega)
      obtain ⟨n, rfl⟩ := Int.eq_ofNat_of_zero_le hr0
      rfl
    · have hr0 := c (by omega)
      obtain ⟨m, hm⟩ := Int.eq_ofNat_of_zero_le (show 0 ≤ -y by omega)
      obtain ⟨n, hn⟩ := Int.eq_ofNat_of_zero_le (show 0 ≤ -r by omega)
      have e1 : y = -(m : Int) := by omega
      have e2 : r = -(n : Int) := by omega
      rw [e1, e2, Int.neg_fmod_neg, Int.natAbs_neg, Int.natAbs_neg, Int.natAbs_neg, Int.fmod_eq_emod_of_nonneg _ (by omega)]
      rfl
  rw [key]
  have h2 := Nat.mod_lt y.natAbs (show 0 < r.natAbs by omega)
  have h3 := Nat.mod_add_div y.natAbs r.natAbs
  have h4 : 1 ≤ y.natAbs / r.natAbs := (Nat.le_div_iff_mul_le (by omega)).mpr (by omega)
  have h5 : r.natAbs * 1 ≤ r.natAbs * (y.natAbs / r.natAbs) := Nat.mul_le_mul_left _ h4
  omega
def gLC : FS := (sSeq (sIf (tB1 (f2 dEq (fNm 1) (fC (.int 0)))) (sRet (fBi cAbs (aCons (fNm 0) aNil)))
  sNx)
  (sPar 0 1 (fNm 1) (f2 dSub (fNm 0) (f2 dMul (f2 dDiv (fNm 0) (fNm 1)) (fNm 1)))))
theorem lc_stop {x : Int} {d : PyData} {ds : List PyData} {s : Sl} {c : Int} : forD (tNm 2) gLC (d :: ds) [.dt (.int x), .dt (.int 0), s] c = .ok (.rt (.int x.natAbs)) c := by
  unfold forD gLC
  simp [eq_ii, abs_i]
theorem lc_step {x y : Int} {d : PyData} {ds : List PyData} {s : Sl} {c : Int} (hx : Bd 8000 x) (hy : Bd 8000 y) (h : y ≠ 0) :
    forD (tNm 2) gLC (d :: ds) [.dt (.int x), .dt (.int y), s] c = forD (tNm 2) gLC ds [.dt (.int y), .dt (.int (x.fmod y)), .dt d] c := by
  have hd : divFits y = true := divFits_of hy (by decide) (by decide) h
  have hm : mulFits (x.fdiv y) y = true := mulFits_of (fdiv_bd hx) hy (by decide) (by decide) (by decide)
  rw [forD]
  unfold gLC
  simp [eq_ii, h, div_i hd, mul_i hm, sub_fdiv_i]
theorem lc_loop {c : Int} : ∀ (k : Nat) (ds : List PyData) (x y : Int) (s : Sl), y.natAbs < 2 ^ k → Bd 8000 x → Bd 8000 y → 2 * k + 1 ≤ ds.length →
    forD (tNm 2) gLC ds [.dt (.int x), .dt (.int y), s] c = .ok (.rt (.int (Int.gcd x y))) c := by
  intro k
  induction k with
  | zero =>
    intro ds x y s h hx hy hl
    have : y = 0 := by simp at h; omega
    subst this
    cases ds with
    | nil => simp at hl
    | cons d ds => rw [lc_stop, Int.gcd_zero_right]
  | succ k ih =>
    intro ds x y s h hx hy hl
    match ds, hl with
    | d :: e :: ds, hl =>
      by_cases h0 : y = 0
      · subst h0; rw [lc_stop, Int.gcd_zero_right]
      · obtain ⟨a, _, _⟩ := fmod_step (x := x) h0
        have hr : Bd 8000 (x.fmod y) := Nat.lt_trans a hy
        rw [lc_step hx hy h0]
        by_cases h1 : x.fmod y = 0
        · rw [h1, lc_stop, ← gcd_fmod, h1, Int.gcd_zero_right]
        · obtain ⟨a2, _, _⟩ := fmod_step (x := y) h1
          rw [lc_step hy hr h1, ih ds (x.fmod y) (y.fmod (x.fmod y)) _ (by have := fmod_half (x := x) h0 h1; rw [Nat.pow_succ] at h; omega) hr (Nat.lt_trans a2 hr) (by simp at hl; omega), gcd_fmod, gcd_fmod]
    | [d], hl => simp at hl
theorem rngD_length (lo : Int) (n : Nat) : (rngD lo n).length = n := by simp [rngD]
theorem e_law_common {a b c : Int} (ha : Bd 1400 a) (hb : Bd 1400 b) : m__law_common [.dt (.int a), .dt (.int b)] c = .ok (.int (Int.gcd a b)) c := by
  unfold m__law_common g__law_common
  have go := lc_loop (c := c) 1400 (rngD 0 3000) a b .un hb (ha.mono (by decide)) (hb.mono (by decide)) (by simp [rngD_length])
  unfold gLC at go
  simp [sFor, lRng, rng1, rngOk, go]
theorem fdiv_neg' (x g : Int) : x.fdiv (-g) = (-x).fdiv g := by
  have := Int.neg_fdiv_neg (-x) g
  rw [← this, Int.neg_neg]
theorem bd_neg {k : Nat} {x : Int} (h : Bd k x) : Bd k (-x) := by unfold Bd; rw [Int.natAbs_neg]; exact h
theorem e_law_made {t u : Int} {c : Int} (ht : Bd 1400 t) (hu : Bd 1400 u) (h0 : u ≠ 0) : m__law_made [.dt (.int t), .dt (.int u)] c = .ok (fr (mk t u)) c := by
  have hg := gcd_bd (a := t) hu h0
  have hp := gcd_pos (a := t) h0
  have hd : divFits (Int.gcd t u : Int) = true := divFits_of hg (by decide) (by decide) (by omega)
  have hd' : divFits (-(Int.gcd t u : Int)) = true := divFits_of (bd_neg hg) (by decide) (by decide) (by omega)
  have hm : mulFits (Int.gcd t u : Int) 1 = true := mulFits_of (j := 1400) (k := 1) hg (by unfold Bd; decide) (by decide) (by decide) (by decide)
  have hm' : mulFits (Int.gcd t u : Int) (-1) = true := mulFits_of (j := 1400) (k := 1) hg (by unfold Bd; decide) (by decide) (by decide) (by decide)
  have en : ∀ x : Int, x.fdiv (Int.gcd t u : Int) = x / (Int.gcd t u : Int) := fun x => Int.fdiv_eq_ediv_of_nonneg _ (by omega)
  unfold m__law_made g__law_made
  by_cases hs : u < 0
  · have e : (u.natAbs : Int) = -u := by omega
    have hs' : ¬ 0 < u := by omega
    simp [hs, hs', e_law_common ht hu, mul_i hm', div_i hd', fdiv_neg', en, fr, mk, nu, de, e, lineOk_small]
  · have e : (u.natAbs : Int) = u := by omega
    have hs' : 0 < u := by omega
    simp [hs, hs', e_law_common ht hu, mul_i hm, div_i hd, en, fr, mk, nu, de, e, lineOk_small]
/-! ### least terms -/
def Ok (p : Int × Int) : Prop := 0 < p.2 ∧ Int.gcd p.1 p.2 = 1
def Bn (k : Nat) (p : Int × Int) : Prop := Bd k p.1 ∧ Bd k p.2
theorem nu_abs (t u : Int) : (nu t u).natAbs = t.natAbs / Int.gcd t u := by
  unfold nu
  have h : (Int.gcd t u : Int) ∣ t := Int.gcd_dvd_left _ _
  split
  · rw [Int.natAbs_ediv_of_dvd (Int.dvd_neg.mpr h), Int.natAbs_neg, Int.natAbs_natCast]
  · rw [Int.natAbs_ediv_of_dvd h, Int.natAbs_natCast]
theorem de_abs (t u : Int) : (de t u).natAbs = u.natAbs / Int.gcd t u := by
  unfold de
  rfl
theorem mk_ok {t u : Int} (h : u ≠ 0) : Ok (mk t u) := by
  have hp := gcd_pos (a := t) h
  have e : Int.gcd t u = Nat.gcd t.natAbs u.natAbs := rfl
  refine ⟨?_, ?_⟩
  · have h1 : (de t u).natAbs = u.natAbs / Int.gcd t u := de_abs t u
    have h2 : 0 < u.natAbs / Int.gcd t u := Nat.div_pos (Nat.le_of_dvd (by omega) (e ▸ Nat.gcd_dvd_right _ _)) hp
    have h3 : 0 ≤ de t u := Int.ediv_nonneg (by omega) (by omega)
    show 0 < de t u
    omega
  · show Nat.gcd (nu t u).natAbs (de t u).natAbs = 1
    rw [nu_abs, de_abs, e]
    exact Nat.gcd_div_gcd_div_gcd_of_pos_right (by omega)
theorem mk_bn {t u : Int} {k : Nat} (ht : Bd k t) (hu : Bd k u) : Bn k (mk t u) := by
  refine ⟨?_, ?_⟩
  · show (nu t u).natAbs < _
    rw [nu_abs]
    exact Nat.lt_of_le_of_lt (Nat.div_le_self _ _) ht
  · show (de t u).natAbs < _
    rw [de_abs]
    exact Nat.lt_of_le_of_lt (Nat.div_le_self _ _) hu
theorem ok_uniq {p q : Int × Int} (hp : Ok p) (hq : Ok q) (h : p.1 * q.2 = q.1 * p.2) : p = q := by
  obtain ⟨a, b⟩ := p
  obtain ⟨c, d⟩ := q
  obtain ⟨h1, h2⟩ := hp
  obtain ⟨h3, h4⟩ := hq
  simp only at *
  have e : a.natAbs * d.natAbs = c.natAbs * b.natAbs := by rw [← Int.natAbs_mul, h, Int.natAbs_mul]
  have c1 : Nat.Coprime a.natAbs b.natAbs := h2
  have c2 : Nat.Coprime c.natAbs d.natAbs := h4
  have d1 : b.natAbs ∣ d.natAbs := c1.symm.dvd_of_dvd_mul_left ⟨c.natAbs, by rw [e, Nat.mul_comm]⟩
  have d2 : d.natAbs ∣ b.natAbs := c2.symm.dvd_of_dvd_mul_left ⟨a.natAbs, by rw [← e, Nat.mul_comm]⟩
  have e2 := Nat.dvd_antisymm d1 d2
  have e3 : b = d := by omega
  subst e3
  have e4 : a = c := Int.eq_of_mul_eq_mul_right (by omega) h
  rw [e4]
/-! ### fractions at hand -/
@[simp] theorem isT_t (T : String) (ds : List PyData) : isT T (.tuple ds) = isS "tuple" T := rfl
@[simp] theorem isT_i (T : String) (n : Int) : isT T (.int n) = isS "int" T := rfl
@[simp] theorem isT_b (T : String) (n : Bool) : isT T (.bool n) = isS "bool" T := rfl
@[simp] theorem isT_n (T : String) : isT T .none = isS "NoneType" T := rfl
@[simp] theorem isT_s (T : String) (z : Str) : isT T (.str z) = isS "str" T := rfl
@[simp] theorem isT_l (T : String) (ds : List PyData) : isT T (.list ds) = isS "list" T := rfl
@[simp] theorem isS1 : isS "tuple" "tuple" = true := by decide
@[simp] theorem isS2 : isS "int" "int" = true := by decide
@[simp] theorem isS3 : isS "int" "bool" = false := by decide
@[simp] theorem isS4 : isS "bool" "int" = true := by decide
@[simp] theorem isS5 : isS "bool" "bool" = true := by decide
@[simp] theorem isS6 : isS "NoneType" "int" = false := by decide
@[simp] theorem isS7 : isS "NoneType" "tuple" = false := by decide
@[simp] theorem isS8 : isS "int" "tuple" = false := by decide
@[simp] theorem isS9 : isS "str" "int" = false := by decide
@[simp] theorem isS10 : isS "str" "str" = true := by decide
@[simp] theorem isS11 : isS "list" "tuple" = false := by decide
@[simp] theorem isS12 : isS "tuple" "int" = false := by decide
@[simp] theorem isS13 : isS "tuple" "str" = false := by decide
@[simp] theorem isS14 : isS "int" "str" = false := by decide
@[simp] theorem isS15 : isS "bool" "str" = false := by decide
@[simp] theorem isS16 : isS "NoneType" "str" = false := by decide
@[simp] theorem isS17 : isS "NoneType" "bool" = false := by decide
@[simp] theorem isS18 : isS "str" "bool" = false := by decide
@[simp] theorem isS19 : isS "tuple" "bool" = false := by decide
theorem e_is_fraction {a b c : Int} (ha : Bd 8000 a) (hb : Bd 8000 b) : m_is_fraction [.dt (.tuple [.int a, .int b])] c = .ok (.bool (decide (0 < b) && decide (Int.gcd a b = 1))) c := by
  unfold m_is_fraction g_is_fraction
  have e : ((Int.gcd a b : Int) = 1) = (Int.gcd a b = 1) := by apply propext; constructor <;> intro h <;> omega
  simp [e_is_integer, ne_ii, eq_ii, e_common ha hb, e]
  by_cases h : 0 < b <;> simp [h]
theorem is_fr {p : Int × Int} {c : Int} (h : Ok p) (hb : Bn 8000 p) : m_is_fraction [.dt (fr p)] c = .ok (.bool true) c := by
  unfold fr
  rw [e_is_fraction hb.1 hb.2, decide_eq_true h.1, decide_eq_true h.2]
  rfl
theorem bd_mul {a b : Int} {j k : Nat} (ha : Bd j a) (hb : Bd k b) : Bd (j + k) (a * b) := by
  unfold Bd at *
  rw [Int.natAbs_mul, Nat.pow_add]
  exact Nat.mul_lt_mul'' ha hb
theorem bd_add {a b : Int} {k : Nat} (ha : Bd k a) (hb : Bd k b) : Bd (k + 1) (a + b) := by
  unfold Bd at *
  rw [Nat.pow_succ]
  omega
theorem bd_sub {a b : Int} {k : Nat} (ha : Bd k a) (hb : Bd k b) : Bd (k + 1) (a - b) := by
  unfold Bd at *
  rw [Nat.pow_succ]
  omega
theorem e_added {p q : Int × Int} {c : Int} (hp : Bn 200 p) (hq : Bn 200 q) (h : p.2 * q.2 ≠ 0) : m_added [.dt (fr p), .dt (fr q)] c = .ok (fr (mk (p.1 * q.2 + q.1 * p.2) (p.2 * q.2))) c := by
  have m1 := mulFits_of hp.1 hq.2 (by decide) (by decide) (by decide)
  have m2 := mulFits_of hq.1 hp.2 (by decide) (by decide) (by decide)
  have m3 := mulFits_of hp.2 hq.2 (by decide) (by decide) (by decide)
  have b1 : Bd 8000 (p.1 * q.2 + q.1 * p.2) := (bd_add (bd_mul hp.1 hq.2) (bd_mul hq.1 hp.2)).mono (by decide)
  have b2 : Bd 8000 (p.2 * q.2) := (bd_mul hp.2 hq.2).mono (by decide)
  unfold m_added g_added
  simp [fr, mul_i m1, mul_i m2, mul_i m3, e_made b1 b2 h]
theorem e_lessened {p q : Int × Int} {c : Int} (hp : Bn 200 p) (hq : Bn 200 q) (h : p.2 * q.2 ≠ 0) : m_lessened [.dt (fr p), .dt (fr q)] c = .ok (fr (mk (p.1 * q.2 - q.1 * p.2) (p.2 * q.2))) c := by
  have m1 := mulFits_of hp.1 hq.2 (by decide) (by decide) (by decide)
  have m2 := mulFits_of hq.1 hp.2 (by decide) (by decide) (by decide)
  have m3 := mulFits_of hp.2 hq.2 (by decide) (by decide) (by decide)
  have b1 : Bd 8000 (p.1 * q.2 - q.1 * p.2) := (bd_sub (bd_mul hp.1 hq.2) (bd_mul hq.1 hp.2)).mono (by decide)
  have b2 : Bd 8000 (p.2 * q.2) := (bd_mul hp.2 hq.2).mono (by decide)
  unfold m_lessened g_lessened
  simp [fr, mul_i m1, mul_i m2, mul_i m3, e_made b1 b2 h]
theorem e_multiplied {p q : Int × Int} {c : Int} (hp : Bn 200 p) (hq : Bn 200 q) (h : p.2 * q.2 ≠ 0) : m_multiplied [.dt (fr p), .dt (fr q)] c = .ok (fr (mk (p.1 * q.1) (p.2 * q.2))) c := by
  have m1 := mulFits_of hp.1 hq.1 (by decide) (by decide) (by decide)
  have m3 := mulFits_of hp.2 hq.2 (by decide) (by decide) (by decide)
  have b1 : Bd 8000 (p.1 * q.1) := (bd_mul hp.1 hq.1).mono (by decide)
  have b2 : Bd 8000 (p.2 * q.2) := (bd_mul hp.2 hq.2).mono (by decide)
  unfold m_multiplied g_multiplied
  simp [fr, mul_i m1, mul_i m3, e_made b1 b2 h]
theorem e_divided {p q : Int × Int} {c : Int} (hp : Bn 200 p) (hq : Bn 200 q) (h : p.2 * q.1 ≠ 0) : m_divided [.dt (fr p), .dt (fr q)] c = .ok (fr (mk (p.1 * q.2) (p.2 * q.1))) c := by
  have m1 := mulFits_of hp.1 hq.2 (by decide) (by decide) (by decide)
  have m3 := mulFits_of hp.2 hq.1 (by decide) (by decide) (by decide)
  have b1 : Bd 8000 (p.1 * q.2) := (bd_mul hp.1 hq.2).mono (by decide)
  have b2 : Bd 8000 (p.2 * q.1) := (bd_mul hp.2 hq.1).mono (by decide)
  unfold m_divided g_divided
  simp [fr, mul_i m1, mul_i m3, e_made b1 b2 h]
theorem e_negated {p : Int × Int} {c : Int} : m_negated [.dt (fr p)] c = .ok (fr (-p.1, p.2)) c := by
  unfold m_negated g_negated
  simp [fr, lineOk_small]
theorem e_is_less {p q : Int × Int} {c : Int} (hp : Bn 200 p) (hq : Bn 200 q) : m_is_less [.dt (fr p), .dt (fr q)] c = .ok (.bool (decide (p.1 * q.2 < q.1 * p.2))) c := by
  have m1 := mulFits_of hp.1 hq.2 (by decide) (by decide) (by decide)
  have m2 := mulFits_of hq.1 hp.2 (by decide) (by decide) (by decide)
  unfold m_is_less g_is_less
  simp [fr, mul_i m1, mul_i m2]
theorem bn_8000 {p : Int × Int} (h : Bn 200 p) : Bn 8000 p := ⟨h.1.mono (by decide), h.2.mono (by decide)⟩
theorem e_demand_two {p q : Int × Int} {c : Int} (hp : Ok p) (hq : Ok q) (bp : Bn 8000 p) (bq : Bn 8000 q) : m_demand_two [.dt (fr p), .dt (fr q)] c = .ok .none c := by
  unfold m_demand_two g_demand_two
  simp [is_fr hp bp, is_fr hq bq]
/-! ### the calls -/
theorem e_plus {p q : Int × Int} {c : Int} (hp : Ok p) (hq : Ok q) (bp : Bn 200 p) (bq : Bn 200 q) : m_plus [.dt (fr p), .dt (fr q)] c = .ok (fr (mk (p.1 * q.2 + q.1 * p.2) (p.2 * q.2))) c := by
  have h : p.2 * q.2 ≠ 0 := Int.ne_of_gt (Int.mul_pos hp.1 hq.1)
  unfold m_plus g_plus
  simp [e_demand_two hp hq (bn_8000 bp) (bn_8000 bq), e_added bp bq h]
theorem e_minus {p q : Int × Int} {c : Int} (hp : Ok p) (hq : Ok q) (bp : Bn 200 p) (bq : Bn 200 q) : m_minus [.dt (fr p), .dt (fr q)] c = .ok (fr (mk (p.1 * q.2 - q.1 * p.2) (p.2 * q.2))) c := by
  have h : p.2 * q.2 ≠ 0 := Int.ne_of_gt (Int.mul_pos hp.1 hq.1)
  unfold m_minus g_minus
  simp [e_demand_two hp hq (bn_8000 bp) (bn_8000 bq), e_lessened bp bq h]
theorem e_times {p q : Int × Int} {c : Int} (hp : Ok p) (hq : Ok q) (bp : Bn 200 p) (bq : Bn 200 q) : m_times [.dt (fr p), .dt (fr q)] c = .ok (fr (mk (p.1 * q.1) (p.2 * q.2))) c := by
  have h : p.2 * q.2 ≠ 0 := Int.ne_of_gt (Int.mul_pos hp.1 hq.1)
  unfold m_times g_times
  simp [e_demand_two hp hq (bn_8000 bp) (bn_8000 bq), e_multiplied bp bq h]
theorem e_over {p q : Int × Int} {c : Int} (hp : Ok p) (hq : Ok q) (bp : Bn 200 p) (bq : Bn 200 q) : m_over [.dt (fr p), .dt (fr q)] c = if q.1 = 0 then .ex ⟨0, [.str "nought"]⟩ c else .ok (fr (mk (p.1 * q.2) (p.2 * q.1))) c := by
  unfold m_over g_over
  by_cases h0 : q.1 = 0
  · simp [e_demand_two hp hq (bn_8000 bp) (bn_8000 bq), fr, h0]
    have e := e_demand_two (c := c) hp hq (bn_8000 bp) (bn_8000 bq)
    unfold fr at e
    rw [h0] at e
    simp [e]
  · have h : p.2 * q.1 ≠ 0 := Int.mul_ne_zero (Int.ne_of_gt hp.1) h0
    have e := e_demand_two (c := c) hp hq (bn_8000 bp) (bn_8000 bq)
    have e2 := e_divided (c := c) bp bq h
    unfold fr at e e2
    simp [fr, e, e2, h0]
theorem ok_zero : Ok (0, 1) := ⟨by decide, by decide⟩
theorem bn_zero {k : Nat} (h : 0 < k) : Bn k (0, 1) := ⟨by unfold Bd; exact Nat.pow_pos (by decide), by unfold Bd; exact Nat.one_lt_two_pow (by omega)⟩
theorem e_opposite {p : Int × Int} {c : Int} (hp : Ok p) (bp : Bn 200 p) : m_opposite [.dt (fr p)] c = .ok (fr (-p.1, p.2)) c := by
  have e := e_demand_two (c := c) hp ok_zero (bn_8000 bp) (bn_zero (by decide))
  unfold m_opposite g_opposite
  unfold fr at e
  have e2 := e_negated (p := p) (c := c)
  unfold fr at e2
  simp [fr, e, e2]
theorem eqv_fr (p q : Int × Int) : dEq (fr p) (fr q) = some (.bool (decide (p = q))) := by
  unfold fr
  rw [eq_tt (by rfl) (by rfl)]
  simp only [PyData.eqv, PyData.eqvAll, Bool.and_true]
  congr 2
  by_cases h : p = q
  · subst h; simp
  · have : ¬ (p.1 = q.1 ∧ p.2 = q.2) := fun z => h (Prod.ext z.1 z.2)
    rw [decide_eq_false h]
    by_cases h1 : p.1 = q.1
    · have h2 : p.2 ≠ q.2 := fun z => this ⟨h1, z⟩
      simp [h2]
    · simp [h1]
def sgn (n : Int) : Int := if n = 0 then 0 else if n < 0 then -1 else 1
theorem e_compare {p q : Int × Int} {c : Int} (hp : Ok p) (hq : Ok q) (bp : Bn 200 p) (bq : Bn 200 q) : m_compare [.dt (fr p), .dt (fr q)] c = .ok (.int (sgn (p.1 * q.2 - q.1 * p.2))) c := by
  have e := e_demand_two (c := c) hp hq (bn_8000 bp) (bn_8000 bq)
  have e2 := e_is_less (c := c) bp bq
  unfold m_compare g_compare
  by_cases h : p = q
  · subst h
    have : p.1 * p.2 - p.1 * p.2 = 0 := by omega
    simp [e, eqv_fr, sgn, this]
  · have h0 : p.1 * q.2 - q.1 * p.2 ≠ 0 := fun z => h (ok_uniq hp hq (by omega))
    by_cases h1 : p.1 * q.2 < q.1 * p.2
    · have h2 : p.1 * q.2 - q.1 * p.2 < 0 := by omega
      simp [e, eqv_fr, h, e2, h1, sgn, h0, h2]
    · have h2 : ¬ p.1 * q.2 - q.1 * p.2 < 0 := by omega
      simp [e, eqv_fr, h, e2, h1, sgn, h0, h2]
/-! ### told -/
def told : R PyData → R PyData
  | .ok d c => .ok d c
  | .ex ⟨0, [r]⟩ c => .ok (.tuple [.str "argument", r]) c
  | .ex ⟨1, [r]⟩ c => .ok (.tuple [.str "at", r]) c
  | _ => .no
def hTold : List HdS := [⟨[0], some 4, (fIf (tTr (fXis [0, 1] 4)) (fDis mkTup (aCons (fC (.str "argument")) (aCons (fXat nms 4 "reason") aNil))) (fC (.str "")))⟩, ⟨[1], some 4, (fDis mkTup (aCons (fC (.str "at")) (aCons (fXat nms 4 "at") aNil)))⟩]
theorem told_h0 {r : PyData} {c : Int} : hdD 5 hTold ⟨0, [r]⟩ c = .ok (.rt (.tuple [.str "argument", r])) c := by
  unfold hTold
  simp [nms, List.replicate, lineOk_small, List.lookup]
theorem told_h1 {r : PyData} {c : Int} : hdD 5 hTold ⟨1, [r]⟩ c = .ok (.rt (.tuple [.str "at", r])) c := by
  unfold hTold
  simp [nms, List.replicate, lineOk_small, List.lookup]
/-- the try's end by its body's -/
theorem told_try {g : FS} {ρ : En} {c c' : Int} {r : R PyData} {d : PyData} (h : g ρ c = r.bind fun e c3 => .ok (.rt e) c3) (ht : told r = .ok d c') : sTry 5 g hTold ρ c = .ok (.rt d) c' := by
  rw [sTry_, h]
  unfold told at ht
  split at ht
  · cases ht; rfl
  · cases ht; exact told_h0
  · cases ht; exact told_h1
  · cases ht
noncomputable def msel : List MF := [m_fraction, m_plus, m_minus, m_times, m_over, m_compare]
noncomputable def bTold : FS := (sSeq (sIf (tB1 (f2 dLt (fNm 0) (fC (.int 6)))) (sSel 3 msel (fNm 0) (aCons (fNm 1) (aCons (fNm 2) aNil)))
  sNx)
  (sRet (fIf (tB1 (f2 dEq (fNm 0) (fC (.int 6)))) (fCall m_opposite (aCons (fNm 1) aNil)) (fIf (tB1 (f2 dEq (fNm 0) (fC (.int 7)))) (fCall m_write_fraction (aCons (fNm 1) aNil)) (fCall m_read_fraction (aCons (fNm 1) aNil))))))
theorem told_of {k : Int} {x y d : PyData} {c c' : Int} {r : R PyData} (h : bTold [.dt (.int k), .dt x, .dt y, .un, .un] c = r.bind fun e c3 => .ok (.rt e) c3) (ht : told r = .ok d c') : m__law_told [.dt (.int k), .dt x, .dt y] c = .ok d c' := by
  have e : m__law_told = mOf 5 (sTry 5 bTold hTold) := rfl
  rw [e, mOf_, show ([.dt (.int k), .dt x, .dt y] ++ List.replicate (5 - [Sl.dt (.int k), .dt x, .dt y].length) Sl.un : En) = [.dt (.int k), .dt x, .dt y, .un, .un] from rfl, told_try h ht]
theorem told_sel {k : Nat} {m : MF} {x y d : PyData} {c c' : Int} (hk : k < 6) (hm : msel[k]? = some m) (h : told (m [.dt x, .dt y] c) = .ok d c') : m__law_told [.dt (.int k), .dt x, .dt y] c = .ok d c' := by
  refine told_of ?_ h
  have hk' : (k : Int) < 6 := by omega
  have e : sSel 3 msel (fNm 0) (aCons (fNm 1) (aCons (fNm 2) aNil)) [.dt (.int k), .dt x, .dt y, .un, .un] c = (m [.dt x, .dt y] c).bind fun e c3 => .ok (.rt e) c3 := by
    rw [sSel_ (n := k) (m := m) (by unfold msel; decide) (by simp) (by simp) hm]
    simp
  unfold bTold
  simp only [sSeq_, sIf_, tB1_, f2_, fNm_, fC_, List.getElem?_cons_zero, bind_ok, dOrd_i, ofO_some, asB_, hk', decide_true, if_true, e]
  cases m [.dt x, .dt y] c <;> rfl
theorem told_6 {x d y : PyData} {c c' : Int} (h : told (m_opposite [.dt x] c) = .ok d c') : m__law_told [.dt (.int 6), .dt x, .dt y] c = .ok d c' := by
  refine told_of ?_ h
  unfold bTold
  simp [eq_ii]
theorem told_7 {x d y : PyData} {c c' : Int} (h : told (m_write_fraction [.dt x] c) = .ok d c') : m__law_told [.dt (.int 7), .dt x, .dt y] c = .ok d c' := by
  refine told_of ?_ h
  unfold bTold
  simp [eq_ii]
theorem told_8 {x d y : PyData} {c c' : Int} (h : told (m_read_fraction [.dt x] c) = .ok d c') : m__law_told [.dt (.int 8), .dt x, .dt y] c = .ok d c' := by
  refine told_of ?_ h
  unfold bTold
  simp [eq_ii]
/-! ### the law's fractions -/
theorem e_law_add {p q : Int × Int} {c : Int} (hp : Ok p) (hq : Ok q) (bp : Bn 200 p) (bq : Bn 200 q) : m__law_add [.dt (fr p), .dt (fr q)] c = .ok (fr (mk (p.1 * q.2 + q.1 * p.2) (p.2 * q.2))) c := by
  have h : p.2 * q.2 ≠ 0 := Int.ne_of_gt (Int.mul_pos hp.1 hq.1)
  have m1 := mulFits_of bp.1 bq.2 (by decide) (by decide) (by decide)
  have m2 := mulFits_of bq.1 bp.2 (by decide) (by decide) (by decide)
  have m3 := mulFits_of bp.2 bq.2 (by decide) (by decide) (by decide)
  have b1 : Bd 1400 (p.1 * q.2 + q.1 * p.2) := (bd_add (bd_mul bp.1 bq.2) (bd_mul bq.1 bp.2)).mono (by decide)
  have b2 : Bd 1400 (p.2 * q.2) := (bd_mul bp.2 bq.2).mono (by decide)
  unfold m__law_add g__law_add
  simp [fr, mul_i m1, mul_i m2, mul_i m3, e_law_made b1 b2 h]
theorem e_law_mul {p q : Int × Int} {c : Int} (hp : Ok p) (hq : Ok q) (bp : Bn 200 p) (bq : Bn 200 q) : m__law_mul [.dt (fr p), .dt (fr q)] c = .ok (fr (mk (p.1 * q.1) (p.2 * q.2))) c := by
  have h : p.2 * q.2 ≠ 0 := Int.ne_of_gt (Int.mul_pos hp.1 hq.1)
  have m1 := mulFits_of bp.1 bq.1 (by decide) (by decide) (by decide)
  have m3 := mulFits_of bp.2 bq.2 (by decide) (by decide) (by decide)
  have b1 : Bd 1400 (p.1 * q.1) := (bd_mul bp.1 bq.1).mono (by decide)
  have b2 : Bd 1400 (p.2 * q.2) := (bd_mul bp.2 bq.2).mono (by decide)
  unfold m__law_mul g__law_mul
  simp [fr, mul_i m1, mul_i m3, e_law_made b1 b2 h]
theorem e_law_div {p q : Int × Int} {c : Int} (hp : Ok p) (bp : Bn 200 p) (bq : Bn 200 q) (h0 : q.1 ≠ 0) : m__law_div [.dt (fr p), .dt (fr q)] c = .ok (fr (mk (p.1 * q.2) (p.2 * q.1))) c := by
  have h : p.2 * q.1 ≠ 0 := Int.mul_ne_zero (Int.ne_of_gt hp.1) h0
  have m1 := mulFits_of bp.1 bq.2 (by decide) (by decide) (by decide)
  have m3 := mulFits_of bp.2 bq.1 (by decide) (by decide) (by decide)
  have b1 : Bd 1400 (p.1 * q.2) := (bd_mul bp.1 bq.2).mono (by decide)
  have b2 : Bd 1400 (p.2 * q.1) := (bd_mul bp.2 bq.1).mono (by decide)
  unfold m__law_div g__law_div
  simp [fr, mul_i m1, mul_i m3, e_law_made b1 b2 h]
theorem e_law_neg {p : Int × Int} {c : Int} : m__law_neg [.dt (fr p)] c = .ok (fr (-p.1, p.2)) c := by
  unfold m__law_neg g__law_neg
  simp [fr, lineOk_small]
theorem e_same {d : PyData} {c : Int} (h : Nc d) (hc : cnt d ≤ 1000) (hd : d.depth ≤ 64) : m__law_same_as [.dt d, .dt d] c = .ok (.bool true) c := by
  unfold m__law_same_as g__law_same_as
  simp [eq_self h hd, repr_self h hc hd]
/-! ### draws -/
def Drw (ds : List PyData) : Prop := ∀ d ∈ ds, ∃ n : Int, d = .int n ∧ 0 ≤ n ∧ n < 2 ^ 31
theorem Drw.snoc {ds : List PyData} {n : Int} (h : Drw ds) (h0 : 0 ≤ n) (h1 : n < 2 ^ 31) : Drw (ds ++ [.int n]) := fun d hd => by
  rcases List.mem_append.mp hd with z | z
  · exact h d z
  · have : d = .int n := by simpa using z
    exact ⟨n, this, h0, h1⟩
theorem fmod_in {x m : Int} (hm : 0 < m) : 0 ≤ x.fmod m ∧ x.fmod m < m := ⟨Int.fmod_nonneg_of_pos x hm, Int.fmod_lt_of_pos x hm⟩
theorem div_c {m : Int} (h : Bd 60 m) (h0 : m ≠ 0) (x : Int) : dDiv (.int x) (.int m) = some (.int (x.fdiv m)) := div_i (divFits_of h (by decide) (by decide) h0)
theorem mod_c {m : Int} (h0 : m ≠ 0) (x : Int) : dMod (.int x) (.int m) = some (.int (x.fmod m)) := mod_i h0
theorem fdiv_nn {x m : Int} (hx : 0 ≤ x) (hm : 0 ≤ m) : 0 ≤ x.fdiv m := by
  rw [Int.fdiv_eq_ediv_of_nonneg _ hm]
  exact Int.ediv_nonneg hx hm
def StD (is : List Int) (n : Nat) (ρ : En) : Prop := ∃ acc s2 s3 s4 s5, ρ = [.sc is, .ow acc, s2, s3, s4, s5] ∧ Drw acc ∧ acc.length ≤ n
theorem line_ok {n : Nat} (h : n ≤ 16777216) : lineOk n = true := decide_eq_true h
theorem mulFits_any (x : Int) {b : Int} (hx : x.natAbs.log2 < 900000) (hb : Bd 60 b) : mulFits x b = true := by
  have h2 := log2_of hb (by decide)
  unfold mulFits
  exact decide_eq_true (by omega)
def gBig : FS := (sIf (tB1 (f2 dGt (fNm 3) (fC (.int 0)))) (sSeq (sApp 1 (f2 dMod (fBi cInt (aCons (fNm 3) aNil)) (fC (.int 1009))))
  (sSet 3 (f2 dDiv (fNm 3) (fC (.int 1009)))))
  sNx)
theorem big_loop {is : List Int} {n : Nat} {c : Int} {acc : List PyData} {s2 s4 s5 : Sl} {r : Int} (ha : Drw acc) (hl : acc.length ≤ n) (hn : n ≤ 100000) (hr : 0 ≤ r) :
    ∃ ρ' c', forD (tNm 4) gBig (rngD 0 60) [.sc is, .ow acc, s2, .dt (.int r), s4, s5] c = .ok (.nx ρ') c' ∧ StD is (n + 60) ρ' ∧ c' = c := by
  have step : ∀ j d, (rngD 0 60)[j]? = some d → ∀ ρ c1, (fun j ρ c' => ∃ acc s2 r s4 s5, ρ = [.sc is, .ow acc, s2, .dt (.int r), s4, s5] ∧ Drw acc ∧ acc.length ≤ n + j ∧ 0 ≤ r ∧ c' = c) (0 + j) ρ c1 → ∃ ρ1, tNm 4 d ρ = some ρ1 ∧ ∃ ρ2 c2, (gBig ρ1 c1 = .ok (.nx ρ2) c2 ∨ gBig ρ1 c1 = .ok (.ct ρ2) c2) ∧ (fun j ρ c' => ∃ acc s2 r s4 s5, ρ = [.sc is, .ow acc, s2, .dt (.int r), s4, s5] ∧ Drw acc ∧ acc.length ≤ n + j ∧ 0 ≤ r ∧ c' = c) (0 + j + 1) ρ2 c2 := by
    rintro j d hj ρ c1 ⟨acc, s2, r, s4, s5, rfl, k1, k2, k3, rfl⟩
    refine ⟨_, rfl, ?_⟩
    have hj' : j < 60 := by
      have := (List.getElem?_eq_some_iff.mp hj).1
      rw [rngD_length] at this
      exact this
    unfold gBig
    by_cases h0 : 0 < r
    · have hm := fmod_in (x := r) (show (0 : Int) < 1009 by decide)
      refine ⟨[.sc is, .ow (acc ++ [.int (r.fmod 1009)]), s2, .dt (.int (r.fdiv 1009)), .dt d, s5], c1, .inl ?_, _, _, _, _, _, rfl, k1.snoc hm.1 (by omega), by simp; omega, fdiv_nn k3 (by decide), rfl⟩
      simp [h0, mod_c, div_c (show Bd 60 1009 by unfold Bd; decide), line_ok (show acc.length + 1 ≤ 16777216 by omega)]
    · refine ⟨[.sc is, .ow acc, s2, .dt (.int r), .dt d, s5], c1, .inl ?_, _, _, _, _, _, rfl, k1, by omega, k3, rfl⟩
      simp [h0]
  obtain ⟨ρ', c', h1, acc', s2', r', s4', s5', h2, h3, h4, h5, h6⟩ := forD_inv (tg := tNm 4) (s := gBig) (fun j ρ c' => ∃ acc s2 r s4 s5, ρ = [.sc is, .ow acc, s2, .dt (.int r), s4, s5] ∧ Drw acc ∧ acc.length ≤ n + j ∧ 0 ≤ r ∧ c' = c) (rngD 0 60) 0 [.sc is, .ow acc, s2, .dt (.int r), s4, s5] c step ⟨acc, s2, r, s4, s5, rfl, ha, by omega, hr, rfl⟩
  exact ⟨ρ', c', h1, ⟨acc', s2', _, s4', s5', h2, h3, by rw [rngD_length] at h4; omega⟩, h6⟩
def gSm : FS := (sSeq (sSet 5 (f2 dMod (fBi cInt (aCons (f2 dAdd (f2 dAdd (f2 dMul (fNm 5) (fC (.int 16807))) (f2 dMul (fC (.int 69621)) (fNm 4))) (fC (.int 5))) aNil)) (fC (.int 2147483629))))
  (sApp 1 (f2 dDiv (fNm 5) (fC (.int 1009)))))
theorem bd_of {x : Int} {k : Nat} (h0 : 0 ≤ x) (h1 : x < 2 ^ k) : Bd k x := by
  unfold Bd
  have e : ((2 ^ k : Nat) : Int) = (2 : Int) ^ k := by rw [Int.natCast_pow]; rfl
  rw [← e] at h1
  omega
theorem sm_loop {is : List Int} {n : Nat} {c : Int} {acc : List PyData} {s2 s3 s4 : Sl} {r : Int} (ha : Drw acc) (hl : acc.length ≤ n) (hn : n ≤ 100000) (hr : 0 ≤ r) (hr2 : r < 2 ^ 31) :
    ∃ ρ' c', forD (tNm 4) gSm (rngD 0 12) [.sc is, .ow acc, s2, s3, s4, .dt (.int r)] c = .ok (.nx ρ') c' ∧ StD is (n + 12) ρ' ∧ c' = c := by
  have step : ∀ j d, (rngD 0 12)[j]? = some d → ∀ ρ c1, (fun j ρ c' => ∃ acc s2 s3 s4 r, ρ = [.sc is, .ow acc, s2, s3, s4, .dt (.int r)] ∧ Drw acc ∧ acc.length ≤ n + j ∧ 0 ≤ r ∧ r < 2 ^ 31 ∧ c' = c) (0 + j) ρ c1 → ∃ ρ1, tNm 4 d ρ = some ρ1 ∧ ∃ ρ2 c2, (gSm ρ1 c1 = .ok (.nx ρ2) c2 ∨ gSm ρ1 c1 = .ok (.ct ρ2) c2) ∧ (fun j ρ c' => ∃ acc s2 s3 s4 r, ρ = [.sc is, .ow acc, s2, s3, s4, .dt (.int r)] ∧ Drw acc ∧ acc.length ≤ n + j ∧ 0 ≤ r ∧ r < 2 ^ 31 ∧ c' = c) (0 + j + 1) ρ2 c2 := by
    rintro j d hj ρ c1 ⟨acc, s2, s3, s4, r, rfl, k1, k2, k3, k4, rfl⟩
    obtain ⟨hj', hd⟩ := rngD_get hj
    rw [Int.zero_add] at hd
    subst hd
    refine ⟨_, rfl, ?_⟩
    unfold gSm
    have f1 : mulFits r 16807 = true := mulFits_of (bd_of (k := 31) k3 k4) (show Bd 60 16807 by unfold Bd; decide) (by decide) (by decide) (by decide)
    have f2 : mulFits 69621 (j : Int) = true := mulFits_of (show Bd 60 69621 by unfold Bd; decide) (bd_of (k := 31) (by omega) (by omega)) (by decide) (by decide) (by decide)
    have hm := fmod_in (x := r * 16807 + 69621 * (j : Int) + 5) (show (0 : Int) < 2147483629 by decide)
    generalize hz : (r * 16807 + 69621 * (j : Int) + 5).fmod 2147483629 = z at hm
    have hz2 : 0 ≤ z.fdiv 1009 ∧ z.fdiv 1009 < 2 ^ 31 := by
      rw [Int.fdiv_eq_ediv_of_nonneg _ (by decide)]
      omega
    refine ⟨[.sc is, .ow (acc ++ [.int (z.fdiv 1009)]), s2, s3, .dt (.int j), .dt (.int z)], c1, .inl ?_, _, _, _, _, _, rfl, k1.snoc hz2.1 hz2.2, by simp; omega, hm.1, by omega, rfl⟩
    simp [mul_i f1, mul_i f2, mod_c, hz, div_c (show Bd 60 1009 by unfold Bd; decide), line_ok (show acc.length + 1 ≤ 16777216 by omega)]
  obtain ⟨ρ', c', h1, acc', s2', s3', s4', r', h2, h3, h4, h5, h6, h7⟩ := forD_inv (tg := tNm 4) (s := gSm) (fun j ρ c' => ∃ acc s2 s3 s4 r, ρ = [.sc is, .ow acc, s2, s3, s4, .dt (.int r)] ∧ Drw acc ∧ acc.length ≤ n + j ∧ 0 ≤ r ∧ r < 2 ^ 31 ∧ c' = c) (rngD 0 12) 0 [.sc is, .ow acc, s2, s3, s4, .dt (.int r)] c step ⟨acc, s2, s3, s4, r, rfl, ha, by omega, hr, hr2, rfl⟩
  exact ⟨ρ', c', h1, ⟨acc', s2', s3', s4', _, h2, h3, by rw [rngD_length] at h4; omega⟩, h7⟩
theorem e_law_draws {is : List Int} {c : Int} (hl : is.length ≤ 63) : ∃ ds, m__law_draws [.sc is] c = .ok (.list ds) c ∧ Drw ds ∧ ds.length ≤ 3780 := by
  let g : FS := (sSeq (sSet 3 (fBi cAbs (aCons (fNm 2) aNil)))
    (sIf (tB1 (f2 dGe (fNm 3) (f2 dPow (fC (.int 10)) (fC (.int 18))))) (sFor (lRng rng1 (aCons (fC (.int 60)) aNil)) (tNm 4) gBig)
    (sSeq (sSet 5 (f2 dMod (fBi cInt (aCons (f2 dAdd (f2 dMul (fNm 3) (fC (.int 48271))) (fC (.int 11))) aNil)) (fC (.int 2147483647))))
    (sFor (lRng rng1 (aCons (fC (.int 12)) aNil)) (tNm 4) gSm))))
  have step : ∀ j d, (is.map PyData.int)[j]? = some d → ∀ ρ c1, (StD is (60 * (0 + j)) ρ ∧ 0 + j ≤ 63 ∧ c1 = c) → ∃ ρ1, tNm 2 d ρ = some ρ1 ∧ ∃ ρ2 c2, (g ρ1 c1 = .ok (.nx ρ2) c2 ∨ g ρ1 c1 = .ok (.ct ρ2) c2) ∧ (StD is (60 * (0 + j + 1)) ρ2 ∧ 0 + j + 1 ≤ 63 ∧ c2 = c) := by
    rintro j d hj ρ c1 ⟨⟨acc, s2, s3, s4, s5, rfl, k1, k2⟩, k3, rfl⟩
    have hj' : j < is.length := by
      have := (List.getElem?_eq_some_iff.mp hj).1
      simpa using this
    obtain ⟨z, rfl⟩ : ∃ z : Int, d = .int z := by
      rw [List.getElem?_map, List.getElem?_eq_getElem hj'] at hj
      cases hj
      exact ⟨_, rfl⟩
    refine ⟨_, rfl, ?_⟩
    have ep : dPow (.int 10) (.int 18) = some (.int (10 ^ 18)) := pow_i (b := 18) (by decide) (by decide)
    by_cases hz : (1000000000000000000 : Int) ≤ (z.natAbs : Int)
    · obtain ⟨ρ', c', e1, e2, rfl⟩ := big_loop (is := is) (n := 60 * (0 + j)) (c := c1) (s2 := .dt (.int z)) (s4 := s4) (s5 := s5) (r := z.natAbs) k1 k2 (by omega) (by omega)
      refine ⟨ρ', c', .inl ?_, ?_, by omega, rfl⟩
      · show g _ _ = _
        simp only [g]
        simp [abs_i, ep, hz, rng1, rngOk]
        exact e1
      · rw [show 60 * (0 + j + 1) = 60 * (0 + j) + 60 by omega]
        exact e2
    · have f1 : mulFits (z.natAbs : Int) 48271 = true := mulFits_of (bd_of (k := 60) (by omega) (by omega)) (show Bd 60 48271 by unfold Bd; decide) (by decide) (by decide) (by decide)
      have hm := fmod_in (x := (z.natAbs : Int) * 48271 + 11) (show (0 : Int) < 2147483647 by decide)
      obtain ⟨ρ', c', e1, e2, rfl⟩ := sm_loop (is := is) (n := 60 * (0 + j)) (c := c1) (s2 := .dt (.int z)) (s3 := .dt (.int z.natAbs)) (s4 := s4) (r := ((z.natAbs : Int) * 48271 + 11).fmod 2147483647) k1 k2 (by omega) hm.1 (by omega)
      refine ⟨ρ', c', .inl ?_, ?_, by omega, rfl⟩
      · show g _ _ = _
        simp only [g]
        simp [abs_i, ep, hz, mul_i f1, mod_c, rng1, rngOk]
        exact e1
      · obtain ⟨acc, t2, t3, t4, t5, q1, q2, q3⟩ := e2
        exact ⟨acc, t2, t3, t4, t5, q1, q2, by omega⟩
  obtain ⟨ρ', c', h1, ⟨⟨acc, s2, s3, s4, s5, rfl, k1, k2⟩, _, rfl⟩⟩ := forD_inv (tg := tNm 2) (s := g) (fun j ρ c1 => StD is (60 * j) ρ ∧ j ≤ 63 ∧ c1 = c) (is.map PyData.int) 0 [.sc is, .ow [], .un, .un, .un, .un] c step ⟨⟨[], _, _, _, _, rfl, fun d h => by simp at h, by simp⟩, by omega, rfl⟩
  refine ⟨acc, ?_, k1, by simp at k2; omega⟩
  have et : is.take 63 = is := List.take_of_length_le hl
  simp only [g] at h1
  unfold gBig gSm at h1
  unfold m__law_draws g__law_draws
  simp only [mOf_, sSeq_, sOw_, lLst_, aNil_, bind_ok, dts_0, List.length_nil, line_ok (show 0 ≤ 16777216 by decide), if_true, sFor_, lIt_, fFz_, lSc_, ofO_some, asSeq_l, List.length_cons, List.replicate, List.cons_append, List.nil_append, List.getElem?_cons_zero, List.set_cons_succ, List.set_cons_zero, et, h1]
  simp
theorem drw_at {ds : List PyData} (h : Drw ds) {n : Nat} (hn : n < ds.length) : ∃ v : Int, ds[n]? = some (.int v) ∧ 0 ≤ v ∧ v < 2 ^ 31 := by
  obtain ⟨v, e, h0, h1⟩ := h _ (List.getElem_mem hn)
  exact ⟨v, by rw [List.getElem?_eq_getElem hn, e], h0, h1⟩
theorem e_law_more {ds : List PyData} {n c : Int} (hd : Drw ds) (hl : ds.length ≤ 100000) (h0 : 0 ≤ n) (h1 : n < 2 ^ 40) : ∃ v : Int, m__law_more [.dt (.list ds), .dt (.int n)] c = .ok (.int v) c ∧ 0 ≤ v ∧ v < 2 ^ 31 := by
  let g : FS := (sSeq (sIf (tTr (fNm 0)) (sSet 2 (f2 dAdd (fNm 2) (f2 dIx (fNm 0) (f2 dMod (fBi cInt (aCons (f2 dAdd (f2 dMul (fNm 1) (f2 dAdd (fNm 3) (fC (.int 5)))) (fNm 3)) aNil)) (fBi cLen (aCons (fNm 0) aNil))))))
    sNx)
    (sSet 2 (f2 dMod (fBi cInt (aCons (f2 dAdd (f2 dAdd (f2 dMul (fNm 2) (fC (.int 16807))) (f2 dMul (fC (.int 69621)) (fNm 3))) (fC (.int 5))) aNil)) (fC (.int 2147483629)))))
  have hb : Bd 60 n := bd_of h0 (by omega)
  have step : ∀ (j : Nat) (d : PyData), (rngD 0 3)[j]? = some d → ∀ ρ c1, (∃ (m : Int) (s3 : Sl), ρ = [.dt (.list ds), .dt (.int n), .dt (.int m), s3] ∧ 0 ≤ m ∧ m < 2147483629 ∧ c1 = c) → ∃ ρ1, tNm 3 d ρ = some ρ1 ∧ ∃ ρ2 c2, (g ρ1 c1 = .ok (.nx ρ2) c2 ∨ g ρ1 c1 = .ok (.ct ρ2) c2) ∧ (∃ (m : Int) (s3 : Sl), ρ2 = [.dt (.list ds), .dt (.int n), .dt (.int m), s3] ∧ 0 ≤ m ∧ m < 2147483629 ∧ c2 = c) := by
    rintro j d hj ρ c1 ⟨m, s3, rfl, k1, k2, rfl⟩
    obtain ⟨hj', rfl⟩ := rngD_get hj
    rw [Int.zero_add]
    refine ⟨_, rfl, ?_⟩
    have f2 : mulFits 69621 (j : Int) = true := mulFits_of (show Bd 60 69621 by unfold Bd; decide) (bd_of (k := 31) (by omega) (by omega)) (by decide) (by decide) (by decide)
    have f3 : mulFits n ((j : Int) + 5) = true := mulFits_of hb (bd_of (k := 31) (by omega) (by omega)) (by decide) (by decide) (by decide)
    by_cases he : ds.isEmpty = true
    · have f1 : mulFits m 16807 = true := mulFits_of (bd_of (k := 60) k1 (by omega)) (show Bd 60 16807 by unfold Bd; decide) (by decide) (by decide) (by decide)
      have hm := fmod_in (x := m * 16807 + 69621 * (j : Int) + 5) (show (0 : Int) < 2147483629 by decide)
      refine ⟨[.dt (.list ds), .dt (.int n), .dt (.int ((m * 16807 + 69621 * (j : Int) + 5).fmod 2147483629)), .dt (.int j)], c1, .inl ?_, _, _, rfl, hm.1, hm.2, rfl⟩
      show g _ _ = _
      simp only [g]
      simp [he, mul_i f1, mul_i f2, mod_c]
    · have hpos : 0 < ds.length := by
        cases ds with
        | nil => simp at he
        | cons d ds => simp
      have hx := fmod_in (x := n * ((j : Int) + 5) + (j : Int)) (show (0 : Int) < (ds.length : Int) by omega)
      obtain ⟨v, ev, v0, v1⟩ := drw_at hd (n := ((n * ((j : Int) + 5) + (j : Int)).fmod (ds.length : Int)).toNat) (by omega)
      have f1 : mulFits (m + v) 16807 = true := mulFits_of (bd_of (k := 60) (by omega) (by omega)) (show Bd 60 16807 by unfold Bd; decide) (by decide) (by decide) (by decide)
      have hm := fmod_in (x := (m + v) * 16807 + 69621 * (j : Int) + 5) (show (0 : Int) < 2147483629 by decide)
      have hl0 : (ds.length : Int) ≠ 0 := by omega
      refine ⟨[.dt (.list ds), .dt (.int n), .dt (.int (((m + v) * 16807 + 69621 * (j : Int) + 5).fmod 2147483629)), .dt (.int j)], c1, .inl ?_, _, _, rfl, hm.1, hm.2, rfl⟩
      show g _ _ = _
      simp only [g]
      simp [he, mul_i f1, mul_i f2, mul_i f3, mod_c, mod_i hl0, ix_l hx.1, ev]
  have f0 : mulFits n 48271 = true := mulFits_of hb (show Bd 60 48271 by unfold Bd; decide) (by decide) (by decide) (by decide)
  have hm := fmod_in (x := n * 48271 + (ds.length : Int) + 11) (show (0 : Int) < 2147483629 by decide)
  obtain ⟨ρ', c', e1, m, s3, rfl, m0, m1, rfl⟩ := forD_inv (tg := tNm 3) (s := g) (fun j ρ c1 => ∃ (m : Int) (s3 : Sl), ρ = [.dt (.list ds), .dt (.int n), .dt (.int m), s3] ∧ 0 ≤ m ∧ m < 2147483629 ∧ c1 = c) (rngD 0 3) 0 [.dt (.list ds), .dt (.int n), .dt (.int ((n * 48271 + (ds.length : Int) + 11).fmod 2147483629)), .un] c step ⟨_, _, rfl, hm.1, hm.2, rfl⟩
  have hz2 : 0 ≤ m.fdiv 1009 ∧ m.fdiv 1009 < 2 ^ 31 := by
    rw [Int.fdiv_eq_ediv_of_nonneg _ (by decide)]
    omega
  refine ⟨m.fdiv 1009, ?_, hz2⟩
  simp only [g] at e1
  unfold m__law_more g__law_more
  simp [mul_i f0, mod_c, rng1, rngOk, e1, div_c (show Bd 60 1009 by unfold Bd; decide)]
theorem e_law_take {ds : List PyData} {many c : Int} (hd : Drw ds) (hl : ds.length ≤ 100000) (h0 : 0 ≤ c) (h1 : c < 2 ^ 40) (hm : 0 < many) : ∃ v : Int, m__law_take [.dt (.list ds), .ce, .dt (.int many)] c = .ok (.int v) (c + 1) ∧ 0 ≤ v ∧ v < many := by
  have hmn : many ≠ 0 := by omega
  by_cases hc : c < (ds.length : Int)
  · obtain ⟨v, ev, v0, v1⟩ := drw_at hd (n := c.toNat) (by omega)
    refine ⟨v.fmod many, ?_, fmod_in hm⟩
    unfold m__law_take g__law_take
    simp [hc, ix_l h0, ev, mod_i hmn]
  · obtain ⟨v, ev, v0, v1⟩ := e_law_more (c := c + 1) hd hl h0 h1
    refine ⟨v.fmod many, ?_, fmod_in hm⟩
    unfold m__law_take g__law_take
    simp [hc, ev, mod_i hmn]
theorem e_law_one {rows ds : List PyData} {c : Int} (hr : 0 < rows.length) (hd : Drw ds) (hl : ds.length ≤ 100000) (h0 : 0 ≤ c) (h1 : c < 2 ^ 40) : ∃ d ∈ rows, m__law_one [.dt (.list rows), .dt (.list ds), .ce] c = .ok d (c + 1) := by
  obtain ⟨v, ev, v0, v1⟩ := e_law_take (many := (rows.length : Int)) hd hl h0 h1 (by omega)
  have hv : v.toNat < rows.length := by omega
  refine ⟨rows[v.toNat], List.getElem_mem hv, ?_⟩
  unfold m__law_one g__law_one
  simp [ev, ix_l v0, hv]
end K01

set_option Elab.async false
set_option linter.all false
set_option maxRecDepth 100000
namespace K01
open PySem PySem.Spec PyProof.Rows L2 L2.DL
/-- the draws at hand -/
structure Dr (ds : List PyData) (c : Int) : Prop where
  d : Drw ds
  l : ds.length ≤ 100000
  p : 0 ≤ c
  q : c < 2 ^ 40
theorem Dr.s {ds : List PyData} {c : Int} (h : Dr ds c) (hc : c < 1000000000) : Dr ds (c + 1) := ⟨h.d, h.l, by have := h.p; omega, by omega⟩
theorem one {rows ds : List PyData} {c : Int} (h : Dr ds c) (hr : 0 < rows.length) : ∃ d ∈ rows, m__law_one [.dt (.list rows), .dt (.list ds), .ce] c = .ok d (c + 1) := e_law_one hr h.d h.l h.p h.q
theorem take {ds : List PyData} {many c : Int} (h : Dr ds c) (hm : 0 < many) : ∃ v : Int, m__law_take [.dt (.list ds), .ce, .dt (.int many)] c = .ok (.int v) (c + 1) ∧ 0 ≤ v ∧ v < many := e_law_take h.d h.l h.p h.q hm
def Sm (p : Int × Int) : Prop := p.1.natAbs < 10 ^ 10 ∧ p.2.natAbs < 10 ^ 10
theorem mk_sm {t u : Int} (ht : t.natAbs < 10 ^ 10) (hu : u.natAbs < 10 ^ 10) : Sm (mk t u) := by
  refine ⟨?_, ?_⟩
  · show (nu t u).natAbs < _
    rw [nu_abs]
    exact Nat.lt_of_le_of_lt (Nat.div_le_self _ _) ht
  · show (de t u).natAbs < _
    rw [de_abs]
    exact Nat.lt_of_le_of_lt (Nat.div_le_self _ _) hu
theorem e_law_drawn {ds : List PyData} {c : Int} (h : Dr ds c) (hc : c < 100000000) : ∃ p : Int × Int, m__law_drawn [.dt (.list ds), .ce] c = .ok (fr p) (c + 5) ∧ Ok p ∧ Bn 60 p ∧ Sm p := by
  have e9 : dPow (.int 10) (.int 9) = some (.int 1000000000) := pow_i (b := 9) (by decide) (by decide)
  have e8 : dPow (.int 10) (.int 8) = some (.int 100000000) := pow_i (b := 8) (by decide) (by decide)
  have h1 := h.s (by omega)
  have h2 := h1.s (by omega)
  have h3 := h2.s (by omega)
  have h4 := h3.s (by omega)
  obtain ⟨w, hw, ew⟩ := one (rows := [.int 5, .int 5, .int 12, .int 1000, .int 1000000000]) h (by decide)
  obtain ⟨w, rfl, w0, w1⟩ : ∃ n : Int, w = .int n ∧ 0 < n ∧ n ≤ 1000000000 := by
    simp at hw
    rcases hw with rfl | rfl | rfl | rfl <;> exact ⟨_, rfl, by decide, by decide⟩
  obtain ⟨t, et, t0, t1⟩ := take (many := 1009) h1 (by decide)
  obtain ⟨x, hx, ex⟩ := one (rows := [.int 1, .int 1, .int 1, .int 7, .int 100000007]) h2 (by decide)
  obtain ⟨x, rfl, x0, x1⟩ : ∃ n : Int, x = .int n ∧ 0 < n ∧ n ≤ 100000007 := by
    simp at hx
    rcases hx with rfl | rfl | rfl <;> exact ⟨_, rfl, by decide, by decide⟩
  obtain ⟨s, hs, es⟩ := one (rows := [.int 1, .int (-1)]) h3 (by decide)
  obtain ⟨s, rfl, s0⟩ : ∃ n : Int, s = .int n ∧ (n = 1 ∨ n = -1) := by
    simp at hs
    rcases hs with rfl | rfl
    · exact ⟨_, rfl, .inl rfl⟩
    · exact ⟨_, rfl, .inr rfl⟩
  obtain ⟨v, ev, v0, v1⟩ := take (many := 1009) h4 (by decide)
  have wn : w ≠ 0 := by omega
  have f1 : mulFits (t - 504) x = true := mulFits_of (j := 60) (k := 60) (show (t - 504).natAbs < 2 ^ 60 by omega) (bd_of (by omega) (by omega)) (by decide) (by decide) (by decide)
  have hm := fmod_in (x := (t - 504) * x) w0
  have hn := fmod_in (x := v) w0
  generalize hA : ((t - 504) * x).fmod w = A at hm
  generalize hB : v.fmod w = B at hn
  have f2 : mulFits A s = true := mulFits_of (j := 60) (k := 60) (bd_of (by omega) (by omega)) (show s.natAbs < 2 ^ 60 by omega) (by decide) (by decide) (by decide)
  have b1 : Bd 60 (A * s) := by
    unfold Bd
    rw [Int.natAbs_mul]
    have : s.natAbs = 1 := by omega
    rw [this]
    omega
  have b2 : Bd 60 (1 + B) := bd_of (by omega) (by omega)
  have hu : 1 + B ≠ 0 := by omega
  have b3 : (A * s).natAbs < 10 ^ 10 := by
    rw [Int.natAbs_mul]
    have : s.natAbs = 1 := by omega
    rw [this]
    omega
  refine ⟨mk (A * s) (1 + B), ?_, mk_ok hu, mk_bn b1 b2, mk_sm b3 (by omega)⟩
  unfold m__law_drawn g__law_drawn
  simp [e9, e8, line_ok, ew, et, ex, es, ev, mul_i f1, mod_i wn, hA, hB, mul_i f2, e_law_made (b1.mono (by decide)) (b2.mono (by decide)) hu]
  omega
end K01

set_option Elab.async false
set_option linter.all false
set_option maxRecDepth 100000
namespace K01
open PySem PySem.Spec PyProof.Rows L2 L2.DL
/-! ### texts -/
abbrev cs (t : Str) : List Nat := t.cps.toList
theorem cs_len (t : Str) : (cs t).length = t.length := Array.length_toList
theorem len_s {t : Str} (h : t.length ≤ 1000) : cLen [.str t] = some (.int t.length) := by
  show (if t.length ≤ sizeLine then some (PyData.int t.length) else none) = _
  rw [if_pos (by rw [sizeLine_eq]; omega)]
theorem ix_s {t : Str} (h : t.length ≤ 1000) {i : Nat} {ch : Nat} (e : (cs t)[i]? = some ch) : dIx (.str t) (.int i) = some (.str ⟨#[ch]⟩) := by
  show (if t.length ≤ sizeLine then (atI t.cps.toList (i : Int)).map fun c => PyData.str ⟨#[c]⟩ else none) = _
  rw [if_pos (by rw [sizeLine_eq]; omega), atI_n, e]
  rfl
theorem sl_s {t : Str} (h : t.length ≤ 1000) (lo hi : Option Int) : dSl (.str t) lo hi = some (.str (cutS t lo hi)) := if_pos (by rw [sizeLine_eq]; omega)
@[simp] theorem in_ss {a b : Str} : dIn (.str a) (.str b) = some (.bool (strIn a b)) := rfl
def isD (c : Nat) : Bool := decide (48 ≤ c) && decide (c ≤ 57)
theorem in_dg (c : Nat) : strIn ⟨#[c]⟩ "0123456789" = isD c := by
  have h := StrLaws.found_one ("0123456789" : Str) c
  have h2 : strIn ⟨#[c]⟩ "0123456789" = decide (c ∈ ("0123456789" : Str).cps.toList) := h
  rw [h2]
  have e : ("0123456789" : Str).cps.toList = [48, 49, 50, 51, 52, 53, 54, 55, 56, 57] := by decide +kernel
  rw [e]
  unfold isD
  rw [Bool.eq_iff_iff]
  simp
  omega
theorem occ_dg (c : Nat) (h : isD c = true) : Builtin.Str.occurrences ("0123456789" : Str) ⟨#[c]⟩ 0 ("0123456789" : Str).length 1 = [c - 48] := by
  unfold isD at h
  simp at h
  have : c = 48 ∨ c = 49 ∨ c = 50 ∨ c = 51 ∨ c = 52 ∨ c = 53 ∨ c = 54 ∨ c = 55 ∨ c = 56 ∨ c = 57 := by omega
  rcases this with rfl | rfl | rfl | rfl | rfl | rfl | rfl | rfl | rfl | rfl <;> decide +kernel
theorem ix_dg (c : Nat) (h : isD c = true) : mSIndex (.str "0123456789") [.str ⟨#[c]⟩] = some (.int ((c - 48 : Nat) : Int)) := by
  show (match Builtin.Str.occurrences ("0123456789" : Str) ⟨#[c]⟩ 0 ("0123456789" : Str).length 1 with | i :: _ => some (PyData.int (i : Nat)) | [] => none) = _
  rw [occ_dg c h]
theorem str1_eq (a b : Nat) : ((⟨#[a]⟩ : Str) == ⟨#[b]⟩) = decide (a = b) := by
  rw [Bool.eq_iff_iff, beq_iff_eq, decide_eq_true_eq]
  constructor
  · intro h
    have := congrArg Str.cps h
    simpa using this
  · intro h
    rw [h]
/-- the end of the digits from b -/
def run (l : List Nat) (b : Nat) : Nat := b + ((l.drop b).takeWhile isD).length
theorem run_ge (l : List Nat) (b : Nat) : b ≤ run l b := Nat.le_add_right _ _
theorem run_le {l : List Nat} {b : Nat} (h : b ≤ l.length) : run l b ≤ l.length := by
  unfold run
  have h1 := (List.takeWhile_sublist (p := isD) (l := l.drop b)).length_le
  rw [List.length_drop] at h1
  omega
theorem run_in {l : List Nat} {b e : Nat} (h1 : b ≤ e) (h2 : e < run l b) : ∃ ch, l[e]? = some ch ∧ isD ch = true := by
  unfold run at h2
  have hj : e - b < ((l.drop b).takeWhile isD).length := by omega
  have hp := List.takeWhile_prefix (p := isD) (l := l.drop b)
  have e1 := List.prefix_iff_getElem?.mp hp (e - b) hj
  rw [List.getElem?_drop] at e1
  rw [show b + (e - b) = e by omega] at e1
  refine ⟨_, e1, ?_⟩
  have hm := List.getElem_mem hj
  exact List.all_eq_true.mp (List.all_takeWhile (p := isD) (l := l.drop b)) _ hm
theorem run_out {l : List Nat} {b : Nat} {ch : Nat} (h : l[run l b]? = some ch) : isD ch = false := by
  unfold run at h
  rw [← List.getElem?_drop] at h
  generalize l.drop b = m at h
  induction m with
  | nil => simp at h
  | cons x m ih =>
    by_cases hx : isD x = true
    · rw [List.takeWhile_cons_of_pos hx] at h
      exact ih (by simpa using h)
    · rw [List.takeWhile_cons_of_neg hx] at h
      simp at h
      subst h
      simpa using hx
/-! ### the digits' number -/
open PySem.NumText in
def val (l : List Nat) (b : Nat) : Nat := digitsVal ((l.drop b).take (run l b - b))
theorem mid_all {l : List Nat} {b : Nat} : NumText.AllDigits ((l.drop b).take (run l b - b)) := by
  intro c hc
  have e : (l.drop b).take (run l b - b) = (l.drop b).takeWhile isD := by
    unfold run
    rw [Nat.add_sub_cancel_left]
    exact (List.prefix_iff_eq_take.mp (List.takeWhile_prefix (p := isD) (l := l.drop b))).symm
  rw [e] at hc
  have := List.all_eq_true.mp (List.all_takeWhile (p := isD) (l := l.drop b)) _ hc
  unfold isD at this
  simpa using this
theorem cut_cs {t : Str} {b e : Nat} (h1 : b ≤ e) (h2 : e ≤ t.length) : cs (cutS t (some (b : Int)) (some (e : Int))) = ((cs t).drop b).take (e - b) := by
  show (((t.cps.toList.drop (HT.sIx t.length 0 (some (b : Int)))).take (HT.sIx t.length t.length (some (e : Int)) - HT.sIx t.length 0 (some (b : Int)))).toArray).toList = _
  rw [HT.sIx_nat, HT.sIx_nat, Nat.min_eq_left h2, Nat.min_eq_left (show b ≤ t.length by omega)]
theorem int_mid {t : Str} {b : Nat} (hb : b ≤ t.length) (h0 : run (cs t) b ≠ b) (hl : t.length ≤ 600) : cInt [.str (cutS t (some (b : Int)) (some (run (cs t) b : Int)))] = some (.int (val (cs t) b : Int)) := by
  have hr : run (cs t) b ≤ t.length := by rw [← cs_len]; exact run_le (by rw [cs_len]; exact hb)
  have hg := run_ge (cs t) b
  have ec := cut_cs hg hr
  have hlen : (cutS t (some (b : Int)) (some (run (cs t) b : Int))).length ≤ 600 := by
    rw [← cs_len, ec, List.length_take, List.length_drop, cs_len]
    omega
  have hne : cs (cutS t (some (b : Int)) (some (run (cs t) b : Int))) ≠ [] := by
    rw [ec]
    intro z
    have := congrArg List.length z
    rw [List.length_take, List.length_drop, cs_len] at this
    simp at this
    omega
  have e := PySem.intText_digits (x := cutS t (some (b : Int)) (some (run (cs t) b : Int))) (show NumText.AllDigits (cs (cutS t (some (b : Int)) (some (run (cs t) b : Int)))) by rw [ec]; exact mid_all) hne (by omega)
  show (if (cutS t (some (b : Int)) (some (run (cs t) b : Int))).length ≤ 640 then (intText? (cutS t (some (b : Int)) (some (run (cs t) b : Int)))).map PyData.int else none) = _
  rw [if_pos (by omega), e]
  unfold val
  rw [← ec]
  rfl
theorem str1_iff (a b : Nat) : (⟨#[a]⟩ : Str) = ⟨#[b]⟩ ↔ a = b := by
  constructor
  · intro h
    have := congrArg Str.cps h
    simpa using this
  · intro h
    rw [h]
/-- what stands at b: a number up to 1000000 in the right form, or none -/
def dgt (l : List Nat) (b : Nat) : Option Nat :=
  if run l b = b then none else if run l b - b > 7 then none else if l[b]? = some 48 ∧ run l b - b > 1 then none else if val l b > 1000000 then none else some (val l b)
theorem loop_digits {t : Str} {b : Nat} {c : Int} (hb : b ≤ t.length) (hl : t.length ≤ 600) : ∀ (n e : Nat), run (cs t) b - e < n → b ≤ e → e ≤ run (cs t) b →
    whD (tAn (tB1 (f2 dLt (fNm 2) (fBi cLen (aCons (fNm 0) aNil)))) (tB1 (f2 dIn (f2 dIx (fNm 0) (fNm 2)) (fC (.str "0123456789"))))) (sAug 2 iAdd (fC (.int 1))) n [.dt (.str t), .dt (.int b), .dt (.int e)] c =
      .ok (.nx [.dt (.str t), .dt (.int b), .dt (.int (run (cs t) b))]) c := by
  have hr : run (cs t) b ≤ t.length := by rw [← cs_len]; exact run_le (by rw [cs_len]; exact hb)
  intro n
  induction n with
  | zero => intro e h; omega
  | succ n ih =>
    intro e h h1 h2
    unfold whD
    by_cases hlt : e < run (cs t) b
    · obtain ⟨ch, e1, e2⟩ := run_in h1 hlt
      have hn : (e : Int) < (t.length : Int) := by omega
      have go := ih (e + 1) (by omega) (by omega) (by omega)
      rw [Int.natCast_succ] at go
      simp [len_s (show t.length ≤ 1000 by omega), hn, ix_s (show t.length ≤ 1000 by omega) e1, in_dg, e2]
      exact go
    · have he : e = run (cs t) b := by omega
      subst he
      by_cases hn : ((run (cs t) b : Nat) : Int) < (t.length : Int)
      · have hi : run (cs t) b < (cs t).length := by rw [cs_len]; omega
        obtain ⟨ch, e1⟩ : ∃ ch, (cs t)[run (cs t) b]? = some ch := ⟨_, List.getElem?_eq_getElem hi⟩
        have e2 := run_out e1
        simp [len_s (show t.length ≤ 1000 by omega), hn, ix_s (show t.length ≤ 1000 by omega) e1, in_dg, e2]
      · simp [len_s (show t.length ≤ 1000 by omega), hn]
theorem cut_take1 {t : Str} : cs (cutS t none (some 1)) = (cs t).take 1 := by
  show (((t.cps.toList.drop (HT.sIx t.length 0 none)).take (HT.sIx t.length t.length (some 1) - HT.sIx t.length 0 none)).toArray).toList = _
  have e : HT.sIx t.length t.length (some (1 : Int)) = min 1 t.length := HT.sIx_nat _ _ 1
  rw [e, HT.sIx_none, List.drop_zero, Nat.sub_zero]
  rw [List.take_eq_take_iff]
  have : t.cps.toList.length = t.length := cs_len t
  omega
theorem e_digits_from {t : Str} {b : Nat} {c : Int} (hb : b ≤ t.length) (hl : t.length ≤ 600) : m_digits_from [.dt (.str t), .dt (.int b)] c = match dgt (cs t) b with
    | none => .ex ⟨1, [.int b]⟩ c
    | some v => .ok (.tuple [.int v, .int (run (cs t) b)]) c := by
  have hr : run (cs t) b ≤ t.length := by rw [← cs_len]; exact run_le (by rw [cs_len]; exact hb)
  have hg := run_ge (cs t) b
  have hw := sWh_of (n := run (cs t) b - b + 1) (c := c) (loop_digits (c := c) hb hl (run (cs t) b - b + 1) b (by omega) (Nat.le_refl _) hg) (by simp)
  unfold m_digits_from g_digits_from
  unfold dgt
  by_cases h1 : run (cs t) b = b
  · rw [h1] at hw
    simp [hw, eq_ii, h1]
  · have h1' : ¬ ((run (cs t) b : Nat) : Int) = (b : Int) := by omega
    by_cases h2 : run (cs t) b - b > 7
    · have h2' : (7 : Int) < (run (cs t) b : Int) - (b : Int) := by omega
      simp [hw, eq_ii, h1, h1', h2, h2']
    · have h2' : ¬ (7 : Int) < (run (cs t) b : Int) - (b : Int) := by omega
      obtain ⟨ch, e1, e2⟩ := run_in (l := cs t) (b := b) (e := b) (Nat.le_refl _) (by omega)
      have ez : (⟨#[ch]⟩ : Str) = ("0" : Str) ↔ ch = 48 := str1_iff ch 48
      have ei := int_mid hb h1 hl
      have es := sl_s (show t.length ≤ 1000 by omega)
      have ex := ix_s (show t.length ≤ 1000 by omega) e1
      have e7 : ¬ 7 < run (cs t) b - b := h2
      have big : ∀ v : Nat, (1000000 < v) → (1000000 : Int) < (v : Int) := fun v h => by omega
      have sml : ∀ v : Nat, ¬ (1000000 < v) → ¬ (1000000 : Int) < (v : Int) := fun v h => by omega
      by_cases h3 : ch = 48
      · have hq := ez.mpr h3
        have e1' : (cs t)[b]? = some 48 := by rw [e1, h3]
        by_cases h4 : 1 < run (cs t) b - b
        · have h4' : (1 : Int) < (run (cs t) b : Int) - (b : Int) := by omega
          simp [hw, eq_ii, h1, h1', e7, h2', ex, hq, h4, h4', e1']
        · have h4' : ¬ (1 : Int) < (run (cs t) b : Int) - (b : Int) := by omega
          by_cases h5 : 1000000 < val (cs t) b
          · simp [hw, eq_ii, h1, h1', e7, h2', ex, hq, h4, h4', e1', es, ei, h5, big _ h5]
          · simp [hw, eq_ii, h1, h1', e7, h2', ex, hq, h4, h4', e1', es, ei, h5, sml _ h5, line_ok]
      · have hq : ¬ (⟨#[ch]⟩ : Str) = ("0" : Str) := fun z => h3 (ez.mp z)
        by_cases h5 : 1000000 < val (cs t) b
        · simp [hw, eq_ii, h1, h1', e7, h2', ex, hq, e1, h3, es, ei, h5, big _ h5]
        · simp [hw, eq_ii, h1, h1', e7, h2', ex, hq, e1, h3, es, ei, h5, sml _ h5, line_ok]
/-! ### the law's own reading of digits -/
def gFig : FS := (sIf (tAn (tB1 (f2 dLt (fNm 2) (fBi cLen (aCons (fNm 0) aNil)))) (tB1 (f2 dIn (f2 dIx (fNm 0) (fNm 2)) (fC (.str "0123456789"))))) (sSet 2 (f2 dAdd (fNm 2) (fC (.int 1))))
  sNx)
theorem loop_fig {t : Str} {b : Nat} {c : Int} {s4 s5 : Sl} (hb : b ≤ t.length) (hl : t.length ≤ 600) : ∀ (ds : List PyData) (e : Nat) (s3 : Sl), run (cs t) b - e ≤ ds.length → b ≤ e → e ≤ run (cs t) b →
    ∃ s3', forD (tNm 3) gFig ds [.dt (.str t), .dt (.int b), .dt (.int e), s3, s4, s5] c = .ok (.nx [.dt (.str t), .dt (.int b), .dt (.int (run (cs t) b)), s3', s4, s5]) c := by
  have hr : run (cs t) b ≤ t.length := by rw [← cs_len]; exact run_le (by rw [cs_len]; exact hb)
  intro ds
  induction ds with
  | nil =>
    intro e s3 h h1 h2
    have he : e = run (cs t) b := by simp at h; omega
    subst he
    exact ⟨s3, rfl⟩
  | cons d ds ih =>
    intro e s3 h h1 h2
    by_cases hlt : e < run (cs t) b
    · obtain ⟨ch, e1, e2⟩ := run_in h1 hlt
      have hn : (e : Int) < (t.length : Int) := by omega
      obtain ⟨s3', go⟩ := ih (e + 1) (.dt d) (by simp at h; omega) (by omega) (by omega)
      rw [Int.natCast_succ] at go
      refine ⟨s3', ?_⟩
      rw [forD]
      unfold gFig at go ⊢
      simp [len_s (show t.length ≤ 1000 by omega), hn, ix_s (show t.length ≤ 1000 by omega) e1, in_dg, e2]
      exact go
    · have he : e = run (cs t) b := by omega
      subst he
      obtain ⟨s3', go⟩ := ih (run (cs t) b) (.dt d) (by omega) h1 h2
      refine ⟨s3', ?_⟩
      rw [forD]
      unfold gFig at go ⊢
      by_cases hn : ((run (cs t) b : Nat) : Int) < (t.length : Int)
      · have hi : run (cs t) b < (cs t).length := by rw [cs_len]; omega
        obtain ⟨ch, e1⟩ : ∃ ch, (cs t)[run (cs t) b]? = some ch := ⟨_, List.getElem?_eq_getElem hi⟩
        have e2 := run_out e1
        simp [len_s (show t.length ≤ 1000 by omega), hn, ix_s (show t.length ≤ 1000 by omega) e1, in_dg, e2]
        exact go
      · simp [len_s (show t.length ≤ 1000 by omega), hn]
        exact go
def gVal : FS := (sSet 4 (f2 dAdd (f2 dMul (fC (.int 10)) (fNm 4)) (fMt "str" mSIndex (fC (.str "0123456789")) (aCons (fNm 5) aNil))))
theorem loop_val {c : Int} {s0 s1 s2 s3 : Sl} : ∀ (l : List Nat) (acc k : Nat) (s5 : Sl), (∀ ch ∈ l, isD ch = true) → acc < 10 ^ k → k + l.length ≤ 20 →
    ∃ s5', forD (tNm 5) gVal (l.map fun ch => .str ⟨#[ch]⟩) [s0, s1, s2, s3, .dt (.int acc), s5] c = .ok (.nx [s0, s1, s2, s3, .dt (.int (l.foldl (fun acc c => acc * 10 + (c - 48)) acc : Nat)), s5']) c
  | [], acc, k, s5, _, _, _ => ⟨s5, rfl⟩
  | ch :: l, acc, k, s5, h, ha, hk => by
    have hd := h ch (List.mem_cons_self ..)
    have hd' : 48 ≤ ch ∧ ch ≤ 57 := by unfold isD at hd; simpa using hd
    have hp : (10 : Nat) ^ (k + 1) = 10 ^ k * 10 := Nat.pow_succ 10 k
    obtain ⟨s5', go⟩ := loop_val (c := c) (s0 := s0) (s1 := s1) (s2 := s2) (s3 := s3) l (acc * 10 + (ch - 48)) (k + 1) (.dt (.str ⟨#[ch]⟩)) (fun x hx => h x (List.mem_cons_of_mem _ hx)) (by omega) (by simp at hk; omega)
    have ba : Bd 70 (acc : Int) := by
      refine bd_of (by omega) ?_
      have h20 : (10 : Nat) ^ k ≤ 10 ^ 20 := Nat.pow_le_pow_right (by decide) (by simp at hk; omega)
      have : (10 : Nat) ^ 20 < 2 ^ 70 := by decide
      have e : ((2 : Int) ^ 70) = ((2 ^ 70 : Nat) : Int) := by decide
      omega
    have fm : mulFits 10 (acc : Int) = true := mulFits_of (show Bd 10 10 by unfold Bd; decide) ba (by decide) (by decide) (by decide)
    refine ⟨s5', ?_⟩
    have ea : (10 : Int) * (acc : Int) + ((ch - 48 : Nat) : Int) = ((acc * 10 + (ch - 48) : Nat) : Int) := by omega
    rw [List.map_cons, forD]
    unfold gVal at go ⊢
    simp only [tNm_, List.set_cons_succ, List.set_cons_zero, sSet_, f2_, fC_, fNm_, List.getElem?_cons_succ, List.getElem?_cons_zero, bind_ok, mul_i fm, ofO_some, fMt, tyD, aCons_, aNil_, dts_1, dts_0, Option.map_some, Option.bind_some, ix_dg ch hd, dAdd_i, if_true, ea]
    exact go
end K01

set_option Elab.async false
set_option linter.all false
set_option maxRecDepth 100000
namespace K01
open PySem PySem.Spec PyProof.Rows L2 L2.DL
def oN : Option Nat → PyData
  | none => .none
  | some v => .int (v : Int)
theorem e_law_figures {t : Str} {b : Nat} {c : Int} (hb : b ≤ t.length) (hl : t.length ≤ 600) : m__law_figures [.dt (.str t), .dt (.int b)] c = .ok (.tuple [oN (dgt (cs t) b), .int (run (cs t) b)]) c := by
  have hr : run (cs t) b ≤ t.length := by rw [← cs_len]; exact run_le (by rw [cs_len]; exact hb)
  have hg := run_ge (cs t) b
  obtain ⟨s3, hw⟩ := loop_fig (c := c) (s4 := .un) (s5 := .un) hb hl (rngD 0 t.length) b .un (by rw [rngD_length]; omega) (Nat.le_refl _) hg
  unfold gFig at hw
  have er : rng1 [.dt (.int (t.length : Int))] = some (rngD 0 t.length) := rng1_ (by omega)
  have el := len_s (show t.length ≤ 1000 by omega)
  unfold m__law_figures g__law_figures
  unfold dgt
  by_cases h1 : run (cs t) b = b
  · rw [h1] at hw
    simp [hw, eq_ii, h1, el, er, line_ok, oN]
  · have h1' : ¬ ((run (cs t) b : Nat) : Int) = (b : Int) := by omega
    obtain ⟨ch, e1, e2⟩ := run_in (l := cs t) (b := b) (e := b) (Nat.le_refl _) (by omega)
    have ez : (⟨#[ch]⟩ : Str) = ("0" : Str) ↔ ch = 48 := str1_iff ch 48
    have es := sl_s (show t.length ≤ 1000 by omega)
    have ex := ix_s (show t.length ≤ 1000 by omega) e1
    have ec : chars (cutS t (some (b : Int)) (some (run (cs t) b : Int))) = (((cs t).drop b).take (run (cs t) b - b)).map fun ch => .str ⟨#[ch]⟩ := by
      unfold chars
      rw [show (cutS t (some (b : Int)) (some (run (cs t) b : Int))).cps.toList = _ from cut_cs hg hr]
    have al : ∀ ch ∈ ((cs t).drop b).take (run (cs t) b - b), isD ch = true := fun ch h => by
      have := mid_all ch h
      unfold isD
      simpa using this
    have asq : asSeq (.str (cutS t (some (b : Int)) (some (run (cs t) b : Int)))) = some ((((cs t).drop b).take (run (cs t) b - b)).map fun ch => .str ⟨#[ch]⟩) := by rw [← ec]; rfl
    by_cases h2 : 7 < run (cs t) b - b
    · have h2' : (b : Int) + 7 < (run (cs t) b : Int) := by omega
      by_cases h3 : ch = 48
      · have hq := ez.mpr h3
        have h4' : (b : Int) + 1 < (run (cs t) b : Int) := by omega
        simp [hw, eq_ii, h1, h1', h2, h2', ex, hq, el, er, h4', line_ok, oN]
      · have hq : ¬ (⟨#[ch]⟩ : Str) = ("0" : Str) := fun z => h3 (ez.mp z)
        simp [hw, eq_ii, h1, h1', h2, h2', ex, hq, el, er, line_ok, oN]
    · have h2' : ¬ (b : Int) + 7 < (run (cs t) b : Int) := by omega
      have big : ∀ v : Nat, (1000000 < v) → ¬ (v : Int) ≤ (1000000 : Int) := fun v h => by omega
      have sml : ∀ v : Nat, ¬ (1000000 < v) → (v : Int) ≤ (1000000 : Int) := fun v h => by omega
      obtain ⟨s5, hv⟩ := loop_val (c := c) (s0 := .dt (.str t)) (s1 := .dt (.int b)) (s2 := .dt (.int (run (cs t) b))) (s3 := s3) (((cs t).drop b).take (run (cs t) b - b)) 0 0 .un al (by decide) (by rw [List.length_take]; omega)
      unfold gVal at hv
      have ev : (((cs t).drop b).take (run (cs t) b - b)).foldl (fun acc c => acc * 10 + (c - 48)) 0 = val (cs t) b := rfl
      rw [ev, show ((0 : Nat) : Int) = 0 from rfl] at hv
      generalize ((((cs t).drop b).take (run (cs t) b - b)).map fun ch => PyData.str ⟨#[ch]⟩) = LM at asq hv
      by_cases h3 : ch = 48
      · have hq := ez.mpr h3
        have e1' : (cs t)[b]? = some 48 := by rw [e1, h3]
        by_cases h4 : 1 < run (cs t) b - b
        · have h4' : (b : Int) + 1 < (run (cs t) b : Int) := by omega
          simp [hw, eq_ii, h1, h1', h2, h2', ex, hq, el, er, h4, h4', e1', line_ok, oN]
        · have h4' : ¬ (b : Int) + 1 < (run (cs t) b : Int) := by omega
          by_cases h5 : 1000000 < val (cs t) b
          · simp [hw, eq_ii, h1, h1', h2, h2', ex, hq, el, er, h4, h4', e1', es, asq, hv, h5, big _ h5, line_ok, oN]
          · simp [hw, eq_ii, h1, h1', h2, h2', ex, hq, el, er, h4, h4', e1', es, asq, hv, h5, sml _ h5, line_ok, oN]
      · have hq : ¬ (⟨#[ch]⟩ : Str) = ("0" : Str) := fun z => h3 (ez.mp z)
        by_cases h5 : 1000000 < val (cs t) b
        · simp [hw, eq_ii, h1, h1', h2, h2', ex, hq, el, er, e1, h3, es, asq, hv, h5, big _ h5, line_ok, oN]
        · simp [hw, eq_ii, h1, h1', h2, h2', ex, hq, el, er, e1, h3, es, asq, hv, h5, sml _ h5, line_ok, oN]
end K01

set_option Elab.async false
set_option linter.all false
set_option maxRecDepth 100000
namespace K01
open PySem PySem.Spec PyProof.Rows L2 L2.DL
theorem dg_some {t : Str} {b v : Nat} {c : Int} (hb : b ≤ t.length) (hl : t.length ≤ 600) (h : dgt (cs t) b = some v) : m_digits_from [.dt (.str t), .dt (.int b)] c = .ok (.tuple [.int v, .int (run (cs t) b)]) c := by rw [e_digits_from hb hl, h]
theorem dg_none {t : Str} {b : Nat} {c : Int} (hb : b ≤ t.length) (hl : t.length ≤ 600) (h : dgt (cs t) b = none) : m_digits_from [.dt (.str t), .dt (.int b)] c = .ex ⟨1, [.int b]⟩ c := by rw [e_digits_from hb hl, h]
theorem dgt_le {l : List Nat} {b v : Nat} (h : dgt l b = some v) : v ≤ 1000000 := by
  unfold dgt at h
  split at h
  · cases h
  split at h
  · cases h
  split at h
  · cases h
  split at h
  · cases h
  · cases h; omega
theorem mk1 (v : Int) : mk v 1 = (v, 1) := by
  unfold mk nu de
  simp
def atD (n : Nat) : PyData := .tuple [.str "at", .int (n : Int)]
def sg (neg : Bool) (v : Nat) : Int := if neg then -(v : Int) else (v : Int)
/-- what a text says -/
def rdB (t : Str) (neg : Bool) (b : Nat) : PyData := match dgt (cs t) b with
  | none => atD b
  | some v => if neg = true ∧ v = 0 then atD b else if run (cs t) b = t.length then fr (sg neg v, 1) else if (cs t)[run (cs t) b]? = some 47 then (match dgt (cs t) (run (cs t) b + 1) with
    | none => atD (run (cs t) b + 1)
    | some u => if u = 0 then atD (run (cs t) b + 1) else if run (cs t) (run (cs t) b + 1) < t.length then atD (run (cs t) (run (cs t) b + 1)) else fr (mk (sg neg v) u)) else atD (run (cs t) b)
def isNeg (t : Str) : Bool := decide (cutS t none (some 1) = "-")
def rd (t : Str) : PyData := rdB t (isNeg t) (if isNeg t then 1 else 0)
theorem neg_len {t : Str} (h : cutS t none (some 1) = "-") : 1 ≤ t.length := by
  have e := congrArg (fun z : Str => z.cps.toList.length) h
  have e2 : (cs (cutS t none (some 1))).length = ((cs t).take 1).length := by rw [cut_take1]
  have e3 : (cs (cutS t none (some 1))).length = 1 := e
  rw [e3, List.length_take, cs_len] at e2
  omega
theorem run_lt {t : Str} {b : Nat} (hb : b ≤ t.length) (h : ¬ run (cs t) b = t.length) : run (cs t) b < t.length ∧ ∃ ch, (cs t)[run (cs t) b]? = some ch := by
  have hr : run (cs t) b ≤ t.length := by rw [← cs_len]; exact run_le (by rw [cs_len]; exact hb)
  have hi : run (cs t) b < (cs t).length := by rw [cs_len]; omega
  exact ⟨by omega, _, List.getElem?_eq_getElem hi⟩
theorem bdn {v : Nat} (h : v ≤ 1000000) : Bd 1400 (v : Int) := (bd_of (k := 60) (by omega) (by omega)).mono (by decide)
theorem rd_neg {t : Str} {c : Int} (hl : t.length ≤ 600) (hn : cutS t none (some 1) = "-") (hb : 1 ≤ t.length) :
    told (m_read_fraction [.dt (.str t)] c) = .ok (rdB t true 1) c ∧ m__law_read [.dt (.str t)] c = .ok (rdB t true 1) c := by
  have es := sl_s (show t.length ≤ 1000 by omega)
  have el := len_s (show t.length ≤ 1000 by omega)
  have ix := @ix_s t (show t.length ≤ 1000 by omega)
  have efig : m__law_figures [.dt (.str t), .dt (.int 1)] c = _ := e_law_figures (b := 1) (c := c) hb hl
  unfold rdB
  unfold m_read_fraction g_read_fraction m__law_read g__law_read
  cases hd : dgt (cs t) 1 with
  | none =>
    have e1 : m_digits_from [.dt (.str t), .dt (.int 1)] c = _ := dg_none (b := 1) (c := c) hb hl hd
    rw [hd] at efig
    constructor
    · simp [es, hn, e1, told, atD]
    · simp [es, hn, efig, oN, dIs, isNon, line_ok, atD]
  | some v =>
    have e1 : m_digits_from [.dt (.str t), .dt (.int 1)] c = _ := dg_some (b := 1) (c := c) hb hl hd
    rw [hd] at efig
    have hv := dgt_le hd
    have bv := bdn hv
    have bs : Bd 1400 (-(v : Int)) := bd_neg bv
    by_cases hv0 : v = 0
    · subst hv0
      constructor
      · simp [es, hn, e1, told, atD]
      · simp [es, hn, efig, oN, dIs, isNon, line_ok, atD, eq_ii]
    have hv0' : ¬ (v : Int) = 0 := by omega
    by_cases hr : run (cs t) 1 = t.length
    · have hr' : ¬ (run (cs t) 1 : Int) < (t.length : Int) := by omega
      have em : m_made [.dt (.int (-(v : Int))), .dt (.int 1)] c = _ := e_made (c := c) (bs.mono (by decide)) (show Bd 8000 1 from (show Bd 1 1 by unfold Bd; decide).mono (by decide)) (by decide)
      rw [mk1] at em
      constructor
      · simp [es, hn, e1, hv0, hv0', el, hr, em, told, fr, sg]
      · simp [es, hn, efig, hv0, hv0', oN, dIs, isNon, el, hr, eq_ii, line_ok, fr, sg]
    · obtain ⟨hlt, ch, hch⟩ := run_lt hb hr
      have hlt' : (run (cs t) 1 : Int) < (t.length : Int) := by omega
      have hne' : ¬ (run (cs t) 1 : Int) = (t.length : Int) := by omega
      have ex := ix hch
      have ez : (⟨#[ch]⟩ : Str) = ("/" : Str) ↔ ch = 47 := str1_iff ch 47
      by_cases h47 : ch = 47
      · have hq := ez.mpr h47
        have hch' : (cs t)[run (cs t) 1]? = some 47 := by rw [hch, h47]
        have hb2 : run (cs t) 1 + 1 ≤ t.length := by omega
        have efig2 : m__law_figures [.dt (.str t), .dt (.int ((run (cs t) 1 : Int) + 1))] c = _ := e_law_figures (b := run (cs t) 1 + 1) (c := c) hb2 hl
        cases hd2 : dgt (cs t) (run (cs t) 1 + 1) with
        | none =>
          have e2 : m_digits_from [.dt (.str t), .dt (.int ((run (cs t) 1 : Int) + 1))] c = _ := dg_none (b := run (cs t) 1 + 1) (c := c) hb2 hl hd2
          rw [hd2] at efig2
          constructor
          · simp [es, hn, e1, hv0, hv0', el, hr, hlt', ex, hq, hch', e2, told, atD]
          · simp [es, hn, efig, hv0, hv0', oN, dIs, isNon, el, hr, hne', eq_ii, ex, hq, hch', efig2, line_ok, atD]
        | some u =>
          have e2 : m_digits_from [.dt (.str t), .dt (.int ((run (cs t) 1 : Int) + 1))] c = _ := dg_some (b := run (cs t) 1 + 1) (c := c) hb2 hl hd2
          rw [hd2] at efig2
          have hu := dgt_le hd2
          by_cases hu0 : u = 0
          · subst hu0
            constructor
            · simp [es, hn, e1, hv0, hv0', el, hr, hlt', ex, hq, hch', e2, told, atD]
            · simp [es, hn, efig, hv0, hv0', oN, dIs, isNon, el, hr, hne', eq_ii, ex, hq, hch', efig2, line_ok, atD]
          · have hu0' : ¬ (u : Int) = 0 := by omega
            by_cases hr2 : run (cs t) (run (cs t) 1 + 1) < t.length
            · have hr2' : (run (cs t) (run (cs t) 1 + 1) : Int) < (t.length : Int) := by omega
              constructor
              · simp [es, hn, e1, hv0, hv0', el, hr, hlt', ex, hq, hch', e2, hu0, hr2, told, atD]
              · simp [es, hn, efig, hv0, hv0', oN, dIs, isNon, el, hr, hne', eq_ii, ex, hq, hch', efig2, hu0, hu0', hr2, line_ok, atD]
            · have hr2' : ¬ (run (cs t) (run (cs t) 1 + 1) : Int) < (t.length : Int) := by omega
              have em : m_made [.dt (.int (-(v : Int))), .dt (.int u)] c = _ := e_made (c := c) (bs.mono (by decide)) ((bdn hu).mono (by decide)) hu0'
              have em2 : m__law_made [.dt (.int (-(v : Int))), .dt (.int u)] c = _ := e_law_made (c := c) bs (bdn hu) hu0'
              constructor
              · simp [es, hn, e1, hv0, hv0', el, hr, hlt', ex, hq, hch', e2, hu0, hr2, em, told, sg]
              · simp [es, hn, efig, hv0, hv0', oN, dIs, isNon, el, hr, hne', eq_ii, ex, hq, hch', efig2, hu0, hu0', hr2, em2, sg]
      · have hq : ¬ (⟨#[ch]⟩ : Str) = ("/" : Str) := fun z => h47 (ez.mp z)
        have hch' : ¬ (cs t)[run (cs t) 1]? = some 47 := by rw [hch]; exact fun z => h47 (Option.some.inj z)
        constructor
        · simp [es, hn, e1, hv0, hv0', el, hr, hlt', ex, hq, h47, hch, told, atD]
        · simp [es, hn, efig, hv0, hv0', oN, dIs, isNon, el, hr, hne', eq_ii, ex, hq, h47, hch, line_ok, atD]
theorem rd_pos {t : Str} {c : Int} (hl : t.length ≤ 600) (hn : ¬ cutS t none (some 1) = "-") (hb : 0 ≤ t.length) :
    told (m_read_fraction [.dt (.str t)] c) = .ok (rdB t false 0) c ∧ m__law_read [.dt (.str t)] c = .ok (rdB t false 0) c := by
  have es := sl_s (show t.length ≤ 1000 by omega)
  have el := len_s (show t.length ≤ 1000 by omega)
  have ix := @ix_s t (show t.length ≤ 1000 by omega)
  have efig : m__law_figures [.dt (.str t), .dt (.int 0)] c = _ := e_law_figures (b := 0) (c := c) hb hl
  unfold rdB
  unfold m_read_fraction g_read_fraction m__law_read g__law_read
  cases hd : dgt (cs t) 0 with
  | none =>
    have e1 : m_digits_from [.dt (.str t), .dt (.int 0)] c = _ := dg_none (b := 0) (c := c) hb hl hd
    rw [hd] at efig
    constructor
    · simp [es, hn, e1, told, atD]
    · simp [es, hn, efig, oN, dIs, isNon, line_ok, atD]
  | some v =>
    have e1 : m_digits_from [.dt (.str t), .dt (.int 0)] c = _ := dg_some (b := 0) (c := c) hb hl hd
    rw [hd] at efig
    have hv := dgt_le hd
    have bv := bdn hv
    have bs : Bd 1400 (v : Int) := bv
    by_cases hr : run (cs t) 0 = t.length
    · have hr' : ¬ (run (cs t) 0 : Int) < (t.length : Int) := by omega
      have em : m_made [.dt (.int (v : Int)), .dt (.int 1)] c = _ := e_made (c := c) (bs.mono (by decide)) (show Bd 8000 1 from (show Bd 1 1 by unfold Bd; decide).mono (by decide)) (by decide)
      rw [mk1] at em
      constructor
      · simp [es, hn, e1, el, hr, em, told, fr, sg]
      · simp [es, hn, efig, oN, dIs, isNon, el, hr, eq_ii, line_ok, fr, sg]
    · obtain ⟨hlt, ch, hch⟩ := run_lt hb hr
      have hlt' : (run (cs t) 0 : Int) < (t.length : Int) := by omega
      have hne' : ¬ (run (cs t) 0 : Int) = (t.length : Int) := by omega
      have ex := ix hch
      have ez : (⟨#[ch]⟩ : Str) = ("/" : Str) ↔ ch = 47 := str1_iff ch 47
      by_cases h47 : ch = 47
      · have hq := ez.mpr h47
        have hch' : (cs t)[run (cs t) 0]? = some 47 := by rw [hch, h47]
        have hb2 : run (cs t) 0 + 1 ≤ t.length := by omega
        have efig2 : m__law_figures [.dt (.str t), .dt (.int ((run (cs t) 0 : Int) + 1))] c = _ := e_law_figures (b := run (cs t) 0 + 1) (c := c) hb2 hl
        cases hd2 : dgt (cs t) (run (cs t) 0 + 1) with
        | none =>
          have e2 : m_digits_from [.dt (.str t), .dt (.int ((run (cs t) 0 : Int) + 1))] c = _ := dg_none (b := run (cs t) 0 + 1) (c := c) hb2 hl hd2
          rw [hd2] at efig2
          constructor
          · simp [es, hn, e1, el, hr, hlt', ex, hq, hch', e2, told, atD]
          · simp [es, hn, efig, oN, dIs, isNon, el, hr, hne', eq_ii, ex, hq, hch', efig2, line_ok, atD]
        | some u =>
          have e2 : m_digits_from [.dt (.str t), .dt (.int ((run (cs t) 0 : Int) + 1))] c = _ := dg_some (b := run (cs t) 0 + 1) (c := c) hb2 hl hd2
          rw [hd2] at efig2
          have hu := dgt_le hd2
          by_cases hu0 : u = 0
          · subst hu0
            constructor
            · simp [es, hn, e1, el, hr, hlt', ex, hq, hch', e2, told, atD]
            · simp [es, hn, efig, oN, dIs, isNon, el, hr, hne', eq_ii, ex, hq, hch', efig2, line_ok, atD]
          · have hu0' : ¬ (u : Int) = 0 := by omega
            by_cases hr2 : run (cs t) (run (cs t) 0 + 1) < t.length
            · have hr2' : (run (cs t) (run (cs t) 0 + 1) : Int) < (t.length : Int) := by omega
              constructor
              · simp [es, hn, e1, el, hr, hlt', ex, hq, hch', e2, hu0, hr2, told, atD]
              · simp [es, hn, efig, oN, dIs, isNon, el, hr, hne', eq_ii, ex, hq, hch', efig2, hu0, hu0', hr2, line_ok, atD]
            · have hr2' : ¬ (run (cs t) (run (cs t) 0 + 1) : Int) < (t.length : Int) := by omega
              have em : m_made [.dt (.int (v : Int)), .dt (.int u)] c = _ := e_made (c := c) (bs.mono (by decide)) ((bdn hu).mono (by decide)) hu0'
              have em2 : m__law_made [.dt (.int (v : Int)), .dt (.int u)] c = _ := e_law_made (c := c) bs (bdn hu) hu0'
              constructor
              · simp [es, hn, e1, el, hr, hlt', ex, hq, hch', e2, hu0, hr2, em, told, sg]
              · simp [es, hn, efig, oN, dIs, isNon, el, hr, hne', eq_ii, ex, hq, hch', efig2, hu0, hu0', hr2, em2, sg]
      · have hq : ¬ (⟨#[ch]⟩ : Str) = ("/" : Str) := fun z => h47 (ez.mp z)
        have hch' : ¬ (cs t)[run (cs t) 0]? = some 47 := by rw [hch]; exact fun z => h47 (Option.some.inj z)
        constructor
        · simp [es, hn, e1, el, hr, hlt', ex, hq, h47, hch, told, atD]
        · simp [es, hn, efig, oN, dIs, isNon, el, hr, hne', eq_ii, ex, hq, h47, hch, line_ok, atD]
theorem rd_both {t : Str} {c : Int} (hl : t.length ≤ 600) : told (m_read_fraction [.dt (.str t)] c) = .ok (rd t) c ∧ m__law_read [.dt (.str t)] c = .ok (rd t) c := by
  unfold rd isNeg
  by_cases hn : cutS t none (some 1) = "-"
  · simp only [hn, decide_true, if_true]
    exact rd_neg hl hn (neg_len hn)
  · simp only [hn, decide_false, Bool.false_eq_true, if_false]
    exact rd_pos hl hn (Nat.zero_le _)
end K01

set_option Elab.async false
set_option linter.all false
set_option maxRecDepth 100000
namespace K01
open PySem PySem.Spec PyProof.Rows L2 L2.DL
/-! ### what is told can be shown -/
theorem nc_fr {p : Int × Int} (h : Bn 200 p) : Nc (fr p) := ⟨h.1, h.2, trivial⟩
theorem small200 {n : Nat} (h : n ≤ 1000) : ((n : Nat) : Int).natAbs < 2 ^ 200 := by
  have e : (1000 : Nat) < 2 ^ 200 := by decide
  have e2 : ((n : Nat) : Int).natAbs = n := Int.natAbs_natCast n
  omega
theorem nc_at {n : Nat} (h : n ≤ 1000) : Nc (atD n) := ⟨⟨by decide +kernel, by decide⟩, small200 h, trivial⟩
theorem nc_arg {x : Str} (h : PyData.canLay0 (.str x) = true) (hl : x.length ≤ 200) : Nc (.tuple [.str "argument", .str x]) := ⟨⟨by decide +kernel, by decide⟩, ⟨h, hl⟩, trivial⟩
structure Sh (d : PyData) : Prop where
  n : Nc d
  c : DL.cnt d ≤ 10
  d : d.depth ≤ 2
theorem sh_fr {p : Int × Int} (h : Bn 200 p) : Sh (fr p) := ⟨nc_fr h, by show 3 ≤ 10; decide, by show 1 ≤ 2; decide⟩
theorem sh_at {n : Nat} (h : n ≤ 1000) : Sh (atD n) := ⟨nc_at h, by show 3 ≤ 10; decide, by show 1 ≤ 2; decide⟩
theorem sh_rd {t : Str} (hl : t.length ≤ 600) : Sh (rd t) := by
  have bn1 : Bn 200 (1, 1) := ⟨by unfold Bd; decide, by unfold Bd; decide⟩
  have sgb : ∀ (neg : Bool) {v : Nat}, v ≤ 1000000 → Bd 200 (sg neg v) := fun neg v h => by
    have : Bd 200 (v : Int) := (bd_of (k := 60) (by omega) (by omega)).mono (by decide)
    unfold sg
    split
    · exact bd_neg this
    · exact this
  have hrun : ∀ b, b ≤ t.length → run (cs t) b ≤ t.length := fun b hb => by rw [← cs_len]; exact run_le (by rw [cs_len]; exact hb)
  have key : ∀ (neg : Bool) (b : Nat), b ≤ t.length → Sh (rdB t neg b) := fun neg b hb => by
    have h1 := hrun b hb
    unfold rdB
    split
    · exact sh_at (by omega)
    · rename_i v hv
      have hv' := dgt_le hv
      split
      · exact sh_at (by omega)
      split
      · exact sh_fr ⟨sgb neg hv', bn1.2⟩
      split
      · rename_i h47
        have hlt : run (cs t) b + 1 ≤ t.length := by
          have := (List.getElem?_eq_some_iff.mp h47).1
          rw [cs_len] at this
          omega
        split
        · exact sh_at (by omega)
        · rename_i u hu
          have hu' := dgt_le hu
          split
          · exact sh_at (by omega)
          split
          · have := hrun _ hlt
            exact sh_at (by omega)
          · exact sh_fr (mk_bn (sgb neg hv') ((bd_of (k := 60) (by omega) (by omega)).mono (by decide)))
      · exact sh_at (by omega)
  unfold rd isNeg
  by_cases hn : cutS t none (some 1) = "-"
  · simp only [hn, decide_true, if_true]
    exact key true 1 (neg_len hn)
  · simp only [hn, decide_false, Bool.false_eq_true, if_false]
    exact key false 0 (Nat.zero_le _)
/-! ### texts of fractions -/
theorem str_ext {x y : Str} (h : x.cps.toList = y.cps.toList) : x = y := by
  cases x; cases y
  congr 1
  exact Array.toList_inj.mp h
theorem app_cps (x y : Str) : (x ++ y).cps.toList = x.cps.toList ++ y.cps.toList := by
  show (x.cps ++ y.cps).toList = _
  exact Array.toList_append
theorem app_empty (x : Str) : x ++ ("" : Str) = x := str_ext (by rw [app_cps, show ("" : Str).cps.toList = [] from by decide +kernel, List.append_nil])
theorem app_assoc (x y z : Str) : x ++ y ++ z = x ++ (y ++ z) := str_ext (by rw [app_cps, app_cps, app_cps, app_cps, List.append_assoc])
theorem cut_len (t : Str) (lo hi : Option Int) : (cutS t lo hi).length ≤ t.length := by
  rw [← cs_len, ← cs_len]
  show (((t.cps.toList.drop (HT.sIx t.length 0 lo)).take (HT.sIx t.length t.length hi - HT.sIx t.length 0 lo)).toArray).toList.length ≤ _
  rw [List.length_take, List.length_drop]
  show min _ ((cs t).length - _) ≤ (cs t).length
  omega
theorem add_ss {x y : Str} (h : x.length + y.length ≤ 100000) : dAdd (.str x) (.str y) = some (.str (x ++ y)) := if_pos (by rw [sizeLine_eq]; omega)
def num (n : Int) : Str := Str.ofString (toString n)
theorem str_i {n : Int} (h : Bd 60 n) : cStr [.int n] = some (.str (num n)) := if_pos (by have := log2_of h (by decide); omega)
theorem num_len {n : Int} (h : n.natAbs < 10 ^ 10) : (num n).length ≤ 11 := by
  have e := int_text_length_le10 (k := 10) (by decide) h
  unfold num
  rw [PySem.ofString_length]
  exact e
def tx (p : Int × Int) : Str := if p.2 = 1 then num p.1 else num p.1 ++ "/" ++ num p.2
theorem slash_len : ("/" : Str).length = 1 := by decide
theorem tx_len {p : Int × Int} (h1 : p.1.natAbs < 10 ^ 10) (h2 : p.2.natAbs < 10 ^ 10) : (tx p).length ≤ 23 := by
  have e1 := num_len h1
  have e2 := num_len h2
  unfold tx
  split
  · omega
  · rw [strLen_append, strLen_append, slash_len]
    omega
theorem bd10 {n : Int} (h : n.natAbs < 10 ^ 10) : Bd 60 n := Nat.lt_trans h (by decide)
theorem e_text_of {p : Int × Int} {c : Int} (h1 : p.1.natAbs < 10 ^ 10) (h2 : p.2.natAbs < 10 ^ 10) : m_text_of [.dt (fr p)] c = .ok (.str (tx p)) c := by
  have e1 := num_len h1
  have e2 := num_len h2
  have a1 := add_ss (x := num p.1) (y := "/") (by rw [slash_len]; omega)
  have a2 := add_ss (x := num p.1 ++ "/") (y := num p.2) (by rw [strLen_append, slash_len]; omega)
  unfold m_text_of g_text_of
  by_cases h : p.2 = 1
  · simp [fr, eq_ii, h, str_i (bd10 h1), tx]
  · simp [fr, eq_ii, h, str_i (bd10 h1), str_i (bd10 h2), a1, a2, tx]
theorem e_law_text {p : Int × Int} {c : Int} (h1 : p.1.natAbs < 10 ^ 10) (h2 : p.2.natAbs < 10 ^ 10) : m__law_text [.dt (fr p)] c = .ok (.str (tx p)) c := by
  have e1 := num_len h1
  have e2 := num_len h2
  have a1 := add_ss (x := "/") (y := num p.2) (by rw [slash_len]; omega)
  have a2 := add_ss (x := num p.1) (y := "/" ++ num p.2) (by rw [strLen_append, slash_len]; omega)
  have a3 := add_ss (x := num p.1) (y := "") (by have : ("" : Str).length = 0 := by decide
                                                 omega)
  rw [app_empty] at a3
  rw [← app_assoc] at a2
  unfold m__law_text g__law_text
  by_cases h : p.2 = 1
  · simp [fr, eq_ii, h, str_i (bd10 h1), tx, a3]
  · simp [fr, eq_ii, h, str_i (bd10 h1), str_i (bd10 h2), a1, a2, tx]
def small (p : Int × Int) : Bool := decide (p.1.natAbs ≤ 1000000) && decide (p.2 ≤ 1000000)
theorem e_write {p : Int × Int} {c : Int} (hp : Ok p) (h1 : p.1.natAbs < 10 ^ 10) (h2 : p.2.natAbs < 10 ^ 10) : told (m_write_fraction [.dt (fr p)] c) = .ok (if small p then .str (tx p) else .tuple [.str "argument", .str "one"]) c := by
  have hb : Bn 8000 p := ⟨(bd10 h1).mono (by decide), (bd10 h2).mono (by decide)⟩
  have ei := is_fr (c := c) hp hb
  have et := e_text_of (c := c) h1 h2
  have es : m_is_small [.dt (fr p)] c = .ok (.bool (small p)) c := by
    unfold m_is_small g_is_small
    unfold fr at ei
    unfold small
    by_cases q1 : p.1.natAbs ≤ 1000000
    · have q1' : (p.1.natAbs : Int) ≤ 1000000 := by omega
      simp [fr, ei, abs_i, q1, q1']
    · have q1' : ¬ (p.1.natAbs : Int) ≤ 1000000 := by omega
      simp [fr, ei, abs_i, q1, q1']
  unfold m_write_fraction g_write_fraction
  cases hs : small p <;> rw [hs] at es <;> simp [es, et, told]
end K01

set_option Elab.async false
set_option linter.all false
set_option maxRecDepth 100000
namespace K01
open PySem PySem.Spec PyProof.Rows L2 L2.DL
theorem e_law_spoilt {ds : List PyData} {t : Str} {c : Int} (hl : t.length ≤ 200) (h : Dr ds c) (hc : c < 100000000) : ∃ t' : Str, m__law_spoilt [.dt (.str t), .dt (.list ds), .ce] c = .ok (.str t') (c + 3) ∧ t'.length ≤ 2 * t.length + 2 := by
  have h1 := h.s (by omega)
  have h2 := h1.s (by omega)
  obtain ⟨v, ev, v0, v1⟩ := take (many := (t.length : Int) + 1) h (by omega)
  obtain ⟨sgn, hs, es⟩ := one (rows := [.str "-", .str "/", .str "0", .str "1", .str " ", .str "a", .str "00"]) h1 (by decide)
  obtain ⟨z, rfl, hz⟩ : ∃ z : Str, sgn = .str z ∧ z.length ≤ 2 := by
    simp at hs
    rcases hs with rfl | rfl | rfl | rfl | rfl | rfl | rfl <;> exact ⟨_, rfl, by decide⟩
  obtain ⟨k, ek, k0, k1⟩ := take (many := 3) h2 (by decide)
  have el := len_s (show t.length ≤ 1000 by omega)
  have ec := sl_s (show t.length ≤ 1000 by omega)
  have la := cut_len t none (some v)
  have lb := cut_len t (some v) none
  have lc := cut_len t (some (v + 1)) none
  have a1 := add_ss (x := cutS t none (some v)) (y := z) (by omega)
  have a2 := add_ss (x := cutS t none (some v) ++ z) (y := cutS t (some v) none) (by rw [strLen_append]; omega)
  have a3 := add_ss (x := cutS t none (some v)) (y := cutS t (some (v + 1)) none) (by omega)
  have a4 := add_ss (x := cutS t none (some v) ++ z) (y := cutS t (some (v + 1)) none) (by rw [strLen_append]; omega)
  have ecc : c + 1 + 1 + 1 = c + 3 := by omega
  unfold m__law_spoilt g__law_spoilt
  by_cases q0 : k = 0
  · refine ⟨cutS t none (some v) ++ z ++ cutS t (some v) none, ?_, by rw [strLen_append, strLen_append]; omega⟩
    simp [el, ev, line_ok, es, ek, ec, a1, a2, eq_ii, q0, ecc]
  · by_cases q1 : k = 1
    · refine ⟨cutS t none (some v) ++ cutS t (some (v + 1)) none, ?_, by rw [strLen_append]; omega⟩
      simp [el, ev, line_ok, es, ek, ec, a3, eq_ii, q1, ecc]
    · refine ⟨cutS t none (some v) ++ z ++ cutS t (some (v + 1)) none, ?_, by rw [strLen_append, strLen_append]; omega⟩
      simp [el, ev, line_ok, es, ek, ec, a1, a4, eq_ii, q0, q1, ecc]
/-! ### told of fractions at hand -/
def argD (x : Str) : PyData := .tuple [.str "argument", .str x]
def dv (p q : Int × Int) : PyData := if q.1 = 0 then argD "nought" else fr (mk (p.1 * q.2) (p.2 * q.1))
def tl (p q : Int × Int) : List PyData := [fr (mk (p.1 * q.2 + q.1 * p.2) (p.2 * q.2)), fr (mk (p.1 * q.2 - q.1 * p.2) (p.2 * q.2)), fr (mk (p.1 * q.1) (p.2 * q.2)), dv p q, .int (sgn (p.1 * q.2 - q.1 * p.2)), fr (-p.1, p.2)]
theorem told_all {p q : Int × Int} {c : Int} (hp : Ok p) (hq : Ok q) (bp : Bn 60 p) (bq : Bn 60 q) (k : Nat) (hk : k < 6) : ∃ d, (tl p q)[k]? = some d ∧ m__law_told [.dt (.int ((1 : Int) + k)), .dt (fr p), .dt (fr q)] c = .ok d c := by
  have bp' : Bn 200 p := ⟨bp.1.mono (by decide), bp.2.mono (by decide)⟩
  have bq' : Bn 200 q := ⟨bq.1.mono (by decide), bq.2.mono (by decide)⟩
  have hd : told (m_over [.dt (fr p), .dt (fr q)] c) = .ok (dv p q) c := by
    rw [e_over hp hq bp' bq']
    unfold dv
    split <;> rfl
  match k, hk with
  | 0, _ => exact ⟨_, rfl, told_sel (k := 1) (by decide) rfl (by rw [e_plus hp hq bp' bq']; rfl)⟩
  | 1, _ => exact ⟨_, rfl, told_sel (k := 2) (by decide) rfl (by rw [e_minus hp hq bp' bq']; rfl)⟩
  | 2, _ => exact ⟨_, rfl, told_sel (k := 3) (by decide) rfl (by rw [e_times hp hq bp' bq']; rfl)⟩
  | 3, _ => exact ⟨_, rfl, told_sel (k := 4) (by decide) rfl hd⟩
  | 4, _ => exact ⟨_, rfl, told_sel (k := 5) (by decide) rfl (by rw [e_compare hp hq bp' bq']; rfl)⟩
  | 5, _ => exact ⟨_, rfl, told_6 (by rw [e_opposite hp bp']; rfl)⟩
theorem nc_list {xs : List PyData} (h : ∀ x ∈ xs, Nc x) : Nc (.list xs) := by
  show NcAll xs
  induction xs with
  | nil => trivial
  | cons x xs ih => exact ⟨h x (List.mem_cons_self ..), ih fun y hy => h y (List.mem_cons_of_mem _ hy)⟩
theorem cnt_list {xs : List PyData} {k : Nat} (h : ∀ x ∈ xs, DL.cnt x ≤ k) : DL.cnt (.list xs) ≤ k * xs.length + 1 := by
  show cntAll xs + 1 ≤ _
  have : cntAll xs ≤ k * xs.length := by
    induction xs with
    | nil => simp [cntAll]
    | cons x xs ih =>
      have h1 := h x (List.mem_cons_self ..)
      have h2 := ih fun y hy => h y (List.mem_cons_of_mem _ hy)
      simp only [cntAll, List.length_cons, Nat.mul_succ]
      omega
  omega
theorem depth_list {xs : List PyData} {k : Nat} (h : ∀ x ∈ xs, x.depth ≤ k) : (PyData.list xs).depth ≤ k + 1 := by
  show PyData.depthAll xs + 1 ≤ _
  have : PyData.depthAll xs ≤ k := by
    induction xs with
    | nil => simp [PyData.depthAll]
    | cons x xs ih =>
      have h1 := h x (List.mem_cons_self ..)
      have h2 := ih fun y hy => h y (List.mem_cons_of_mem _ hy)
      simp only [PyData.depthAll]
      omega
  omega
theorem same_list {xs : List PyData} {c : Int} (h : ∀ x ∈ xs, Sh x) (hl : xs.length ≤ 90) : m__law_same_as [.dt (.list xs), .dt (.list xs)] c = .ok (.bool true) c :=
  e_same (nc_list fun x hx => (h x hx).n) (by have := cnt_list (k := 10) fun x hx => (h x hx).c; omega) (by have := depth_list (k := 2) fun x hx => (h x hx).d; omega)
theorem same_one {x : PyData} {c : Int} (h : Sh x) : m__law_same_as [.dt x, .dt x] c = .ok (.bool true) c := e_same h.n (by have := h.c; omega) (by have := h.d; omega)
theorem sh_int {n : Int} (h : n.natAbs < 2 ^ 200) : Sh (.int n) := ⟨h, by show 1 ≤ 10; decide, by show 0 ≤ 2; decide⟩
theorem sh_arg {x : Str} (h : PyData.canLay0 (.str x) = true) (hl : x.length ≤ 200) : Sh (argD x) := ⟨nc_arg h hl, by show 3 ≤ 10; decide, by show 1 ≤ 2; decide⟩
theorem sh_tl {p q : Int × Int} (bp : Bn 60 p) (bq : Bn 60 q) : ∀ x ∈ tl p q, Sh x := by
  have m1 := bd_mul bp.1 bq.2
  have m2 := bd_mul bq.1 bp.2
  have m3 := bd_mul bp.2 bq.2
  have m4 := bd_mul bp.1 bq.1
  have m5 := bd_mul bp.2 bq.1
  have u : ∀ {n : Int} {k : Nat}, Bd k n → k ≤ 200 → Bd 200 n := fun h hk => h.mono hk
  intro x hx
  unfold tl at hx
  simp only [List.mem_cons, List.not_mem_nil, or_false] at hx
  rcases hx with rfl | rfl | rfl | rfl | rfl | rfl
  · exact sh_fr (mk_bn (u (bd_add m1 m2) (by decide)) (u m3 (by decide)))
  · exact sh_fr (mk_bn (u (bd_sub m1 m2) (by decide)) (u m3 (by decide)))
  · exact sh_fr (mk_bn (u m4 (by decide)) (u m3 (by decide)))
  · unfold dv
    split
    · exact sh_arg (by decide +kernel) (by decide)
    · exact sh_fr (mk_bn (u m1 (by decide)) (u m5 (by decide)))
  · unfold sgn
    split
    · exact sh_int (by decide)
    split
    · exact sh_int (by decide)
    · exact sh_int (by decide)
  · exact sh_fr ⟨u (bd_neg bp.1) (by decide), u bp.2 (by decide)⟩
end K01

set_option Elab.async false
set_option linter.all false
set_option maxRecDepth 100000
namespace K01
open PySem PySem.Spec PyProof.Rows L2 L2.DL
noncomputable def gT1 : FS := (sAsg (fDis mkTup (aCons (fCall m__law_drawn (aCons (fNm 1) (aCel 2 aNil))) (aCons (fCall m__law_drawn (aCons (fNm 1) (aCel 2 aNil))) aNil))) (tTup (tsCons (tNm 4) (tsCons (tNm 5) tsNil))))
noncomputable def gT2 : FS := (sSet 6 (fDis mkLst (aCons (fCall m__law_add (aCons (fNm 4) (aCons (fNm 5) aNil))) (aCons (fCall m__law_add (aCons (fNm 4) (aCons (fCall m__law_neg (aCons (fNm 5) aNil)) aNil))) (aCons (fCall m__law_mul (aCons (fNm 4) (aCons (fNm 5) aNil))) (aCons (fIf (tB1 (f2 dNe (f2 dIx (fNm 5) (fC (.int 0))) (fC (.int 0)))) (fCall m__law_div (aCons (fNm 4) (aCons (fNm 5) aNil))) (fDis mkTup (aCons (fC (.str "argument")) (aCons (fC (.str "nought")) aNil)))) aNil))))))
noncomputable def gT3 : FS := (sSet 7 (f2 dSub (f2 dMul (f2 dIx (fNm 4) (fC (.int 0))) (f2 dIx (fNm 5) (fC (.int 1)))) (f2 dMul (f2 dIx (fNm 5) (fC (.int 0))) (f2 dIx (fNm 4) (fC (.int 1))))))
noncomputable def gT4 : FS := (sSet 6 (f2 dAdd (fNm 6) (fDis mkLst (aCons (fIf (tB1 (f2 dEq (fNm 7) (fC (.int 0)))) (fC (.int 0)) (fIf (tB1 (f2 dGt (fNm 7) (fC (.int 0)))) (fC (.int 1)) (f1 dNeg (fC (.int 1))))) (aCons (fCall m__law_neg (aCons (fNm 4) aNil)) aNil)))))
noncomputable def gT5 : FS := (sIf (tNo (tTr (fCall m__law_same_as (aCons (fFz (lComp (lRng rng2 (aCons (fC (.int 1)) (aCons (fC (.int 7)) aNil))) [17] (tNm 17) tYs (fCall m__law_told (aCons (fNm 17) (aCons (fNm 4) (aCons (fNm 5) aNil)))))) (aCons (fNm 6) aNil))))) (sRet (fC (.bool false))) sNx)
noncomputable def gT6 : FS := (sPar 8 9 (f2 dSub (f2 dMod (fBi cInt (aCons (fCall m__law_take (aCons (fNm 1) (aCel 2 (aCons (fC (.int 1009)) aNil)))) aNil)) (fC (.int 41))) (fC (.int 20))) (f2 dSub (f2 dMod (fBi cInt (aCons (fCall m__law_take (aCons (fNm 1) (aCel 2 (aCons (fC (.int 1009)) aNil)))) aNil)) (fC (.int 25))) (fC (.int 12))))
noncomputable def gT7 : FS := (sIf (tNo (tTr (fCall m__law_same_as (aCons (fCall m__law_told (aCons (fC (.int 0)) (aCons (fNm 8) (aCons (fNm 9) aNil)))) (aCons (fIf (tB1 (f2 dNe (fNm 9) (fC (.int 0)))) (fCall m__law_made (aCons (fNm 8) (aCons (fNm 9) aNil))) (fDis mkTup (aCons (fC (.str "argument")) (aCons (fC (.str "under")) aNil)))) aNil))))) (sRet (fC (.bool false))) sNx)
noncomputable def gT8 : FS := (sSet 10 (f2 dLe (fBi cMax (aCons (fBi cAbs (aCons (f2 dIx (fNm 4) (fC (.int 0))) aNil)) (aCons (f2 dIx (fNm 4) (fC (.int 1))) aNil))) (fC (.int 1000000))))
noncomputable def gT9 : FS := (sIf (tNo (tTr (fCall m__law_same_as (aCons (fCall m__law_told (aCons (fC (.int 7)) (aCons (fNm 4) (aCons (fC .none) aNil)))) (aCons (fIf (tTr (fNm 10)) (fCall m__law_text (aCons (fNm 4) aNil)) (fDis mkTup (aCons (fC (.str "argument")) (aCons (fC (.str "one")) aNil)))) aNil))))) (sRet (fC (.bool false))) sNx)
noncomputable def gT10 : FS := (sSet 11 (fIf (tTr (fNm 10)) (fCall m__law_text (aCons (fNm 4) aNil)) (fC (.str "-7/12"))))
noncomputable def gT11 : FS := (sSet 12 (f2 dAdd (fC (.int 1)) (fCall m__law_take (aCons (fNm 1) (aCel 2 (aCons (fC (.int 6)) aNil))))))
noncomputable def gT12 : FS := (sSet 11 (fCall m__law_one (aCons (fDis mkLst (aCons (fNm 11) (aCons (fNm 11) (aCons (f2 dAdd (f2 dAdd (fBi cStr (aCons (f2 dMul (fNm 8) (fNm 12)) aNil)) (fC (.str "/"))) (fBi cStr (aCons (f2 dMul (fBi cAbs (aCons (fNm 9) aNil)) (fNm 12)) aNil))) (aCons (fCall m__law_spoilt (aCons (fNm 11) (aCons (fNm 1) (aCel 2 aNil)))) (aCons (fC (.str "1000000")) (aCons (fC (.str "1000001")) (aCons (fC (.str "-0")) (aCons (fC (.str "0/5")) (aCons (fC (.str "5/0")) aNil)))))))))) (aCons (fNm 1) (aCel 2 aNil)))))
noncomputable def gT13 : FS := (sSet 13 (fCall m__law_one (aCons (fDis mkLst (aCons (fNm 11) (aCons (fCall m__law_spoilt (aCons (fNm 11) (aCons (fNm 1) (aCel 2 aNil)))) aNil))) (aCons (fNm 1) (aCel 2 aNil)))))
noncomputable def gT14 : FS := (sIf (tNo (tTr (fCall m__law_same_as (aCons (fFz (lComp (lIt (fDis mkTup (aCons (fNm 11) (aCons (fNm 13) (aCons (fC (.str "")) (aCons (fC (.str "-")) (aCons (fC (.str "7/")) (aCons (fC (.str "01")) (aCons (fC (.str "3/1")) aNil))))))))) [18] (tNm 18) tYs (fCall m__law_told (aCons (fC (.int 8)) (aCons (fNm 18) (aCons (fC .none) aNil)))))) (aCons (fFz (lComp (lIt (fDis mkTup (aCons (fNm 11) (aCons (fNm 13) (aCons (fC (.str "")) (aCons (fC (.str "-")) (aCons (fC (.str "7/")) (aCons (fC (.str "01")) (aCons (fC (.str "3/1")) aNil))))))))) [18] (tNm 18) tYs (fCall m__law_read (aCons (fNm 18) aNil)))) aNil))))) (sRet (fC (.bool false))) sNx)
noncomputable def gTurn : FS := (sSeq gT1 (sSeq gT2 (sSeq gT3 (sSeq gT4 (sSeq gT5 (sSeq gT6 (sSeq gT7 (sSeq gT8 (sSeq gT9 (sSeq gT10 (sSeq gT11 (sSeq gT12 (sSeq gT13 gT14)))))))))))))
noncomputable def gE1 : FS := (sSet 14 (fCall m__law_one (aCons (fDis mkLst (aCons (fC .none) (aCons (fC (.int 1)) (aCons (fDis mkTup (aCons (fC (.int 1)) aNil)) (aCons (fDis mkTup (aCons (fC (.int 2)) (aCons (fC (.int 4)) aNil))) (aCons (fDis mkTup (aCons (fC (.int 1)) (aCons (f1 dNeg (fC (.int 2))) aNil))) (aCons (fDis mkTup (aCons (fC (.int 0)) (aCons (fC (.int 2)) aNil))) (aCons (fDis mkTup (aCons (fC (.int 1)) (aCons (fC (.int 0)) aNil))) (aCons (fDis mkTup (aCons (fC (.bool true)) (aCons (fC (.int 2)) aNil))) (aCons (fDis mkTup (aCons (fC (.int 1)) (aCons (fC (.int 2)) (aCons (fC (.int 3)) aNil)))) (aCons (fDis mkLst (aCons (fC (.int 1)) (aCons (fC (.int 2)) aNil))) (aCons (fDis mkTup (aCons (fC (.str "1")) (aCons (fC (.int 2)) aNil))) aNil)))))))))))) (aCons (fNm 1) (aCel 2 aNil)))))
noncomputable def gE2 : FS := (sSet 15 (f2 dAdd (fFz (lComp (lRng rng2 (aCons (fC (.int 1)) (aCons (fC (.int 6)) aNil))) [17] (tNm 17) tYs (fCall m__law_told (aCons (fNm 17) (aCons (fNm 14) (aCons (fDis mkTup (aCons (fC (.int 1)) (aCons (fC (.int 1)) aNil))) aNil)))))) (fFz (lComp (lRng rng2 (aCons (fC (.int 1)) (aCons (fC (.int 6)) aNil))) [17] (tNm 17) tYs (fCall m__law_told (aCons (fNm 17) (aCons (fDis mkTup (aCons (fC (.int 1)) (aCons (fC (.int 1)) aNil))) (aCons (fNm 14) aNil))))))))
noncomputable def gE3 : FS := (sIf (tOr' (tB1 (f2 dNe (fNm 15) (f2 dAdd (f2 dMul (fDis mkLst (aCons (fDis mkTup (aCons (fC (.str "argument")) (aCons (fC (.str "one")) aNil))) aNil)) (fC (.int 5))) (f2 dMul (fDis mkLst (aCons (fDis mkTup (aCons (fC (.str "argument")) (aCons (fC (.str "other")) aNil))) aNil)) (fC (.int 5)))))) (tB1 (f2 dNe (fFz (lComp (lIt (fDis mkTup (aCons (fC (.int 6)) (aCons (fC (.int 7)) aNil)))) [17] (tNm 17) tYs (fCall m__law_told (aCons (fNm 17) (aCons (fNm 14) (aCons (fC .none) aNil)))))) (f2 dMul (fDis mkLst (aCons (fDis mkTup (aCons (fC (.str "argument")) (aCons (fC (.str "one")) aNil))) aNil)) (fC (.int 2)))))) (sRet (fC (.bool false))) sNx)
noncomputable def gE4 : FS := (sSet 16 (fCall m__law_one (aCons (fDis mkLst (aCons (fC .none) (aCons (fC (.bool true)) (aCons (fC (.str "1")) (aCons (fDis mkTup (aCons (fC (.int 1)) (aCons (fC (.int 1)) aNil))) aNil))))) (aCons (fNm 1) (aCel 2 aNil)))))
noncomputable def gE5 : FS := (sIf (tB1 (f2 dNe (fDis mkLst (aCons (fCall m__law_told (aCons (fC (.int 0)) (aCons (fNm 16) (aCons (fC (.int 1)) aNil)))) (aCons (fCall m__law_told (aCons (fC (.int 0)) (aCons (fC (.int 1)) (aCons (fNm 16) aNil)))) (aCons (fCall m__law_told (aCons (fC (.int 0)) (aCons (fC (.int 1)) (aCons (fC (.int 0)) aNil)))) aNil)))) (fDis mkLst (aCons (fDis mkTup (aCons (fC (.str "argument")) (aCons (fC (.str "top")) aNil))) (aCons (fDis mkTup (aCons (fC (.str "argument")) (aCons (fC (.str "under")) aNil))) (aCons (fDis mkTup (aCons (fC (.str "argument")) (aCons (fC (.str "under")) aNil))) aNil)))))) (sRet (fC (.bool false))) sNx)
noncomputable def gE6 : FS := (sRet (f2 dEq (fFz (lComp (lIt (fDis mkTup (aCons (fC .none) (aCons (fC (.int 7)) (aCons (fDis mkTup (aCons (fC (.str "1")) aNil)) (aCons (fC (.bool true)) aNil)))))) [18] (tNm 18) tYs (fCall m__law_told (aCons (fC (.int 8)) (aCons (fNm 18) (aCons (fC .none) aNil)))))) (f2 dMul (fDis mkLst (aCons (fDis mkTup (aCons (fC (.str "at")) (aCons (fC (.int 0)) aNil))) aNil)) (fC (.int 4)))))

section
variable {ds : List PyData} {c : Int} {p q : Int × Int} {s0 s3 s4 s5 s6 s7 s8 s9 s10 s11 s12 s13 s14 s15 s16 s17 s18 : Sl}
theorem bn200 {p : Int × Int} (h : Bn 60 p) : Bn 200 p := ⟨h.1.mono (by decide), h.2.mono (by decide)⟩
theorem t1 (h : Dr ds c) (hc : c < 10000000) : ∃ p q : Int × Int, gT1 [s0, .dt (.list ds), .ce, s3, s4, s5, s6, s7, s8, s9, s10, s11, s12, s13, s14, s15, s16, s17, s18] c = .ok (.nx [s0, .dt (.list ds), .ce, s3, .dt (fr p), .dt (fr q), s6, s7, s8, s9, s10, s11, s12, s13, s14, s15, s16, s17, s18]) (c + 10) ∧ Ok p ∧ Bn 60 p ∧ Sm p ∧ Ok q ∧ Bn 60 q := by
  obtain ⟨p, e1, p1, p2, p3⟩ := e_law_drawn h (by omega)
  have h5 : Dr ds (c + 5) := ⟨h.d, h.l, by have := h.p; omega, by omega⟩
  obtain ⟨q, e2, q1, q2, _⟩ := e_law_drawn h5 (by omega)
  refine ⟨p, q, ?_, p1, p2, p3, q1, q2⟩
  have ecc : c + 5 + 5 = c + 10 := by omega
  unfold gT1
  simp [e1, e2, line_ok, ecc]
theorem t2 (hp : Ok p) (hq : Ok q) (bp : Bn 60 p) (bq : Bn 60 q) : gT2 [s0, .dt (.list ds), .ce, s3, .dt (fr p), .dt (fr q), s6, s7, s8, s9, s10, s11, s12, s13, s14, s15, s16, s17, s18] c = .ok (.nx [s0, .dt (.list ds), .ce, s3, .dt (fr p), .dt (fr q), .dt (.list ((tl p q).take 4)), s7, s8, s9, s10, s11, s12, s13, s14, s15, s16, s17, s18]) c := by
  have a1 := e_law_add (c := c) hp hq (bn200 bp) (bn200 bq)
  have hqn : Ok (-q.1, q.2) := ⟨hq.1, by show Int.gcd (-q.1) q.2 = 1; rw [Int.neg_gcd]; exact hq.2⟩
  have a2 := e_law_add (c := c) hp hqn (bn200 bp) ⟨bd_neg (bn200 bq).1, (bn200 bq).2⟩
  have a3 := e_law_mul (c := c) hp hq (bn200 bp) (bn200 bq)
  have an := e_law_neg (p := q) (c := c)
  have e : p.1 * q.2 + -q.1 * p.2 = p.1 * q.2 - q.1 * p.2 := by rw [Int.neg_mul]; omega
  simp only [e] at a2
  have ei : dIx (fr q) (.int 0) = some (.int q.1) := rfl
  have et : (tl p q).take 4 = [fr (mk (p.1 * q.2 + q.1 * p.2) (p.2 * q.2)), fr (mk (p.1 * q.2 - q.1 * p.2) (p.2 * q.2)), fr (mk (p.1 * q.1) (p.2 * q.2)), dv p q] := rfl
  unfold gT2
  by_cases h0 : q.1 = 0
  · have ed : dv p q = argD "nought" := if_pos h0
    have ei' : dIx (fr q) (.int 0) = some (.int 0) := by rw [ei, h0]
    simp only [sSet_, fDis_, aCons_, aNil_, fCall_, fNm_, List.getElem?_cons_zero, List.getElem?_cons_succ, bind_ok, a1, an, a2, a3, fIf_, tB1_, f2_, fC_, ei', ofO_some, ne_ii, asB_, decide_true, Bool.not_true, Bool.false_eq_true, if_false, mkTup_, mkLst_, dts_1, dts_0, Option.map_some, List.length_cons, List.length_nil, lineOk_small (show 2 ≤ 1000 by decide), lineOk_small (show 4 ≤ 1000 by decide), if_true, Nat.zero_add, Nat.reduceAdd, List.set_cons_succ, List.set_cons_zero, et, ed, argD]
  · have ed : dv p q = fr (mk (p.1 * q.2) (p.2 * q.1)) := if_neg h0
    have a4 := e_law_div (c := c) hp (bn200 bp) (bn200 bq) h0
    simp only [sSet_, fDis_, aCons_, aNil_, fCall_, fNm_, List.getElem?_cons_zero, List.getElem?_cons_succ, bind_ok, a1, an, a2, a3, a4, fIf_, tB1_, f2_, fC_, ei, ofO_some, ne_ii, asB_, h0, decide_false, Bool.not_false, if_true, mkTup_, mkLst_, dts_1, dts_0, Option.map_some, List.length_cons, List.length_nil, lineOk_small (show 4 ≤ 1000 by decide), Nat.zero_add, Nat.reduceAdd, List.set_cons_succ, List.set_cons_zero, et, ed]
theorem t3 (bp : Bn 60 p) (bq : Bn 60 q) : gT3 [s0, .dt (.list ds), .ce, s3, .dt (fr p), .dt (fr q), s6, s7, s8, s9, s10, s11, s12, s13, s14, s15, s16, s17, s18] c = .ok (.nx [s0, .dt (.list ds), .ce, s3, .dt (fr p), .dt (fr q), s6, .dt (.int (p.1 * q.2 - q.1 * p.2)), s8, s9, s10, s11, s12, s13, s14, s15, s16, s17, s18]) c := by
  have m1 := mulFits_of bp.1 bq.2 (by decide) (by decide) (by decide)
  have m2 := mulFits_of bq.1 bp.2 (by decide) (by decide) (by decide)
  unfold gT3
  simp [fr, mul_i m1, mul_i m2]
theorem add_ll {xs ys : List PyData} (h : xs.length + ys.length ≤ 100000) : dAdd (.list xs) (.list ys) = some (.list (xs ++ ys)) := if_pos (by rw [sizeLine_eq]; omega)
theorem t4 (n : Int) (hn : n = p.1 * q.2 - q.1 * p.2) : gT4 [s0, .dt (.list ds), .ce, s3, .dt (fr p), s5, .dt (.list ((tl p q).take 4)), .dt (.int n), s8, s9, s10, s11, s12, s13, s14, s15, s16, s17, s18] c = .ok (.nx [s0, .dt (.list ds), .ce, s3, .dt (fr p), s5, .dt (.list (tl p q)), .dt (.int n), s8, s9, s10, s11, s12, s13, s14, s15, s16, s17, s18]) c := by
  have an := e_law_neg (p := p) (c := c)
  have e : (tl p q).take 4 ++ [.int (sgn n), fr (-p.1, p.2)] = tl p q := by subst hn; rfl
  have al : dAdd (.list ((tl p q).take 4)) (.list [.int (sgn n), fr (-p.1, p.2)]) = some (.list (tl p q)) := by rw [add_ll (by simp [tl]), e]
  unfold sgn at al
  unfold gT4
  by_cases h0 : n = 0
  · rw [if_pos h0] at al
    simp [eq_ii, h0, an, line_ok, al]
  · rw [if_neg h0] at al
    by_cases h1 : n < 0
    · have h2 : ¬ 0 < n := by omega
      rw [if_pos h1] at al
      simp [eq_ii, h0, h2, an, line_ok, al]
    · have h2 : 0 < n := by omega
      rw [if_neg h1] at al
      simp [eq_ii, h0, h2, an, line_ok, al]
theorem rng_17 : rngD 1 6 = [.int 1, .int 2, .int 3, .int 4, .int 5, .int 6] := rfl
theorem t5 (hp : Ok p) (hq : Ok q) (bp : Bn 60 p) (bq : Bn 60 q) : gT5 [s0, .dt (.list ds), .ce, s3, .dt (fr p), .dt (fr q), .dt (.list (tl p q)), s7, s8, s9, s10, s11, s12, s13, s14, s15, s16, s17, s18] c = .ok (.nx [s0, .dt (.list ds), .ce, s3, .dt (fr p), .dt (fr q), .dt (.list (tl p q)), s7, s8, s9, s10, s11, s12, s13, s14, s15, s16, s17, s18]) c := by
  obtain ⟨d0, f0, g0⟩ := told_all (c := c) hp hq bp bq 0 (by decide)
  obtain ⟨d1, f1, g1⟩ := told_all (c := c) hp hq bp bq 1 (by decide)
  obtain ⟨d2, f2, g2⟩ := told_all (c := c) hp hq bp bq 2 (by decide)
  obtain ⟨d3, f3, g3⟩ := told_all (c := c) hp hq bp bq 3 (by decide)
  obtain ⟨d4, f4, g4⟩ := told_all (c := c) hp hq bp bq 4 (by decide)
  obtain ⟨d5, f5, g5⟩ := told_all (c := c) hp hq bp bq 5 (by decide)
  have e : tl p q = [d0, d1, d2, d3, d4, d5] := by
    unfold tl at f0 f1 f2 f3 f4 f5 ⊢
    simp only [List.getElem?_cons_zero, List.getElem?_cons_succ, Option.some.injEq] at f0 f1 f2 f3 f4 f5
    rw [f0, f1, f2, f3, f4, f5]
  have same := same_list (c := c) (sh_tl bp bq) (by show 6 ≤ 90; decide)
  have er : rng2 [.dt (.int 1), .dt (.int 7)] = some [.int 1, .int 2, .int 3, .int 4, .int 5, .int 6] := by rw [← rng_17]; rfl
  have g0' : m__law_told [.dt (.int 1), .dt (fr p), .dt (fr q)] c = .ok d0 c := g0
  have g1' : m__law_told [.dt (.int 2), .dt (fr p), .dt (fr q)] c = .ok d1 c := g1
  have g2' : m__law_told [.dt (.int 3), .dt (fr p), .dt (fr q)] c = .ok d2 c := g2
  have g3' : m__law_told [.dt (.int 4), .dt (fr p), .dt (fr q)] c = .ok d3 c := g3
  have g4' : m__law_told [.dt (.int 5), .dt (fr p), .dt (fr q)] c = .ok d4 c := g4
  have g5' : m__law_told [.dt (.int 6), .dt (fr p), .dt (fr q)] c = .ok d5 c := g5
  rw [e] at same ⊢
  unfold gT5
  simp [lComp_, er, compD, g0', g1', g2', g3', g4', g5', line_ok, same]
end
end K01

set_option Elab.async false
set_option linter.all false
set_option maxRecDepth 100000
namespace K01
open PySem PySem.Spec PyProof.Rows L2 L2.DL
section
variable {ds : List PyData} {c : Int} {p q : Int × Int} {s0 s3 s4 s5 s6 s7 s8 s9 s10 s11 s12 s13 s14 s15 s16 s17 s18 : Sl}
theorem t6 (h : Dr ds c) (hc : c < 10000000) : ∃ t u : Int, gT6 [s0, .dt (.list ds), .ce, s3, s4, s5, s6, s7, s8, s9, s10, s11, s12, s13, s14, s15, s16, s17, s18] c = .ok (.nx [s0, .dt (.list ds), .ce, s3, s4, s5, s6, s7, .dt (.int t), .dt (.int u), s10, s11, s12, s13, s14, s15, s16, s17, s18]) (c + 2) ∧ t.natAbs ≤ 20 ∧ u.natAbs ≤ 12 := by
  obtain ⟨v, ev, v0, v1⟩ := take (many := 1009) h (by decide)
  obtain ⟨w, ew, w0, w1⟩ := take (many := 1009) (h.s (by omega)) (by decide)
  have hv := fmod_in (x := v) (show (0 : Int) < 41 by decide)
  have hw := fmod_in (x := w) (show (0 : Int) < 25 by decide)
  refine ⟨v.fmod 41 - 20, w.fmod 25 - 12, ?_, by omega, by omega⟩
  have ecc : c + 1 + 1 = c + 2 := by omega
  unfold gT6
  simp [ev, ew, mod_c, ecc]
def d7 (t u : Int) : PyData := if u = 0 then argD "under" else fr (mk t u)
theorem e_fraction {t u : Int} (ht : t.natAbs ≤ 20) (hu : u.natAbs ≤ 12) : told (m_fraction [.dt (.int t), .dt (.int u)] c) = .ok (d7 t u) c := by
  unfold m_fraction g_fraction d7
  by_cases h0 : u = 0
  · subst h0
    simp [e_is_integer, told, argD]
  · have em := e_made (c := c) (t := t) (u := u) (show t.natAbs < 2 ^ 8000 from Nat.lt_of_le_of_lt ht (Nat.lt_of_lt_of_le (show 20 < 2 ^ 10 by decide) (Nat.pow_le_pow_right (by decide) (by decide)))) (show u.natAbs < 2 ^ 8000 from Nat.lt_of_le_of_lt hu (Nat.lt_of_lt_of_le (show 12 < 2 ^ 10 by decide) (Nat.pow_le_pow_right (by decide) (by decide)))) h0
    simp [e_is_integer, h0, em, told]
theorem sh_d7 {t u : Int} (ht : t.natAbs ≤ 20) (hu : u.natAbs ≤ 12) : Sh (d7 t u) := by
  unfold d7
  split
  · exact sh_arg (by decide +kernel) (by decide)
  · exact sh_fr (mk_bn (Nat.lt_of_le_of_lt ht (by decide)) (Nat.lt_of_le_of_lt hu (by decide)))
theorem t7 {t u : Int} (ht : t.natAbs ≤ 20) (hu : u.natAbs ≤ 12) : gT7 [s0, .dt (.list ds), .ce, s3, s4, s5, s6, s7, .dt (.int t), .dt (.int u), s10, s11, s12, s13, s14, s15, s16, s17, s18] c = .ok (.nx [s0, .dt (.list ds), .ce, s3, s4, s5, s6, s7, .dt (.int t), .dt (.int u), s10, s11, s12, s13, s14, s15, s16, s17, s18]) c := by
  have e0 := told_sel (k := 0) (by decide) rfl (e_fraction (c := c) ht hu)
  have e0' : m__law_told [.dt (.int 0), .dt (.int t), .dt (.int u)] c = .ok (d7 t u) c := e0
  have same := same_one (c := c) (sh_d7 ht hu)
  unfold gT7
  by_cases h0 : u = 0
  · have ed : d7 t u = argD "under" := if_pos h0
    rw [ed] at e0' same
    subst h0
    unfold argD at e0' same
    simp [ne_ii, e0', line_ok, same]
  · have em := e_law_made (c := c) (t := t) (u := u) (show t.natAbs < 2 ^ 1400 from Nat.lt_of_le_of_lt ht (Nat.lt_of_lt_of_le (show 20 < 2 ^ 10 by decide) (Nat.pow_le_pow_right (by decide) (by decide)))) (show u.natAbs < 2 ^ 1400 from Nat.lt_of_le_of_lt hu (Nat.lt_of_lt_of_le (show 12 < 2 ^ 10 by decide) (Nat.pow_le_pow_right (by decide) (by decide)))) h0
    have ed : d7 t u = fr (mk t u) := if_neg h0
    rw [ed] at e0' same
    simp [ne_ii, h0, e0', em, same]
theorem t8 (hp : Ok p) : gT8 [s0, .dt (.list ds), .ce, s3, .dt (fr p), s5, s6, s7, s8, s9, s10, s11, s12, s13, s14, s15, s16, s17, s18] c = .ok (.nx [s0, .dt (.list ds), .ce, s3, .dt (fr p), s5, s6, s7, s8, s9, .dt (.bool (small p)), s11, s12, s13, s14, s15, s16, s17, s18]) c := by
  have em : cMax [.int (p.1.natAbs : Int), .int p.2] = some (.int (if p.2 > (p.1.natAbs : Int) then p.2 else (p.1.natAbs : Int))) := rfl
  have es : decide ((if p.2 > (p.1.natAbs : Int) then p.2 else (p.1.natAbs : Int)) ≤ 1000000) = small p := by
    unfold small
    rw [Bool.eq_iff_iff]
    simp only [decide_eq_true_eq, Bool.and_eq_true]
    split <;> omega
  have e0 : dIx (fr p) (.int 0) = some (.int p.1) := rfl
  have e1 : dIx (fr p) (.int 1) = some (.int p.2) := rfl
  unfold gT8
  simp only [sSet_, f2_, fBi_, aCons_, aNil_, fNm_, fC_, List.getElem?_cons_zero, List.getElem?_cons_succ, bind_ok, e0, e1, ofO_some, dts_1, dts_0, Option.map_some, Option.bind_some, cAbs_i, abs_i, em, dOrd_i, es, List.set_cons_succ, List.set_cons_zero]
def d9 (p : Int × Int) : PyData := if small p then .str (tx p) else argD "one"
theorem lay_iff {x : Str} : PyData.canLay0 (.str x) = true ↔ ∀ c ∈ x.cps.toList, c < 0x110000 := by
  show (x.cps.all (· < 0x110000)) = true ↔ _
  rw [← Array.all_toList, List.all_eq_true]
  simp
theorem lay_of (s : String) : PyData.canLay0 (.str (Str.ofString s)) = true := by
  rw [lay_iff, PySem.Str.ofString_eq_toList]
  intro n hn
  simp only [List.mem_map] at hn
  obtain ⟨ch, _, rfl⟩ := hn
  have hv := ch.valid
  have hv' : ch.val.toNat.isValidChar := hv
  unfold Nat.isValidChar at hv'
  show ch.val.toNat < 0x110000
  omega
theorem lay_app {x y : Str} (hx : PyData.canLay0 (.str x) = true) (hy : PyData.canLay0 (.str y) = true) : PyData.canLay0 (.str (x ++ y)) = true := by
  rw [lay_iff] at *
  intro n hn
  rw [app_cps] at hn
  rcases List.mem_append.mp hn with z | z
  · exact hx n z
  · exact hy n z
theorem lay_tx (p : Int × Int) : PyData.canLay0 (.str (tx p)) = true := by
  unfold tx
  split
  · exact lay_of _
  · exact lay_app (lay_app (lay_of _) (lay_of _)) (lay_of _)
theorem sh_str {x : Str} (h : PyData.canLay0 (.str x) = true) (hl : x.length ≤ 200) : Sh (.str x) := ⟨⟨h, hl⟩, by show 1 ≤ 10; decide, by show 0 ≤ 2; decide⟩
theorem sh_d9 (hs : Sm p) : Sh (d9 p) := by
  unfold d9
  split
  · exact sh_str (lay_tx p) (by have := tx_len hs.1 hs.2; omega)
  · exact sh_arg (by decide +kernel) (by decide)
theorem t9 (hp : Ok p) (hs : Sm p) : gT9 [s0, .dt (.list ds), .ce, s3, .dt (fr p), s5, s6, s7, s8, s9, .dt (.bool (small p)), s11, s12, s13, s14, s15, s16, s17, s18] c = .ok (.nx [s0, .dt (.list ds), .ce, s3, .dt (fr p), s5, s6, s7, s8, s9, .dt (.bool (small p)), s11, s12, s13, s14, s15, s16, s17, s18]) c := by
  have e7 : m__law_told [.dt (.int 7), .dt (fr p), .dt .none] c = .ok (d9 p) c := told_7 (e_write (c := c) hp hs.1 hs.2)
  have same := same_one (c := c) (sh_d9 hs)
  have et := e_law_text (c := c) hs.1 hs.2
  unfold gT9
  cases hq : small p with
  | true =>
    have ed : d9 p = .str (tx p) := if_pos hq
    rw [ed] at e7 same
    simp [e7, et, same]
  | false =>
    have ed : d9 p = argD "one" := if_neg (by rw [hq]; simp)
    rw [ed] at e7 same
    unfold argD at e7 same
    simp [e7, line_ok, same]
def x0 (p : Int × Int) : Str := if small p then tx p else "-7/12"
theorem x0_len (hs : Sm p) : (x0 p).length ≤ 23 := by
  unfold x0
  split
  · exact tx_len hs.1 hs.2
  · decide
theorem t10 (hs : Sm p) : gT10 [s0, .dt (.list ds), .ce, s3, .dt (fr p), s5, s6, s7, s8, s9, .dt (.bool (small p)), s11, s12, s13, s14, s15, s16, s17, s18] c = .ok (.nx [s0, .dt (.list ds), .ce, s3, .dt (fr p), s5, s6, s7, s8, s9, .dt (.bool (small p)), .dt (.str (x0 p)), s12, s13, s14, s15, s16, s17, s18]) c := by
  have et := e_law_text (c := c) hs.1 hs.2
  unfold gT10 x0
  cases hq : small p <;> simp [et]
theorem t11 (h : Dr ds c) : ∃ f : Int, gT11 [s0, .dt (.list ds), .ce, s3, s4, s5, s6, s7, s8, s9, s10, s11, s12, s13, s14, s15, s16, s17, s18] c = .ok (.nx [s0, .dt (.list ds), .ce, s3, s4, s5, s6, s7, s8, s9, s10, s11, .dt (.int f), s13, s14, s15, s16, s17, s18]) (c + 1) ∧ 0 < f ∧ f ≤ 6 := by
  obtain ⟨v, ev, v0, v1⟩ := take (many := 6) h (by decide)
  refine ⟨1 + v, ?_, by omega, by omega⟩
  unfold gT11
  simp [ev]
theorem num_short {n : Int} (h : n.natAbs ≤ 1000) : (num n).length ≤ 11 := num_len (Nat.lt_of_le_of_lt h (by decide))
theorem t12 (h : Dr ds c) (hc : c < 10000000) {x : Str} (hx : x.length ≤ 23) {t u f : Int} (ht : t.natAbs ≤ 20) (hu : u.natAbs ≤ 12) (f0 : 0 < f) (f1 : f ≤ 6) : ∃ z : Str, gT12 [s0, .dt (.list ds), .ce, s3, s4, s5, s6, s7, .dt (.int t), .dt (.int u), s10, .dt (.str x), .dt (.int f), s13, s14, s15, s16, s17, s18] c = .ok (.nx [s0, .dt (.list ds), .ce, s3, s4, s5, s6, s7, .dt (.int t), .dt (.int u), s10, .dt (.str z), .dt (.int f), s13, s14, s15, s16, s17, s18]) (c + 4) ∧ z.length ≤ 60 := by
  obtain ⟨y, ey, hy⟩ := e_law_spoilt (t := x) (by omega) h (by omega)
  have h3 : Dr ds (c + 3) := ⟨h.d, h.l, by have := h.p; omega, by omega⟩
  have bf : Bd 60 f := bd_of (by omega) (by omega)
  have m1 : mulFits t f = true := mulFits_of (j := 60) (k := 60) (show t.natAbs < 2 ^ 60 by omega) bf (by decide) (by decide) (by decide)
  have m2 : mulFits (u.natAbs : Int) f = true := mulFits_of (j := 60) (k := 60) (show (u.natAbs : Int).natAbs < 2 ^ 60 by omega) bf (by decide) (by decide) (by decide)
  have n1 : (t * f).natAbs ≤ 1000 := by
    rw [Int.natAbs_mul]
    exact Nat.le_trans (Nat.mul_le_mul ht (show f.natAbs ≤ 6 by omega)) (by decide)
  have n2 : ((u.natAbs : Int) * f).natAbs ≤ 1000 := by
    rw [Int.natAbs_mul]
    exact Nat.le_trans (Nat.mul_le_mul (show (u.natAbs : Int).natAbs ≤ 12 by omega) (show f.natAbs ≤ 6 by omega)) (by decide)
  have l1 := num_short n1
  have l2 := num_short n2
  have s1 := str_i (show Bd 60 (t * f) from Nat.lt_of_le_of_lt n1 (by decide))
  have s2 := str_i (show Bd 60 ((u.natAbs : Int) * f) from Nat.lt_of_le_of_lt n2 (by decide))
  have a1 := add_ss (x := num (t * f)) (y := "/") (by rw [slash_len]; omega)
  have a2 := add_ss (x := num (t * f) ++ "/") (y := num ((u.natAbs : Int) * f)) (by rw [strLen_append, slash_len]; omega)
  obtain ⟨z, hz, ez⟩ := one (rows := [.str x, .str x, .str (num (t * f) ++ "/" ++ num ((u.natAbs : Int) * f)), .str y, .str "1000000", .str "1000001", .str "-0", .str "0/5", .str "5/0"]) h3 (by simp)
  have ll : (num (t * f) ++ "/" ++ num ((u.natAbs : Int) * f)).length ≤ 60 := by rw [strLen_append, strLen_append, slash_len]; omega
  obtain ⟨z, rfl, lz⟩ : ∃ w : Str, z = .str w ∧ w.length ≤ 60 := by
    simp only [List.mem_cons, List.not_mem_nil, or_false] at hz
    rcases hz with rfl | rfl | rfl | rfl | rfl | rfl | rfl | rfl | rfl
    · exact ⟨_, rfl, by omega⟩
    · exact ⟨_, rfl, by omega⟩
    · exact ⟨_, rfl, ll⟩
    · exact ⟨_, rfl, by omega⟩
    · exact ⟨_, rfl, by decide⟩
    · exact ⟨_, rfl, by decide⟩
    · exact ⟨_, rfl, by decide⟩
    · exact ⟨_, rfl, by decide⟩
    · exact ⟨_, rfl, by decide⟩
  refine ⟨z, ?_, lz⟩
  have ecc : c + 3 + 1 = c + 4 := by omega
  unfold gT12
  simp [mul_i m1, mul_i m2, abs_i, s1, s2, a1, a2, ey, line_ok, ez, ecc]
theorem t13 (h : Dr ds c) (hc : c < 10000000) {x : Str} (hx : x.length ≤ 60) : ∃ z : Str, gT13 [s0, .dt (.list ds), .ce, s3, s4, s5, s6, s7, s8, s9, s10, .dt (.str x), s12, s13, s14, s15, s16, s17, s18] c = .ok (.nx [s0, .dt (.list ds), .ce, s3, s4, s5, s6, s7, s8, s9, s10, .dt (.str x), s12, .dt (.str z), s14, s15, s16, s17, s18]) (c + 4) ∧ z.length ≤ 150 := by
  obtain ⟨y, ey, hy⟩ := e_law_spoilt (t := x) (by omega) h (by omega)
  have h3 : Dr ds (c + 3) := ⟨h.d, h.l, by have := h.p; omega, by omega⟩
  obtain ⟨z, hz, ez⟩ := one (rows := [.str x, .str y]) h3 (by simp)
  obtain ⟨z, rfl, lz⟩ : ∃ w : Str, z = .str w ∧ w.length ≤ 150 := by
    simp only [List.mem_cons, List.not_mem_nil, or_false] at hz
    rcases hz with rfl | rfl
    · exact ⟨_, rfl, by omega⟩
    · exact ⟨_, rfl, by omega⟩
  refine ⟨z, ?_, lz⟩
  have ecc : c + 3 + 1 = c + 4 := by omega
  unfold gT13
  simp [ey, line_ok, ez, ecc]
def sevens (x y : Str) : List Str := [x, y, "", "-", "7/", "01", "3/1"]
theorem t14 {x y : Str} (hx : x.length ≤ 600) (hy : y.length ≤ 600) : gT14 [s0, .dt (.list ds), .ce, s3, s4, s5, s6, s7, s8, s9, s10, .dt (.str x), s12, .dt (.str y), s14, s15, s16, s17, s18] c = .ok (.nx [s0, .dt (.list ds), .ce, s3, s4, s5, s6, s7, s8, s9, s10, .dt (.str x), s12, .dt (.str y), s14, s15, s16, s17, s18]) c := by
  have hall : ∀ z ∈ sevens x y, z.length ≤ 600 := by
    intro z hz
    unfold sevens at hz
    simp only [List.mem_cons, List.not_mem_nil, or_false] at hz
    rcases hz with rfl | rfl | rfl | rfl | rfl | rfl | rfl
    · exact hx
    · exact hy
    all_goals decide
  have et : ∀ z ∈ sevens x y, m__law_told [.dt (.int 8), .dt (.str z), .dt .none] c = .ok (rd z) c := fun z hz => told_8 (rd_both (hall z hz)).1
  have er : ∀ z ∈ sevens x y, m__law_read [.dt (.str z)] c = .ok (rd z) c := fun z hz => (rd_both (hall z hz)).2
  have same := same_list (c := c) (xs := (sevens x y).map rd) (fun d hd => by
    obtain ⟨z, hz, rfl⟩ := List.mem_map.mp hd
    exact sh_rd (hall z hz)) (by simp [sevens])
  unfold sevens at et er same
  simp only [List.forall_mem_cons] at et er
  obtain ⟨t1, t2, t3, t4, t5, t6, t7, _⟩ := et
  obtain ⟨r1, r2, r3, r4, r5, r6, r7, _⟩ := er
  simp only [List.map_cons, List.map_nil] at same
  unfold gT14
  simp [lComp_, compD, line_ok, t1, t2, t3, t4, t5, t6, t7, r1, r2, r3, r4, r5, r6, r7, same]
end
end K01

set_option Elab.async false
set_option linter.all false
set_option maxRecDepth 100000
namespace K01
open PySem PySem.Spec PyProof.Rows L2 L2.DL
section
variable {ds : List PyData} {c : Int} {p q : Int × Int} {s0 s3 s4 s5 s6 s7 s8 s9 s10 s11 s12 s13 s14 s15 s16 s17 s18 : Sl}
/-- one turn -/
theorem turn (h : Dr ds c) (hc : c < 1000000) : ∃ (t4 t5 t6 t7 t8 t9 t10 t11 t12 t13 : Sl) (c' : Int), gTurn [s0, .dt (.list ds), .ce, s3, s4, s5, s6, s7, s8, s9, s10, s11, s12, s13, s14, s15, s16, s17, s18] c = .ok (.nx [s0, .dt (.list ds), .ce, s3, t4, t5, t6, t7, t8, t9, t10, t11, t12, t13, s14, s15, s16, s17, s18]) c' ∧ Dr ds c' ∧ c' = c + 21 := by
  have st : ∀ {c : Int} {k : Int}, Dr ds c → 0 ≤ k → c + k < 2 ^ 40 → Dr ds (c + k) := fun h hk hq => ⟨h.d, h.l, by have := h.p; omega, hq⟩
  obtain ⟨p, q, e1, op, bp, sp, oq, bq⟩ := t1 (s0 := s0) (s3 := s3) (s4 := s4) (s5 := s5) (s6 := s6) (s7 := s7) (s8 := s8) (s9 := s9) (s10 := s10) (s11 := s11) (s12 := s12) (s13 := s13) (s14 := s14) (s15 := s15) (s16 := s16) (s17 := s17) (s18 := s18) h (by omega)
  have h10 : Dr ds (c + 10) := st h (by omega) (by omega)
  obtain ⟨t, u, e6, ht, hu⟩ := t6 (s0 := s0) (s3 := s3) (s4 := .dt (fr p)) (s5 := .dt (fr q)) (s6 := .dt (.list (tl p q))) (s7 := .dt (.int (p.1 * q.2 - q.1 * p.2))) (s8 := s8) (s9 := s9) (s10 := s10) (s11 := s11) (s12 := s12) (s13 := s13) (s14 := s14) (s15 := s15) (s16 := s16) (s17 := s17) (s18 := s18) h10 (by omega)
  have h12 : Dr ds (c + 10 + 2) := st h10 (by omega) (by omega)
  obtain ⟨f, e11, f0, f1⟩ := t11 (s0 := s0) (s3 := s3) (s4 := .dt (fr p)) (s5 := .dt (fr q)) (s6 := .dt (.list (tl p q))) (s7 := .dt (.int (p.1 * q.2 - q.1 * p.2))) (s8 := .dt (.int t)) (s9 := .dt (.int u)) (s10 := .dt (.bool (small p))) (s11 := .dt (.str (x0 p))) (s12 := s12) (s13 := s13) (s14 := s14) (s15 := s15) (s16 := s16) (s17 := s17) (s18 := s18) h12
  have h13 : Dr ds (c + 10 + 2 + 1) := st h12 (by omega) (by omega)
  obtain ⟨z, e12, hz⟩ := t12 (s0 := s0) (s3 := s3) (s4 := .dt (fr p)) (s5 := .dt (fr q)) (s6 := .dt (.list (tl p q))) (s7 := .dt (.int (p.1 * q.2 - q.1 * p.2))) (s10 := .dt (.bool (small p))) (s13 := s13) (s14 := s14) (s15 := s15) (s16 := s16) (s17 := s17) (s18 := s18) h13 (by omega) (x0_len sp) ht hu f0 f1
  have h17 : Dr ds (c + 10 + 2 + 1 + 4) := st h13 (by omega) (by omega)
  obtain ⟨w, e13, hw⟩ := t13 (s0 := s0) (s3 := s3) (s4 := .dt (fr p)) (s5 := .dt (fr q)) (s6 := .dt (.list (tl p q))) (s7 := .dt (.int (p.1 * q.2 - q.1 * p.2))) (s8 := .dt (.int t)) (s9 := .dt (.int u)) (s10 := .dt (.bool (small p))) (s12 := .dt (.int f)) (s13 := s13) (s14 := s14) (s15 := s15) (s16 := s16) (s17 := s17) (s18 := s18) h17 (by omega) hz
  have h21 : Dr ds (c + 10 + 2 + 1 + 4 + 4) := st h17 (by omega) (by omega)
  refine ⟨.dt (fr p), .dt (fr q), .dt (.list (tl p q)), .dt (.int (p.1 * q.2 - q.1 * p.2)), .dt (.int t), .dt (.int u), .dt (.bool (small p)), .dt (.str z), .dt (.int f), .dt (.str w), _, ?_, h21, by omega⟩
  unfold gTurn
  simp only [sSeq_, e1, bind_ok, t2 op oq bp bq, t3 bp bq, t4 _ rfl, t5 op oq bp bq, e6, t7 ht hu, t8 op, t9 op sp, t10 sp, e11, e12, e13, t14 (show z.length ≤ 600 by omega) (show w.length ≤ 600 by omega)]
/-! ### the law's end -/
def bads : List PyData := [.none, .int 1, .tuple [.int 1], .tuple [.int 2, .int 4], .tuple [.int 1, .int (-2)], .tuple [.int 0, .int 2], .tuple [.int 1, .int 0], .tuple [.bool true, .int 2], .tuple [.int 1, .int 2, .int 3], .list [.int 1, .int 2], .tuple [.str "1", .int 2]]
theorem bdk {n : Int} (h : n.natAbs < 100) : Bd 8000 n := Nat.lt_of_lt_of_le h (Nat.le_trans (show 100 ≤ 2 ^ 10 by decide) (Nat.pow_le_pow_right (by decide) (by decide)))
theorem isf_bad {d : PyData} (h : d ∈ bads) : m_is_fraction [.dt d] c = .ok (.bool false) c := by
  unfold bads at h
  simp only [List.mem_cons, List.not_mem_nil, or_false] at h
  rcases h with rfl | rfl | rfl | rfl | rfl | rfl | rfl | rfl | rfl | rfl | rfl
  · unfold m_is_fraction g_is_fraction; simp
  · unfold m_is_fraction g_is_fraction; simp
  · unfold m_is_fraction g_is_fraction; simp [ne_ii]
  · rw [e_is_fraction (bdk (by decide)) (bdk (by decide))]; rfl
  · rw [e_is_fraction (bdk (by decide)) (bdk (by decide))]; rfl
  · rw [e_is_fraction (bdk (by decide)) (bdk (by decide))]; rfl
  · rw [e_is_fraction (bdk (by decide)) (bdk (by decide))]; rfl
  · unfold m_is_fraction g_is_fraction; simp [ne_ii, e_is_integer]
  · unfold m_is_fraction g_is_fraction; simp [ne_ii]
  · unfold m_is_fraction g_is_fraction; simp
  · unfold m_is_fraction g_is_fraction; simp [ne_ii, e_is_integer]
theorem isf_11 : m_is_fraction [.dt (.tuple [.int 1, .int 1])] c = .ok (.bool true) c := by
  rw [e_is_fraction (bdk (by decide)) (bdk (by decide))]; rfl
theorem dem_l {d e : PyData} (h : d ∈ bads) : m_demand_two [.dt d, .dt e] c = .ex ⟨0, [.str "one"]⟩ c := by
  unfold m_demand_two g_demand_two
  simp [isf_bad h]
theorem dem_r {d : PyData} (h : d ∈ bads) : m_demand_two [.dt (.tuple [.int 1, .int 1]), .dt d] c = .ex ⟨0, [.str "other"]⟩ c := by
  unfold m_demand_two g_demand_two
  simp [isf_bad h, isf_11]
theorem five {x y r : PyData} (h : m_demand_two [.dt x, .dt y] c = .ex ⟨0, [r]⟩ c) (k : Nat) (h1 : 1 ≤ k) (h5 : k ≤ 5) : m__law_told [.dt (.int k), .dt x, .dt y] c = .ok (.tuple [.str "argument", r]) c := by
  match k, h1, h5 with
  | 1, _, _ => exact told_sel (k := 1) (by decide) rfl (by unfold m_plus g_plus; simp [h, told])
  | 2, _, _ => exact told_sel (k := 2) (by decide) rfl (by unfold m_minus g_minus; simp [h, told])
  | 3, _, _ => exact told_sel (k := 3) (by decide) rfl (by unfold m_times g_times; simp [h, told])
  | 4, _, _ => exact told_sel (k := 4) (by decide) rfl (by unfold m_over g_over; simp [h, told])
  | 5, _, _ => exact told_sel (k := 5) (by decide) rfl (by unfold m_compare g_compare; simp [h, told])
def tens : List PyData := List.replicate 5 (argD "one") ++ List.replicate 5 (argD "other")
theorem rng_16 : rng2 [.dt (.int 1), .dt (.int 6)] = some [.int 1, .int 2, .int 3, .int 4, .int 5] := rfl
theorem x1 (h : Dr ds c) : ∃ d ∈ bads, gE1 [s0, .dt (.list ds), .ce, s3, s4, s5, s6, s7, s8, s9, s10, s11, s12, s13, s14, s15, s16, s17, s18] c = .ok (.nx [s0, .dt (.list ds), .ce, s3, s4, s5, s6, s7, s8, s9, s10, s11, s12, s13, .dt d, s15, s16, s17, s18]) (c + 1) := by
  obtain ⟨d, hd, ed⟩ := one (rows := bads) h (by decide)
  refine ⟨d, hd, ?_⟩
  unfold bads at ed
  unfold gE1
  simp [line_ok, ed]
theorem x2 {d : PyData} (h : d ∈ bads) : gE2 [s0, .dt (.list ds), .ce, s3, s4, s5, s6, s7, s8, s9, s10, s11, s12, s13, .dt d, s15, s16, s17, s18] c = .ok (.nx [s0, .dt (.list ds), .ce, s3, s4, s5, s6, s7, s8, s9, s10, s11, s12, s13, .dt d, .dt (.list tens), s16, s17, s18]) c := by
  have a1 : m__law_told [.dt (.int 1), .dt d, .dt (.tuple [.int 1, .int 1])] c = _ := five (c := c) (dem_l h) 1 (by decide) (by decide)
  have a2 : m__law_told [.dt (.int 2), .dt d, .dt (.tuple [.int 1, .int 1])] c = _ := five (c := c) (dem_l h) 2 (by decide) (by decide)
  have a3 : m__law_told [.dt (.int 3), .dt d, .dt (.tuple [.int 1, .int 1])] c = _ := five (c := c) (dem_l h) 3 (by decide) (by decide)
  have a4 : m__law_told [.dt (.int 4), .dt d, .dt (.tuple [.int 1, .int 1])] c = _ := five (c := c) (dem_l h) 4 (by decide) (by decide)
  have a5 : m__law_told [.dt (.int 5), .dt d, .dt (.tuple [.int 1, .int 1])] c = _ := five (c := c) (dem_l h) 5 (by decide) (by decide)
  have b1 : m__law_told [.dt (.int 1), .dt (.tuple [.int 1, .int 1]), .dt d] c = _ := five (c := c) (dem_r h) 1 (by decide) (by decide)
  have b2 : m__law_told [.dt (.int 2), .dt (.tuple [.int 1, .int 1]), .dt d] c = _ := five (c := c) (dem_r h) 2 (by decide) (by decide)
  have b3 : m__law_told [.dt (.int 3), .dt (.tuple [.int 1, .int 1]), .dt d] c = _ := five (c := c) (dem_r h) 3 (by decide) (by decide)
  have b4 : m__law_told [.dt (.int 4), .dt (.tuple [.int 1, .int 1]), .dt d] c = _ := five (c := c) (dem_r h) 4 (by decide) (by decide)
  have b5 : m__law_told [.dt (.int 5), .dt (.tuple [.int 1, .int 1]), .dt d] c = _ := five (c := c) (dem_r h) 5 (by decide) (by decide)
  unfold gE2
  simp [lComp_, compD, rng_16, line_ok, a1, a2, a3, a4, a5, b1, b2, b3, b4, b5, add_ll, argD, List.replicate, tens]
theorem sh_ok {xs : List PyData} (h : ∀ x ∈ xs, Sh x) : dNe (.list xs) (.list xs) = some (.bool false) := ne_self (nc_list fun x hx => (h x hx).n) (by have := depth_list (k := 2) fun x hx => (h x hx).d; omega)
theorem sh_one : Sh (argD "one") := sh_arg (by decide +kernel) (by decide)
theorem sh_other : Sh (argD "other") := sh_arg (by decide +kernel) (by decide)
theorem x3 {d : PyData} (h : d ∈ bads) : gE3 [s0, .dt (.list ds), .ce, s3, s4, s5, s6, s7, s8, s9, s10, s11, s12, s13, .dt d, .dt (.list tens), s16, s17, s18] c = .ok (.nx [s0, .dt (.list ds), .ce, s3, s4, s5, s6, s7, s8, s9, s10, s11, s12, s13, .dt d, .dt (.list tens), s16, s17, s18]) c := by
  have b6 : m__law_told [.dt (.int 6), .dt d, .dt .none] c = .ok (argD "one") c := told_6 (by unfold m_opposite g_opposite; simp [dem_l h, told, argD])
  have b7 : m__law_told [.dt (.int 7), .dt d, .dt .none] c = .ok (argD "one") c := told_7 (by unfold m_write_fraction g_write_fraction m_is_small g_is_small; simp [isf_bad h, told, argD])
  have m5 : ∀ y : PyData, dMul (.list [y]) (.int 5) = some (.list (List.replicate 5 y)) := fun y => rfl
  have m2 : ∀ y : PyData, dMul (.list [y]) (.int 2) = some (.list [y, y]) := fun y => rfl
  have n1 := sh_ok (xs := tens) (by
    intro x hx
    unfold tens at hx
    rcases List.mem_append.mp hx with z | z
    · rw [List.eq_of_mem_replicate z]; exact sh_one
    · rw [List.eq_of_mem_replicate z]; exact sh_other)
  have n2 := sh_ok (xs := [argD "one", argD "one"]) (by
    intro x hx
    simp only [List.mem_cons, List.not_mem_nil, or_false] at hx
    rcases hx with rfl | rfl <;> exact sh_one)
  have e1 : ∀ x : Str, fDis mkTup (aCons (fC (.str "argument")) (aCons (fC (.str x)) aNil)) = fDis mkTup (aCons (fC (.str "argument")) (aCons (fC (.str x)) aNil)) := fun _ => rfl
  have al : dAdd (.list (List.replicate 5 (argD "one"))) (.list (List.replicate 5 (argD "other"))) = some (.list tens) := add_ll (by simp)
  unfold argD at b6 b7 n2 al
  unfold gE3
  simp only [sIf_, tOr_, tB1_, f2_, fNm_, fC_, fDis_, aCons_, aNil_, List.getElem?_cons_zero, List.getElem?_cons_succ, bind_ok, dts_1, dts_0, Option.map_some, mkTup_, mkLst_, List.length_cons, List.length_nil, lineOk_small (show 2 ≤ 1000 by decide), lineOk_small (show 1 ≤ 1000 by decide), if_true, ofO_some, m5, m2, al, n1, asB_, Bool.false_eq_true, if_false, fFz_, lComp_, lIt_, asSeq_t, compD, tNm_, tYs_, blkE_1, List.map_cons, hide_d, hide_c, List.set_cons_succ, List.set_cons_zero, fCall_, b6, b7, n2, sNx_, Nat.zero_add, Nat.reduceAdd]
def wrongs : List PyData := [.none, .bool true, .str "1", .tuple [.int 1, .int 1]]
theorem x4 (h : Dr ds c) : ∃ d ∈ wrongs, gE4 [s0, .dt (.list ds), .ce, s3, s4, s5, s6, s7, s8, s9, s10, s11, s12, s13, s14, s15, s16, s17, s18] c = .ok (.nx [s0, .dt (.list ds), .ce, s3, s4, s5, s6, s7, s8, s9, s10, s11, s12, s13, s14, s15, .dt d, s17, s18]) (c + 1) := by
  obtain ⟨d, hd, ed⟩ := one (rows := wrongs) h (by decide)
  refine ⟨d, hd, ?_⟩
  unfold wrongs at ed
  unfold gE4
  simp [line_ok, ed]
theorem int_wrong {d : PyData} (h : d ∈ wrongs) : m_is_integer [.dt d] c = .ok (.bool false) c := by
  rw [e_is_integer]
  unfold wrongs at h
  simp only [List.mem_cons, List.not_mem_nil, or_false] at h
  rcases h with rfl | rfl | rfl | rfl <;> simp
theorem x5 {d : PyData} (h : d ∈ wrongs) : gE5 [s0, .dt (.list ds), .ce, s3, s4, s5, s6, s7, s8, s9, s10, s11, s12, s13, s14, s15, .dt d, s17, s18] c = .ok (.nx [s0, .dt (.list ds), .ce, s3, s4, s5, s6, s7, s8, s9, s10, s11, s12, s13, s14, s15, .dt d, s17, s18]) c := by
  have b1 : m__law_told [.dt (.int 0), .dt d, .dt (.int 1)] c = .ok (argD "top") c := told_sel (k := 0) (by decide) rfl (by unfold m_fraction g_fraction; simp [int_wrong h, told, argD])
  have b2 : m__law_told [.dt (.int 0), .dt (.int 1), .dt d] c = .ok (argD "under") c := told_sel (k := 0) (by decide) rfl (by unfold m_fraction g_fraction; simp [int_wrong h, e_is_integer, told, argD])
  have b3 : m__law_told [.dt (.int 0), .dt (.int 1), .dt (.int 0)] c = .ok (argD "under") c := told_sel (k := 0) (by decide) rfl (by unfold m_fraction g_fraction; simp [e_is_integer, told, argD])
  have n1 := sh_ok (xs := [argD "top", argD "under", argD "under"]) (by
    intro x hx
    simp only [List.mem_cons, List.not_mem_nil, or_false] at hx
    rcases hx with rfl | rfl | rfl <;> exact sh_arg (by decide +kernel) (by decide))
  unfold argD at b1 b2 b3 n1
  unfold gE5
  simp [b1, b2, b3, line_ok, n1]
theorem x6 : gE6 [s0, .dt (.list ds), .ce, s3, s4, s5, s6, s7, s8, s9, s10, s11, s12, s13, s14, s15, s16, s17, s18] c = .ok (.rt (.bool true)) c := by
  have rf : ∀ d : PyData, isT "str" d = false → m__law_told [.dt (.int 8), .dt d, .dt .none] c = .ok (.tuple [.str "at", .int 0]) c := fun d hd => told_8 (by unfold m_read_fraction g_read_fraction; simp [hd, told])
  have r1 := rf .none (by decide)
  have r2 := rf (.int 7) (by decide)
  have r3 := rf (.tuple [.str "1"]) (by decide)
  have r4 := rf (.bool true) (by decide)
  have m4 : ∀ y : PyData, dMul (.list [y]) (.int 4) = some (.list [y, y, y, y]) := fun y => rfl
  have q1 : dEq (.list [.tuple [.str "at", .int 0], .tuple [.str "at", .int 0], .tuple [.str "at", .int 0], .tuple [.str "at", .int 0]]) (.list [.tuple [.str "at", .int 0], .tuple [.str "at", .int 0], .tuple [.str "at", .int 0], .tuple [.str "at", .int 0]]) = some (.bool true) :=
    eq_self (nc_list fun x hx => by simp only [List.mem_cons, List.not_mem_nil, or_false, or_self] at hx; subst hx; exact nc_at (n := 0) (by decide)) (by decide)
  unfold gE6
  simp [lComp_, compD, line_ok, r1, r2, r3, r4, m4, q1]
end
theorem turns {ds : List PyData} {is : List Int} : ∀ (xs : List PyData) (c : Int) (s3 s4 s5 s6 s7 s8 s9 s10 s11 s12 s13 s14 s15 s16 s17 s18 : Sl), Dr ds c → c + 21 * xs.length < 1000000 → ∃ (t3 t4 t5 t6 t7 t8 t9 t10 t11 t12 t13 : Sl) (c' : Int), forD (tNm 3) gTurn xs [.sc is, .dt (.list ds), .ce, s3, s4, s5, s6, s7, s8, s9, s10, s11, s12, s13, s14, s15, s16, s17, s18] c = .ok (.nx [.sc is, .dt (.list ds), .ce, t3, t4, t5, t6, t7, t8, t9, t10, t11, t12, t13, s14, s15, s16, s17, s18]) c' ∧ Dr ds c' ∧ c' < 1000000
  | [], c, s3, s4, s5, s6, s7, s8, s9, s10, s11, s12, s13, s14, s15, s16, s17, s18, h, hc => ⟨s3, s4, s5, s6, s7, s8, s9, s10, s11, s12, s13, c, rfl, h, by simpa using hc⟩
  | x :: xs, c, s3, s4, s5, s6, s7, s8, s9, s10, s11, s12, s13, s14, s15, s16, s17, s18, h, hc => by
    rw [List.length_cons] at hc
    obtain ⟨t4, t5, t6, t7, t8, t9, t10, t11, t12, t13, c1, e1, h1, rfl⟩ := turn (s0 := .sc is) (s3 := .dt x) (s4 := s4) (s5 := s5) (s6 := s6) (s7 := s7) (s8 := s8) (s9 := s9) (s10 := s10) (s11 := s11) (s12 := s12) (s13 := s13) (s14 := s14) (s15 := s15) (s16 := s16) (s17 := s17) (s18 := s18) h (by omega)
    obtain ⟨u3, u4, u5, u6, u7, u8, u9, u10, u11, u12, u13, c2, e2, h2, h3⟩ := turns xs (c + 21) (.dt x) t4 t5 t6 t7 t8 t9 t10 t11 t12 t13 s14 s15 s16 s17 s18 h1 (by omega)
    refine ⟨u3, u4, u5, u6, u7, u8, u9, u10, u11, u12, u13, c2, ?_, h2, h3⟩
    rw [forD, tNm_]
    simp only [List.set_cons_succ, List.set_cons_zero, e1, bind_ok]
    exact e2
theorem law_true : ∀ is : List Int, is.length ≤ 63 → ∃ c, m_law [.sc is] 0 = .ok (.bool true) c := by
  intro is hl
  obtain ⟨ds, ed, hd, hlen⟩ := e_law_draws (c := 0) hl
  have h0 : Dr ds 0 := ⟨hd, by omega, by decide, by decide⟩
  obtain ⟨t3, t4, t5, t6, t7, t8, t9, t10, t11, t12, t13, c1, e1, h1, hc1⟩ := turns (is := is) (rngD 0 5) 0 .un .un .un .un .un .un .un .un .un .un .un .un .un .un .un .un h0 (by rw [rngD_length]; decide)
  obtain ⟨d, hd1, x1'⟩ := x1 (s0 := .sc is) (s3 := t3) (s4 := t4) (s5 := t5) (s6 := t6) (s7 := t7) (s8 := t8) (s9 := t9) (s10 := t10) (s11 := t11) (s12 := t12) (s13 := t13) (s14 := .un) (s15 := .un) (s16 := .un) (s17 := .un) (s18 := .un) h1
  have h2 := h1.s (by omega)
  obtain ⟨w, hw, x4'⟩ := x4 (s0 := .sc is) (s3 := t3) (s4 := t4) (s5 := t5) (s6 := t6) (s7 := t7) (s8 := t8) (s9 := t9) (s10 := t10) (s11 := t11) (s12 := t12) (s13 := t13) (s14 := .dt d) (s15 := .dt (.list tens)) (s16 := .un) (s17 := .un) (s18 := .un) h2
  have er : rng1 [.dt (.int 5)] = some (rngD 0 5) := rfl
  have e : m_law = mOf 19 (sSeq (sSet 1 (fCall m__law_draws (aSc 0 aNil))) (sCel 2 (sSeq (sFor (lRng rng1 (aCons (fC (.int 5)) aNil)) (tNm 3) gTurn) (sSeq gE1 (sSeq gE2 (sSeq gE3 (sSeq gE4 (sSeq gE5 gE6)))))))) := rfl
  refine ⟨0, ?_⟩
  rw [e, mOf_]
  simp only [List.length_cons, List.length_nil, List.replicate, List.cons_append, List.nil_append, sSeq_, sSet_, fCall_, aSc_, aNil_, List.getElem?_cons_zero, bind_ok, ed, List.set_cons_succ, List.set_cons_zero, sCel_, blkE_0, List.map_cons, List.map_nil, hide_s, hide_d, hide_u, sFor_, lRng_, aCons_, fC_, ofO_some, er, e1, x1', x2 hd1, x3 hd1, x4', x5 hw, x6]
end K01

set_option Elab.async false
set_option linter.all false
set_option maxRecDepth 100000
set_option maxHeartbeats 4000000
namespace K01
open PySem PySem.Spec PyProof.Rows L2 L2.DL

def topS (i : Nat) : Stmt := PySem.Challenge.pw_leastawry_k01_whole_fractions.main.body.getD i (.Pass ⟨0, 0, 0, 0⟩)
section
variable {P : Program} {w : World} {K : PySem.W.Frag} {mg : Str → Option Value} {base : Heap} {C : Option Addr} {C_AwryError I_AwryError C_ReasonError I_ReasonError C_ArgumentError I_ArgumentError C_TextError I_TextError : Addr}
theorem sc_is_integer : FnScope ["value"] ["value"] (defScope (topS 8)) := ⟨rfl, rfl, rfl, by decide +kernel, rfl, by decide +kernel, by decide +kernel⟩
theorem kn_is_integer {f_ : Addr} {fd_ : FuncData} (F_ : Fun K "is_integer" "is_integer" (topS 8) f_ fd_) (h_ : mg "is_integer" = some (.ref f_)) (z_isinstance : mg "isinstance" = none) (z_int : mg "int" = none) (z_bool : mg "bool" = none) : Kn P w K mg base C [⟨C_ArgumentError, ["reason"]⟩, ⟨C_TextError, ["at"]⟩] "is_integer" 1 1 m_is_integer :=
  kn_of (ps := ["value"]) F_ h_ (F_.binds fun _ _ _ _ _ _ us hl => match us, hl with | [_], _ => rfl) sc_is_integer fun cdv A outer s H E B Z =>
  (dss_one (ds_ret (de_an Z.hk (de_isi (T := "int") (by decide) Z.hk (by rfl) z_isinstance (by rfl) z_int (by decide +kernel) (de_nm 0 (pv 0))) (de_one (de_not Z.hk (de_isi (T := "bool") (by decide) Z.hk (by rfl) z_isinstance (by rfl) z_bool (by decide +kernel) (de_nm 0 (pv 0))))))))
theorem sc_common : FnScope ["one", "other"] ["one", "other"] (defScope (topS 9)) := ⟨rfl, rfl, rfl, by decide +kernel, rfl, by decide +kernel, by decide +kernel⟩
theorem kn_common {f_ : Addr} {fd_ : FuncData} (F_ : Fun K "common" "common" (topS 9) f_ fd_) (h_ : mg "common" = some (.ref f_)) (z_abs : mg "abs" = none) : Kn P w K mg base C [⟨C_ArgumentError, ["reason"]⟩, ⟨C_TextError, ["at"]⟩] "common" 1 2 m_common :=
  kn_of (ps := ["one", "other"]) F_ h_ (F_.binds fun _ _ _ _ _ _ us hl => match us, hl with | [_, _], _ => rfl) sc_common fun cdv A outer s H E B Z =>
  (dss_cons (ds_par (i := 0) (j := 1) Z.calm Z.nd rfl rfl (by decide) (by rfl) (by rfl) (de_bi vcl_abs (by rfl) z_abs (by decide +kernel) (da_cons (de_nm 0 (pv 0)) da_nil)) (de_bi vcl_abs (by rfl) z_abs (by decide +kernel) (da_cons (de_nm 1 (pv 1)) da_nil)) (by rfl))
  (dss_cons (ds_while Z (dt_tr Z.hk (de_nm 1 (pv 1))) (dss_one (ds_par (i := 0) (j := 1) Z.calm Z.nd rfl rfl (by decide) (by rfl) (by rfl) (de_nm 1 (pv 1)) (de_op vop_sub (de_nm 0 (pv 0)) (de_op vop_mul (de_op vop_div (de_nm 0 (pv 0)) (de_nm 1 (pv 1))) (de_nm 1 (pv 1)))) (by rfl))))
  (dss_one (ds_ret (de_nm 0 (pv 0))))))
theorem sc_made : FnScope ["top", "under", "part"] ["top", "under"] (defScope (topS 10)) := ⟨rfl, rfl, rfl, by decide +kernel, rfl, by decide +kernel, by decide +kernel⟩
theorem kn_made {f_ : Addr} {fd_ : FuncData} (F_ : Fun K "made" "made" (topS 10) f_ fd_) (h_ : mg "made" = some (.ref f_)) (G_common : Kn P w K mg base C [⟨C_ArgumentError, ["reason"]⟩, ⟨C_TextError, ["at"]⟩] "common" 1 2 m_common) : Kn P w K mg base C [⟨C_ArgumentError, ["reason"]⟩, ⟨C_TextError, ["at"]⟩] "made" 2 2 m_made :=
  kn_of (ps := ["top", "under"]) F_ h_ (F_.binds fun _ _ _ _ _ _ us hl => match us, hl with | [_, _], _ => rfl) sc_made fun cdv A outer s H E B Z =>
  (dss_cons (ds_if (dt_cmp vop_lt (nomark _) (de_nm 1 (pv 1)) de_int) (dss_one (ds_par (i := 0) (j := 1) Z.calm Z.nd rfl rfl (by decide) (by rfl) (by rfl) (de_op vop_sub de_int (de_nm 0 (pv 0))) (de_op vop_sub de_int (de_nm 1 (pv 1))) (by rfl)))
  dss_nil)
  (dss_cons (ds_set (i := 2) Z.nd rfl (by first | exact .inl rfl | exact .inr rfl) (de_call Z G_common (by decide) (by rfl) (falen_cons (falen_cons falen_nil)) (da_cons (de_nm 0 (pv 0)) (da_cons (de_nm 1 (pv 1)) da_nil))))
  (dss_one (ds_ret (de_tup (da_cons (de_op vop_div (de_nm 0 (pv 0)) (de_nm 2 (pv 2))) (da_cons (de_op vop_div (de_nm 1 (pv 1)) (de_nm 2 (pv 2))) da_nil)))))))
theorem sc_is_fraction : FnScope ["value"] ["value"] (defScope (topS 11)) := ⟨rfl, rfl, rfl, by decide +kernel, rfl, by decide +kernel, by decide +kernel⟩
theorem kn_is_fraction {f_ : Addr} {fd_ : FuncData} (F_ : Fun K "is_fraction" "is_fraction" (topS 11) f_ fd_) (h_ : mg "is_fraction" = some (.ref f_)) (G_is_integer : Kn P w K mg base C [⟨C_ArgumentError, ["reason"]⟩, ⟨C_TextError, ["at"]⟩] "is_integer" 1 1 m_is_integer) (G_common : Kn P w K mg base C [⟨C_ArgumentError, ["reason"]⟩, ⟨C_TextError, ["at"]⟩] "common" 1 2 m_common) (z_isinstance : mg "isinstance" = none) (z_tuple : mg "tuple" = none) (z_len : mg "len" = none) : Kn P w K mg base C [⟨C_ArgumentError, ["reason"]⟩, ⟨C_TextError, ["at"]⟩] "is_fraction" 2 1 m_is_fraction :=
  kn_of (ps := ["value"]) F_ h_ (F_.binds fun _ _ _ _ _ _ us hl => match us, hl with | [_], _ => rfl) sc_is_fraction fun cdv A outer s H E B Z =>
  (dss_cons (ds_if (PW.pt (dw_or (dt_not (dt_tr Z.hk (de_isi (T := "tuple") (by decide) Z.hk (by rfl) z_isinstance (by rfl) z_tuple (by decide +kernel) (de_nm 0 (pv 0))))) (dw_or (dt_cmp (vop_ne Z.h64) (nomark _) (de_bi vcl_len (by rfl) z_len (by decide +kernel) (da_cons (de_nm 0 (pv 0)) da_nil)) de_int) (dw_or (dt_not (dt_tr Z.hk (de_call Z G_is_integer (by decide) (by rfl) (falen_cons falen_nil) (da_cons (de_ix vix (fun _ _ => rfl) (de_nm 0 (pv 0)) de_int) da_nil)))) (dw_or1 (dt_not (dt_tr Z.hk (de_call Z G_is_integer (by decide) (by rfl) (falen_cons falen_nil) (da_cons (de_ix vix (fun _ _ => rfl) (de_nm 0 (pv 0)) de_int) da_nil))))))))) (dss_one (ds_ret de_bl))
  dss_nil)
  (dss_one (ds_ret (de_an Z.hk (de_cmp vop_gt (nomark _) (de_ix vix (fun _ _ => rfl) (de_nm 0 (pv 0)) de_int) de_int) (de_one (de_cmp (vop_eq Z.h64) (nomark _) (de_call Z G_common (by decide) (by rfl) (falen_cons (falen_cons falen_nil)) (da_cons (de_ix vix (fun _ _ => rfl) (de_nm 0 (pv 0)) de_int) (da_cons (de_ix vix (fun _ _ => rfl) (de_nm 0 (pv 0)) de_int) da_nil))) de_int))))))
theorem sc_is_small : FnScope ["value"] ["value"] (defScope (topS 12)) := ⟨rfl, rfl, rfl, by decide +kernel, rfl, by decide +kernel, by decide +kernel⟩
theorem kn_is_small {f_ : Addr} {fd_ : FuncData} (F_ : Fun K "is_small" "is_small" (topS 12) f_ fd_) (h_ : mg "is_small" = some (.ref f_)) (G_is_fraction : Kn P w K mg base C [⟨C_ArgumentError, ["reason"]⟩, ⟨C_TextError, ["at"]⟩] "is_fraction" 2 1 m_is_fraction) (z_abs : mg "abs" = none) {k_MAX_PART : Tok} (c_MAX_PART : mg "MAX_PART" = some (.int 1000000 k_MAX_PART)) : Kn P w K mg base C [⟨C_ArgumentError, ["reason"]⟩, ⟨C_TextError, ["at"]⟩] "is_small" 3 1 m_is_small :=
  kn_of (ps := ["value"]) F_ h_ (F_.binds fun _ _ _ _ _ _ us hl => match us, hl with | [_], _ => rfl) sc_is_small fun cdv A outer s H E B Z =>
  (dss_one (ds_ret (de_an Z.hk (de_call Z G_is_fraction (by decide) (by rfl) (falen_cons falen_nil) (da_cons (de_nm 0 (pv 0)) da_nil)) (de_an Z.hk (de_cmp vop_le (nomark _) (de_bi vcl_abs (by rfl) z_abs (by decide +kernel) (da_cons (de_ix vix (fun _ _ => rfl) (de_nm 0 (pv 0)) de_int) da_nil)) (de_gi (by rfl) c_MAX_PART)) (de_one (de_cmp vop_le (nomark _) (de_ix vix (fun _ _ => rfl) (de_nm 0 (pv 0)) de_int) (de_gi (by rfl) c_MAX_PART)))))))
theorem sc_added : FnScope ["one", "other"] ["one", "other"] (defScope (topS 13)) := ⟨rfl, rfl, rfl, by decide +kernel, rfl, by decide +kernel, by decide +kernel⟩
theorem kn_added {f_ : Addr} {fd_ : FuncData} (F_ : Fun K "added" "added" (topS 13) f_ fd_) (h_ : mg "added" = some (.ref f_)) (G_made : Kn P w K mg base C [⟨C_ArgumentError, ["reason"]⟩, ⟨C_TextError, ["at"]⟩] "made" 2 2 m_made) : Kn P w K mg base C [⟨C_ArgumentError, ["reason"]⟩, ⟨C_TextError, ["at"]⟩] "added" 3 2 m_added :=
  kn_of (ps := ["one", "other"]) F_ h_ (F_.binds fun _ _ _ _ _ _ us hl => match us, hl with | [_, _], _ => rfl) sc_added fun cdv A outer s H E B Z =>
  (dss_one (ds_ret (de_call Z G_made (by decide) (by rfl) (falen_cons (falen_cons falen_nil)) (da_cons (de_op vop_add (de_op vop_mul (de_ix vix (fun _ _ => rfl) (de_nm 0 (pv 0)) de_int) (de_ix vix (fun _ _ => rfl) (de_nm 1 (pv 1)) de_int)) (de_op vop_mul (de_ix vix (fun _ _ => rfl) (de_nm 1 (pv 1)) de_int) (de_ix vix (fun _ _ => rfl) (de_nm 0 (pv 0)) de_int))) (da_cons (de_op vop_mul (de_ix vix (fun _ _ => rfl) (de_nm 0 (pv 0)) de_int) (de_ix vix (fun _ _ => rfl) (de_nm 1 (pv 1)) de_int)) da_nil)))))
theorem sc_lessened : FnScope ["one", "other"] ["one", "other"] (defScope (topS 14)) := ⟨rfl, rfl, rfl, by decide +kernel, rfl, by decide +kernel, by decide +kernel⟩
theorem kn_lessened {f_ : Addr} {fd_ : FuncData} (F_ : Fun K "lessened" "lessened" (topS 14) f_ fd_) (h_ : mg "lessened" = some (.ref f_)) (G_made : Kn P w K mg base C [⟨C_ArgumentError, ["reason"]⟩, ⟨C_TextError, ["at"]⟩] "made" 2 2 m_made) : Kn P w K mg base C [⟨C_ArgumentError, ["reason"]⟩, ⟨C_TextError, ["at"]⟩] "lessened" 3 2 m_lessened :=
  kn_of (ps := ["one", "other"]) F_ h_ (F_.binds fun _ _ _ _ _ _ us hl => match us, hl with | [_, _], _ => rfl) sc_lessened fun cdv A outer s H E B Z =>
  (dss_one (ds_ret (de_call Z G_made (by decide) (by rfl) (falen_cons (falen_cons falen_nil)) (da_cons (de_op vop_sub (de_op vop_mul (de_ix vix (fun _ _ => rfl) (de_nm 0 (pv 0)) de_int) (de_ix vix (fun _ _ => rfl) (de_nm 1 (pv 1)) de_int)) (de_op vop_mul (de_ix vix (fun _ _ => rfl) (de_nm 1 (pv 1)) de_int) (de_ix vix (fun _ _ => rfl) (de_nm 0 (pv 0)) de_int))) (da_cons (de_op vop_mul (de_ix vix (fun _ _ => rfl) (de_nm 0 (pv 0)) de_int) (de_ix vix (fun _ _ => rfl) (de_nm 1 (pv 1)) de_int)) da_nil)))))
theorem sc_multiplied : FnScope ["one", "other"] ["one", "other"] (defScope (topS 15)) := ⟨rfl, rfl, rfl, by decide +kernel, rfl, by decide +kernel, by decide +kernel⟩
theorem kn_multiplied {f_ : Addr} {fd_ : FuncData} (F_ : Fun K "multiplied" "multiplied" (topS 15) f_ fd_) (h_ : mg "multiplied" = some (.ref f_)) (G_made : Kn P w K mg base C [⟨C_ArgumentError, ["reason"]⟩, ⟨C_TextError, ["at"]⟩] "made" 2 2 m_made) : Kn P w K mg base C [⟨C_ArgumentError, ["reason"]⟩, ⟨C_TextError, ["at"]⟩] "multiplied" 3 2 m_multiplied :=
  kn_of (ps := ["one", "other"]) F_ h_ (F_.binds fun _ _ _ _ _ _ us hl => match us, hl with | [_, _], _ => rfl) sc_multiplied fun cdv A outer s H E B Z =>
  (dss_one (ds_ret (de_call Z G_made (by decide) (by rfl) (falen_cons (falen_cons falen_nil)) (da_cons (de_op vop_mul (de_ix vix (fun _ _ => rfl) (de_nm 0 (pv 0)) de_int) (de_ix vix (fun _ _ => rfl) (de_nm 1 (pv 1)) de_int)) (da_cons (de_op vop_mul (de_ix vix (fun _ _ => rfl) (de_nm 0 (pv 0)) de_int) (de_ix vix (fun _ _ => rfl) (de_nm 1 (pv 1)) de_int)) da_nil)))))
theorem sc_divided : FnScope ["one", "other"] ["one", "other"] (defScope (topS 16)) := ⟨rfl, rfl, rfl, by decide +kernel, rfl, by decide +kernel, by decide +kernel⟩
theorem kn_divided {f_ : Addr} {fd_ : FuncData} (F_ : Fun K "divided" "divided" (topS 16) f_ fd_) (h_ : mg "divided" = some (.ref f_)) (G_made : Kn P w K mg base C [⟨C_ArgumentError, ["reason"]⟩, ⟨C_TextError, ["at"]⟩] "made" 2 2 m_made) : Kn P w K mg base C [⟨C_ArgumentError, ["reason"]⟩, ⟨C_TextError, ["at"]⟩] "divided" 3 2 m_divided :=
  kn_of (ps := ["one", "other"]) F_ h_ (F_.binds fun _ _ _ _ _ _ us hl => match us, hl with | [_, _], _ => rfl) sc_divided fun cdv A outer s H E B Z =>
  (dss_one (ds_ret (de_call Z G_made (by decide) (by rfl) (falen_cons (falen_cons falen_nil)) (da_cons (de_op vop_mul (de_ix vix (fun _ _ => rfl) (de_nm 0 (pv 0)) de_int) (de_ix vix (fun _ _ => rfl) (de_nm 1 (pv 1)) de_int)) (da_cons (de_op vop_mul (de_ix vix (fun _ _ => rfl) (de_nm 0 (pv 0)) de_int) (de_ix vix (fun _ _ => rfl) (de_nm 1 (pv 1)) de_int)) da_nil)))))
theorem sc_negated : FnScope ["one"] ["one"] (defScope (topS 17)) := ⟨rfl, rfl, rfl, by decide +kernel, rfl, by decide +kernel, by decide +kernel⟩
theorem kn_negated {f_ : Addr} {fd_ : FuncData} (F_ : Fun K "negated" "negated" (topS 17) f_ fd_) (h_ : mg "negated" = some (.ref f_))  : Kn P w K mg base C [⟨C_ArgumentError, ["reason"]⟩, ⟨C_TextError, ["at"]⟩] "negated" 1 1 m_negated :=
  kn_of (ps := ["one"]) F_ h_ (F_.binds fun _ _ _ _ _ _ us hl => match us, hl with | [_], _ => rfl) sc_negated fun cdv A outer s H E B Z =>
  (dss_one (ds_ret (de_tup (da_cons (de_op vop_sub de_int (de_ix vix (fun _ _ => rfl) (de_nm 0 (pv 0)) de_int)) (da_cons (de_ix vix (fun _ _ => rfl) (de_nm 0 (pv 0)) de_int) da_nil)))))
theorem sc_is_less : FnScope ["one", "other"] ["one", "other"] (defScope (topS 18)) := ⟨rfl, rfl, rfl, by decide +kernel, rfl, by decide +kernel, by decide +kernel⟩
theorem kn_is_less {f_ : Addr} {fd_ : FuncData} (F_ : Fun K "is_less" "is_less" (topS 18) f_ fd_) (h_ : mg "is_less" = some (.ref f_))  : Kn P w K mg base C [⟨C_ArgumentError, ["reason"]⟩, ⟨C_TextError, ["at"]⟩] "is_less" 1 2 m_is_less :=
  kn_of (ps := ["one", "other"]) F_ h_ (F_.binds fun _ _ _ _ _ _ us hl => match us, hl with | [_, _], _ => rfl) sc_is_less fun cdv A outer s H E B Z =>
  (dss_one (ds_ret (de_cmp vop_lt (nomark _) (de_op vop_mul (de_ix vix (fun _ _ => rfl) (de_nm 0 (pv 0)) de_int) (de_ix vix (fun _ _ => rfl) (de_nm 1 (pv 1)) de_int)) (de_op vop_mul (de_ix vix (fun _ _ => rfl) (de_nm 1 (pv 1)) de_int) (de_ix vix (fun _ _ => rfl) (de_nm 0 (pv 0)) de_int)))))
theorem sc_demand_two : FnScope ["one", "other"] ["one", "other"] (defScope (topS 19)) := ⟨rfl, rfl, rfl, by decide +kernel, rfl, by decide +kernel, by decide +kernel⟩
theorem kn_demand_two {f_ : Addr} {fd_ : FuncData} (F_ : Fun K "demand_two" "demand_two" (topS 19) f_ fd_) (h_ : mg "demand_two" = some (.ref f_)) (G_is_fraction : Kn P w K mg base C [⟨C_ArgumentError, ["reason"]⟩, ⟨C_TextError, ["at"]⟩] "is_fraction" 2 1 m_is_fraction) (t_ArgumentError : PySem.AwX.XTxt P K mg "ArgumentError" C_ArgumentError I_ArgumentError "reason") : Kn P w K mg base C [⟨C_ArgumentError, ["reason"]⟩, ⟨C_TextError, ["at"]⟩] "demand_two" 3 2 m_demand_two :=
  kn_of (ps := ["one", "other"]) F_ h_ (F_.binds fun _ _ _ _ _ _ us hl => match us, hl with | [_, _], _ => rfl) sc_demand_two fun cdv A outer s H E B Z =>
  (dss_cons (ds_if (dt_not (dt_tr Z.hk (de_call Z G_is_fraction (by decide) (by rfl) (falen_cons falen_nil) (da_cons (de_nm 0 (pv 0)) da_nil)))) (dss_one (ds_raise (n := 0) Z t_ArgumentError PySem.AwX.nm_reason rfl de_str (by rfl)))
  dss_nil)
  (dss_one (ds_if (dt_not (dt_tr Z.hk (de_call Z G_is_fraction (by decide) (by rfl) (falen_cons falen_nil) (da_cons (de_nm 1 (pv 1)) da_nil)))) (dss_one (ds_raise (n := 0) Z t_ArgumentError PySem.AwX.nm_reason rfl de_str (by rfl)))
  dss_nil)))
theorem sc_fraction : FnScope ["top", "under"] ["top", "under"] (defScope (topS 20)) := ⟨rfl, rfl, rfl, by decide +kernel, rfl, by decide +kernel, by decide +kernel⟩
theorem kn_fraction {f_ : Addr} {fd_ : FuncData} (F_ : Fun K "fraction" "fraction" (topS 20) f_ fd_) (h_ : mg "fraction" = some (.ref f_)) (G_is_integer : Kn P w K mg base C [⟨C_ArgumentError, ["reason"]⟩, ⟨C_TextError, ["at"]⟩] "is_integer" 1 1 m_is_integer) (G_made : Kn P w K mg base C [⟨C_ArgumentError, ["reason"]⟩, ⟨C_TextError, ["at"]⟩] "made" 2 2 m_made) (t_ArgumentError : PySem.AwX.XTxt P K mg "ArgumentError" C_ArgumentError I_ArgumentError "reason") : Kn P w K mg base C [⟨C_ArgumentError, ["reason"]⟩, ⟨C_TextError, ["at"]⟩] "fraction" 3 2 m_fraction :=
  kn_of (ps := ["top", "under"]) F_ h_ (F_.binds fun _ _ _ _ _ _ us hl => match us, hl with | [_, _], _ => rfl) sc_fraction fun cdv A outer s H E B Z =>
  (dss_cons (ds_if (dt_not (dt_tr Z.hk (de_call Z G_is_integer (by decide) (by rfl) (falen_cons falen_nil) (da_cons (de_nm 0 (pv 0)) da_nil)))) (dss_one (ds_raise (n := 0) Z t_ArgumentError PySem.AwX.nm_reason rfl de_str (by rfl)))
  dss_nil)
  (dss_cons (ds_if (PW.pt (dw_or (dt_not (dt_tr Z.hk (de_call Z G_is_integer (by decide) (by rfl) (falen_cons falen_nil) (da_cons (de_nm 1 (pv 1)) da_nil)))) (dw_or1 (dt_not (dt_tr Z.hk (de_nm 1 (pv 1))))))) (dss_one (ds_raise (n := 0) Z t_ArgumentError PySem.AwX.nm_reason rfl de_str (by rfl)))
  dss_nil)
  (dss_one (ds_ret (de_call Z G_made (by decide) (by rfl) (falen_cons (falen_cons falen_nil)) (da_cons (de_nm 0 (pv 0)) (da_cons (de_nm 1 (pv 1)) da_nil)))))))
theorem sc_plus : FnScope ["one", "other"] ["one", "other"] (defScope (topS 21)) := ⟨rfl, rfl, rfl, by decide +kernel, rfl, by decide +kernel, by decide +kernel⟩
theorem kn_plus {f_ : Addr} {fd_ : FuncData} (F_ : Fun K "plus" "plus" (topS 21) f_ fd_) (h_ : mg "plus" = some (.ref f_)) (G_demand_two : Kn P w K mg base C [⟨C_ArgumentError, ["reason"]⟩, ⟨C_TextError, ["at"]⟩] "demand_two" 3 2 m_demand_two) (G_added : Kn P w K mg base C [⟨C_ArgumentError, ["reason"]⟩, ⟨C_TextError, ["at"]⟩] "added" 3 2 m_added) : Kn P w K mg base C [⟨C_ArgumentError, ["reason"]⟩, ⟨C_TextError, ["at"]⟩] "plus" 4 2 m_plus :=
  kn_of (ps := ["one", "other"]) F_ h_ (F_.binds fun _ _ _ _ _ _ us hl => match us, hl with | [_, _], _ => rfl) sc_plus fun cdv A outer s H E B Z =>
  (dss_cons (ds_expr (de_call Z G_demand_two (by decide) (by rfl) (falen_cons (falen_cons falen_nil)) (da_cons (de_nm 0 (pv 0)) (da_cons (de_nm 1 (pv 1)) da_nil))))
  (dss_one (ds_ret (de_call Z G_added (by decide) (by rfl) (falen_cons (falen_cons falen_nil)) (da_cons (de_nm 0 (pv 0)) (da_cons (de_nm 1 (pv 1)) da_nil))))))
theorem sc_minus : FnScope ["one", "other"] ["one", "other"] (defScope (topS 22)) := ⟨rfl, rfl, rfl, by decide +kernel, rfl, by decide +kernel, by decide +kernel⟩
theorem kn_minus {f_ : Addr} {fd_ : FuncData} (F_ : Fun K "minus" "minus" (topS 22) f_ fd_) (h_ : mg "minus" = some (.ref f_)) (G_demand_two : Kn P w K mg base C [⟨C_ArgumentError, ["reason"]⟩, ⟨C_TextError, ["at"]⟩] "demand_two" 3 2 m_demand_two) (G_lessened : Kn P w K mg base C [⟨C_ArgumentError, ["reason"]⟩, ⟨C_TextError, ["at"]⟩] "lessened" 3 2 m_lessened) : Kn P w K mg base C [⟨C_ArgumentError, ["reason"]⟩, ⟨C_TextError, ["at"]⟩] "minus" 4 2 m_minus :=
  kn_of (ps := ["one", "other"]) F_ h_ (F_.binds fun _ _ _ _ _ _ us hl => match us, hl with | [_, _], _ => rfl) sc_minus fun cdv A outer s H E B Z =>
  (dss_cons (ds_expr (de_call Z G_demand_two (by decide) (by rfl) (falen_cons (falen_cons falen_nil)) (da_cons (de_nm 0 (pv 0)) (da_cons (de_nm 1 (pv 1)) da_nil))))
  (dss_one (ds_ret (de_call Z G_lessened (by decide) (by rfl) (falen_cons (falen_cons falen_nil)) (da_cons (de_nm 0 (pv 0)) (da_cons (de_nm 1 (pv 1)) da_nil))))))
theorem sc_times : FnScope ["one", "other"] ["one", "other"] (defScope (topS 23)) := ⟨rfl, rfl, rfl, by decide +kernel, rfl, by decide +kernel, by decide +kernel⟩
theorem kn_times {f_ : Addr} {fd_ : FuncData} (F_ : Fun K "times" "times" (topS 23) f_ fd_) (h_ : mg "times" = some (.ref f_)) (G_demand_two : Kn P w K mg base C [⟨C_ArgumentError, ["reason"]⟩, ⟨C_TextError, ["at"]⟩] "demand_two" 3 2 m_demand_two) (G_multiplied : Kn P w K mg base C [⟨C_ArgumentError, ["reason"]⟩, ⟨C_TextError, ["at"]⟩] "multiplied" 3 2 m_multiplied) : Kn P w K mg base C [⟨C_ArgumentError, ["reason"]⟩, ⟨C_TextError, ["at"]⟩] "times" 4 2 m_times :=
  kn_of (ps := ["one", "other"]) F_ h_ (F_.binds fun _ _ _ _ _ _ us hl => match us, hl with | [_, _], _ => rfl) sc_times fun cdv A outer s H E B Z =>
  (dss_cons (ds_expr (de_call Z G_demand_two (by decide) (by rfl) (falen_cons (falen_cons falen_nil)) (da_cons (de_nm 0 (pv 0)) (da_cons (de_nm 1 (pv 1)) da_nil))))
  (dss_one (ds_ret (de_call Z G_multiplied (by decide) (by rfl) (falen_cons (falen_cons falen_nil)) (da_cons (de_nm 0 (pv 0)) (da_cons (de_nm 1 (pv 1)) da_nil))))))
theorem sc_over : FnScope ["one", "other"] ["one", "other"] (defScope (topS 24)) := ⟨rfl, rfl, rfl, by decide +kernel, rfl, by decide +kernel, by decide +kernel⟩
theorem kn_over {f_ : Addr} {fd_ : FuncData} (F_ : Fun K "over" "over" (topS 24) f_ fd_) (h_ : mg "over" = some (.ref f_)) (G_demand_two : Kn P w K mg base C [⟨C_ArgumentError, ["reason"]⟩, ⟨C_TextError, ["at"]⟩] "demand_two" 3 2 m_demand_two) (G_divided : Kn P w K mg base C [⟨C_ArgumentError, ["reason"]⟩, ⟨C_TextError, ["at"]⟩] "divided" 3 2 m_divided) (t_ArgumentError : PySem.AwX.XTxt P K mg "ArgumentError" C_ArgumentError I_ArgumentError "reason") : Kn P w K mg base C [⟨C_ArgumentError, ["reason"]⟩, ⟨C_TextError, ["at"]⟩] "over" 4 2 m_over :=
  kn_of (ps := ["one", "other"]) F_ h_ (F_.binds fun _ _ _ _ _ _ us hl => match us, hl with | [_, _], _ => rfl) sc_over fun cdv A outer s H E B Z =>
  (dss_cons (ds_expr (de_call Z G_demand_two (by decide) (by rfl) (falen_cons (falen_cons falen_nil)) (da_cons (de_nm 0 (pv 0)) (da_cons (de_nm 1 (pv 1)) da_nil))))
  (dss_cons (ds_if (dt_not (dt_tr Z.hk (de_ix vix (fun _ _ => rfl) (de_nm 1 (pv 1)) de_int))) (dss_one (ds_raise (n := 0) Z t_ArgumentError PySem.AwX.nm_reason rfl de_str (by rfl)))
  dss_nil)
  (dss_one (ds_ret (de_call Z G_divided (by decide) (by rfl) (falen_cons (falen_cons falen_nil)) (da_cons (de_nm 0 (pv 0)) (da_cons (de_nm 1 (pv 1)) da_nil)))))))
theorem sc_opposite : FnScope ["one"] ["one"] (defScope (topS 25)) := ⟨rfl, rfl, rfl, by decide +kernel, rfl, by decide +kernel, by decide +kernel⟩
theorem kn_opposite {f_ : Addr} {fd_ : FuncData} (F_ : Fun K "opposite" "opposite" (topS 25) f_ fd_) (h_ : mg "opposite" = some (.ref f_)) (G_demand_two : Kn P w K mg base C [⟨C_ArgumentError, ["reason"]⟩, ⟨C_TextError, ["at"]⟩] "demand_two" 3 2 m_demand_two) (G_negated : Kn P w K mg base C [⟨C_ArgumentError, ["reason"]⟩, ⟨C_TextError, ["at"]⟩] "negated" 1 1 m_negated) {k_ZERO : Addr} (c_ZERO : mg "ZERO" = some (.ref k_ZERO)) (d_ZERO : KT K k_ZERO (.tuple [(.int 0), (.int 1)])) : Kn P w K mg base C [⟨C_ArgumentError, ["reason"]⟩, ⟨C_TextError, ["at"]⟩] "opposite" 4 1 m_opposite :=
  kn_of (ps := ["one"]) F_ h_ (F_.binds fun _ _ _ _ _ _ us hl => match us, hl with | [_], _ => rfl) sc_opposite fun cdv A outer s H E B Z =>
  (dss_cons (ds_expr (de_call Z G_demand_two (by decide) (by rfl) (falen_cons (falen_cons falen_nil)) (da_cons (de_nm 0 (pv 0)) (da_cons (de_gt (by rfl) c_ZERO d_ZERO) da_nil))))
  (dss_one (ds_ret (de_call Z G_negated (by decide) (by rfl) (falen_cons falen_nil) (da_cons (de_nm 0 (pv 0)) da_nil)))))
theorem sc_compare : FnScope ["one", "other"] ["one", "other"] (defScope (topS 26)) := ⟨rfl, rfl, rfl, by decide +kernel, rfl, by decide +kernel, by decide +kernel⟩
theorem kn_compare {f_ : Addr} {fd_ : FuncData} (F_ : Fun K "compare" "compare" (topS 26) f_ fd_) (h_ : mg "compare" = some (.ref f_)) (G_demand_two : Kn P w K mg base C [⟨C_ArgumentError, ["reason"]⟩, ⟨C_TextError, ["at"]⟩] "demand_two" 3 2 m_demand_two) (G_is_less : Kn P w K mg base C [⟨C_ArgumentError, ["reason"]⟩, ⟨C_TextError, ["at"]⟩] "is_less" 1 2 m_is_less) : Kn P w K mg base C [⟨C_ArgumentError, ["reason"]⟩, ⟨C_TextError, ["at"]⟩] "compare" 4 2 m_compare :=
  kn_of (ps := ["one", "other"]) F_ h_ (F_.binds fun _ _ _ _ _ _ us hl => match us, hl with | [_, _], _ => rfl) sc_compare fun cdv A outer s H E B Z =>
  (dss_cons (ds_expr (de_call Z G_demand_two (by decide) (by rfl) (falen_cons (falen_cons falen_nil)) (da_cons (de_nm 0 (pv 0)) (da_cons (de_nm 1 (pv 1)) da_nil))))
  (dss_one (ds_ret (de_if (dt_cmp (vop_eq Z.h64) (nomark _) (de_nm 0 (pv 0)) (de_nm 1 (pv 1))) de_int (de_if (dt_tr Z.hk (de_call Z G_is_less (by decide) (by rfl) (falen_cons (falen_cons falen_nil)) (da_cons (de_nm 0 (pv 0)) (da_cons (de_nm 1 (pv 1)) da_nil)))) (de_un vun_neg de_int) de_int)))))
theorem sc_digits_from : FnScope ["text", "at", "end"] ["text", "at"] (defScope (topS 27)) := ⟨rfl, rfl, rfl, by decide +kernel, rfl, by decide +kernel, by decide +kernel⟩
theorem kn_digits_from {f_ : Addr} {fd_ : FuncData} (F_ : Fun K "digits_from" "digits_from" (topS 27) f_ fd_) (h_ : mg "digits_from" = some (.ref f_)) (z_len : mg "len" = none) (z_int : mg "int" = none) (t_TextError : PySem.AwX.XTxt P K mg "TextError" C_TextError I_TextError "at") {k_MAX_PART : Tok} (c_MAX_PART : mg "MAX_PART" = some (.int 1000000 k_MAX_PART)) : Kn P w K mg base C [⟨C_ArgumentError, ["reason"]⟩, ⟨C_TextError, ["at"]⟩] "digits_from" 1 2 m_digits_from :=
  kn_of (ps := ["text", "at"]) F_ h_ (F_.binds fun _ _ _ _ _ _ us hl => match us, hl with | [_, _], _ => rfl) sc_digits_from fun cdv A outer s H E B Z =>
  (dss_cons (ds_set (i := 2) Z.nd rfl (by first | exact .inl rfl | exact .inr rfl) (de_nm 1 (pv 1)))
  (dss_cons (ds_while Z (PW.pt (dw_an (dt_cmp vop_lt (nomark _) (de_nm 2 (pv 2)) (de_bi vcl_len (by rfl) z_len (by decide +kernel) (da_cons (de_nm 0 (pv 0)) da_nil))) (dw_an1 (dt_cmp (vop_in Z.h65) (by rfl) (de_ix vix (fun _ _ => rfl) (de_nm 0 (pv 0)) (de_nm 2 (pv 2))) de_str)))) (dss_one (ds_aug (i := 2) Z.nd rfl (by first | exact .inl rfl | exact .inr rfl) de_int vip_add)))
  (dss_cons (ds_if (PW.pt (dw_or (dt_cmp (vop_eq Z.h64) (nomark _) (de_nm 2 (pv 2)) (de_nm 1 (pv 1))) (dw_or (dt_cmp vop_gt (nomark _) (de_op vop_sub (de_nm 2 (pv 2)) (de_nm 1 (pv 1))) de_int) (dw_or (PW.pt (dw_an (dt_cmp (vop_eq Z.h64) (nomark _) (de_ix vix (fun _ _ => rfl) (de_nm 0 (pv 0)) (de_nm 1 (pv 1))) de_str) (dw_an1 (dt_cmp vop_gt (nomark _) (de_op vop_sub (de_nm 2 (pv 2)) (de_nm 1 (pv 1))) de_int)))) (dw_or1 (dt_cmp vop_gt (nomark _) (de_ty vcl_int (by rfl) z_int (by decide +kernel) (da_cons (de_sl Z.hk (de_nm 0 (pv 0)) (do_some (de_nm 1 (pv 1))) (do_some (de_nm 2 (pv 2)))) da_nil)) (de_gi (by rfl) c_MAX_PART))))))) (dss_one (ds_raise (n := 1) Z t_TextError PySem.AwX.nm_at rfl (de_nm 1 (pv 1)) (by rfl)))
  dss_nil)
  (dss_one (ds_ret (de_tup (da_cons (de_ty vcl_int (by rfl) z_int (by decide +kernel) (da_cons (de_sl Z.hk (de_nm 0 (pv 0)) (do_some (de_nm 1 (pv 1))) (do_some (de_nm 2 (pv 2)))) da_nil)) (da_cons (de_nm 2 (pv 2)) da_nil))))))))
theorem sc_read_fraction : FnScope ["text", "begin", "top", "end", "under", "spot"] ["text"] (defScope (topS 28)) := ⟨rfl, rfl, rfl, by decide +kernel, rfl, by decide +kernel, by decide +kernel⟩
theorem kn_read_fraction {f_ : Addr} {fd_ : FuncData} (F_ : Fun K "read_fraction" "read_fraction" (topS 28) f_ fd_) (h_ : mg "read_fraction" = some (.ref f_)) (G_digits_from : Kn P w K mg base C [⟨C_ArgumentError, ["reason"]⟩, ⟨C_TextError, ["at"]⟩] "digits_from" 1 2 m_digits_from) (G_made : Kn P w K mg base C [⟨C_ArgumentError, ["reason"]⟩, ⟨C_TextError, ["at"]⟩] "made" 2 2 m_made) (z_isinstance : mg "isinstance" = none) (z_str : mg "str" = none) (z_len : mg "len" = none) (t_TextError : PySem.AwX.XTxt P K mg "TextError" C_TextError I_TextError "at") : Kn P w K mg base C [⟨C_ArgumentError, ["reason"]⟩, ⟨C_TextError, ["at"]⟩] "read_fraction" 3 1 m_read_fraction :=
  kn_of (ps := ["text"]) F_ h_ (F_.binds fun _ _ _ _ _ _ us hl => match us, hl with | [_], _ => rfl) sc_read_fraction fun cdv A outer s H E B Z =>
  (dss_cons (ds_if (dt_not (dt_tr Z.hk (de_isi (T := "str") (by decide) Z.hk (by rfl) z_isinstance (by rfl) z_str (by decide +kernel) (de_nm 0 (pv 0))))) (dss_one (ds_raise (n := 1) Z t_TextError PySem.AwX.nm_at rfl de_int (by rfl)))
  dss_nil)
  (dss_cons (ds_set (i := 1) Z.nd rfl (by first | exact .inl rfl | exact .inr rfl) (de_if (dt_cmp (vop_eq Z.h64) (nomark _) (de_sl Z.hk (de_nm 0 (pv 0)) do_none (do_some de_int)) de_str) de_int de_int))
  (dss_cons (ds_asg (vs := [2, 3]) (de_call Z G_digits_from (by decide) (by rfl) (falen_cons (falen_cons falen_nil)) (da_cons (de_nm 0 (pv 0)) (da_cons (de_nm 1 (pv 1)) da_nil))) (dg_tup Z.calm Z.hk (fun _ _ h => ts_len (fun _ _ h => ts_len (fun _ _ h => ts_len0 h) h) h) (dgs_cons (dg_nm 2 (pg_name Z.nd rfl (by first | exact .inl rfl | exact .inr rfl)) (by decide)) (dgs_cons (dg_nm 3 (pg_name Z.nd rfl (by first | exact .inl rfl | exact .inr rfl)) (by decide)) dgs_nil))))
  (dss_cons (ds_set (i := 4) Z.nd rfl (by first | exact .inl rfl | exact .inr rfl) de_int)
  (dss_cons (ds_if (PW.pt (dw_an (dt_tr Z.hk (de_nm 1 (pv 1))) (dw_an1 (dt_not (dt_tr Z.hk (de_nm 2 (pv 2))))))) (dss_one (ds_raise (n := 1) Z t_TextError PySem.AwX.nm_at rfl de_int (by rfl)))
  dss_nil)
  (dss_cons (ds_if (dt_cmp vop_lt (nomark _) (de_nm 3 (pv 3)) (de_bi vcl_len (by rfl) z_len (by decide +kernel) (da_cons (de_nm 0 (pv 0)) da_nil))) (dss_cons (ds_if (dt_cmp (vop_ne Z.h64) (nomark _) (de_ix vix (fun _ _ => rfl) (de_nm 0 (pv 0)) (de_nm 3 (pv 3))) de_str) (dss_one (ds_raise (n := 1) Z t_TextError PySem.AwX.nm_at rfl (de_nm 3 (pv 3)) (by rfl)))
  dss_nil)
  (dss_cons (ds_set (i := 5) Z.nd rfl (by first | exact .inl rfl | exact .inr rfl) (de_op vop_add (de_nm 3 (pv 3)) de_int))
  (dss_cons (ds_asg (vs := [4, 3]) (de_call Z G_digits_from (by decide) (by rfl) (falen_cons (falen_cons falen_nil)) (da_cons (de_nm 0 (pv 0)) (da_cons (de_nm 5 (pv 5)) da_nil))) (dg_tup Z.calm Z.hk (fun _ _ h => ts_len (fun _ _ h => ts_len (fun _ _ h => ts_len0 h) h) h) (dgs_cons (dg_nm 4 (pg_name Z.nd rfl (by first | exact .inl rfl | exact .inr rfl)) (by decide)) (dgs_cons (dg_nm 3 (pg_name Z.nd rfl (by first | exact .inl rfl | exact .inr rfl)) (by decide)) dgs_nil))))
  (dss_one (ds_if (dt_not (dt_tr Z.hk (de_nm 4 (pv 4)))) (dss_one (ds_raise (n := 1) Z t_TextError PySem.AwX.nm_at rfl (de_nm 5 (pv 5)) (by rfl)))
  dss_nil)))))
  dss_nil)
  (dss_cons (ds_if (dt_cmp vop_lt (nomark _) (de_nm 3 (pv 3)) (de_bi vcl_len (by rfl) z_len (by decide +kernel) (da_cons (de_nm 0 (pv 0)) da_nil))) (dss_one (ds_raise (n := 1) Z t_TextError PySem.AwX.nm_at rfl (de_nm 3 (pv 3)) (by rfl)))
  dss_nil)
  (dss_one (ds_ret (de_call Z G_made (by decide) (by rfl) (falen_cons (falen_cons falen_nil)) (da_cons (de_if (dt_tr Z.hk (de_nm 1 (pv 1))) (de_op vop_sub de_int (de_nm 2 (pv 2))) (de_nm 2 (pv 2))) (da_cons (de_nm 4 (pv 4)) da_nil))))))))))))
theorem sc_text_of : FnScope ["one"] ["one"] (defScope (topS 29)) := ⟨rfl, rfl, rfl, by decide +kernel, rfl, by decide +kernel, by decide +kernel⟩
theorem kn_text_of {f_ : Addr} {fd_ : FuncData} (F_ : Fun K "text_of" "text_of" (topS 29) f_ fd_) (h_ : mg "text_of" = some (.ref f_)) (z_str : mg "str" = none) : Kn P w K mg base C [⟨C_ArgumentError, ["reason"]⟩, ⟨C_TextError, ["at"]⟩] "text_of" 1 1 m_text_of :=
  kn_of (ps := ["one"]) F_ h_ (F_.binds fun _ _ _ _ _ _ us hl => match us, hl with | [_], _ => rfl) sc_text_of fun cdv A outer s H E B Z =>
  (dss_one (ds_ret (de_if (dt_cmp (vop_eq Z.h64) (nomark _) (de_ix vix (fun _ _ => rfl) (de_nm 0 (pv 0)) de_int) de_int) (de_ty vcl_str (by rfl) z_str (by decide +kernel) (da_cons (de_ix vix (fun _ _ => rfl) (de_nm 0 (pv 0)) de_int) da_nil)) (de_op vop_add (de_op vop_add (de_ty vcl_str (by rfl) z_str (by decide +kernel) (da_cons (de_ix vix (fun _ _ => rfl) (de_nm 0 (pv 0)) de_int) da_nil)) de_str) (de_ty vcl_str (by rfl) z_str (by decide +kernel) (da_cons (de_ix vix (fun _ _ => rfl) (de_nm 0 (pv 0)) de_int) da_nil))))))
theorem sc_write_fraction : FnScope ["one"] ["one"] (defScope (topS 30)) := ⟨rfl, rfl, rfl, by decide +kernel, rfl, by decide +kernel, by decide +kernel⟩
theorem kn_write_fraction {f_ : Addr} {fd_ : FuncData} (F_ : Fun K "write_fraction" "write_fraction" (topS 30) f_ fd_) (h_ : mg "write_fraction" = some (.ref f_)) (G_is_small : Kn P w K mg base C [⟨C_ArgumentError, ["reason"]⟩, ⟨C_TextError, ["at"]⟩] "is_small" 3 1 m_is_small) (G_text_of : Kn P w K mg base C [⟨C_ArgumentError, ["reason"]⟩, ⟨C_TextError, ["at"]⟩] "text_of" 1 1 m_text_of) (t_ArgumentError : PySem.AwX.XTxt P K mg "ArgumentError" C_ArgumentError I_ArgumentError "reason") : Kn P w K mg base C [⟨C_ArgumentError, ["reason"]⟩, ⟨C_TextError, ["at"]⟩] "write_fraction" 4 1 m_write_fraction :=
  kn_of (ps := ["one"]) F_ h_ (F_.binds fun _ _ _ _ _ _ us hl => match us, hl with | [_], _ => rfl) sc_write_fraction fun cdv A outer s H E B Z =>
  (dss_cons (ds_if (dt_not (dt_tr Z.hk (de_call Z G_is_small (by decide) (by rfl) (falen_cons falen_nil) (da_cons (de_nm 0 (pv 0)) da_nil)))) (dss_one (ds_raise (n := 0) Z t_ArgumentError PySem.AwX.nm_reason rfl de_str (by rfl)))
  dss_nil)
  (dss_one (ds_ret (de_call Z G_text_of (by decide) (by rfl) (falen_cons falen_nil) (da_cons (de_nm 0 (pv 0)) da_nil)))))
theorem sc__law_draws : FnScope ["script", "draws", "cell", "rest", "k", "mixed"] ["script"] (defScope (topS 32)) := ⟨rfl, rfl, rfl, by decide +kernel, rfl, by decide +kernel, by decide +kernel⟩
theorem kn__law_draws {f_ : Addr} {fd_ : FuncData} (F_ : Fun K "_law_draws" "_law_draws" (topS 32) f_ fd_) (h_ : mg "_law_draws" = some (.ref f_)) (z_abs : mg "abs" = none) (z_range : mg "range" = none) (z_int : mg "int" = none) : Kn P w K mg base C [⟨C_ArgumentError, ["reason"]⟩, ⟨C_TextError, ["at"]⟩] "_law_draws" 1 1 m__law_draws :=
  kn_of (ps := ["script"]) F_ h_ (F_.binds fun _ _ _ _ _ _ us hl => match us, hl with | [_], _ => rfl) sc__law_draws fun cdv A outer s H E B Z =>
  (dss_cons (ds_ow (i := 1) Z.nd rfl (by first | exact .inl rfl | exact .inr rfl) (df_lst da_nil))
  (dss_cons (ds_for (vs := [2]) Z (di_seq Z.hk (de_fz (df_sc 0 Z.hk (pv 0)))) (dg_nm 2 (pg_name Z.nd rfl (by first | exact .inl rfl | exact .inr rfl)) (by decide))
  (dss_cons (ds_set (i := 3) Z.nd rfl (by first | exact .inl rfl | exact .inr rfl) (de_bi vcl_abs (by rfl) z_abs (by decide +kernel) (da_cons (de_nm 2 (pv 2)) da_nil)))
  (dss_one (ds_if (dt_cmp vop_ge (nomark _) (de_nm 3 (pv 3)) (de_op vop_pow de_int de_int)) (dss_one (ds_for (vs := [4]) Z (di_rng1 (by rfl) z_range (da_cons de_int da_nil)) (dg_nm 4 (pg_name Z.nd rfl (by first | exact .inl rfl | exact .inr rfl)) (by decide))
  (dss_one (ds_if (dt_cmp vop_gt (nomark _) (de_nm 3 (pv 3)) de_int) (dss_cons (ds_app 1 (pv 1) (de_op vop_mod (de_ty vcl_int (by rfl) z_int (by decide +kernel) (da_cons (de_nm 3 (pv 3)) da_nil)) de_int))
  (dss_one (ds_set (i := 3) Z.nd rfl (by first | exact .inl rfl | exact .inr rfl) (de_op vop_div (de_nm 3 (pv 3)) de_int))))
  dss_nil))))
  (dss_cons (ds_set (i := 5) Z.nd rfl (by first | exact .inl rfl | exact .inr rfl) (de_op vop_mod (de_ty vcl_int (by rfl) z_int (by decide +kernel) (da_cons (de_op vop_add (de_op vop_mul (de_nm 3 (pv 3)) de_int) de_int) da_nil)) de_int))
  (dss_one (ds_for (vs := [4]) Z (di_rng1 (by rfl) z_range (da_cons de_int da_nil)) (dg_nm 4 (pg_name Z.nd rfl (by first | exact .inl rfl | exact .inr rfl)) (by decide))
  (dss_cons (ds_set (i := 5) Z.nd rfl (by first | exact .inl rfl | exact .inr rfl) (de_op vop_mod (de_ty vcl_int (by rfl) z_int (by decide +kernel) (da_cons (de_op vop_add (de_op vop_add (de_op vop_mul (de_nm 5 (pv 5)) de_int) (de_op vop_mul de_int (de_nm 4 (pv 4)))) de_int) da_nil)) de_int))
  (dss_one (ds_app 1 (pv 1) (de_op vop_div (de_nm 5 (pv 5)) de_int)))))))))))
  (dss_one (ds_fz 1 (ds_ret (de_nm 1 (pv 1)))))))
theorem sc__law_more : FnScope ["draws", "place", "mixed", "k"] ["draws", "place"] (defScope (topS 33)) := ⟨rfl, rfl, rfl, by decide +kernel, rfl, by decide +kernel, by decide +kernel⟩
theorem kn__law_more {f_ : Addr} {fd_ : FuncData} (F_ : Fun K "_law_more" "_law_more" (topS 33) f_ fd_) (h_ : mg "_law_more" = some (.ref f_)) (z_len : mg "len" = none) (z_int : mg "int" = none) (z_range : mg "range" = none) : Kn P w K mg base C [⟨C_ArgumentError, ["reason"]⟩, ⟨C_TextError, ["at"]⟩] "_law_more" 1 2 m__law_more :=
  kn_of (ps := ["draws", "place"]) F_ h_ (F_.binds fun _ _ _ _ _ _ us hl => match us, hl with | [_, _], _ => rfl) sc__law_more fun cdv A outer s H E B Z =>
  (dss_cons (ds_set (i := 2) Z.nd rfl (by first | exact .inl rfl | exact .inr rfl) (de_op vop_mod (de_ty vcl_int (by rfl) z_int (by decide +kernel) (da_cons (de_op vop_add (de_op vop_add (de_op vop_mul (de_nm 1 (pv 1)) de_int) (de_bi vcl_len (by rfl) z_len (by decide +kernel) (da_cons (de_nm 0 (pv 0)) da_nil))) de_int) da_nil)) de_int))
  (dss_cons (ds_for (vs := [3]) Z (di_rng1 (by rfl) z_range (da_cons de_int da_nil)) (dg_nm 3 (pg_name Z.nd rfl (by first | exact .inl rfl | exact .inr rfl)) (by decide))
  (dss_cons (ds_if (dt_tr Z.hk (de_nm 0 (pv 0))) (dss_one (ds_set (i := 2) Z.nd rfl (by first | exact .inl rfl | exact .inr rfl) (de_op vop_add (de_nm 2 (pv 2)) (de_ix vix (fun _ _ => rfl) (de_nm 0 (pv 0)) (de_op vop_mod (de_ty vcl_int (by rfl) z_int (by decide +kernel) (da_cons (de_op vop_add (de_op vop_mul (de_nm 1 (pv 1)) (de_op vop_add (de_nm 3 (pv 3)) de_int)) (de_nm 3 (pv 3))) da_nil)) (de_bi vcl_len (by rfl) z_len (by decide +kernel) (da_cons (de_nm 0 (pv 0)) da_nil)))))))
  dss_nil)
  (dss_one (ds_set (i := 2) Z.nd rfl (by first | exact .inl rfl | exact .inr rfl) (de_op vop_mod (de_ty vcl_int (by rfl) z_int (by decide +kernel) (da_cons (de_op vop_add (de_op vop_add (de_op vop_mul (de_nm 2 (pv 2)) de_int) (de_op vop_mul de_int (de_nm 3 (pv 3)))) de_int) da_nil)) de_int)))))
  (dss_one (ds_ret (de_op vop_div (de_nm 2 (pv 2)) de_int)))))
theorem sc__law_take : FnScope ["draws", "at", "many", "place"] ["draws", "at", "many"] (defScope (topS 34)) := ⟨rfl, rfl, rfl, by decide +kernel, rfl, by decide +kernel, by decide +kernel⟩
theorem kn__law_take {f_ : Addr} {fd_ : FuncData} (F_ : Fun K "_law_take" "_law_take" (topS 34) f_ fd_) (h_ : mg "_law_take" = some (.ref f_)) (G__law_more : Kn P w K mg base C [⟨C_ArgumentError, ["reason"]⟩, ⟨C_TextError, ["at"]⟩] "_law_more" 1 2 m__law_more) (z_len : mg "len" = none) (z_int : mg "int" = none) : Kn P w K mg base C [⟨C_ArgumentError, ["reason"]⟩, ⟨C_TextError, ["at"]⟩] "_law_take" 2 3 m__law_take :=
  kn_of (ps := ["draws", "at", "many"]) F_ h_ (F_.binds fun _ _ _ _ _ _ us hl => match us, hl with | [_, _, _], _ => rfl) sc__law_take fun cdv A outer s H E B Z =>
  (dss_cons (ds_set (i := 3) Z.nd rfl (by first | exact .inl rfl | exact .inr rfl) (de_cell 1 (pv 1)))
  (dss_cons (ds_cell 1 (pv 1) (de_op vop_add (de_nm 3 (pv 3)) de_int))
  (dss_one (ds_ret (de_op vop_mod (de_ty vcl_int (by rfl) z_int (by decide +kernel) (da_cons (de_if (dt_cmp vop_lt (nomark _) (de_nm 3 (pv 3)) (de_bi vcl_len (by rfl) z_len (by decide +kernel) (da_cons (de_nm 0 (pv 0)) da_nil))) (de_ix vix (fun _ _ => rfl) (de_nm 0 (pv 0)) (de_nm 3 (pv 3))) (de_call Z G__law_more (by decide) (by rfl) (falen_cons (falen_cons falen_nil)) (da_cons (de_nm 0 (pv 0)) (da_cons (de_nm 3 (pv 3)) da_nil)))) da_nil)) (de_nm 2 (pv 2)))))))
theorem sc__law_one : FnScope ["rows", "draws", "at"] ["rows", "draws", "at"] (defScope (topS 35)) := ⟨rfl, rfl, rfl, by decide +kernel, rfl, by decide +kernel, by decide +kernel⟩
theorem kn__law_one {f_ : Addr} {fd_ : FuncData} (F_ : Fun K "_law_one" "_law_one" (topS 35) f_ fd_) (h_ : mg "_law_one" = some (.ref f_)) (G__law_take : Kn P w K mg base C [⟨C_ArgumentError, ["reason"]⟩, ⟨C_TextError, ["at"]⟩] "_law_take" 2 3 m__law_take) (z_len : mg "len" = none) : Kn P w K mg base C [⟨C_ArgumentError, ["reason"]⟩, ⟨C_TextError, ["at"]⟩] "_law_one" 3 3 m__law_one :=
  kn_of (ps := ["rows", "draws", "at"]) F_ h_ (F_.binds fun _ _ _ _ _ _ us hl => match us, hl with | [_, _, _], _ => rfl) sc__law_one fun cdv A outer s H E B Z =>
  (dss_one (ds_ret (de_ix vix (fun _ _ => rfl) (de_nm 0 (pv 0)) (de_call Z G__law_take (by decide) (by rfl) (falen_cons (falen_cel (falen_cons falen_nil))) (da_cons (de_nm 1 (pv 1)) (da_cel 2 (pv 2) (da_cons (de_bi vcl_len (by rfl) z_len (by decide +kernel) (da_cons (de_nm 0 (pv 0)) da_nil)) da_nil)))))))
theorem sc__law_same_as : FnScope ["actual", "due"] ["actual", "due"] (defScope (topS 36)) := ⟨rfl, rfl, rfl, by decide +kernel, rfl, by decide +kernel, by decide +kernel⟩
theorem kn__law_same_as {f_ : Addr} {fd_ : FuncData} (F_ : Fun K "_law_same_as" "_law_same_as" (topS 36) f_ fd_) (h_ : mg "_law_same_as" = some (.ref f_)) (z_repr : mg "repr" = none) : Kn P w K mg base C [⟨C_ArgumentError, ["reason"]⟩, ⟨C_TextError, ["at"]⟩] "_law_same_as" 1 2 m__law_same_as :=
  kn_of (ps := ["actual", "due"]) F_ h_ (F_.binds fun _ _ _ _ _ _ us hl => match us, hl with | [_, _], _ => rfl) sc__law_same_as fun cdv A outer s H E B Z =>
  (dss_one (ds_ret (de_an Z.hk (de_cmp (vop_eq Z.h64) (nomark _) (de_nm 0 (pv 0)) (de_nm 1 (pv 1))) (de_one (de_cmp (vop_eq Z.h64) (nomark _) (de_bi (vcl_repr Z.gd Z.hu) (by rfl) z_repr (by decide +kernel) (da_cons (de_nm 0 (pv 0)) da_nil)) (de_bi (vcl_repr Z.gd Z.hu) (by rfl) z_repr (by decide +kernel) (da_cons (de_nm 1 (pv 1)) da_nil)))))))
theorem sc__law_common : FnScope ["one", "other", "turn"] ["one", "other"] (defScope (topS 37)) := ⟨rfl, rfl, rfl, by decide +kernel, rfl, by decide +kernel, by decide +kernel⟩
theorem kn__law_common {f_ : Addr} {fd_ : FuncData} (F_ : Fun K "_law_common" "_law_common" (topS 37) f_ fd_) (h_ : mg "_law_common" = some (.ref f_)) (z_range : mg "range" = none) (z_abs : mg "abs" = none) : Kn P w K mg base C [⟨C_ArgumentError, ["reason"]⟩, ⟨C_TextError, ["at"]⟩] "_law_common" 1 2 m__law_common :=
  kn_of (ps := ["one", "other"]) F_ h_ (F_.binds fun _ _ _ _ _ _ us hl => match us, hl with | [_, _], _ => rfl) sc__law_common fun cdv A outer s H E B Z =>
  (dss_cons (ds_for (vs := [2]) Z (di_rng1 (by rfl) z_range (da_cons de_int da_nil)) (dg_nm 2 (pg_name Z.nd rfl (by first | exact .inl rfl | exact .inr rfl)) (by decide))
  (dss_cons (ds_if (dt_cmp (vop_eq Z.h64) (nomark _) (de_nm 1 (pv 1)) de_int) (dss_one (ds_ret (de_bi vcl_abs (by rfl) z_abs (by decide +kernel) (da_cons (de_nm 0 (pv 0)) da_nil))))
  dss_nil)
  (dss_one (ds_par (i := 0) (j := 1) Z.calm Z.nd rfl rfl (by decide) (by rfl) (by rfl) (de_nm 1 (pv 1)) (de_op vop_sub (de_nm 0 (pv 0)) (de_op vop_mul (de_op vop_div (de_nm 0 (pv 0)) (de_nm 1 (pv 1))) (de_nm 1 (pv 1)))) (by rfl)))))
  (dss_one (ds_ret de_int)))
theorem sc__law_made : FnScope ["top", "under", "part"] ["top", "under"] (defScope (topS 38)) := ⟨rfl, rfl, rfl, by decide +kernel, rfl, by decide +kernel, by decide +kernel⟩
theorem kn__law_made {f_ : Addr} {fd_ : FuncData} (F_ : Fun K "_law_made" "_law_made" (topS 38) f_ fd_) (h_ : mg "_law_made" = some (.ref f_)) (G__law_common : Kn P w K mg base C [⟨C_ArgumentError, ["reason"]⟩, ⟨C_TextError, ["at"]⟩] "_law_common" 1 2 m__law_common) : Kn P w K mg base C [⟨C_ArgumentError, ["reason"]⟩, ⟨C_TextError, ["at"]⟩] "_law_made" 2 2 m__law_made :=
  kn_of (ps := ["top", "under"]) F_ h_ (F_.binds fun _ _ _ _ _ _ us hl => match us, hl with | [_, _], _ => rfl) sc__law_made fun cdv A outer s H E B Z =>
  (dss_cons (ds_set (i := 2) Z.nd rfl (by first | exact .inl rfl | exact .inr rfl) (de_op vop_mul (de_call Z G__law_common (by decide) (by rfl) (falen_cons (falen_cons falen_nil)) (da_cons (de_nm 0 (pv 0)) (da_cons (de_nm 1 (pv 1)) da_nil))) (de_if (dt_cmp vop_gt (nomark _) (de_nm 1 (pv 1)) de_int) de_int (de_un vun_neg de_int))))
  (dss_one (ds_ret (de_tup (da_cons (de_op vop_div (de_nm 0 (pv 0)) (de_nm 2 (pv 2))) (da_cons (de_op vop_div (de_nm 1 (pv 1)) (de_nm 2 (pv 2))) da_nil))))))
theorem sc__law_add : FnScope ["one", "other"] ["one", "other"] (defScope (topS 39)) := ⟨rfl, rfl, rfl, by decide +kernel, rfl, by decide +kernel, by decide +kernel⟩
theorem kn__law_add {f_ : Addr} {fd_ : FuncData} (F_ : Fun K "_law_add" "_law_add" (topS 39) f_ fd_) (h_ : mg "_law_add" = some (.ref f_)) (G__law_made : Kn P w K mg base C [⟨C_ArgumentError, ["reason"]⟩, ⟨C_TextError, ["at"]⟩] "_law_made" 2 2 m__law_made) : Kn P w K mg base C [⟨C_ArgumentError, ["reason"]⟩, ⟨C_TextError, ["at"]⟩] "_law_add" 3 2 m__law_add :=
  kn_of (ps := ["one", "other"]) F_ h_ (F_.binds fun _ _ _ _ _ _ us hl => match us, hl with | [_, _], _ => rfl) sc__law_add fun cdv A outer s H E B Z =>
  (dss_one (ds_ret (de_call Z G__law_made (by decide) (by rfl) (falen_cons (falen_cons falen_nil)) (da_cons (de_op vop_add (de_op vop_mul (de_ix vix (fun _ _ => rfl) (de_nm 0 (pv 0)) de_int) (de_ix vix (fun _ _ => rfl) (de_nm 1 (pv 1)) de_int)) (de_op vop_mul (de_ix vix (fun _ _ => rfl) (de_nm 1 (pv 1)) de_int) (de_ix vix (fun _ _ => rfl) (de_nm 0 (pv 0)) de_int))) (da_cons (de_op vop_mul (de_ix vix (fun _ _ => rfl) (de_nm 0 (pv 0)) de_int) (de_ix vix (fun _ _ => rfl) (de_nm 1 (pv 1)) de_int)) da_nil)))))
theorem sc__law_mul : FnScope ["one", "other"] ["one", "other"] (defScope (topS 40)) := ⟨rfl, rfl, rfl, by decide +kernel, rfl, by decide +kernel, by decide +kernel⟩
theorem kn__law_mul {f_ : Addr} {fd_ : FuncData} (F_ : Fun K "_law_mul" "_law_mul" (topS 40) f_ fd_) (h_ : mg "_law_mul" = some (.ref f_)) (G__law_made : Kn P w K mg base C [⟨C_ArgumentError, ["reason"]⟩, ⟨C_TextError, ["at"]⟩] "_law_made" 2 2 m__law_made) : Kn P w K mg base C [⟨C_ArgumentError, ["reason"]⟩, ⟨C_TextError, ["at"]⟩] "_law_mul" 3 2 m__law_mul :=
  kn_of (ps := ["one", "other"]) F_ h_ (F_.binds fun _ _ _ _ _ _ us hl => match us, hl with | [_, _], _ => rfl) sc__law_mul fun cdv A outer s H E B Z =>
  (dss_one (ds_ret (de_call Z G__law_made (by decide) (by rfl) (falen_cons (falen_cons falen_nil)) (da_cons (de_op vop_mul (de_ix vix (fun _ _ => rfl) (de_nm 0 (pv 0)) de_int) (de_ix vix (fun _ _ => rfl) (de_nm 1 (pv 1)) de_int)) (da_cons (de_op vop_mul (de_ix vix (fun _ _ => rfl) (de_nm 0 (pv 0)) de_int) (de_ix vix (fun _ _ => rfl) (de_nm 1 (pv 1)) de_int)) da_nil)))))
theorem sc__law_neg : FnScope ["one"] ["one"] (defScope (topS 41)) := ⟨rfl, rfl, rfl, by decide +kernel, rfl, by decide +kernel, by decide +kernel⟩
theorem kn__law_neg {f_ : Addr} {fd_ : FuncData} (F_ : Fun K "_law_neg" "_law_neg" (topS 41) f_ fd_) (h_ : mg "_law_neg" = some (.ref f_))  : Kn P w K mg base C [⟨C_ArgumentError, ["reason"]⟩, ⟨C_TextError, ["at"]⟩] "_law_neg" 1 1 m__law_neg :=
  kn_of (ps := ["one"]) F_ h_ (F_.binds fun _ _ _ _ _ _ us hl => match us, hl with | [_], _ => rfl) sc__law_neg fun cdv A outer s H E B Z =>
  (dss_one (ds_ret (de_tup (da_cons (de_op vop_sub de_int (de_ix vix (fun _ _ => rfl) (de_nm 0 (pv 0)) de_int)) (da_cons (de_ix vix (fun _ _ => rfl) (de_nm 0 (pv 0)) de_int) da_nil)))))
theorem sc__law_div : FnScope ["one", "other"] ["one", "other"] (defScope (topS 42)) := ⟨rfl, rfl, rfl, by decide +kernel, rfl, by decide +kernel, by decide +kernel⟩
theorem kn__law_div {f_ : Addr} {fd_ : FuncData} (F_ : Fun K "_law_div" "_law_div" (topS 42) f_ fd_) (h_ : mg "_law_div" = some (.ref f_)) (G__law_made : Kn P w K mg base C [⟨C_ArgumentError, ["reason"]⟩, ⟨C_TextError, ["at"]⟩] "_law_made" 2 2 m__law_made) : Kn P w K mg base C [⟨C_ArgumentError, ["reason"]⟩, ⟨C_TextError, ["at"]⟩] "_law_div" 3 2 m__law_div :=
  kn_of (ps := ["one", "other"]) F_ h_ (F_.binds fun _ _ _ _ _ _ us hl => match us, hl with | [_, _], _ => rfl) sc__law_div fun cdv A outer s H E B Z =>
  (dss_one (ds_ret (de_call Z G__law_made (by decide) (by rfl) (falen_cons (falen_cons falen_nil)) (da_cons (de_op vop_mul (de_ix vix (fun _ _ => rfl) (de_nm 0 (pv 0)) de_int) (de_ix vix (fun _ _ => rfl) (de_nm 1 (pv 1)) de_int)) (da_cons (de_op vop_mul (de_ix vix (fun _ _ => rfl) (de_nm 0 (pv 0)) de_int) (de_ix vix (fun _ _ => rfl) (de_nm 1 (pv 1)) de_int)) da_nil)))))
theorem sc__law_told : FnScope ["call", "one", "other", "rows", "e"] ["call", "one", "other"] (defScope (topS 45)) := ⟨rfl, rfl, rfl, by decide +kernel, rfl, by decide +kernel, by decide +kernel⟩
theorem kn__law_told {f_ : Addr} {fd_ : FuncData} (F_ : Fun K "_law_told" "_law_told" (topS 45) f_ fd_) (h_ : mg "_law_told" = some (.ref f_)) (G_compare : Kn P w K mg base C [⟨C_ArgumentError, ["reason"]⟩, ⟨C_TextError, ["at"]⟩] "compare" 4 2 m_compare) (G_over : Kn P w K mg base C [⟨C_ArgumentError, ["reason"]⟩, ⟨C_TextError, ["at"]⟩] "over" 4 2 m_over) (G_times : Kn P w K mg base C [⟨C_ArgumentError, ["reason"]⟩, ⟨C_TextError, ["at"]⟩] "times" 4 2 m_times) (G_minus : Kn P w K mg base C [⟨C_ArgumentError, ["reason"]⟩, ⟨C_TextError, ["at"]⟩] "minus" 4 2 m_minus) (G_plus : Kn P w K mg base C [⟨C_ArgumentError, ["reason"]⟩, ⟨C_TextError, ["at"]⟩] "plus" 4 2 m_plus) (G_fraction : Kn P w K mg base C [⟨C_ArgumentError, ["reason"]⟩, ⟨C_TextError, ["at"]⟩] "fraction" 3 2 m_fraction) (G_opposite : Kn P w K mg base C [⟨C_ArgumentError, ["reason"]⟩, ⟨C_TextError, ["at"]⟩] "opposite" 4 1 m_opposite) (G_write_fraction : Kn P w K mg base C [⟨C_ArgumentError, ["reason"]⟩, ⟨C_TextError, ["at"]⟩] "write_fraction" 4 1 m_write_fraction) (G_read_fraction : Kn P w K mg base C [⟨C_ArgumentError, ["reason"]⟩, ⟨C_TextError, ["at"]⟩] "read_fraction" 3 1 m_read_fraction) (z_isinstance : mg "isinstance" = none) (c_TextError : mg "TextError" = some (.ref C_TextError)) (c_ArgumentError : mg "ArgumentError" = some (.ref C_ArgumentError)) (c_AwryError : mg "AwryError" = some (.ref C_AwryError)) (cc_TextError : Catches K [⟨C_ArgumentError, ["reason"]⟩, ⟨C_TextError, ["at"]⟩] (.ref C_TextError) [1]) (cc_ArgumentError : Catches K [⟨C_ArgumentError, ["reason"]⟩, ⟨C_TextError, ["at"]⟩] (.ref C_ArgumentError) [0]) (x_at : XatOk K [⟨C_ArgumentError, ["reason"]⟩, ⟨C_TextError, ["at"]⟩] "at") (x_reason : XatOk K [⟨C_ArgumentError, ["reason"]⟩, ⟨C_TextError, ["at"]⟩] "reason") (xi_AwryError : ∀ (m : Nat) (C : Addr) (ns : List Str), ([⟨C_ArgumentError, ["reason"]⟩, ⟨C_TextError, ["at"]⟩] : List XC)[m]? = some ⟨C, ns⟩ → XisOk K C ∧ PySem.W.kitOne K (.ref C) (.ref C_AwryError) = some (decide (m ∈ ([0, 1] : List Nat)))) (x_isk : XisK K) : Kn P w K mg base C [⟨C_ArgumentError, ["reason"]⟩, ⟨C_TextError, ["at"]⟩] "_law_told" 5 3 m__law_told :=
  kn_of (ps := ["call", "one", "other"]) F_ h_ (F_.binds fun _ _ _ _ _ _ us hl => match us, hl with | [_, _, _], _ => rfl) sc__law_told fun cdv A outer s H E B Z =>
  (dss_one (ds_try Z rfl rfl (fun _ _ _ Z => (dss_cons (ds_if (dt_cmp vop_lt (nomark _) (de_nm 0 (pv 0)) de_int) (dss_sel (n := 2) (k := 4) (i := 3) Z (Nat.le_refl _) rfl (by first | exact .inl rfl | exact .inr rfl) (.cons (by rfl) (G_fraction.up (by decide)) (by decide) (by rfl) (.cons (by rfl) (G_plus.up (by decide)) (by decide) (by rfl) (.cons (by rfl) (G_minus.up (by decide)) (by decide) (by rfl) (.cons (by rfl) (G_times.up (by decide)) (by decide) (by rfl) (.cons (by rfl) (G_over.up (by decide)) (by decide) (by rfl) (.cons (by rfl) (G_compare.up (by decide)) (by decide) (by rfl) .nil)))))) (falen_cons (falen_cons falen_nil)) (pv 3) (de_nm 0 (pv 0)) (fun _ _ => rfl) (da_cons (de_nm 1 (pv 1)) (da_cons (de_nm 2 (pv 2)) da_nil)))
  dss_nil)
  (dss_one (ds_ret (de_if (dt_cmp (vop_eq Z.h64) (nomark _) (de_nm 0 (pv 0)) de_int) (de_call Z G_opposite (by decide) (by rfl) (falen_cons falen_nil) (da_cons (de_nm 1 (pv 1)) da_nil)) (de_if (dt_cmp (vop_eq Z.h64) (nomark _) (de_nm 0 (pv 0)) de_int) (de_call Z G_write_fraction (by decide) (by rfl) (falen_cons falen_nil) (da_cons (de_nm 1 (pv 1)) da_nil)) (de_call Z G_read_fraction (by decide) (by rfl) (falen_cons falen_nil) (da_cons (de_nm 1 (pv 1)) da_nil)))))))) (.named (nsl := [0]) ⟨by rfl, by decide, .inl c_ArgumentError⟩ rfl (by rfl) (cc_ArgumentError) (fun _ _ _ _ _ _ _ hz hf => (de_if (dt_tr Z.hk (pe_xis (X := Z.ctx) (ns := [0, 1]) rfl xi_AwryError x_isk hz hf (by rfl) z_isinstance (pv 4) (pe_glob (v := .ref _) (by rfl) c_AwryError rfl))) (de_tup (da_cons de_str (da_cons (pe_xat (X := Z.ctx) rfl rfl x_reason hz hf (pv 4)) da_nil))) de_str)) (.named (nsl := [1]) ⟨by rfl, by decide, .inl c_TextError⟩ rfl (by rfl) (cc_TextError) (fun _ _ _ _ _ _ _ hz hf => (de_tup (da_cons de_str (da_cons (pe_xat (X := Z.ctx) rfl rfl x_at hz hf (pv 4)) da_nil)))) .nil))))
theorem sc__law_figures : FnScope ["text", "begin", "end", "k", "found", "sign"] ["text", "begin"] (defScope (topS 46)) := ⟨rfl, rfl, rfl, by decide +kernel, rfl, by decide +kernel, by decide +kernel⟩
theorem kn__law_figures {f_ : Addr} {fd_ : FuncData} (F_ : Fun K "_law_figures" "_law_figures" (topS 46) f_ fd_) (h_ : mg "_law_figures" = some (.ref f_)) (z_len : mg "len" = none) (z_range : mg "range" = none) : Kn P w K mg base C [⟨C_ArgumentError, ["reason"]⟩, ⟨C_TextError, ["at"]⟩] "_law_figures" 1 2 m__law_figures :=
  kn_of (ps := ["text", "begin"]) F_ h_ (F_.binds fun _ _ _ _ _ _ us hl => match us, hl with | [_, _], _ => rfl) sc__law_figures fun cdv A outer s H E B Z =>
  (dss_cons (ds_set (i := 2) Z.nd rfl (by first | exact .inl rfl | exact .inr rfl) (de_nm 1 (pv 1)))
  (dss_cons (ds_for (vs := [3]) Z (di_rng1 (by rfl) z_range (da_cons (de_bi vcl_len (by rfl) z_len (by decide +kernel) (da_cons (de_nm 0 (pv 0)) da_nil)) da_nil)) (dg_nm 3 (pg_name Z.nd rfl (by first | exact .inl rfl | exact .inr rfl)) (by decide))
  (dss_one (ds_if (PW.pt (dw_an (dt_cmp vop_lt (nomark _) (de_nm 2 (pv 2)) (de_bi vcl_len (by rfl) z_len (by decide +kernel) (da_cons (de_nm 0 (pv 0)) da_nil))) (dw_an1 (dt_cmp (vop_in Z.h65) (by rfl) (de_ix vix (fun _ _ => rfl) (de_nm 0 (pv 0)) (de_nm 2 (pv 2))) de_str)))) (dss_one (ds_set (i := 2) Z.nd rfl (by first | exact .inl rfl | exact .inr rfl) (de_op vop_add (de_nm 2 (pv 2)) de_int)))
  dss_nil)))
  (dss_cons (ds_if (PW.pt (dw_or (dt_cmp (vop_eq Z.h64) (nomark _) (de_nm 2 (pv 2)) (de_nm 1 (pv 1))) (dw_or (PW.pt (dw_an (dt_cmp (vop_eq Z.h64) (nomark _) (de_ix vix (fun _ _ => rfl) (de_nm 0 (pv 0)) (de_nm 1 (pv 1))) de_str) (dw_an1 (dt_cmp vop_gt (nomark _) (de_nm 2 (pv 2)) (de_op vop_add (de_nm 1 (pv 1)) de_int))))) (dw_or1 (dt_cmp vop_gt (nomark _) (de_nm 2 (pv 2)) (de_op vop_add (de_nm 1 (pv 1)) de_int)))))) (dss_one (ds_ret (de_tup (da_cons de_non (da_cons (de_nm 2 (pv 2)) da_nil)))))
  dss_nil)
  (dss_cons (ds_set (i := 4) Z.nd rfl (by first | exact .inl rfl | exact .inr rfl) de_int)
  (dss_cons (ds_for (vs := [5]) Z (di_seq Z.hk (de_sl Z.hk (de_nm 0 (pv 0)) (do_some (de_nm 1 (pv 1))) (do_some (de_nm 2 (pv 2))))) (dg_nm 5 (pg_name Z.nd rfl (by first | exact .inl rfl | exact .inr rfl)) (by decide))
  (dss_one (ds_set (i := 4) Z.nd rfl (by first | exact .inl rfl | exact .inr rfl) (de_op vop_add (de_op vop_mul de_int (de_nm 4 (pv 4))) (de_mt Z.hk (.inl rfl) PySem.F.plainAttrs_str PySem.F.slot_str_index PySem.F.type_str_index vmt_sindex de_str (da_cons (de_nm 5 (pv 5)) da_nil))))))
  (dss_one (ds_ret (de_tup (da_cons (de_if (dt_cmp vop_le (nomark _) (de_nm 4 (pv 4)) de_int) (de_nm 4 (pv 4)) de_non) (da_cons (de_nm 2 (pv 2)) da_nil))))))))))
theorem sc__law_read : FnScope ["text", "begin", "top", "end", "under", "last"] ["text"] (defScope (topS 47)) := ⟨rfl, rfl, rfl, by decide +kernel, rfl, by decide +kernel, by decide +kernel⟩
theorem kn__law_read {f_ : Addr} {fd_ : FuncData} (F_ : Fun K "_law_read" "_law_read" (topS 47) f_ fd_) (h_ : mg "_law_read" = some (.ref f_)) (G__law_figures : Kn P w K mg base C [⟨C_ArgumentError, ["reason"]⟩, ⟨C_TextError, ["at"]⟩] "_law_figures" 1 2 m__law_figures) (G__law_made : Kn P w K mg base C [⟨C_ArgumentError, ["reason"]⟩, ⟨C_TextError, ["at"]⟩] "_law_made" 2 2 m__law_made) (z_len : mg "len" = none) : Kn P w K mg base C [⟨C_ArgumentError, ["reason"]⟩, ⟨C_TextError, ["at"]⟩] "_law_read" 3 1 m__law_read :=
  kn_of (ps := ["text"]) F_ h_ (F_.binds fun _ _ _ _ _ _ us hl => match us, hl with | [_], _ => rfl) sc__law_read fun cdv A outer s H E B Z =>
  (dss_cons (ds_set (i := 1) Z.nd rfl (by first | exact .inl rfl | exact .inr rfl) (de_if (dt_cmp (vop_eq Z.h64) (nomark _) (de_sl Z.hk (de_nm 0 (pv 0)) do_none (do_some de_int)) de_str) de_int de_int))
  (dss_cons (ds_asg (vs := [2, 3]) (de_call Z G__law_figures (by decide) (by rfl) (falen_cons (falen_cons falen_nil)) (da_cons (de_nm 0 (pv 0)) (da_cons (de_nm 1 (pv 1)) da_nil))) (dg_tup Z.calm Z.hk (fun _ _ h => ts_len (fun _ _ h => ts_len (fun _ _ h => ts_len0 h) h) h) (dgs_cons (dg_nm 2 (pg_name Z.nd rfl (by first | exact .inl rfl | exact .inr rfl)) (by decide)) (dgs_cons (dg_nm 3 (pg_name Z.nd rfl (by first | exact .inl rfl | exact .inr rfl)) (by decide)) dgs_nil))))
  (dss_cons (ds_if (PW.pt (dw_or (dt_cmp vop_is (nomark _) (de_nm 2 (pv 2)) de_non) (dw_or1 (PW.pt (dw_an (dt_cmp (vop_eq Z.h64) (nomark _) (de_nm 1 (pv 1)) de_int) (dw_an1 (dt_cmp (vop_eq Z.h64) (nomark _) (de_nm 2 (pv 2)) de_int))))))) (dss_one (ds_ret (de_tup (da_cons de_str (da_cons (de_nm 1 (pv 1)) da_nil)))))
  dss_nil)
  (dss_cons (ds_if (dt_cmp (vop_eq Z.h64) (nomark _) (de_nm 3 (pv 3)) (de_bi vcl_len (by rfl) z_len (by decide +kernel) (da_cons (de_nm 0 (pv 0)) da_nil))) (dss_one (ds_ret (de_tup (da_cons (de_if (dt_cmp (vop_eq Z.h64) (nomark _) (de_nm 1 (pv 1)) de_int) (de_op vop_sub de_int (de_nm 2 (pv 2))) (de_nm 2 (pv 2))) (da_cons de_int da_nil)))))
  dss_nil)
  (dss_cons (ds_if (dt_cmp (vop_ne Z.h64) (nomark _) (de_ix vix (fun _ _ => rfl) (de_nm 0 (pv 0)) (de_nm 3 (pv 3))) de_str) (dss_one (ds_ret (de_tup (da_cons de_str (da_cons (de_nm 3 (pv 3)) da_nil)))))
  dss_nil)
  (dss_cons (ds_asg (vs := [4, 5]) (de_call Z G__law_figures (by decide) (by rfl) (falen_cons (falen_cons falen_nil)) (da_cons (de_nm 0 (pv 0)) (da_cons (de_op vop_add (de_nm 3 (pv 3)) de_int) da_nil))) (dg_tup Z.calm Z.hk (fun _ _ h => ts_len (fun _ _ h => ts_len (fun _ _ h => ts_len0 h) h) h) (dgs_cons (dg_nm 4 (pg_name Z.nd rfl (by first | exact .inl rfl | exact .inr rfl)) (by decide)) (dgs_cons (dg_nm 5 (pg_name Z.nd rfl (by first | exact .inl rfl | exact .inr rfl)) (by decide)) dgs_nil))))
  (dss_cons (ds_if (PW.pt (dw_or (dt_cmp vop_is (nomark _) (de_nm 4 (pv 4)) de_non) (dw_or1 (dt_cmp (vop_eq Z.h64) (nomark _) (de_nm 4 (pv 4)) de_int)))) (dss_one (ds_ret (de_tup (da_cons de_str (da_cons (de_op vop_add (de_nm 3 (pv 3)) de_int) da_nil)))))
  dss_nil)
  (dss_one (ds_ret (de_if (dt_cmp vop_lt (nomark _) (de_nm 5 (pv 5)) (de_bi vcl_len (by rfl) z_len (by decide +kernel) (da_cons (de_nm 0 (pv 0)) da_nil))) (de_tup (da_cons de_str (da_cons (de_nm 5 (pv 5)) da_nil))) (de_call Z G__law_made (by decide) (by rfl) (falen_cons (falen_cons falen_nil)) (da_cons (de_if (dt_cmp (vop_eq Z.h64) (nomark _) (de_nm 1 (pv 1)) de_int) (de_op vop_sub de_int (de_nm 2 (pv 2))) (de_nm 2 (pv 2))) (da_cons (de_nm 4 (pv 4)) da_nil)))))))))))))
theorem sc__law_text : FnScope ["one"] ["one"] (defScope (topS 48)) := ⟨rfl, rfl, rfl, by decide +kernel, rfl, by decide +kernel, by decide +kernel⟩
theorem kn__law_text {f_ : Addr} {fd_ : FuncData} (F_ : Fun K "_law_text" "_law_text" (topS 48) f_ fd_) (h_ : mg "_law_text" = some (.ref f_)) (z_str : mg "str" = none) : Kn P w K mg base C [⟨C_ArgumentError, ["reason"]⟩, ⟨C_TextError, ["at"]⟩] "_law_text" 1 1 m__law_text :=
  kn_of (ps := ["one"]) F_ h_ (F_.binds fun _ _ _ _ _ _ us hl => match us, hl with | [_], _ => rfl) sc__law_text fun cdv A outer s H E B Z =>
  (dss_one (ds_ret (de_op vop_add (de_ty vcl_str (by rfl) z_str (by decide +kernel) (da_cons (de_ix vix (fun _ _ => rfl) (de_nm 0 (pv 0)) de_int) da_nil)) (de_if (dt_cmp (vop_eq Z.h64) (nomark _) (de_ix vix (fun _ _ => rfl) (de_nm 0 (pv 0)) de_int) de_int) de_str (de_op vop_add de_str (de_ty vcl_str (by rfl) z_str (by decide +kernel) (da_cons (de_ix vix (fun _ _ => rfl) (de_nm 0 (pv 0)) de_int) da_nil)))))))
theorem sc__law_drawn : FnScope ["draws", "at", "wide", "top"] ["draws", "at"] (defScope (topS 49)) := ⟨rfl, rfl, rfl, by decide +kernel, rfl, by decide +kernel, by decide +kernel⟩
theorem kn__law_drawn {f_ : Addr} {fd_ : FuncData} (F_ : Fun K "_law_drawn" "_law_drawn" (topS 49) f_ fd_) (h_ : mg "_law_drawn" = some (.ref f_)) (G__law_one : Kn P w K mg base C [⟨C_ArgumentError, ["reason"]⟩, ⟨C_TextError, ["at"]⟩] "_law_one" 3 3 m__law_one) (G__law_take : Kn P w K mg base C [⟨C_ArgumentError, ["reason"]⟩, ⟨C_TextError, ["at"]⟩] "_law_take" 2 3 m__law_take) (G__law_made : Kn P w K mg base C [⟨C_ArgumentError, ["reason"]⟩, ⟨C_TextError, ["at"]⟩] "_law_made" 2 2 m__law_made) (z_int : mg "int" = none) : Kn P w K mg base C [⟨C_ArgumentError, ["reason"]⟩, ⟨C_TextError, ["at"]⟩] "_law_drawn" 4 2 m__law_drawn :=
  kn_of (ps := ["draws", "at"]) F_ h_ (F_.binds fun _ _ _ _ _ _ us hl => match us, hl with | [_, _], _ => rfl) sc__law_drawn fun cdv A outer s H E B Z =>
  (dss_cons (ds_set (i := 2) Z.nd rfl (by first | exact .inl rfl | exact .inr rfl) (de_call Z G__law_one (by decide) (by rfl) (falen_cons (falen_cons (falen_cel falen_nil))) (da_cons (de_lst (da_cons de_int (da_cons de_int (da_cons de_int (da_cons de_int (da_cons (de_op vop_pow de_int de_int) da_nil)))))) (da_cons (de_nm 0 (pv 0)) (da_cel 1 (pv 1) da_nil)))))
  (dss_cons (ds_set (i := 3) Z.nd rfl (by first | exact .inl rfl | exact .inr rfl) (de_op vop_sub (de_call Z G__law_take (by decide) (by rfl) (falen_cons (falen_cel (falen_cons falen_nil))) (da_cons (de_nm 0 (pv 0)) (da_cel 1 (pv 1) (da_cons de_int da_nil)))) de_int))
  (dss_one (ds_ret (de_call Z G__law_made (by decide) (by rfl) (falen_cons (falen_cons falen_nil)) (da_cons (de_op vop_mul (de_op vop_mod (de_ty vcl_int (by rfl) z_int (by decide +kernel) (da_cons (de_op vop_mul (de_nm 3 (pv 3)) (de_call Z G__law_one (by decide) (by rfl) (falen_cons (falen_cons (falen_cel falen_nil))) (da_cons (de_lst (da_cons de_int (da_cons de_int (da_cons de_int (da_cons de_int (da_cons (de_op vop_add (de_op vop_pow de_int de_int) de_int) da_nil)))))) (da_cons (de_nm 0 (pv 0)) (da_cel 1 (pv 1) da_nil))))) da_nil)) (de_nm 2 (pv 2))) (de_call Z G__law_one (by decide) (by rfl) (falen_cons (falen_cons (falen_cel falen_nil))) (da_cons (de_lst (da_cons de_int (da_cons (de_un vun_neg de_int) da_nil))) (da_cons (de_nm 0 (pv 0)) (da_cel 1 (pv 1) da_nil))))) (da_cons (de_op vop_add de_int (de_op vop_mod (de_ty vcl_int (by rfl) z_int (by decide +kernel) (da_cons (de_call Z G__law_take (by decide) (by rfl) (falen_cons (falen_cel (falen_cons falen_nil))) (da_cons (de_nm 0 (pv 0)) (da_cel 1 (pv 1) (da_cons de_int da_nil)))) da_nil)) (de_nm 2 (pv 2)))) da_nil)))))))
theorem sc__law_spoilt : FnScope ["text", "draws", "at", "place", "sign", "kind"] ["text", "draws", "at"] (defScope (topS 50)) := ⟨rfl, rfl, rfl, by decide +kernel, rfl, by decide +kernel, by decide +kernel⟩
theorem kn__law_spoilt {f_ : Addr} {fd_ : FuncData} (F_ : Fun K "_law_spoilt" "_law_spoilt" (topS 50) f_ fd_) (h_ : mg "_law_spoilt" = some (.ref f_)) (G__law_take : Kn P w K mg base C [⟨C_ArgumentError, ["reason"]⟩, ⟨C_TextError, ["at"]⟩] "_law_take" 2 3 m__law_take) (G__law_one : Kn P w K mg base C [⟨C_ArgumentError, ["reason"]⟩, ⟨C_TextError, ["at"]⟩] "_law_one" 3 3 m__law_one) (z_len : mg "len" = none) : Kn P w K mg base C [⟨C_ArgumentError, ["reason"]⟩, ⟨C_TextError, ["at"]⟩] "_law_spoilt" 4 3 m__law_spoilt :=
  kn_of (ps := ["text", "draws", "at"]) F_ h_ (F_.binds fun _ _ _ _ _ _ us hl => match us, hl with | [_, _, _], _ => rfl) sc__law_spoilt fun cdv A outer s H E B Z =>
  (dss_cons (ds_par (i := 3) (j := 4) Z.calm Z.nd rfl rfl (by decide) (by rfl) (by rfl) (de_call Z G__law_take (by decide) (by rfl) (falen_cons (falen_cel (falen_cons falen_nil))) (da_cons (de_nm 1 (pv 1)) (da_cel 2 (pv 2) (da_cons (de_op vop_add (de_bi vcl_len (by rfl) z_len (by decide +kernel) (da_cons (de_nm 0 (pv 0)) da_nil)) de_int) da_nil)))) (de_call Z G__law_one (by decide) (by rfl) (falen_cons (falen_cons (falen_cel falen_nil))) (da_cons (de_lst (da_cons de_str (da_cons de_str (da_cons de_str (da_cons de_str (da_cons de_str (da_cons de_str (da_cons de_str da_nil)))))))) (da_cons (de_nm 1 (pv 1)) (da_cel 2 (pv 2) da_nil)))) (by rfl))
  (dss_cons (ds_set (i := 5) Z.nd rfl (by first | exact .inl rfl | exact .inr rfl) (de_call Z G__law_take (by decide) (by rfl) (falen_cons (falen_cel (falen_cons falen_nil))) (da_cons (de_nm 1 (pv 1)) (da_cel 2 (pv 2) (da_cons de_int da_nil)))))
  (dss_one (ds_ret (de_if (dt_cmp (vop_eq Z.h64) (nomark _) (de_nm 5 (pv 5)) de_int) (de_op vop_add (de_op vop_add (de_sl Z.hk (de_nm 0 (pv 0)) do_none (do_some (de_nm 3 (pv 3)))) (de_nm 4 (pv 4))) (de_sl Z.hk (de_nm 0 (pv 0)) (do_some (de_nm 3 (pv 3))) do_none)) (de_if (dt_cmp (vop_eq Z.h64) (nomark _) (de_nm 5 (pv 5)) de_int) (de_op vop_add (de_sl Z.hk (de_nm 0 (pv 0)) do_none (do_some (de_nm 3 (pv 3)))) (de_sl Z.hk (de_nm 0 (pv 0)) (do_some (de_op vop_add (de_nm 3 (pv 3)) de_int)) do_none)) (de_op vop_add (de_op vop_add (de_sl Z.hk (de_nm 0 (pv 0)) do_none (do_some (de_nm 3 (pv 3)))) (de_nm 4 (pv 4))) (de_sl Z.hk (de_nm 0 (pv 0)) (do_some (de_op vop_add (de_nm 3 (pv 3)) de_int)) do_none))))))))
theorem sc_law : FnScope ["script", "draws", "at", "turn", "one", "other", "due", "cross", "top", "under", "small", "text", "factor", "bent", "bad", "told", "wrong", "call", "own"] ["script"] (defScope (topS 51)) := ⟨rfl, rfl, rfl, by decide +kernel, rfl, by decide +kernel, by decide +kernel⟩
theorem fn_law {f_ : Addr} {fd_ : FuncData} (F_ : Fun K "law" "law" (topS 51) f_ fd_) (G__law_draws : ∀ C : Option Addr, Kn P w K mg base C [⟨C_ArgumentError, ["reason"]⟩, ⟨C_TextError, ["at"]⟩] "_law_draws" 1 1 m__law_draws) (G__law_drawn : ∀ C : Option Addr, Kn P w K mg base C [⟨C_ArgumentError, ["reason"]⟩, ⟨C_TextError, ["at"]⟩] "_law_drawn" 4 2 m__law_drawn) (G__law_div : ∀ C : Option Addr, Kn P w K mg base C [⟨C_ArgumentError, ["reason"]⟩, ⟨C_TextError, ["at"]⟩] "_law_div" 3 2 m__law_div) (G__law_mul : ∀ C : Option Addr, Kn P w K mg base C [⟨C_ArgumentError, ["reason"]⟩, ⟨C_TextError, ["at"]⟩] "_law_mul" 3 2 m__law_mul) (G__law_neg : ∀ C : Option Addr, Kn P w K mg base C [⟨C_ArgumentError, ["reason"]⟩, ⟨C_TextError, ["at"]⟩] "_law_neg" 1 1 m__law_neg) (G__law_add : ∀ C : Option Addr, Kn P w K mg base C [⟨C_ArgumentError, ["reason"]⟩, ⟨C_TextError, ["at"]⟩] "_law_add" 3 2 m__law_add) (G__law_told : ∀ C : Option Addr, Kn P w K mg base C [⟨C_ArgumentError, ["reason"]⟩, ⟨C_TextError, ["at"]⟩] "_law_told" 5 3 m__law_told) (G__law_same_as : ∀ C : Option Addr, Kn P w K mg base C [⟨C_ArgumentError, ["reason"]⟩, ⟨C_TextError, ["at"]⟩] "_law_same_as" 1 2 m__law_same_as) (G__law_take : ∀ C : Option Addr, Kn P w K mg base C [⟨C_ArgumentError, ["reason"]⟩, ⟨C_TextError, ["at"]⟩] "_law_take" 2 3 m__law_take) (G__law_made : ∀ C : Option Addr, Kn P w K mg base C [⟨C_ArgumentError, ["reason"]⟩, ⟨C_TextError, ["at"]⟩] "_law_made" 2 2 m__law_made) (G__law_text : ∀ C : Option Addr, Kn P w K mg base C [⟨C_ArgumentError, ["reason"]⟩, ⟨C_TextError, ["at"]⟩] "_law_text" 1 1 m__law_text) (G__law_spoilt : ∀ C : Option Addr, Kn P w K mg base C [⟨C_ArgumentError, ["reason"]⟩, ⟨C_TextError, ["at"]⟩] "_law_spoilt" 4 3 m__law_spoilt) (G__law_one : ∀ C : Option Addr, Kn P w K mg base C [⟨C_ArgumentError, ["reason"]⟩, ⟨C_TextError, ["at"]⟩] "_law_one" 3 3 m__law_one) (G__law_read : ∀ C : Option Addr, Kn P w K mg base C [⟨C_ArgumentError, ["reason"]⟩, ⟨C_TextError, ["at"]⟩] "_law_read" 3 1 m__law_read) (z_range : mg "range" = none) (z_int : mg "int" = none) (z_abs : mg "abs" = none) (z_max : mg "max" = none) (z_str : mg "str" = none) : FnG P w K mg base 6 f_ fd_ ["script"] (spD K none [⟨C_ArgumentError, ["reason"]⟩, ⟨C_TextError, ["at"]⟩] 1 m_law) :=
  fng_of (ps := ["script"]) F_ sc_law fun cdv A outer s H E B Z =>
  (dss_cons (ds_set (i := 1) Z.nd rfl (by first | exact .inl rfl | exact .inr rfl) (de_call Z (G__law_draws _) (by decide) (by rfl) (falen_sc falen_nil) (da_sc 0 (pv 0) da_nil)))
  (dss_newcell (i := 2) Z rfl (by first | exact .inl rfl | exact .inr rfl) (fun _ _ _ Z => (dss_cons (ds_for (vs := [3]) Z (di_rng1 (by rfl) z_range (da_cons de_int da_nil)) (dg_nm 3 (pg_name Z.nd rfl (by first | exact .inl rfl | exact .inr rfl)) (by decide))
  (dss_cons (ds_asg (vs := [4, 5]) (de_tup (da_cons (de_call Z (G__law_drawn _) (by decide) (by rfl) (falen_cons (falen_cel falen_nil)) (da_cons (de_nm 1 (pv 1)) (da_cel 2 (pv 2) da_nil))) (da_cons (de_call Z (G__law_drawn _) (by decide) (by rfl) (falen_cons (falen_cel falen_nil)) (da_cons (de_nm 1 (pv 1)) (da_cel 2 (pv 2) da_nil))) da_nil))) (dg_tup Z.calm Z.hk (fun _ _ h => ts_len (fun _ _ h => ts_len (fun _ _ h => ts_len0 h) h) h) (dgs_cons (dg_nm 4 (pg_name Z.nd rfl (by first | exact .inl rfl | exact .inr rfl)) (by decide)) (dgs_cons (dg_nm 5 (pg_name Z.nd rfl (by first | exact .inl rfl | exact .inr rfl)) (by decide)) dgs_nil))))
  (dss_cons (ds_set (i := 6) Z.nd rfl (by first | exact .inl rfl | exact .inr rfl) (de_lst (da_cons (de_call Z (G__law_add _) (by decide) (by rfl) (falen_cons (falen_cons falen_nil)) (da_cons (de_nm 4 (pv 4)) (da_cons (de_nm 5 (pv 5)) da_nil))) (da_cons (de_call Z (G__law_add _) (by decide) (by rfl) (falen_cons (falen_cons falen_nil)) (da_cons (de_nm 4 (pv 4)) (da_cons (de_call Z (G__law_neg _) (by decide) (by rfl) (falen_cons falen_nil) (da_cons (de_nm 5 (pv 5)) da_nil)) da_nil))) (da_cons (de_call Z (G__law_mul _) (by decide) (by rfl) (falen_cons (falen_cons falen_nil)) (da_cons (de_nm 4 (pv 4)) (da_cons (de_nm 5 (pv 5)) da_nil))) (da_cons (de_if (dt_cmp (vop_ne Z.h64) (nomark _) (de_ix vix (fun _ _ => rfl) (de_nm 5 (pv 5)) de_int) de_int) (de_call Z (G__law_div _) (by decide) (by rfl) (falen_cons (falen_cons falen_nil)) (da_cons (de_nm 4 (pv 4)) (da_cons (de_nm 5 (pv 5)) da_nil))) (de_tup (da_cons de_str (da_cons de_str da_nil)))) da_nil))))))
  (dss_cons (ds_set (i := 7) Z.nd rfl (by first | exact .inl rfl | exact .inr rfl) (de_op vop_sub (de_op vop_mul (de_ix vix (fun _ _ => rfl) (de_nm 4 (pv 4)) de_int) (de_ix vix (fun _ _ => rfl) (de_nm 5 (pv 5)) de_int)) (de_op vop_mul (de_ix vix (fun _ _ => rfl) (de_nm 5 (pv 5)) de_int) (de_ix vix (fun _ _ => rfl) (de_nm 4 (pv 4)) de_int))))
  (dss_cons (ds_set (i := 6) Z.nd rfl (by first | exact .inl rfl | exact .inr rfl) (de_op vop_add (de_nm 6 (pv 6)) (de_lst (da_cons (de_if (dt_cmp (vop_eq Z.h64) (nomark _) (de_nm 7 (pv 7)) de_int) de_int (de_if (dt_cmp vop_gt (nomark _) (de_nm 7 (pv 7)) de_int) de_int (de_un vun_neg de_int))) (da_cons (de_call Z (G__law_neg _) (by decide) (by rfl) (falen_cons falen_nil) (da_cons (de_nm 4 (pv 4)) da_nil)) da_nil)))))
  (dss_cons (ds_if (dt_not (dt_tr Z.hk (de_call Z (G__law_same_as _) (by decide) (by rfl) (falen_cons (falen_cons falen_nil)) (da_cons (de_fz (df_lc (own := [("call", 17)]) Z (di_rng2 (by rfl) z_range (da_cons de_int (da_cons de_int da_nil))) (blkOk_by (by rfl)) (fun _ _ _ _ _ _ _ Z => (dg_nm 17 (pg_name Z.nd rfl (by first | exact .inl rfl | exact .inr rfl)) (by decide))) (fun _ _ _ _ _ _ _ Z => dts_nil) (fun _ _ _ _ _ _ _ Z => (de_call Z (G__law_told _) (by decide) (by rfl) (falen_cons (falen_cons (falen_cons falen_nil))) (da_cons (de_nm 17 (pv 17)) (da_cons (de_nm 4 (pv 4)) (da_cons (de_nm 5 (pv 5)) da_nil))))))) (da_cons (de_nm 6 (pv 6)) da_nil))))) (dss_one (ds_ret de_bl))
  dss_nil)
  (dss_cons (ds_par (i := 8) (j := 9) Z.calm Z.nd rfl rfl (by decide) (by rfl) (by rfl) (de_op vop_sub (de_op vop_mod (de_ty vcl_int (by rfl) z_int (by decide +kernel) (da_cons (de_call Z (G__law_take _) (by decide) (by rfl) (falen_cons (falen_cel (falen_cons falen_nil))) (da_cons (de_nm 1 (pv 1)) (da_cel 2 (pv 2) (da_cons de_int da_nil)))) da_nil)) de_int) de_int) (de_op vop_sub (de_op vop_mod (de_ty vcl_int (by rfl) z_int (by decide +kernel) (da_cons (de_call Z (G__law_take _) (by decide) (by rfl) (falen_cons (falen_cel (falen_cons falen_nil))) (da_cons (de_nm 1 (pv 1)) (da_cel 2 (pv 2) (da_cons de_int da_nil)))) da_nil)) de_int) de_int) (by rfl))
  (dss_cons (ds_if (dt_not (dt_tr Z.hk (de_call Z (G__law_same_as _) (by decide) (by rfl) (falen_cons (falen_cons falen_nil)) (da_cons (de_call Z (G__law_told _) (by decide) (by rfl) (falen_cons (falen_cons (falen_cons falen_nil))) (da_cons de_int (da_cons (de_nm 8 (pv 8)) (da_cons (de_nm 9 (pv 9)) da_nil)))) (da_cons (de_if (dt_cmp (vop_ne Z.h64) (nomark _) (de_nm 9 (pv 9)) de_int) (de_call Z (G__law_made _) (by decide) (by rfl) (falen_cons (falen_cons falen_nil)) (da_cons (de_nm 8 (pv 8)) (da_cons (de_nm 9 (pv 9)) da_nil))) (de_tup (da_cons de_str (da_cons de_str da_nil)))) da_nil))))) (dss_one (ds_ret de_bl))
  dss_nil)
  (dss_cons (ds_set (i := 10) Z.nd rfl (by first | exact .inl rfl | exact .inr rfl) (de_cmp vop_le (nomark _) (de_bi (vcl_max Z.calm) (by rfl) z_max (by decide +kernel) (da_cons (de_bi vcl_abs (by rfl) z_abs (by decide +kernel) (da_cons (de_ix vix (fun _ _ => rfl) (de_nm 4 (pv 4)) de_int) da_nil)) (da_cons (de_ix vix (fun _ _ => rfl) (de_nm 4 (pv 4)) de_int) da_nil))) de_int))
  (dss_cons (ds_if (dt_not (dt_tr Z.hk (de_call Z (G__law_same_as _) (by decide) (by rfl) (falen_cons (falen_cons falen_nil)) (da_cons (de_call Z (G__law_told _) (by decide) (by rfl) (falen_cons (falen_cons (falen_cons falen_nil))) (da_cons de_int (da_cons (de_nm 4 (pv 4)) (da_cons de_non da_nil)))) (da_cons (de_if (dt_tr Z.hk (de_nm 10 (pv 10))) (de_call Z (G__law_text _) (by decide) (by rfl) (falen_cons falen_nil) (da_cons (de_nm 4 (pv 4)) da_nil)) (de_tup (da_cons de_str (da_cons de_str da_nil)))) da_nil))))) (dss_one (ds_ret de_bl))
  dss_nil)
  (dss_cons (ds_set (i := 11) Z.nd rfl (by first | exact .inl rfl | exact .inr rfl) (de_if (dt_tr Z.hk (de_nm 10 (pv 10))) (de_call Z (G__law_text _) (by decide) (by rfl) (falen_cons falen_nil) (da_cons (de_nm 4 (pv 4)) da_nil)) de_str))
  (dss_cons (ds_set (i := 12) Z.nd rfl (by first | exact .inl rfl | exact .inr rfl) (de_op vop_add de_int (de_call Z (G__law_take _) (by decide) (by rfl) (falen_cons (falen_cel (falen_cons falen_nil))) (da_cons (de_nm 1 (pv 1)) (da_cel 2 (pv 2) (da_cons de_int da_nil))))))
  (dss_cons (ds_set (i := 11) Z.nd rfl (by first | exact .inl rfl | exact .inr rfl) (de_call Z (G__law_one _) (by decide) (by rfl) (falen_cons (falen_cons (falen_cel falen_nil))) (da_cons (de_lst (da_cons (de_nm 11 (pv 11)) (da_cons (de_nm 11 (pv 11)) (da_cons (de_op vop_add (de_op vop_add (de_ty vcl_str (by rfl) z_str (by decide +kernel) (da_cons (de_op vop_mul (de_nm 8 (pv 8)) (de_nm 12 (pv 12))) da_nil)) de_str) (de_ty vcl_str (by rfl) z_str (by decide +kernel) (da_cons (de_op vop_mul (de_bi vcl_abs (by rfl) z_abs (by decide +kernel) (da_cons (de_nm 9 (pv 9)) da_nil)) (de_nm 12 (pv 12))) da_nil))) (da_cons (de_call Z (G__law_spoilt _) (by decide) (by rfl) (falen_cons (falen_cons (falen_cel falen_nil))) (da_cons (de_nm 11 (pv 11)) (da_cons (de_nm 1 (pv 1)) (da_cel 2 (pv 2) da_nil)))) (da_cons de_str (da_cons de_str (da_cons de_str (da_cons de_str (da_cons de_str da_nil)))))))))) (da_cons (de_nm 1 (pv 1)) (da_cel 2 (pv 2) da_nil)))))
  (dss_cons (ds_set (i := 13) Z.nd rfl (by first | exact .inl rfl | exact .inr rfl) (de_call Z (G__law_one _) (by decide) (by rfl) (falen_cons (falen_cons (falen_cel falen_nil))) (da_cons (de_lst (da_cons (de_nm 11 (pv 11)) (da_cons (de_call Z (G__law_spoilt _) (by decide) (by rfl) (falen_cons (falen_cons (falen_cel falen_nil))) (da_cons (de_nm 11 (pv 11)) (da_cons (de_nm 1 (pv 1)) (da_cel 2 (pv 2) da_nil)))) da_nil))) (da_cons (de_nm 1 (pv 1)) (da_cel 2 (pv 2) da_nil)))))
  (dss_one (ds_if (dt_not (dt_tr Z.hk (de_call Z (G__law_same_as _) (by decide) (by rfl) (falen_cons (falen_cons falen_nil)) (da_cons (de_fz (df_lc (own := [("own", 18)]) Z (di_seq Z.hk (de_tup (da_cons (de_nm 11 (pv 11)) (da_cons (de_nm 13 (pv 13)) (da_cons de_str (da_cons de_str (da_cons de_str (da_cons de_str (da_cons de_str da_nil))))))))) (blkOk_by (by rfl)) (fun _ _ _ _ _ _ _ Z => (dg_nm 18 (pg_name Z.nd rfl (by first | exact .inl rfl | exact .inr rfl)) (by decide))) (fun _ _ _ _ _ _ _ Z => dts_nil) (fun _ _ _ _ _ _ _ Z => (de_call Z (G__law_told _) (by decide) (by rfl) (falen_cons (falen_cons (falen_cons falen_nil))) (da_cons de_int (da_cons (de_nm 18 (pv 18)) (da_cons de_non da_nil))))))) (da_cons (de_fz (df_lc (own := [("own", 18)]) Z (di_seq Z.hk (de_tup (da_cons (de_nm 11 (pv 11)) (da_cons (de_nm 13 (pv 13)) (da_cons de_str (da_cons de_str (da_cons de_str (da_cons de_str (da_cons de_str da_nil))))))))) (blkOk_by (by rfl)) (fun _ _ _ _ _ _ _ Z => (dg_nm 18 (pg_name Z.nd rfl (by first | exact .inl rfl | exact .inr rfl)) (by decide))) (fun _ _ _ _ _ _ _ Z => dts_nil) (fun _ _ _ _ _ _ _ Z => (de_call Z (G__law_read _) (by decide) (by rfl) (falen_cons falen_nil) (da_cons (de_nm 18 (pv 18)) da_nil))))) da_nil))))) (dss_one (ds_ret de_bl))
  dss_nil))))))))))))))))
  (dss_cons (ds_set (i := 14) Z.nd rfl (by first | exact .inl rfl | exact .inr rfl) (de_call Z (G__law_one _) (by decide) (by rfl) (falen_cons (falen_cons (falen_cel falen_nil))) (da_cons (de_lst (da_cons de_non (da_cons de_int (da_cons (de_tup (da_cons de_int da_nil)) (da_cons (de_tup (da_cons de_int (da_cons de_int da_nil))) (da_cons (de_tup (da_cons de_int (da_cons (de_un vun_neg de_int) da_nil))) (da_cons (de_tup (da_cons de_int (da_cons de_int da_nil))) (da_cons (de_tup (da_cons de_int (da_cons de_int da_nil))) (da_cons (de_tup (da_cons de_bl (da_cons de_int da_nil))) (da_cons (de_tup (da_cons de_int (da_cons de_int (da_cons de_int da_nil)))) (da_cons (de_lst (da_cons de_int (da_cons de_int da_nil))) (da_cons (de_tup (da_cons de_str (da_cons de_int da_nil))) da_nil)))))))))))) (da_cons (de_nm 1 (pv 1)) (da_cel 2 (pv 2) da_nil)))))
  (dss_cons (ds_set (i := 15) Z.nd rfl (by first | exact .inl rfl | exact .inr rfl) (de_op vop_add (de_fz (df_lc (own := [("call", 17)]) Z (di_rng2 (by rfl) z_range (da_cons de_int (da_cons de_int da_nil))) (blkOk_by (by rfl)) (fun _ _ _ _ _ _ _ Z => (dg_nm 17 (pg_name Z.nd rfl (by first | exact .inl rfl | exact .inr rfl)) (by decide))) (fun _ _ _ _ _ _ _ Z => dts_nil) (fun _ _ _ _ _ _ _ Z => (de_call Z (G__law_told _) (by decide) (by rfl) (falen_cons (falen_cons (falen_cons falen_nil))) (da_cons (de_nm 17 (pv 17)) (da_cons (de_nm 14 (pv 14)) (da_cons (de_tup (da_cons de_int (da_cons de_int da_nil))) da_nil))))))) (de_fz (df_lc (own := [("call", 17)]) Z (di_rng2 (by rfl) z_range (da_cons de_int (da_cons de_int da_nil))) (blkOk_by (by rfl)) (fun _ _ _ _ _ _ _ Z => (dg_nm 17 (pg_name Z.nd rfl (by first | exact .inl rfl | exact .inr rfl)) (by decide))) (fun _ _ _ _ _ _ _ Z => dts_nil) (fun _ _ _ _ _ _ _ Z => (de_call Z (G__law_told _) (by decide) (by rfl) (falen_cons (falen_cons (falen_cons falen_nil))) (da_cons (de_nm 17 (pv 17)) (da_cons (de_tup (da_cons de_int (da_cons de_int da_nil))) (da_cons (de_nm 14 (pv 14)) da_nil)))))))))
  (dss_cons (ds_if (PW.pt (dw_or (dt_cmp (vop_ne Z.h64) (nomark _) (de_nm 15 (pv 15)) (de_op vop_add (de_op vop_mul (de_lst (da_cons (de_tup (da_cons de_str (da_cons de_str da_nil))) da_nil)) de_int) (de_op vop_mul (de_lst (da_cons (de_tup (da_cons de_str (da_cons de_str da_nil))) da_nil)) de_int))) (dw_or1 (dt_cmp (vop_ne Z.h64) (nomark _) (de_fz (df_lc (own := [("call", 17)]) Z (di_seq Z.hk (de_tup (da_cons de_int (da_cons de_int da_nil)))) (blkOk_by (by rfl)) (fun _ _ _ _ _ _ _ Z => (dg_nm 17 (pg_name Z.nd rfl (by first | exact .inl rfl | exact .inr rfl)) (by decide))) (fun _ _ _ _ _ _ _ Z => dts_nil) (fun _ _ _ _ _ _ _ Z => (de_call Z (G__law_told _) (by decide) (by rfl) (falen_cons (falen_cons (falen_cons falen_nil))) (da_cons (de_nm 17 (pv 17)) (da_cons (de_nm 14 (pv 14)) (da_cons de_non da_nil))))))) (de_op vop_mul (de_lst (da_cons (de_tup (da_cons de_str (da_cons de_str da_nil))) da_nil)) de_int))))) (dss_one (ds_ret de_bl))
  dss_nil)
  (dss_cons (ds_set (i := 16) Z.nd rfl (by first | exact .inl rfl | exact .inr rfl) (de_call Z (G__law_one _) (by decide) (by rfl) (falen_cons (falen_cons (falen_cel falen_nil))) (da_cons (de_lst (da_cons de_non (da_cons de_bl (da_cons de_str (da_cons (de_tup (da_cons de_int (da_cons de_int da_nil))) da_nil))))) (da_cons (de_nm 1 (pv 1)) (da_cel 2 (pv 2) da_nil)))))
  (dss_cons (ds_if (dt_cmp (vop_ne Z.h64) (nomark _) (de_lst (da_cons (de_call Z (G__law_told _) (by decide) (by rfl) (falen_cons (falen_cons (falen_cons falen_nil))) (da_cons de_int (da_cons (de_nm 16 (pv 16)) (da_cons de_int da_nil)))) (da_cons (de_call Z (G__law_told _) (by decide) (by rfl) (falen_cons (falen_cons (falen_cons falen_nil))) (da_cons de_int (da_cons de_int (da_cons (de_nm 16 (pv 16)) da_nil)))) (da_cons (de_call Z (G__law_told _) (by decide) (by rfl) (falen_cons (falen_cons (falen_cons falen_nil))) (da_cons de_int (da_cons de_int (da_cons de_int da_nil)))) da_nil)))) (de_lst (da_cons (de_tup (da_cons de_str (da_cons de_str da_nil))) (da_cons (de_tup (da_cons de_str (da_cons de_str da_nil))) (da_cons (de_tup (da_cons de_str (da_cons de_str da_nil))) da_nil))))) (dss_one (ds_ret de_bl))
  dss_nil)
  (dss_one (ds_ret (de_cmp (vop_eq Z.h64) (nomark _) (de_fz (df_lc (own := [("own", 18)]) Z (di_seq Z.hk (de_tup (da_cons de_non (da_cons de_int (da_cons (de_tup (da_cons de_str da_nil)) (da_cons de_bl da_nil)))))) (blkOk_by (by rfl)) (fun _ _ _ _ _ _ _ Z => (dg_nm 18 (pg_name Z.nd rfl (by first | exact .inl rfl | exact .inr rfl)) (by decide))) (fun _ _ _ _ _ _ _ Z => dts_nil) (fun _ _ _ _ _ _ _ Z => (de_call Z (G__law_told _) (by decide) (by rfl) (falen_cons (falen_cons (falen_cons falen_nil))) (da_cons de_int (da_cons (de_nm 18 (pv 18)) (da_cons de_non da_nil))))))) (de_op vop_mul (de_lst (da_cons (de_tup (da_cons de_str (da_cons de_int da_nil))) da_nil)) de_int)))))))))))))
end
end K01

set_option Elab.async false
set_option linter.all false
set_option maxRecDepth 100000
set_option maxHeartbeats 4000000
namespace K01
open PySem PySem.Spec PyProof.Rows L2 L2.DL
theorem all_mk {w : World} {K : PySem.W.Frag} {h : Heap} {mg : Str → Option Value} {fa : Addr} (X : K.In h) (G : h.Ns mainGlobals mg) (hfa : mg "law" = some (.ref fa))
    {f8 : Addr} {od8 an8 : Option Addr} {sl8 : Array (Option Value)} {oc8 kV8 dc8 pm8 cd8 ct8 : Value}
    {f9 : Addr} {od9 an9 : Option Addr} {sl9 : Array (Option Value)} {oc9 kV9 dc9 pm9 cd9 ct9 : Value}
    {f10 : Addr} {od10 an10 : Option Addr} {sl10 : Array (Option Value)} {oc10 kV10 dc10 pm10 cd10 ct10 : Value}
    {f11 : Addr} {od11 an11 : Option Addr} {sl11 : Array (Option Value)} {oc11 kV11 dc11 pm11 cd11 ct11 : Value}
    {f12 : Addr} {od12 an12 : Option Addr} {sl12 : Array (Option Value)} {oc12 kV12 dc12 pm12 cd12 ct12 : Value}
    {f13 : Addr} {od13 an13 : Option Addr} {sl13 : Array (Option Value)} {oc13 kV13 dc13 pm13 cd13 ct13 : Value}
    {f14 : Addr} {od14 an14 : Option Addr} {sl14 : Array (Option Value)} {oc14 kV14 dc14 pm14 cd14 ct14 : Value}
    {f15 : Addr} {od15 an15 : Option Addr} {sl15 : Array (Option Value)} {oc15 kV15 dc15 pm15 cd15 ct15 : Value}
    {f16 : Addr} {od16 an16 : Option Addr} {sl16 : Array (Option Value)} {oc16 kV16 dc16 pm16 cd16 ct16 : Value}
    {f17 : Addr} {od17 an17 : Option Addr} {sl17 : Array (Option Value)} {oc17 kV17 dc17 pm17 cd17 ct17 : Value}
    {f18 : Addr} {od18 an18 : Option Addr} {sl18 : Array (Option Value)} {oc18 kV18 dc18 pm18 cd18 ct18 : Value}
    {f19 : Addr} {od19 an19 : Option Addr} {sl19 : Array (Option Value)} {oc19 kV19 dc19 pm19 cd19 ct19 : Value}
    {f20 : Addr} {od20 an20 : Option Addr} {sl20 : Array (Option Value)} {oc20 kV20 dc20 pm20 cd20 ct20 : Value}
    {f21 : Addr} {od21 an21 : Option Addr} {sl21 : Array (Option Value)} {oc21 kV21 dc21 pm21 cd21 ct21 : Value}
    {f22 : Addr} {od22 an22 : Option Addr} {sl22 : Array (Option Value)} {oc22 kV22 dc22 pm22 cd22 ct22 : Value}
    {f23 : Addr} {od23 an23 : Option Addr} {sl23 : Array (Option Value)} {oc23 kV23 dc23 pm23 cd23 ct23 : Value}
    {f24 : Addr} {od24 an24 : Option Addr} {sl24 : Array (Option Value)} {oc24 kV24 dc24 pm24 cd24 ct24 : Value}
    {f25 : Addr} {od25 an25 : Option Addr} {sl25 : Array (Option Value)} {oc25 kV25 dc25 pm25 cd25 ct25 : Value}
    {f26 : Addr} {od26 an26 : Option Addr} {sl26 : Array (Option Value)} {oc26 kV26 dc26 pm26 cd26 ct26 : Value}
    {f27 : Addr} {od27 an27 : Option Addr} {sl27 : Array (Option Value)} {oc27 kV27 dc27 pm27 cd27 ct27 : Value}
    {f28 : Addr} {od28 an28 : Option Addr} {sl28 : Array (Option Value)} {oc28 kV28 dc28 pm28 cd28 ct28 : Value}
    {f29 : Addr} {od29 an29 : Option Addr} {sl29 : Array (Option Value)} {oc29 kV29 dc29 pm29 cd29 ct29 : Value}
    {f30 : Addr} {od30 an30 : Option Addr} {sl30 : Array (Option Value)} {oc30 kV30 dc30 pm30 cd30 ct30 : Value}
    {f32 : Addr} {od32 an32 : Option Addr} {sl32 : Array (Option Value)} {oc32 kV32 dc32 pm32 cd32 ct32 : Value}
    {f33 : Addr} {od33 an33 : Option Addr} {sl33 : Array (Option Value)} {oc33 kV33 dc33 pm33 cd33 ct33 : Value}
    {f34 : Addr} {od34 an34 : Option Addr} {sl34 : Array (Option Value)} {oc34 kV34 dc34 pm34 cd34 ct34 : Value}
    {f35 : Addr} {od35 an35 : Option Addr} {sl35 : Array (Option Value)} {oc35 kV35 dc35 pm35 cd35 ct35 : Value}
    {f36 : Addr} {od36 an36 : Option Addr} {sl36 : Array (Option Value)} {oc36 kV36 dc36 pm36 cd36 ct36 : Value}
    {f37 : Addr} {od37 an37 : Option Addr} {sl37 : Array (Option Value)} {oc37 kV37 dc37 pm37 cd37 ct37 : Value}
    {f38 : Addr} {od38 an38 : Option Addr} {sl38 : Array (Option Value)} {oc38 kV38 dc38 pm38 cd38 ct38 : Value}
    {f39 : Addr} {od39 an39 : Option Addr} {sl39 : Array (Option Value)} {oc39 kV39 dc39 pm39 cd39 ct39 : Value}
    {f40 : Addr} {od40 an40 : Option Addr} {sl40 : Array (Option Value)} {oc40 kV40 dc40 pm40 cd40 ct40 : Value}
    {f41 : Addr} {od41 an41 : Option Addr} {sl41 : Array (Option Value)} {oc41 kV41 dc41 pm41 cd41 ct41 : Value}
    {f42 : Addr} {od42 an42 : Option Addr} {sl42 : Array (Option Value)} {oc42 kV42 dc42 pm42 cd42 ct42 : Value}
    {f45 : Addr} {od45 an45 : Option Addr} {sl45 : Array (Option Value)} {oc45 kV45 dc45 pm45 cd45 ct45 : Value}
    {f46 : Addr} {od46 an46 : Option Addr} {sl46 : Array (Option Value)} {oc46 kV46 dc46 pm46 cd46 ct46 : Value}
    {f47 : Addr} {od47 an47 : Option Addr} {sl47 : Array (Option Value)} {oc47 kV47 dc47 pm47 cd47 ct47 : Value}
    {f48 : Addr} {od48 an48 : Option Addr} {sl48 : Array (Option Value)} {oc48 kV48 dc48 pm48 cd48 ct48 : Value}
    {f49 : Addr} {od49 an49 : Option Addr} {sl49 : Array (Option Value)} {oc49 kV49 dc49 pm49 cd49 ct49 : Value}
    {f50 : Addr} {od50 an50 : Option Addr} {sl50 : Array (Option Value)} {oc50 kV50 dc50 pm50 cd50 ct50 : Value}
    {f51 : Addr} {od51 an51 : Option Addr} {sl51 : Array (Option Value)} {oc51 kV51 dc51 pm51 cd51 ct51 : Value}
    {y_MAX_PART : Tok}
    {y_ZERO : Addr} {od_ZERO : Option Addr} {nn_ZERO : Nat} {sl_ZERO : Array (Option Value)}
    {t_ZERO_0 : Tok}
    {t_ZERO_1 : Tok}
    {C_ArgumentError : Addr}
    {C_TextError : Addr}
    {C_AwryError : Addr}
    {I_ArgumentError cc_ArgumentError D_ArgumentError cda_ArgumentError : Addr} {nm_ArgumentError q_ArgumentError : Str} {N_ArgumentError : Addr} {bs_ArgumentError bm_ArgumentError sub_ArgumentError : List Value} {sn_ArgumentError : List Str} {ab_ArgumentError : Bool} {col_ArgumentError : Option Bool} {dd_ArgumentError : Option Addr} {h0_ArgumentError h1_ArgumentError h2_ArgumentError h3_ArgumentError h5_ArgumentError : Option Value}
    {oc_ArgumentError doc_ArgumentError pm_ArgumentError ct_ArgumentError ccl_ArgumentError cl_ArgumentError : Value} {od_ArgumentError an_ArgumentError cdd_ArgumentError cld_ArgumentError : Option Addr} {qual_ArgumentError file_ArgumentError : Str} {osl_ArgumentError ccs_ArgumentError csl_ArgumentError : Array (Option Value)} {vs_ArgumentError : Array Value} {tf_ArgumentError : Tok} {cdD_ArgumentError : ClassData} {p1_ArgumentError p2_ArgumentError r0_ArgumentError r1_ArgumentError r2_ArgumentError r3_ArgumentError r4_ArgumentError r5_ArgumentError q1_ArgumentError q2_ArgumentError q3_ArgumentError q4_ArgumentError : Pos}
    {I_TextError cc_TextError D_TextError cda_TextError : Addr} {nm_TextError q_TextError : Str} {N_TextError : Addr} {bs_TextError bm_TextError sub_TextError : List Value} {sn_TextError : List Str} {ab_TextError : Bool} {col_TextError : Option Bool} {dd_TextError : Option Addr} {h0_TextError h1_TextError h2_TextError h3_TextError h5_TextError : Option Value}
    {oc_TextError doc_TextError pm_TextError ct_TextError ccl_TextError cl_TextError : Value} {od_TextError an_TextError cdd_TextError cld_TextError : Option Addr} {qual_TextError file_TextError : Str} {osl_TextError ccs_TextError csl_TextError : Array (Option Value)} {vs_TextError : Array Value} {tf_TextError : Tok} {cdD_TextError : ClassData} {p1_TextError p2_TextError r0_TextError r1_TextError r2_TextError r3_TextError r4_TextError r5_TextError q1_TextError q2_TextError q3_TextError q4_TextError : Pos}
    {cq_AwryError : ClassData}
    {cx_ArgumentError : ClassData}
    {cx_TextError : ClassData}
    (a8 : PySem.W.nsIn K mainGlobals "is_integer" = some (some (.ref f8)))
    (l8 : K.lookup f8 = some ⟨oc8, od8, .func (PySem.W.fnOf "is_integer" "is_integer" (defArgs (topS 8)) (defBody (topS 8)) (defScope (topS 8)) .none kV8 dc8 pm8 an8 cd8 ct8), sl8⟩)
    (c8 : PySem.W.codeIn K cd8 "is_integer" = true)
    (k8 : PySem.W.keepIn K (.ref f8) = true)
    (a9 : PySem.W.nsIn K mainGlobals "common" = some (some (.ref f9)))
    (l9 : K.lookup f9 = some ⟨oc9, od9, .func (PySem.W.fnOf "common" "common" (defArgs (topS 9)) (defBody (topS 9)) (defScope (topS 9)) .none kV9 dc9 pm9 an9 cd9 ct9), sl9⟩)
    (c9 : PySem.W.codeIn K cd9 "common" = true)
    (k9 : PySem.W.keepIn K (.ref f9) = true)
    (a10 : PySem.W.nsIn K mainGlobals "made" = some (some (.ref f10)))
    (l10 : K.lookup f10 = some ⟨oc10, od10, .func (PySem.W.fnOf "made" "made" (defArgs (topS 10)) (defBody (topS 10)) (defScope (topS 10)) .none kV10 dc10 pm10 an10 cd10 ct10), sl10⟩)
    (c10 : PySem.W.codeIn K cd10 "made" = true)
    (k10 : PySem.W.keepIn K (.ref f10) = true)
    (a11 : PySem.W.nsIn K mainGlobals "is_fraction" = some (some (.ref f11)))
    (l11 : K.lookup f11 = some ⟨oc11, od11, .func (PySem.W.fnOf "is_fraction" "is_fraction" (defArgs (topS 11)) (defBody (topS 11)) (defScope (topS 11)) .none kV11 dc11 pm11 an11 cd11 ct11), sl11⟩)
    (c11 : PySem.W.codeIn K cd11 "is_fraction" = true)
    (k11 : PySem.W.keepIn K (.ref f11) = true)
    (a12 : PySem.W.nsIn K mainGlobals "is_small" = some (some (.ref f12)))
    (l12 : K.lookup f12 = some ⟨oc12, od12, .func (PySem.W.fnOf "is_small" "is_small" (defArgs (topS 12)) (defBody (topS 12)) (defScope (topS 12)) .none kV12 dc12 pm12 an12 cd12 ct12), sl12⟩)
    (c12 : PySem.W.codeIn K cd12 "is_small" = true)
    (k12 : PySem.W.keepIn K (.ref f12) = true)
    (a13 : PySem.W.nsIn K mainGlobals "added" = some (some (.ref f13)))
    (l13 : K.lookup f13 = some ⟨oc13, od13, .func (PySem.W.fnOf "added" "added" (defArgs (topS 13)) (defBody (topS 13)) (defScope (topS 13)) .none kV13 dc13 pm13 an13 cd13 ct13), sl13⟩)
    (c13 : PySem.W.codeIn K cd13 "added" = true)
    (k13 : PySem.W.keepIn K (.ref f13) = true)
    (a14 : PySem.W.nsIn K mainGlobals "lessened" = some (some (.ref f14)))
    (l14 : K.lookup f14 = some ⟨oc14, od14, .func (PySem.W.fnOf "lessened" "lessened" (defArgs (topS 14)) (defBody (topS 14)) (defScope (topS 14)) .none kV14 dc14 pm14 an14 cd14 ct14), sl14⟩)
    (c14 : PySem.W.codeIn K cd14 "lessened" = true)
    (k14 : PySem.W.keepIn K (.ref f14) = true)
    (a15 : PySem.W.nsIn K mainGlobals "multiplied" = some (some (.ref f15)))
    (l15 : K.lookup f15 = some ⟨oc15, od15, .func (PySem.W.fnOf "multiplied" "multiplied" (defArgs (topS 15)) (defBody (topS 15)) (defScope (topS 15)) .none kV15 dc15 pm15 an15 cd15 ct15), sl15⟩)
    (c15 : PySem.W.codeIn K cd15 "multiplied" = true)
    (k15 : PySem.W.keepIn K (.ref f15) = true)
    (a16 : PySem.W.nsIn K mainGlobals "divided" = some (some (.ref f16)))
    (l16 : K.lookup f16 = some ⟨oc16, od16, .func (PySem.W.fnOf "divided" "divided" (defArgs (topS 16)) (defBody (topS 16)) (defScope (topS 16)) .none kV16 dc16 pm16 an16 cd16 ct16), sl16⟩)
    (c16 : PySem.W.codeIn K cd16 "divided" = true)
    (k16 : PySem.W.keepIn K (.ref f16) = true)
    (a17 : PySem.W.nsIn K mainGlobals "negated" = some (some (.ref f17)))
    (l17 : K.lookup f17 = some ⟨oc17, od17, .func (PySem.W.fnOf "negated" "negated" (defArgs (topS 17)) (defBody (topS 17)) (defScope (topS 17)) .none kV17 dc17 pm17 an17 cd17 ct17), sl17⟩)
    (c17 : PySem.W.codeIn K cd17 "negated" = true)
    (k17 : PySem.W.keepIn K (.ref f17) = true)
    (a18 : PySem.W.nsIn K mainGlobals "is_less" = some (some (.ref f18)))
    (l18 : K.lookup f18 = some ⟨oc18, od18, .func (PySem.W.fnOf "is_less" "is_less" (defArgs (topS 18)) (defBody (topS 18)) (defScope (topS 18)) .none kV18 dc18 pm18 an18 cd18 ct18), sl18⟩)
    (c18 : PySem.W.codeIn K cd18 "is_less" = true)
    (k18 : PySem.W.keepIn K (.ref f18) = true)
    (a19 : PySem.W.nsIn K mainGlobals "demand_two" = some (some (.ref f19)))
    (l19 : K.lookup f19 = some ⟨oc19, od19, .func (PySem.W.fnOf "demand_two" "demand_two" (defArgs (topS 19)) (defBody (topS 19)) (defScope (topS 19)) .none kV19 dc19 pm19 an19 cd19 ct19), sl19⟩)
    (c19 : PySem.W.codeIn K cd19 "demand_two" = true)
    (k19 : PySem.W.keepIn K (.ref f19) = true)
    (a20 : PySem.W.nsIn K mainGlobals "fraction" = some (some (.ref f20)))
    (l20 : K.lookup f20 = some ⟨oc20, od20, .func (PySem.W.fnOf "fraction" "fraction" (defArgs (topS 20)) (defBody (topS 20)) (defScope (topS 20)) .none kV20 dc20 pm20 an20 cd20 ct20), sl20⟩)
    (c20 : PySem.W.codeIn K cd20 "fraction" = true)
    (k20 : PySem.W.keepIn K (.ref f20) = true)
    (a21 : PySem.W.nsIn K mainGlobals "plus" = some (some (.ref f21)))
    (l21 : K.lookup f21 = some ⟨oc21, od21, .func (PySem.W.fnOf "plus" "plus" (defArgs (topS 21)) (defBody (topS 21)) (defScope (topS 21)) .none kV21 dc21 pm21 an21 cd21 ct21), sl21⟩)
    (c21 : PySem.W.codeIn K cd21 "plus" = true)
    (k21 : PySem.W.keepIn K (.ref f21) = true)
    (a22 : PySem.W.nsIn K mainGlobals "minus" = some (some (.ref f22)))
    (l22 : K.lookup f22 = some ⟨oc22, od22, .func (PySem.W.fnOf "minus" "minus" (defArgs (topS 22)) (defBody (topS 22)) (defScope (topS 22)) .none kV22 dc22 pm22 an22 cd22 ct22), sl22⟩)
    (c22 : PySem.W.codeIn K cd22 "minus" = true)
    (k22 : PySem.W.keepIn K (.ref f22) = true)
    (a23 : PySem.W.nsIn K mainGlobals "times" = some (some (.ref f23)))
    (l23 : K.lookup f23 = some ⟨oc23, od23, .func (PySem.W.fnOf "times" "times" (defArgs (topS 23)) (defBody (topS 23)) (defScope (topS 23)) .none kV23 dc23 pm23 an23 cd23 ct23), sl23⟩)
    (c23 : PySem.W.codeIn K cd23 "times" = true)
    (k23 : PySem.W.keepIn K (.ref f23) = true)
    (a24 : PySem.W.nsIn K mainGlobals "over" = some (some (.ref f24)))
    (l24 : K.lookup f24 = some ⟨oc24, od24, .func (PySem.W.fnOf "over" "over" (defArgs (topS 24)) (defBody (topS 24)) (defScope (topS 24)) .none kV24 dc24 pm24 an24 cd24 ct24), sl24⟩)
    (c24 : PySem.W.codeIn K cd24 "over" = true)
    (k24 : PySem.W.keepIn K (.ref f24) = true)
    (a25 : PySem.W.nsIn K mainGlobals "opposite" = some (some (.ref f25)))
    (l25 : K.lookup f25 = some ⟨oc25, od25, .func (PySem.W.fnOf "opposite" "opposite" (defArgs (topS 25)) (defBody (topS 25)) (defScope (topS 25)) .none kV25 dc25 pm25 an25 cd25 ct25), sl25⟩)
    (c25 : PySem.W.codeIn K cd25 "opposite" = true)
    (k25 : PySem.W.keepIn K (.ref f25) = true)
    (a26 : PySem.W.nsIn K mainGlobals "compare" = some (some (.ref f26)))
    (l26 : K.lookup f26 = some ⟨oc26, od26, .func (PySem.W.fnOf "compare" "compare" (defArgs (topS 26)) (defBody (topS 26)) (defScope (topS 26)) .none kV26 dc26 pm26 an26 cd26 ct26), sl26⟩)
    (c26 : PySem.W.codeIn K cd26 "compare" = true)
    (k26 : PySem.W.keepIn K (.ref f26) = true)
    (a27 : PySem.W.nsIn K mainGlobals "digits_from" = some (some (.ref f27)))
    (l27 : K.lookup f27 = some ⟨oc27, od27, .func (PySem.W.fnOf "digits_from" "digits_from" (defArgs (topS 27)) (defBody (topS 27)) (defScope (topS 27)) .none kV27 dc27 pm27 an27 cd27 ct27), sl27⟩)
    (c27 : PySem.W.codeIn K cd27 "digits_from" = true)
    (k27 : PySem.W.keepIn K (.ref f27) = true)
    (a28 : PySem.W.nsIn K mainGlobals "read_fraction" = some (some (.ref f28)))
    (l28 : K.lookup f28 = some ⟨oc28, od28, .func (PySem.W.fnOf "read_fraction" "read_fraction" (defArgs (topS 28)) (defBody (topS 28)) (defScope (topS 28)) .none kV28 dc28 pm28 an28 cd28 ct28), sl28⟩)
    (c28 : PySem.W.codeIn K cd28 "read_fraction" = true)
    (k28 : PySem.W.keepIn K (.ref f28) = true)
    (a29 : PySem.W.nsIn K mainGlobals "text_of" = some (some (.ref f29)))
    (l29 : K.lookup f29 = some ⟨oc29, od29, .func (PySem.W.fnOf "text_of" "text_of" (defArgs (topS 29)) (defBody (topS 29)) (defScope (topS 29)) .none kV29 dc29 pm29 an29 cd29 ct29), sl29⟩)
    (c29 : PySem.W.codeIn K cd29 "text_of" = true)
    (k29 : PySem.W.keepIn K (.ref f29) = true)
    (a30 : PySem.W.nsIn K mainGlobals "write_fraction" = some (some (.ref f30)))
    (l30 : K.lookup f30 = some ⟨oc30, od30, .func (PySem.W.fnOf "write_fraction" "write_fraction" (defArgs (topS 30)) (defBody (topS 30)) (defScope (topS 30)) .none kV30 dc30 pm30 an30 cd30 ct30), sl30⟩)
    (c30 : PySem.W.codeIn K cd30 "write_fraction" = true)
    (k30 : PySem.W.keepIn K (.ref f30) = true)
    (a32 : PySem.W.nsIn K mainGlobals "_law_draws" = some (some (.ref f32)))
    (l32 : K.lookup f32 = some ⟨oc32, od32, .func (PySem.W.fnOf "_law_draws" "_law_draws" (defArgs (topS 32)) (defBody (topS 32)) (defScope (topS 32)) .none kV32 dc32 pm32 an32 cd32 ct32), sl32⟩)
    (c32 : PySem.W.codeIn K cd32 "_law_draws" = true)
    (k32 : PySem.W.keepIn K (.ref f32) = true)
    (a33 : PySem.W.nsIn K mainGlobals "_law_more" = some (some (.ref f33)))
    (l33 : K.lookup f33 = some ⟨oc33, od33, .func (PySem.W.fnOf "_law_more" "_law_more" (defArgs (topS 33)) (defBody (topS 33)) (defScope (topS 33)) .none kV33 dc33 pm33 an33 cd33 ct33), sl33⟩)
    (c33 : PySem.W.codeIn K cd33 "_law_more" = true)
    (k33 : PySem.W.keepIn K (.ref f33) = true)
    (a34 : PySem.W.nsIn K mainGlobals "_law_take" = some (some (.ref f34)))
    (l34 : K.lookup f34 = some ⟨oc34, od34, .func (PySem.W.fnOf "_law_take" "_law_take" (defArgs (topS 34)) (defBody (topS 34)) (defScope (topS 34)) .none kV34 dc34 pm34 an34 cd34 ct34), sl34⟩)
    (c34 : PySem.W.codeIn K cd34 "_law_take" = true)
    (k34 : PySem.W.keepIn K (.ref f34) = true)
    (a35 : PySem.W.nsIn K mainGlobals "_law_one" = some (some (.ref f35)))
    (l35 : K.lookup f35 = some ⟨oc35, od35, .func (PySem.W.fnOf "_law_one" "_law_one" (defArgs (topS 35)) (defBody (topS 35)) (defScope (topS 35)) .none kV35 dc35 pm35 an35 cd35 ct35), sl35⟩)
    (c35 : PySem.W.codeIn K cd35 "_law_one" = true)
    (k35 : PySem.W.keepIn K (.ref f35) = true)
    (a36 : PySem.W.nsIn K mainGlobals "_law_same_as" = some (some (.ref f36)))
    (l36 : K.lookup f36 = some ⟨oc36, od36, .func (PySem.W.fnOf "_law_same_as" "_law_same_as" (defArgs (topS 36)) (defBody (topS 36)) (defScope (topS 36)) .none kV36 dc36 pm36 an36 cd36 ct36), sl36⟩)
    (c36 : PySem.W.codeIn K cd36 "_law_same_as" = true)
    (k36 : PySem.W.keepIn K (.ref f36) = true)
    (a37 : PySem.W.nsIn K mainGlobals "_law_common" = some (some (.ref f37)))
    (l37 : K.lookup f37 = some ⟨oc37, od37, .func (PySem.W.fnOf "_law_common" "_law_common" (defArgs (topS 37)) (defBody (topS 37)) (defScope (topS 37)) .none kV37 dc37 pm37 an37 cd37 ct37), sl37⟩)
    (c37 : PySem.W.codeIn K cd37 "_law_common" = true)
    (k37 : PySem.W.keepIn K (.ref f37) = true)
    (a38 : PySem.W.nsIn K mainGlobals "_law_made" = some (some (.ref f38)))
    (l38 : K.lookup f38 = some ⟨oc38, od38, .func (PySem.W.fnOf "_law_made" "_law_made" (defArgs (topS 38)) (defBody (topS 38)) (defScope (topS 38)) .none kV38 dc38 pm38 an38 cd38 ct38), sl38⟩)
    (c38 : PySem.W.codeIn K cd38 "_law_made" = true)
    (k38 : PySem.W.keepIn K (.ref f38) = true)
    (a39 : PySem.W.nsIn K mainGlobals "_law_add" = some (some (.ref f39)))
    (l39 : K.lookup f39 = some ⟨oc39, od39, .func (PySem.W.fnOf "_law_add" "_law_add" (defArgs (topS 39)) (defBody (topS 39)) (defScope (topS 39)) .none kV39 dc39 pm39 an39 cd39 ct39), sl39⟩)
    (c39 : PySem.W.codeIn K cd39 "_law_add" = true)
    (k39 : PySem.W.keepIn K (.ref f39) = true)
    (a40 : PySem.W.nsIn K mainGlobals "_law_mul" = some (some (.ref f40)))
    (l40 : K.lookup f40 = some ⟨oc40, od40, .func (PySem.W.fnOf "_law_mul" "_law_mul" (defArgs (topS 40)) (defBody (topS 40)) (defScope (topS 40)) .none kV40 dc40 pm40 an40 cd40 ct40), sl40⟩)
    (c40 : PySem.W.codeIn K cd40 "_law_mul" = true)
    (k40 : PySem.W.keepIn K (.ref f40) = true)
    (a41 : PySem.W.nsIn K mainGlobals "_law_neg" = some (some (.ref f41)))
    (l41 : K.lookup f41 = some ⟨oc41, od41, .func (PySem.W.fnOf "_law_neg" "_law_neg" (defArgs (topS 41)) (defBody (topS 41)) (defScope (topS 41)) .none kV41 dc41 pm41 an41 cd41 ct41), sl41⟩)
    (c41 : PySem.W.codeIn K cd41 "_law_neg" = true)
    (k41 : PySem.W.keepIn K (.ref f41) = true)
    (a42 : PySem.W.nsIn K mainGlobals "_law_div" = some (some (.ref f42)))
    (l42 : K.lookup f42 = some ⟨oc42, od42, .func (PySem.W.fnOf "_law_div" "_law_div" (defArgs (topS 42)) (defBody (topS 42)) (defScope (topS 42)) .none kV42 dc42 pm42 an42 cd42 ct42), sl42⟩)
    (c42 : PySem.W.codeIn K cd42 "_law_div" = true)
    (k42 : PySem.W.keepIn K (.ref f42) = true)
    (a45 : PySem.W.nsIn K mainGlobals "_law_told" = some (some (.ref f45)))
    (l45 : K.lookup f45 = some ⟨oc45, od45, .func (PySem.W.fnOf "_law_told" "_law_told" (defArgs (topS 45)) (defBody (topS 45)) (defScope (topS 45)) .none kV45 dc45 pm45 an45 cd45 ct45), sl45⟩)
    (c45 : PySem.W.codeIn K cd45 "_law_told" = true)
    (k45 : PySem.W.keepIn K (.ref f45) = true)
    (a46 : PySem.W.nsIn K mainGlobals "_law_figures" = some (some (.ref f46)))
    (l46 : K.lookup f46 = some ⟨oc46, od46, .func (PySem.W.fnOf "_law_figures" "_law_figures" (defArgs (topS 46)) (defBody (topS 46)) (defScope (topS 46)) .none kV46 dc46 pm46 an46 cd46 ct46), sl46⟩)
    (c46 : PySem.W.codeIn K cd46 "_law_figures" = true)
    (k46 : PySem.W.keepIn K (.ref f46) = true)
    (a47 : PySem.W.nsIn K mainGlobals "_law_read" = some (some (.ref f47)))
    (l47 : K.lookup f47 = some ⟨oc47, od47, .func (PySem.W.fnOf "_law_read" "_law_read" (defArgs (topS 47)) (defBody (topS 47)) (defScope (topS 47)) .none kV47 dc47 pm47 an47 cd47 ct47), sl47⟩)
    (c47 : PySem.W.codeIn K cd47 "_law_read" = true)
    (k47 : PySem.W.keepIn K (.ref f47) = true)
    (a48 : PySem.W.nsIn K mainGlobals "_law_text" = some (some (.ref f48)))
    (l48 : K.lookup f48 = some ⟨oc48, od48, .func (PySem.W.fnOf "_law_text" "_law_text" (defArgs (topS 48)) (defBody (topS 48)) (defScope (topS 48)) .none kV48 dc48 pm48 an48 cd48 ct48), sl48⟩)
    (c48 : PySem.W.codeIn K cd48 "_law_text" = true)
    (k48 : PySem.W.keepIn K (.ref f48) = true)
    (a49 : PySem.W.nsIn K mainGlobals "_law_drawn" = some (some (.ref f49)))
    (l49 : K.lookup f49 = some ⟨oc49, od49, .func (PySem.W.fnOf "_law_drawn" "_law_drawn" (defArgs (topS 49)) (defBody (topS 49)) (defScope (topS 49)) .none kV49 dc49 pm49 an49 cd49 ct49), sl49⟩)
    (c49 : PySem.W.codeIn K cd49 "_law_drawn" = true)
    (k49 : PySem.W.keepIn K (.ref f49) = true)
    (a50 : PySem.W.nsIn K mainGlobals "_law_spoilt" = some (some (.ref f50)))
    (l50 : K.lookup f50 = some ⟨oc50, od50, .func (PySem.W.fnOf "_law_spoilt" "_law_spoilt" (defArgs (topS 50)) (defBody (topS 50)) (defScope (topS 50)) .none kV50 dc50 pm50 an50 cd50 ct50), sl50⟩)
    (c50 : PySem.W.codeIn K cd50 "_law_spoilt" = true)
    (k50 : PySem.W.keepIn K (.ref f50) = true)
    (a51 : PySem.W.nsIn K mainGlobals "law" = some (some (.ref f51)))
    (l51 : K.lookup f51 = some ⟨oc51, od51, .func (PySem.W.fnOf "law" "law" (defArgs (topS 51)) (defBody (topS 51)) (defScope (topS 51)) .none kV51 dc51 pm51 an51 cd51 ct51), sl51⟩)
    (c51 : PySem.W.codeIn K cd51 "law" = true)
    (k51 : PySem.W.keepIn K (.ref f51) = true)
    (n_isinstance : PySem.W.nsIn K mainGlobals "isinstance" = some none)
    (n_int : PySem.W.nsIn K mainGlobals "int" = some none)
    (n_bool : PySem.W.nsIn K mainGlobals "bool" = some none)
    (n_abs : PySem.W.nsIn K mainGlobals "abs" = some none)
    (n_tuple : PySem.W.nsIn K mainGlobals "tuple" = some none)
    (n_len : PySem.W.nsIn K mainGlobals "len" = some none)
    (n_str : PySem.W.nsIn K mainGlobals "str" = some none)
    (n_range : PySem.W.nsIn K mainGlobals "range" = some none)
    (n_repr : PySem.W.nsIn K mainGlobals "repr" = some none)
    (n_max : PySem.W.nsIn K mainGlobals "max" = some none)
    (a_MAX_PART : PySem.W.nsIn K mainGlobals "MAX_PART" = some (some (.int 1000000 y_MAX_PART)))
    (a_ZERO : PySem.W.nsIn K mainGlobals "ZERO" = some (some (.ref y_ZERO)))
    (l_ZERO : K.lookup y_ZERO = some ⟨.type "tuple", od_ZERO, .seq ([.int 0 t_ZERO_0, .int 1 t_ZERO_1] : List Value).toArray nn_ZERO, sl_ZERO⟩)
    (tp : PySem.W.nsIn K PySem.cStatics "thirdparty.any" = some none)
    (n_super : PySem.W.nsIn K mainGlobals "super" = some none)
    (tops : ((PySem.Challenge.pw_leastawry_k01_whole_fractions).main.scope.names.lookup ("super" : Str)).isSome = false)
    (g_ArgumentError : PySem.W.nsIn K mainGlobals "ArgumentError" = some (some (.ref C_ArgumentError)))
    (g_TextError : PySem.W.nsIn K mainGlobals "TextError" = some (some (.ref C_TextError)))
    (g_AwryError : PySem.W.nsIn K mainGlobals "AwryError" = some (some (.ref C_AwryError)))
    (ex_ArgumentError : PySem.W.subIn K (.ref C_ArgumentError) (.type "BaseException") = some true)
    (hd_ArgumentError : PySem.W.hasDictIn K C_ArgumentError = true)
    (ty_ArgumentError : PySem.W.typeIn K (.ref C_ArgumentError) = some (.type "type"))
    (ex_TextError : PySem.W.subIn K (.ref C_TextError) (.type "BaseException") = some true)
    (hd_TextError : PySem.W.hasDictIn K C_TextError = true)
    (ty_TextError : PySem.W.typeIn K (.ref C_TextError) = some (.type "type"))
    (ex_AwryError : PySem.W.subIn K (.ref C_AwryError) (.type "BaseException") = some true)
    (hd_AwryError : PySem.W.hasDictIn K C_AwryError = true)
    (ty_AwryError : PySem.W.typeIn K (.ref C_AwryError) = some (.type "type"))
    (kl_ArgumentError : K.lookup C_ArgumentError = some (PySem.excClassObj nm_ArgumentError q_ArgumentError C_ArgumentError N_ArgumentError bs_ArgumentError bm_ArgumentError true sn_ArgumentError sub_ArgumentError ab_ArgumentError col_ArgumentError dd_ArgumentError h0_ArgumentError h1_ArgumentError h2_ArgumentError h3_ArgumentError h5_ArgumentError "ValueError.__new__"))
    (rf_ArgumentError : PySem.HandSPX.refsVE bm_ArgumentError = true)
    (sa_ArgumentError : PySem.W.findIn K (.ref C_ArgumentError) "__setattr__" = some (some (.builtin "object.__setattr__")))
    (ga_ArgumentError : PySem.W.findIn K (.ref C_ArgumentError) "__getattribute__" = some (some (.builtin "BaseException.__getattribute__")))
    (gg_ArgumentError : PySem.W.findIn K (.ref C_ArgumentError) "__getattr__" = some none)
    (no_ArgumentError : PySem.W.findIn K (.ref C_ArgumentError) "reason" = some none)
    (in_ArgumentError : PySem.W.findIn K (.ref C_ArgumentError) "__init__" = some (some (.ref I_ArgumentError)))
    (tc_ArgumentError : PySem.W.typeIn K (.ref I_ArgumentError) = some (.type "function"))
    (kc_ArgumentError : PySem.W.keepIn K (.ref C_ArgumentError) = true)
    (ve_ArgumentError : PySem.W.subIn K (.ref C_ArgumentError) (.type "ValueError") = some true)
    (fn_ArgumentError : K.lookup I_ArgumentError = some ⟨oc_ArgumentError, od_ArgumentError, .func (PySem.W.fnX "__init__" qual_ArgumentError (PySem.AwX.iA "reason" p1_ArgumentError p2_ArgumentError) (PySem.AwX.iB "reason" r0_ArgumentError r1_ArgumentError r2_ArgumentError r3_ArgumentError r4_ArgumentError r5_ArgumentError q1_ArgumentError q2_ArgumentError q3_ArgumentError q4_ArgumentError) (PySem.AwX.iS "reason") [("__class__", cc_ArgumentError)] .none .none doc_ArgumentError pm_ArgumentError an_ArgumentError (.ref cda_ArgumentError) ct_ArgumentError), osl_ArgumentError⟩)
    (co_ArgumentError : PySem.W.codeIn K (.ref cda_ArgumentError) qual_ArgumentError = true)
    (cd_ArgumentError : K.lookup cda_ArgumentError = some ⟨ccl_ArgumentError, cdd_ArgumentError, .fields vs_ArgumentError, ccs_ArgumentError⟩)
    (v2_ArgumentError : vs_ArgumentError[2]? = some (.str file_ArgumentError tf_ArgumentError))
    (fl_ArgumentError : ((PySem.Challenge.pw_leastawry_k01_whole_fractions.main.file : Str) == file_ArgumentError) = true)
    (ce_ArgumentError : K.lookup cc_ArgumentError = some ⟨cl_ArgumentError, cld_ArgumentError, .cell (some (.ref D_ArgumentError)), csl_ArgumentError⟩)
    (cD_ArgumentError : PySem.W.clsIn K D_ArgumentError = some cdD_ArgumentError)
    (mr_ArgumentError : PySem.W.mroIn K C_ArgumentError (.ref D_ArgumentError) = some true)
    (su_ArgumentError : PySem.W.ks_superIn K C_ArgumentError D_ArgumentError "__init__" = some (some (.builtin "ValueError.__init__")))
    (li_ArgumentError : (r2_ArgumentError.endLine == r4_ArgumentError.line) = true)
    (kl_TextError : K.lookup C_TextError = some (PySem.excClassObj nm_TextError q_TextError C_TextError N_TextError bs_TextError bm_TextError true sn_TextError sub_TextError ab_TextError col_TextError dd_TextError h0_TextError h1_TextError h2_TextError h3_TextError h5_TextError "ValueError.__new__"))
    (rf_TextError : PySem.HandSPX.refsVE bm_TextError = true)
    (sa_TextError : PySem.W.findIn K (.ref C_TextError) "__setattr__" = some (some (.builtin "object.__setattr__")))
    (ga_TextError : PySem.W.findIn K (.ref C_TextError) "__getattribute__" = some (some (.builtin "BaseException.__getattribute__")))
    (gg_TextError : PySem.W.findIn K (.ref C_TextError) "__getattr__" = some none)
    (no_TextError : PySem.W.findIn K (.ref C_TextError) "at" = some none)
    (in_TextError : PySem.W.findIn K (.ref C_TextError) "__init__" = some (some (.ref I_TextError)))
    (tc_TextError : PySem.W.typeIn K (.ref I_TextError) = some (.type "function"))
    (kc_TextError : PySem.W.keepIn K (.ref C_TextError) = true)
    (ve_TextError : PySem.W.subIn K (.ref C_TextError) (.type "ValueError") = some true)
    (fn_TextError : K.lookup I_TextError = some ⟨oc_TextError, od_TextError, .func (PySem.W.fnX "__init__" qual_TextError (PySem.AwX.iA "at" p1_TextError p2_TextError) (PySem.AwX.iB "at" r0_TextError r1_TextError r2_TextError r3_TextError r4_TextError r5_TextError q1_TextError q2_TextError q3_TextError q4_TextError) (PySem.AwX.iS "at") [("__class__", cc_TextError)] .none .none doc_TextError pm_TextError an_TextError (.ref cda_TextError) ct_TextError), osl_TextError⟩)
    (co_TextError : PySem.W.codeIn K (.ref cda_TextError) qual_TextError = true)
    (cd_TextError : K.lookup cda_TextError = some ⟨ccl_TextError, cdd_TextError, .fields vs_TextError, ccs_TextError⟩)
    (v2_TextError : vs_TextError[2]? = some (.str file_TextError tf_TextError))
    (fl_TextError : ((PySem.Challenge.pw_leastawry_k01_whole_fractions.main.file : Str) == file_TextError) = true)
    (ce_TextError : K.lookup cc_TextError = some ⟨cl_TextError, cld_TextError, .cell (some (.ref D_TextError)), csl_TextError⟩)
    (cD_TextError : PySem.W.clsIn K D_TextError = some cdD_TextError)
    (mr_TextError : PySem.W.mroIn K C_TextError (.ref D_TextError) = some true)
    (su_TextError : PySem.W.ks_superIn K C_TextError D_TextError "__init__" = some (some (.builtin "ValueError.__init__")))
    (li_TextError : (r2_TextError.endLine == r4_TextError.line) = true)
    (s_ArgumentError_TextError : PySem.W.subIn K (.ref C_ArgumentError) (.ref C_TextError) = some false)
    (s_TextError_TextError : PySem.W.subIn K (.ref C_TextError) (.ref C_TextError) = some true)
    (s_ArgumentError_ArgumentError : PySem.W.subIn K (.ref C_ArgumentError) (.ref C_ArgumentError) = some true)
    (s_TextError_ArgumentError : PySem.W.subIn K (.ref C_TextError) (.ref C_ArgumentError) = some false)
    (nk : PySem.W.specialIn K (.builtin "object.__class__") "__get__" = some (some (.builtin "getset_descriptor.__get__")))
    (tk : PySem.W.takesIn K (.builtin "object.__class__") = some true)
    (cq_AwryError : PySem.W.clsIn K C_AwryError = some cq_AwryError)
    (cx_ArgumentError : PySem.W.clsIn K C_ArgumentError = some cx_ArgumentError)
    (cs_ArgumentError : PySem.W.findIn K (.ref C_ArgumentError) "__class__" = some (some (.builtin "object.__class__")))
    (mo_ArgumentError : PySem.W.mroIn K C_ArgumentError (.type "object") = some true)
    (i_ArgumentError_AwryError : PySem.W.subIn K (.ref C_ArgumentError) (.ref C_AwryError) = some true)
    (cx_TextError : PySem.W.clsIn K C_TextError = some cx_TextError)
    (cs_TextError : PySem.W.findIn K (.ref C_TextError) "__class__" = some (some (.builtin "object.__class__")))
    (mo_TextError : PySem.W.mroIn K C_TextError (.type "object") = some true)
    (i_TextError_AwryError : PySem.W.subIn K (.ref C_TextError) (.ref C_AwryError) = some true) :
    ∃ (fd : FuncData) (xt : List XC), (∀ (s : Shared) (v : Value), BindsTo s fd ⟨[v], []⟩ [("script", v)]) ∧ ∀ base : Heap, K.In base → base.Ns mainGlobals mg → FnG PySem.Challenge.pw_leastawry_k01_whole_fractions w K mg base 6 fa fd ["script"] (spD K none xt 1 m_law) := by
  have F8 := fun_mk (st := topS 8) l8 c8 k8
  have M8 : mg "is_integer" = some (.ref f8) := PySem.W.mg_of X G a8
  have F9 := fun_mk (st := topS 9) l9 c9 k9
  have M9 : mg "common" = some (.ref f9) := PySem.W.mg_of X G a9
  have F10 := fun_mk (st := topS 10) l10 c10 k10
  have M10 : mg "made" = some (.ref f10) := PySem.W.mg_of X G a10
  have F11 := fun_mk (st := topS 11) l11 c11 k11
  have M11 : mg "is_fraction" = some (.ref f11) := PySem.W.mg_of X G a11
  have F12 := fun_mk (st := topS 12) l12 c12 k12
  have M12 : mg "is_small" = some (.ref f12) := PySem.W.mg_of X G a12
  have F13 := fun_mk (st := topS 13) l13 c13 k13
  have M13 : mg "added" = some (.ref f13) := PySem.W.mg_of X G a13
  have F14 := fun_mk (st := topS 14) l14 c14 k14
  have M14 : mg "lessened" = some (.ref f14) := PySem.W.mg_of X G a14
  have F15 := fun_mk (st := topS 15) l15 c15 k15
  have M15 : mg "multiplied" = some (.ref f15) := PySem.W.mg_of X G a15
  have F16 := fun_mk (st := topS 16) l16 c16 k16
  have M16 : mg "divided" = some (.ref f16) := PySem.W.mg_of X G a16
  have F17 := fun_mk (st := topS 17) l17 c17 k17
  have M17 : mg "negated" = some (.ref f17) := PySem.W.mg_of X G a17
  have F18 := fun_mk (st := topS 18) l18 c18 k18
  have M18 : mg "is_less" = some (.ref f18) := PySem.W.mg_of X G a18
  have F19 := fun_mk (st := topS 19) l19 c19 k19
  have M19 : mg "demand_two" = some (.ref f19) := PySem.W.mg_of X G a19
  have F20 := fun_mk (st := topS 20) l20 c20 k20
  have M20 : mg "fraction" = some (.ref f20) := PySem.W.mg_of X G a20
  have F21 := fun_mk (st := topS 21) l21 c21 k21
  have M21 : mg "plus" = some (.ref f21) := PySem.W.mg_of X G a21
  have F22 := fun_mk (st := topS 22) l22 c22 k22
  have M22 : mg "minus" = some (.ref f22) := PySem.W.mg_of X G a22
  have F23 := fun_mk (st := topS 23) l23 c23 k23
  have M23 : mg "times" = some (.ref f23) := PySem.W.mg_of X G a23
  have F24 := fun_mk (st := topS 24) l24 c24 k24
  have M24 : mg "over" = some (.ref f24) := PySem.W.mg_of X G a24
  have F25 := fun_mk (st := topS 25) l25 c25 k25
  have M25 : mg "opposite" = some (.ref f25) := PySem.W.mg_of X G a25
  have F26 := fun_mk (st := topS 26) l26 c26 k26
  have M26 : mg "compare" = some (.ref f26) := PySem.W.mg_of X G a26
  have F27 := fun_mk (st := topS 27) l27 c27 k27
  have M27 : mg "digits_from" = some (.ref f27) := PySem.W.mg_of X G a27
  have F28 := fun_mk (st := topS 28) l28 c28 k28
  have M28 : mg "read_fraction" = some (.ref f28) := PySem.W.mg_of X G a28
  have F29 := fun_mk (st := topS 29) l29 c29 k29
  have M29 : mg "text_of" = some (.ref f29) := PySem.W.mg_of X G a29
  have F30 := fun_mk (st := topS 30) l30 c30 k30
  have M30 : mg "write_fraction" = some (.ref f30) := PySem.W.mg_of X G a30
  have F32 := fun_mk (st := topS 32) l32 c32 k32
  have M32 : mg "_law_draws" = some (.ref f32) := PySem.W.mg_of X G a32
  have F33 := fun_mk (st := topS 33) l33 c33 k33
  have M33 : mg "_law_more" = some (.ref f33) := PySem.W.mg_of X G a33
  have F34 := fun_mk (st := topS 34) l34 c34 k34
  have M34 : mg "_law_take" = some (.ref f34) := PySem.W.mg_of X G a34
  have F35 := fun_mk (st := topS 35) l35 c35 k35
  have M35 : mg "_law_one" = some (.ref f35) := PySem.W.mg_of X G a35
  have F36 := fun_mk (st := topS 36) l36 c36 k36
  have M36 : mg "_law_same_as" = some (.ref f36) := PySem.W.mg_of X G a36
  have F37 := fun_mk (st := topS 37) l37 c37 k37
  have M37 : mg "_law_common" = some (.ref f37) := PySem.W.mg_of X G a37
  have F38 := fun_mk (st := topS 38) l38 c38 k38
  have M38 : mg "_law_made" = some (.ref f38) := PySem.W.mg_of X G a38
  have F39 := fun_mk (st := topS 39) l39 c39 k39
  have M39 : mg "_law_add" = some (.ref f39) := PySem.W.mg_of X G a39
  have F40 := fun_mk (st := topS 40) l40 c40 k40
  have M40 : mg "_law_mul" = some (.ref f40) := PySem.W.mg_of X G a40
  have F41 := fun_mk (st := topS 41) l41 c41 k41
  have M41 : mg "_law_neg" = some (.ref f41) := PySem.W.mg_of X G a41
  have F42 := fun_mk (st := topS 42) l42 c42 k42
  have M42 : mg "_law_div" = some (.ref f42) := PySem.W.mg_of X G a42
  have F45 := fun_mk (st := topS 45) l45 c45 k45
  have M45 : mg "_law_told" = some (.ref f45) := PySem.W.mg_of X G a45
  have F46 := fun_mk (st := topS 46) l46 c46 k46
  have M46 : mg "_law_figures" = some (.ref f46) := PySem.W.mg_of X G a46
  have F47 := fun_mk (st := topS 47) l47 c47 k47
  have M47 : mg "_law_read" = some (.ref f47) := PySem.W.mg_of X G a47
  have F48 := fun_mk (st := topS 48) l48 c48 k48
  have M48 : mg "_law_text" = some (.ref f48) := PySem.W.mg_of X G a48
  have F49 := fun_mk (st := topS 49) l49 c49 k49
  have M49 : mg "_law_drawn" = some (.ref f49) := PySem.W.mg_of X G a49
  have F50 := fun_mk (st := topS 50) l50 c50 k50
  have M50 : mg "_law_spoilt" = some (.ref f50) := PySem.W.mg_of X G a50
  have F51 := fun_mk (st := topS 51) l51 c51 k51
  have M51 : mg "law" = some (.ref f51) := PySem.W.mg_of X G a51
  have z_isinstance : mg "isinstance" = none := PySem.W.mg_none_of X G n_isinstance
  have z_int : mg "int" = none := PySem.W.mg_none_of X G n_int
  have z_bool : mg "bool" = none := PySem.W.mg_none_of X G n_bool
  have z_abs : mg "abs" = none := PySem.W.mg_none_of X G n_abs
  have z_tuple : mg "tuple" = none := PySem.W.mg_none_of X G n_tuple
  have z_len : mg "len" = none := PySem.W.mg_none_of X G n_len
  have z_str : mg "str" = none := PySem.W.mg_none_of X G n_str
  have z_range : mg "range" = none := PySem.W.mg_none_of X G n_range
  have z_repr : mg "repr" = none := PySem.W.mg_none_of X G n_repr
  have z_max : mg "max" = none := PySem.W.mg_none_of X G n_max
  have c_MAX_PART := PySem.W.mg_of X G a_MAX_PART
  have d_ZERO : KT K y_ZERO (.tuple [(.int 0), (.int 1)]) := kt_of (xs := [.int 0, .int 1]) l_ZERO (by rw [sizeLine_eq]; simp) (.cons ⟨_, rfl⟩ (.cons ⟨_, rfl⟩ .nil)) fun _ => (.cons (.int _) (.cons (.int _) .nil))
  have c_ZERO := PySem.W.mg_of X G a_ZERO
  have c_ArgumentError : mg "ArgumentError" = some (.ref C_ArgumentError) := PySem.W.mg_of X G g_ArgumentError
  have c_TextError : mg "TextError" = some (.ref C_TextError) := PySem.W.mg_of X G g_TextError
  have c_AwryError : mg "AwryError" = some (.ref C_AwryError) := PySem.W.mg_of X G g_AwryError
  have t_ArgumentError : PySem.AwX.XTxt PySem.Challenge.pw_leastawry_k01_whole_fractions K mg "ArgumentError" C_ArgumentError I_ArgumentError "reason" := ⟨c_ArgumentError, ⟨_, _, _, _, _, _, _, _, _, _, _, _, _, _, _, kl_ArgumentError, rf_ArgumentError⟩, sa_ArgumentError, ga_ArgumentError, gg_ArgumentError, no_ArgumentError, in_ArgumentError, tc_ArgumentError, kc_ArgumentError, ex_ArgumentError, ty_ArgumentError, hd_ArgumentError, ve_ArgumentError, tp, PySem.W.mg_none_of X G n_super, tops, ⟨_, _, _, _, _, _, _, _, _, _, _, _, _, _, _, _, _, _, _, _, _, _, _, _, _, _, _, _, _, _, _, _, _, fn_ArgumentError, co_ArgumentError, cd_ArgumentError, v2_ArgumentError, fl_ArgumentError, ce_ArgumentError, cD_ArgumentError, mr_ArgumentError, su_ArgumentError, li_ArgumentError⟩⟩
  have xf_ArgumentError : XfC K C_ArgumentError := ⟨ga_ArgumentError, gg_ArgumentError, ex_ArgumentError, hd_ArgumentError⟩
  have t_TextError : PySem.AwX.XTxt PySem.Challenge.pw_leastawry_k01_whole_fractions K mg "TextError" C_TextError I_TextError "at" := ⟨c_TextError, ⟨_, _, _, _, _, _, _, _, _, _, _, _, _, _, _, kl_TextError, rf_TextError⟩, sa_TextError, ga_TextError, gg_TextError, no_TextError, in_TextError, tc_TextError, kc_TextError, ex_TextError, ty_TextError, hd_TextError, ve_TextError, tp, PySem.W.mg_none_of X G n_super, tops, ⟨_, _, _, _, _, _, _, _, _, _, _, _, _, _, _, _, _, _, _, _, _, _, _, _, _, _, _, _, _, _, _, _, _, fn_TextError, co_TextError, cd_TextError, v2_TextError, fl_TextError, ce_TextError, cD_TextError, mr_TextError, su_TextError, li_TextError⟩⟩
  have xf_TextError : XfC K C_TextError := ⟨ga_TextError, gg_TextError, ex_TextError, hd_TextError⟩
  have cc_TextError : Catches K [⟨C_ArgumentError, ["reason"]⟩, ⟨C_TextError, ["at"]⟩] (.ref C_TextError) [1] := fun m C nm e => match m, e with | 0, e => by cases e; exact PySem.W.exm_ref ex_TextError hd_TextError ty_TextError s_ArgumentError_TextError | 1, e => by cases e; exact PySem.W.exm_ref ex_TextError hd_TextError ty_TextError s_TextError_TextError | m + 2, e => by cases e
  have cc_ArgumentError : Catches K [⟨C_ArgumentError, ["reason"]⟩, ⟨C_TextError, ["at"]⟩] (.ref C_ArgumentError) [0] := fun m C nm e => match m, e with | 0, e => by cases e; exact PySem.W.exm_ref ex_ArgumentError hd_ArgumentError ty_ArgumentError s_ArgumentError_ArgumentError | 1, e => by cases e; exact PySem.W.exm_ref ex_ArgumentError hd_ArgumentError ty_ArgumentError s_TextError_ArgumentError | m + 2, e => by cases e
  have x_at : XatOk K [⟨C_ArgumentError, ["reason"]⟩, ⟨C_TextError, ["at"]⟩] "at" := ⟨fun m C nm e => match m, e with | 0, e => by cases e; exact ⟨xf_ArgumentError, fun z => absurd z (by decide)⟩ | 1, e => by cases e; exact ⟨xf_TextError, fun _ => no_TextError⟩ | m + 2, e => by cases e⟩
  have x_reason : XatOk K [⟨C_ArgumentError, ["reason"]⟩, ⟨C_TextError, ["at"]⟩] "reason" := ⟨fun m C nm e => match m, e with | 0, e => by cases e; exact ⟨xf_ArgumentError, fun _ => no_ArgumentError⟩ | 1, e => by cases e; exact ⟨xf_TextError, fun z => absurd z (by decide)⟩ | m + 2, e => by cases e⟩
  have x_isk : XisK K := ⟨nk, tk⟩
  have xi_AwryError : ∀ (m : Nat) (C : Addr) (ns : List Str), ([⟨C_ArgumentError, ["reason"]⟩, ⟨C_TextError, ["at"]⟩] : List XC)[m]? = some ⟨C, ns⟩ → XisOk K C ∧ PySem.W.kitOne K (.ref C) (.ref C_AwryError) = some (decide (m ∈ ([0, 1] : List Nat))) := fun m C nm e => match m, e with | 0, e => by cases e; exact ⟨⟨xf_ArgumentError, by rw [cx_ArgumentError]; rfl, cs_ArgumentError, mo_ArgumentError⟩, kit_up cq_AwryError ty_AwryError i_ArgumentError_AwryError⟩ | 1, e => by cases e; exact ⟨⟨xf_TextError, by rw [cx_TextError]; rfl, cs_TextError, mo_TextError⟩, kit_up cq_AwryError ty_AwryError i_TextError_AwryError⟩ | m + 2, e => by cases e
  cases hfa.symm.trans M51
  refine ⟨PySem.W.fnOf "law" "law" (defArgs (topS 51)) (defBody (topS 51)) (defScope (topS 51)) .none kV51 dc51 pm51 an51 cd51 ct51, [⟨C_ArgumentError, ["reason"]⟩, ⟨C_TextError, ["at"]⟩], fun s v => .of_eq rfl, fun base _ _ => ?_⟩
  have N_is_integer : ∀ C : Option Addr, Kn PySem.Challenge.pw_leastawry_k01_whole_fractions w K mg base C [⟨C_ArgumentError, ["reason"]⟩, ⟨C_TextError, ["at"]⟩] "is_integer" 1 1 m_is_integer := fun C => kn_is_integer (F_ := F8) (h_ := M8) (z_isinstance := z_isinstance) (z_int := z_int) (z_bool := z_bool)
  have N_common : ∀ C : Option Addr, Kn PySem.Challenge.pw_leastawry_k01_whole_fractions w K mg base C [⟨C_ArgumentError, ["reason"]⟩, ⟨C_TextError, ["at"]⟩] "common" 1 2 m_common := fun C => kn_common (F_ := F9) (h_ := M9) (z_abs := z_abs)
  have N_made : ∀ C : Option Addr, Kn PySem.Challenge.pw_leastawry_k01_whole_fractions w K mg base C [⟨C_ArgumentError, ["reason"]⟩, ⟨C_TextError, ["at"]⟩] "made" 2 2 m_made := fun C => kn_made (F_ := F10) (h_ := M10) (G_common := N_common _)
  have N_is_fraction : ∀ C : Option Addr, Kn PySem.Challenge.pw_leastawry_k01_whole_fractions w K mg base C [⟨C_ArgumentError, ["reason"]⟩, ⟨C_TextError, ["at"]⟩] "is_fraction" 2 1 m_is_fraction := fun C => kn_is_fraction (F_ := F11) (h_ := M11) (G_is_integer := N_is_integer _) (G_common := N_common _) (z_isinstance := z_isinstance) (z_tuple := z_tuple) (z_len := z_len)
  have N_is_small : ∀ C : Option Addr, Kn PySem.Challenge.pw_leastawry_k01_whole_fractions w K mg base C [⟨C_ArgumentError, ["reason"]⟩, ⟨C_TextError, ["at"]⟩] "is_small" 3 1 m_is_small := fun C => kn_is_small (F_ := F12) (h_ := M12) (G_is_fraction := N_is_fraction _) (z_abs := z_abs) (c_MAX_PART := c_MAX_PART)
  have N_added : ∀ C : Option Addr, Kn PySem.Challenge.pw_leastawry_k01_whole_fractions w K mg base C [⟨C_ArgumentError, ["reason"]⟩, ⟨C_TextError, ["at"]⟩] "added" 3 2 m_added := fun C => kn_added (F_ := F13) (h_ := M13) (G_made := N_made _)
  have N_lessened : ∀ C : Option Addr, Kn PySem.Challenge.pw_leastawry_k01_whole_fractions w K mg base C [⟨C_ArgumentError, ["reason"]⟩, ⟨C_TextError, ["at"]⟩] "lessened" 3 2 m_lessened := fun C => kn_lessened (F_ := F14) (h_ := M14) (G_made := N_made _)
  have N_multiplied : ∀ C : Option Addr, Kn PySem.Challenge.pw_leastawry_k01_whole_fractions w K mg base C [⟨C_ArgumentError, ["reason"]⟩, ⟨C_TextError, ["at"]⟩] "multiplied" 3 2 m_multiplied := fun C => kn_multiplied (F_ := F15) (h_ := M15) (G_made := N_made _)
  have N_divided : ∀ C : Option Addr, Kn PySem.Challenge.pw_leastawry_k01_whole_fractions w K mg base C [⟨C_ArgumentError, ["reason"]⟩, ⟨C_TextError, ["at"]⟩] "divided" 3 2 m_divided := fun C => kn_divided (F_ := F16) (h_ := M16) (G_made := N_made _)
  have N_negated : ∀ C : Option Addr, Kn PySem.Challenge.pw_leastawry_k01_whole_fractions w K mg base C [⟨C_ArgumentError, ["reason"]⟩, ⟨C_TextError, ["at"]⟩] "negated" 1 1 m_negated := fun C => kn_negated (F_ := F17) (h_ := M17) 
  have N_is_less : ∀ C : Option Addr, Kn PySem.Challenge.pw_leastawry_k01_whole_fractions w K mg base C [⟨C_ArgumentError, ["reason"]⟩, ⟨C_TextError, ["at"]⟩] "is_less" 1 2 m_is_less := fun C => kn_is_less (F_ := F18) (h_ := M18) 
  have N_demand_two : ∀ C : Option Addr, Kn PySem.Challenge.pw_leastawry_k01_whole_fractions w K mg base C [⟨C_ArgumentError, ["reason"]⟩, ⟨C_TextError, ["at"]⟩] "demand_two" 3 2 m_demand_two := fun C => kn_demand_two (F_ := F19) (h_ := M19) (G_is_fraction := N_is_fraction _) (t_ArgumentError := t_ArgumentError)
  have N_fraction : ∀ C : Option Addr, Kn PySem.Challenge.pw_leastawry_k01_whole_fractions w K mg base C [⟨C_ArgumentError, ["reason"]⟩, ⟨C_TextError, ["at"]⟩] "fraction" 3 2 m_fraction := fun C => kn_fraction (F_ := F20) (h_ := M20) (G_is_integer := N_is_integer _) (G_made := N_made _) (t_ArgumentError := t_ArgumentError)
  have N_plus : ∀ C : Option Addr, Kn PySem.Challenge.pw_leastawry_k01_whole_fractions w K mg base C [⟨C_ArgumentError, ["reason"]⟩, ⟨C_TextError, ["at"]⟩] "plus" 4 2 m_plus := fun C => kn_plus (F_ := F21) (h_ := M21) (G_demand_two := N_demand_two _) (G_added := N_added _)
  have N_minus : ∀ C : Option Addr, Kn PySem.Challenge.pw_leastawry_k01_whole_fractions w K mg base C [⟨C_ArgumentError, ["reason"]⟩, ⟨C_TextError, ["at"]⟩] "minus" 4 2 m_minus := fun C => kn_minus (F_ := F22) (h_ := M22) (G_demand_two := N_demand_two _) (G_lessened := N_lessened _)
  have N_times : ∀ C : Option Addr, Kn PySem.Challenge.pw_leastawry_k01_whole_fractions w K mg base C [⟨C_ArgumentError, ["reason"]⟩, ⟨C_TextError, ["at"]⟩] "times" 4 2 m_times := fun C => kn_times (F_ := F23) (h_ := M23) (G_demand_two := N_demand_two _) (G_multiplied := N_multiplied _)
  have N_over : ∀ C : Option Addr, Kn PySem.Challenge.pw_leastawry_k01_whole_fractions w K mg base C [⟨C_ArgumentError, ["reason"]⟩, ⟨C_TextError, ["at"]⟩] "over" 4 2 m_over := fun C => kn_over (F_ := F24) (h_ := M24) (G_demand_two := N_demand_two _) (G_divided := N_divided _) (t_ArgumentError := t_ArgumentError)
  have N_opposite : ∀ C : Option Addr, Kn PySem.Challenge.pw_leastawry_k01_whole_fractions w K mg base C [⟨C_ArgumentError, ["reason"]⟩, ⟨C_TextError, ["at"]⟩] "opposite" 4 1 m_opposite := fun C => kn_opposite (F_ := F25) (h_ := M25) (G_demand_two := N_demand_two _) (G_negated := N_negated _) (c_ZERO := c_ZERO) (d_ZERO := d_ZERO)
  have N_compare : ∀ C : Option Addr, Kn PySem.Challenge.pw_leastawry_k01_whole_fractions w K mg base C [⟨C_ArgumentError, ["reason"]⟩, ⟨C_TextError, ["at"]⟩] "compare" 4 2 m_compare := fun C => kn_compare (F_ := F26) (h_ := M26) (G_demand_two := N_demand_two _) (G_is_less := N_is_less _)
  have N_digits_from : ∀ C : Option Addr, Kn PySem.Challenge.pw_leastawry_k01_whole_fractions w K mg base C [⟨C_ArgumentError, ["reason"]⟩, ⟨C_TextError, ["at"]⟩] "digits_from" 1 2 m_digits_from := fun C => kn_digits_from (F_ := F27) (h_ := M27) (z_len := z_len) (z_int := z_int) (t_TextError := t_TextError) (c_MAX_PART := c_MAX_PART)
  have N_read_fraction : ∀ C : Option Addr, Kn PySem.Challenge.pw_leastawry_k01_whole_fractions w K mg base C [⟨C_ArgumentError, ["reason"]⟩, ⟨C_TextError, ["at"]⟩] "read_fraction" 3 1 m_read_fraction := fun C => kn_read_fraction (F_ := F28) (h_ := M28) (G_digits_from := N_digits_from _) (G_made := N_made _) (z_isinstance := z_isinstance) (z_str := z_str) (z_len := z_len) (t_TextError := t_TextError)
  have N_text_of : ∀ C : Option Addr, Kn PySem.Challenge.pw_leastawry_k01_whole_fractions w K mg base C [⟨C_ArgumentError, ["reason"]⟩, ⟨C_TextError, ["at"]⟩] "text_of" 1 1 m_text_of := fun C => kn_text_of (F_ := F29) (h_ := M29) (z_str := z_str)
  have N_write_fraction : ∀ C : Option Addr, Kn PySem.Challenge.pw_leastawry_k01_whole_fractions w K mg base C [⟨C_ArgumentError, ["reason"]⟩, ⟨C_TextError, ["at"]⟩] "write_fraction" 4 1 m_write_fraction := fun C => kn_write_fraction (F_ := F30) (h_ := M30) (G_is_small := N_is_small _) (G_text_of := N_text_of _) (t_ArgumentError := t_ArgumentError)
  have N__law_draws : ∀ C : Option Addr, Kn PySem.Challenge.pw_leastawry_k01_whole_fractions w K mg base C [⟨C_ArgumentError, ["reason"]⟩, ⟨C_TextError, ["at"]⟩] "_law_draws" 1 1 m__law_draws := fun C => kn__law_draws (F_ := F32) (h_ := M32) (z_abs := z_abs) (z_range := z_range) (z_int := z_int)
  have N__law_more : ∀ C : Option Addr, Kn PySem.Challenge.pw_leastawry_k01_whole_fractions w K mg base C [⟨C_ArgumentError, ["reason"]⟩, ⟨C_TextError, ["at"]⟩] "_law_more" 1 2 m__law_more := fun C => kn__law_more (F_ := F33) (h_ := M33) (z_len := z_len) (z_int := z_int) (z_range := z_range)
  have N__law_take : ∀ C : Option Addr, Kn PySem.Challenge.pw_leastawry_k01_whole_fractions w K mg base C [⟨C_ArgumentError, ["reason"]⟩, ⟨C_TextError, ["at"]⟩] "_law_take" 2 3 m__law_take := fun C => kn__law_take (F_ := F34) (h_ := M34) (G__law_more := N__law_more _) (z_len := z_len) (z_int := z_int)
  have N__law_one : ∀ C : Option Addr, Kn PySem.Challenge.pw_leastawry_k01_whole_fractions w K mg base C [⟨C_ArgumentError, ["reason"]⟩, ⟨C_TextError, ["at"]⟩] "_law_one" 3 3 m__law_one := fun C => kn__law_one (F_ := F35) (h_ := M35) (G__law_take := N__law_take _) (z_len := z_len)
  have N__law_same_as : ∀ C : Option Addr, Kn PySem.Challenge.pw_leastawry_k01_whole_fractions w K mg base C [⟨C_ArgumentError, ["reason"]⟩, ⟨C_TextError, ["at"]⟩] "_law_same_as" 1 2 m__law_same_as := fun C => kn__law_same_as (F_ := F36) (h_ := M36) (z_repr := z_repr)
  have N__law_common : ∀ C : Option Addr, Kn PySem.Challenge.pw_leastawry_k01_whole_fractions w K mg base C [⟨C_ArgumentError, ["reason"]⟩, ⟨C_TextError, ["at"]⟩] "_law_common" 1 2 m__law_common := fun C => kn__law_common (F_ := F37) (h_ := M37) (z_range := z_range) (z_abs := z_abs)
  have N__law_made : ∀ C : Option Addr, Kn PySem.Challenge.pw_leastawry_k01_whole_fractions w K mg base C [⟨C_ArgumentError, ["reason"]⟩, ⟨C_TextError, ["at"]⟩] "_law_made" 2 2 m__law_made := fun C => kn__law_made (F_ := F38) (h_ := M38) (G__law_common := N__law_common _)
  have N__law_add : ∀ C : Option Addr, Kn PySem.Challenge.pw_leastawry_k01_whole_fractions w K mg base C [⟨C_ArgumentError, ["reason"]⟩, ⟨C_TextError, ["at"]⟩] "_law_add" 3 2 m__law_add := fun C => kn__law_add (F_ := F39) (h_ := M39) (G__law_made := N__law_made _)
  have N__law_mul : ∀ C : Option Addr, Kn PySem.Challenge.pw_leastawry_k01_whole_fractions w K mg base C [⟨C_ArgumentError, ["reason"]⟩, ⟨C_TextError, ["at"]⟩] "_law_mul" 3 2 m__law_mul := fun C => kn__law_mul (F_ := F40) (h_ := M40) (G__law_made := N__law_made _)
  have N__law_neg : ∀ C : Option Addr, Kn PySem.Challenge.pw_leastawry_k01_whole_fractions w K mg base C [⟨C_ArgumentError, ["reason"]⟩, ⟨C_TextError, ["at"]⟩] "_law_neg" 1 1 m__law_neg := fun C => kn__law_neg (F_ := F41) (h_ := M41) 
  have N__law_div : ∀ C : Option Addr, Kn PySem.Challenge.pw_leastawry_k01_whole_fractions w K mg base C [⟨C_ArgumentError, ["reason"]⟩, ⟨C_TextError, ["at"]⟩] "_law_div" 3 2 m__law_div := fun C => kn__law_div (F_ := F42) (h_ := M42) (G__law_made := N__law_made _)
  have N__law_told : ∀ C : Option Addr, Kn PySem.Challenge.pw_leastawry_k01_whole_fractions w K mg base C [⟨C_ArgumentError, ["reason"]⟩, ⟨C_TextError, ["at"]⟩] "_law_told" 5 3 m__law_told := fun C => kn__law_told (F_ := F45) (h_ := M45) (G_compare := N_compare _) (G_over := N_over _) (G_times := N_times _) (G_minus := N_minus _) (G_plus := N_plus _) (G_fraction := N_fraction _) (G_opposite := N_opposite _) (G_write_fraction := N_write_fraction _) (G_read_fraction := N_read_fraction _) (z_isinstance := z_isinstance) (c_TextError := c_TextError) (c_ArgumentError := c_ArgumentError) (c_AwryError := c_AwryError) (cc_TextError := cc_TextError) (cc_ArgumentError := cc_ArgumentError) (x_at := x_at) (x_reason := x_reason) (xi_AwryError := xi_AwryError) (x_isk := x_isk)
  have N__law_figures : ∀ C : Option Addr, Kn PySem.Challenge.pw_leastawry_k01_whole_fractions w K mg base C [⟨C_ArgumentError, ["reason"]⟩, ⟨C_TextError, ["at"]⟩] "_law_figures" 1 2 m__law_figures := fun C => kn__law_figures (F_ := F46) (h_ := M46) (z_len := z_len) (z_range := z_range)
  have N__law_read : ∀ C : Option Addr, Kn PySem.Challenge.pw_leastawry_k01_whole_fractions w K mg base C [⟨C_ArgumentError, ["reason"]⟩, ⟨C_TextError, ["at"]⟩] "_law_read" 3 1 m__law_read := fun C => kn__law_read (F_ := F47) (h_ := M47) (G__law_figures := N__law_figures _) (G__law_made := N__law_made _) (z_len := z_len)
  have N__law_text : ∀ C : Option Addr, Kn PySem.Challenge.pw_leastawry_k01_whole_fractions w K mg base C [⟨C_ArgumentError, ["reason"]⟩, ⟨C_TextError, ["at"]⟩] "_law_text" 1 1 m__law_text := fun C => kn__law_text (F_ := F48) (h_ := M48) (z_str := z_str)
  have N__law_drawn : ∀ C : Option Addr, Kn PySem.Challenge.pw_leastawry_k01_whole_fractions w K mg base C [⟨C_ArgumentError, ["reason"]⟩, ⟨C_TextError, ["at"]⟩] "_law_drawn" 4 2 m__law_drawn := fun C => kn__law_drawn (F_ := F49) (h_ := M49) (G__law_one := N__law_one _) (G__law_take := N__law_take _) (G__law_made := N__law_made _) (z_int := z_int)
  have N__law_spoilt : ∀ C : Option Addr, Kn PySem.Challenge.pw_leastawry_k01_whole_fractions w K mg base C [⟨C_ArgumentError, ["reason"]⟩, ⟨C_TextError, ["at"]⟩] "_law_spoilt" 4 3 m__law_spoilt := fun C => kn__law_spoilt (F_ := F50) (h_ := M50) (G__law_take := N__law_take _) (G__law_one := N__law_one _) (z_len := z_len)
  exact fn_law (F_ := F51) (G__law_draws := N__law_draws) (G__law_drawn := N__law_drawn) (G__law_div := N__law_div) (G__law_mul := N__law_mul) (G__law_neg := N__law_neg) (G__law_add := N__law_add) (G__law_told := N__law_told) (G__law_same_as := N__law_same_as) (G__law_take := N__law_take) (G__law_made := N__law_made) (G__law_text := N__law_text) (G__law_spoilt := N__law_spoilt) (G__law_one := N__law_one) (G__law_read := N__law_read) (z_range := z_range) (z_int := z_int) (z_abs := z_abs) (z_max := z_max) (z_str := z_str)
end K01

open PySem PySem.W PyProof.Rows
set_option Elab.async false
set_option linter.all false
set_option maxRecDepth 100000
set_option pp.maxSteps 150
set_option maxHeartbeats 0 in
theorem PySem.Challenge.cw_leastawry_k01_whole_fractions_holds : PySem.Challenge.rw_leastawry_k01_whole_fractions.Holds := by
  w_on; o_law; k_head; (case hw => w_witness2)
  k_fill
  refine L2.DL.walk_dl (l := PySem.Challenge.rw_leastawry_k01_whole_fractions) (n := 63) (k := 6) (x := "script") (m := K01.m_law) rfl (by decide) rfl ⟨rfl, by decide, by decide⟩ rfl (fun w h Y => PySem.W.kIn_of Y) ?F K01.law_true
  case F =>
    intro w mg fa h KX G hmg
    refine' K01.all_mk KX G hmg ?a8 ?l8 ?c8 ?k8 ?a9 ?l9 ?c9 ?k9 ?a10 ?l10 ?c10 ?k10 ?a11 ?l11 ?c11 ?k11 ?a12 ?l12 ?c12 ?k12 ?a13 ?l13 ?c13 ?k13 ?a14 ?l14 ?c14 ?k14 ?a15 ?l15 ?c15 ?k15 ?a16 ?l16 ?c16 ?k16 ?a17 ?l17 ?c17 ?k17 ?a18 ?l18 ?c18 ?k18 ?a19 ?l19 ?c19 ?k19 ?a20 ?l20 ?c20 ?k20 ?a21 ?l21 ?c21 ?k21 ?a22 ?l22 ?c22 ?k22 ?a23 ?l23 ?c23 ?k23 ?a24 ?l24 ?c24 ?k24 ?a25 ?l25 ?c25 ?k25 ?a26 ?l26 ?c26 ?k26 ?a27 ?l27 ?c27 ?k27 ?a28 ?l28 ?c28 ?k28 ?a29 ?l29 ?c29 ?k29 ?a30 ?l30 ?c30 ?k30 ?a32 ?l32 ?c32 ?k32 ?a33 ?l33 ?c33 ?k33 ?a34 ?l34 ?c34 ?k34 ?a35 ?l35 ?c35 ?k35 ?a36 ?l36 ?c36 ?k36 ?a37 ?l37 ?c37 ?k37 ?a38 ?l38 ?c38 ?k38 ?a39 ?l39 ?c39 ?k39 ?a40 ?l40 ?c40 ?k40 ?a41 ?l41 ?c41 ?k41 ?a42 ?l42 ?c42 ?k42 ?a45 ?l45 ?c45 ?k45 ?a46 ?l46 ?c46 ?k46 ?a47 ?l47 ?c47 ?k47 ?a48 ?l48 ?c48 ?k48 ?a49 ?l49 ?c49 ?k49 ?a50 ?l50 ?c50 ?k50 ?a51 ?l51 ?c51 ?k51 ?n_isinstance ?n_int ?n_bool ?n_abs ?n_tuple ?n_len ?n_str ?n_range ?n_repr ?n_max ?a_MAX_PART ?a_ZERO ?l_ZERO ?tp ?n_super ?tops ?g_ArgumentError ?g_TextError ?g_AwryError ?ex_ArgumentError ?hd_ArgumentError ?ty_ArgumentError ?ex_TextError ?hd_TextError ?ty_TextError ?ex_AwryError ?hd_AwryError ?ty_AwryError ?kl_ArgumentError ?rf_ArgumentError ?sa_ArgumentError ?ga_ArgumentError ?gg_ArgumentError ?no_ArgumentError ?in_ArgumentError ?tc_ArgumentError ?kc_ArgumentError ?ve_ArgumentError ?fn_ArgumentError ?co_ArgumentError ?cd_ArgumentError ?v2_ArgumentError ?fl_ArgumentError ?ce_ArgumentError ?cD_ArgumentError ?mr_ArgumentError ?su_ArgumentError ?li_ArgumentError ?kl_TextError ?rf_TextError ?sa_TextError ?ga_TextError ?gg_TextError ?no_TextError ?in_TextError ?tc_TextError ?kc_TextError ?ve_TextError ?fn_TextError ?co_TextError ?cd_TextError ?v2_TextError ?fl_TextError ?ce_TextError ?cD_TextError ?mr_TextError ?su_TextError ?li_TextError ?s_ArgumentError_TextError ?s_TextError_TextError ?s_ArgumentError_ArgumentError ?s_TextError_ArgumentError ?nk ?tk ?cq_AwryError ?cx_ArgumentError ?cs_ArgumentError ?mo_ArgumentError ?i_ArgumentError_AwryError ?cx_TextError ?cs_TextError ?mo_TextError ?i_TextError_AwryError
    (case a8 => k_is)
    (case l8 => k_is)
    (case c8 => k_is)
    (case k8 => k_is)
    (case a9 => k_is)
    (case l9 => k_is)
    (case c9 => k_is)
    (case k9 => k_is)
    (case a10 => k_is)
    (case l10 => k_is)
    (case c10 => k_is)
    (case k10 => k_is)
    (case a11 => k_is)
    (case l11 => k_is)
    (case c11 => k_is)
    (case k11 => k_is)
    (case a12 => k_is)
    (case l12 => k_is)
    (case c12 => k_is)
    (case k12 => k_is)
    (case a13 => k_is)
    (case l13 => k_is)
    (case c13 => k_is)
    (case k13 => k_is)
    (case a14 => k_is)
    (case l14 => k_is)
    (case c14 => k_is)
    (case k14 => k_is)
    (case a15 => k_is)
    (case l15 => k_is)
    (case c15 => k_is)
    (case k15 => k_is)
    (case a16 => k_is)
    (case l16 => k_is)
    (case c16 => k_is)
    (case k16 => k_is)
    (case a17 => k_is)
    (case l17 => k_is)
    (case c17 => k_is)
    (case k17 => k_is)
    (case a18 => k_is)
    (case l18 => k_is)
    (case c18 => k_is)
    (case k18 => k_is)
    (case a19 => k_is)
    (case l19 => k_is)
    (case c19 => k_is)
    (case k19 => k_is)
    (case a20 => k_is)
    (case l20 => k_is)
    (case c20 => k_is)
    (case k20 => k_is)
    (case a21 => k_is)
    (case l21 => k_is)
    (case c21 => k_is)
    (case k21 => k_is)
    (case a22 => k_is)
    (case l22 => k_is)
    (case c22 => k_is)
    (case k22 => k_is)
    (case a23 => k_is)
    (case l23 => k_is)
    (case c23 => k_is)
    (case k23 => k_is)
    (case a24 => k_is)
    (case l24 => k_is)
    (case c24 => k_is)
    (case k24 => k_is)
    (case a25 => k_is)
    (case l25 => k_is)
    (case c25 => k_is)
    (case k25 => k_is)
    (case a26 => k_is)
    (case l26 => k_is)
    (case c26 => k_is)
    (case k26 => k_is)
    (case a27 => k_is)
    (case l27 => k_is)
    (case c27 => k_is)
    (case k27 => k_is)
    (case a28 => k_is)
    (case l28 => k_is)
    (case c28 => k_is)
    (case k28 => k_is)
    (case a29 => k_is)
    (case l29 => k_is)
    (case c29 => k_is)
    (case k29 => k_is)
    (case a30 => k_is)
    (case l30 => k_is)
    (case c30 => k_is)
    (case k30 => k_is)
    (case a32 => k_is)
    (case l32 => k_is)
    (case c32 => k_is)
    (case k32 => k_is)
    (case a33 => k_is)
    (case l33 => k_is)
    (case c33 => k_is)
    (case k33 => k_is)
    (case a34 => k_is)
    (case l34 => k_is)
    (case c34 => k_is)
    (case k34 => k_is)
    (case a35 => k_is)
    (case l35 => k_is)
    (case c35 => k_is)
    (case k35 => k_is)
    (case a36 => k_is)
    (case l36 => k_is)
    (case c36 => k_is)
    (case k36 => k_is)
    (case a37 => k_is)
    (case l37 => k_is)
    (case c37 => k_is)
    (case k37 => k_is)
    (case a38 => k_is)
    (case l38 => k_is)
    (case c38 => k_is)
    (case k38 => k_is)
    (case a39 => k_is)
    (case l39 => k_is)
    (case c39 => k_is)
    (case k39 => k_is)
    (case a40 => k_is)
    (case l40 => k_is)
    (case c40 => k_is)
    (case k40 => k_is)
    (case a41 => k_is)
    (case l41 => k_is)
    (case c41 => k_is)
    (case k41 => k_is)
    (case a42 => k_is)
    (case l42 => k_is)
    (case c42 => k_is)
    (case k42 => k_is)
    (case a45 => k_is)
    (case l45 => k_is)
    (case c45 => k_is)
    (case k45 => k_is)
    (case a46 => k_is)
    (case l46 => k_is)
    (case c46 => k_is)
    (case k46 => k_is)
    (case a47 => k_is)
    (case l47 => k_is)
    (case c47 => k_is)
    (case k47 => k_is)
    (case a48 => k_is)
    (case l48 => k_is)
    (case c48 => k_is)
    (case k48 => k_is)
    (case a49 => k_is)
    (case l49 => k_is)
    (case c49 => k_is)
    (case k49 => k_is)
    (case a50 => k_is)
    (case l50 => k_is)
    (case c50 => k_is)
    (case k50 => k_is)
    (case a51 => k_is)
    (case l51 => k_is)
    (case c51 => k_is)
    (case k51 => k_is)
    (case n_isinstance => k_is)
    (case n_int => k_is)
    (case n_bool => k_is)
    (case n_abs => k_is)
    (case n_tuple => k_is)
    (case n_len => k_is)
    (case n_str => k_is)
    (case n_range => k_is)
    (case n_repr => k_is)
    (case n_max => k_is)
    (case a_MAX_PART => k_is)
    (case a_ZERO => k_is)
    (case l_ZERO => k_is)
    (case tp => k_is)
    (case n_super => k_is)
    (case tops => rfl)
    (case g_ArgumentError => k_is)
    (case g_TextError => k_is)
    (case g_AwryError => k_is)
    (case ex_ArgumentError => k_is)
    (case hd_ArgumentError => k_is)
    (case ty_ArgumentError => k_is)
    (case ex_TextError => k_is)
    (case hd_TextError => k_is)
    (case ty_TextError => k_is)
    (case ex_AwryError => k_is)
    (case hd_AwryError => k_is)
    (case ty_AwryError => k_is)
    (case kl_ArgumentError => k_is)
    (case rf_ArgumentError => decide +kernel)
    (case sa_ArgumentError => k_is)
    (case ga_ArgumentError => k_is)
    (case gg_ArgumentError => k_is)
    (case no_ArgumentError => k_is)
    (case in_ArgumentError => k_is)
    (case tc_ArgumentError => k_is)
    (case kc_ArgumentError => k_is)
    (case ve_ArgumentError => k_is)
    (case fn_ArgumentError => k_is)
    (case co_ArgumentError => k_is)
    (case cd_ArgumentError => k_is)
    (case v2_ArgumentError => rfl)
    (case fl_ArgumentError => decide +kernel)
    (case ce_ArgumentError => k_is)
    (case cD_ArgumentError => k_is)
    (case mr_ArgumentError => k_is)
    (case su_ArgumentError => ks_is)
    (case li_ArgumentError => rfl)
    (case kl_TextError => k_is)
    (case rf_TextError => decide +kernel)
    (case sa_TextError => k_is)
    (case ga_TextError => k_is)
    (case gg_TextError => k_is)
    (case no_TextError => k_is)
    (case in_TextError => k_is)
    (case tc_TextError => k_is)
    (case kc_TextError => k_is)
    (case ve_TextError => k_is)
    (case fn_TextError => k_is)
    (case co_TextError => k_is)
    (case cd_TextError => k_is)
    (case v2_TextError => rfl)
    (case fl_TextError => decide +kernel)
    (case ce_TextError => k_is)
    (case cD_TextError => k_is)
    (case mr_TextError => k_is)
    (case su_TextError => ks_is)
    (case li_TextError => rfl)
    (case s_ArgumentError_TextError => k_is)
    (case s_TextError_TextError => k_is)
    (case s_ArgumentError_ArgumentError => k_is)
    (case s_TextError_ArgumentError => k_is)
    (case nk => k_is)
    (case tk => k_is)
    (case cq_AwryError => k_is)
    (case cx_ArgumentError => k_is)
    (case cs_ArgumentError => k_is)
    (case mo_ArgumentError => k_is)
    (case i_ArgumentError_AwryError => k_is)
    (case cx_TextError => k_is)
    (case cs_TextError => k_is)
    (case mo_TextError => k_is)
    (case i_TextError_AwryError => k_is)

