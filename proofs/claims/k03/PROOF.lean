import PyProof.Rows.All
import Wide.All
import OpenK.AllK
import Wide.FinOn
import PyProof.EqAt
import PyProof.EqKinds
import PyProof.TupleCall
import HandS.ForMost
import HandS.ForExc
import HandS.Wide
import HandS.WideBits
import HandS.IsInst
import HandS.Gcd
import HandS.TupAny
import HandS.TupMul
import HandS.Deep
import HandS.Flow
import HandS.Style
import HandS.Zip
import HandS.Defaults
import HandS.ExcInit
import HandS.ExcField
import HandS.TryMany
import HandS.SortInts
import KE.KStateDown
import HandS.Head0
import HandS.Head1
import HandS.Head2
import HandS.Head3
import HandS.HeadEnd
import HandS.EndBits
import HandS.Words
import HandS.WordsExc
import HandS.HeadHook1
import HandS.HeadHook2
import KE.GoesNew
import HandS.Dict
import HandS.RaiseMore
import HandS.Exc
import PySem.Challenge.RW_packtags_k03_whole_products_and_inverses
set_option Elab.async false
set_option linter.all false
set_option maxRecDepth 100000
set_option maxHeartbeats 0
/-! The data layer: data D, how it lies in a heap, the state of a body, the readings. -/
namespace DL
open PySem PySem.Spec PyProof.Rows L2
/-- data: what a value is, through and through -/
inductive D where
  | non | bl (b : Bool) | int (i : Int) | str (x : Str)
  | tup (xs : List D) | lst (xs : List D) | dic (ks : List Key) (vs : List D)
  /-- a list that is only read (the script); a built-in class -/
  | fix (xs : List D) | ty (n : String)
/-! ### how data lies -/
mutual
def Rp (K : PySem.W.Frag) (F : Hp) : D → V → Prop
  | .non, v => v = .non
  | .bl b, v => v = .bl b
  | .int i, v => v = .int i
  | .str x, v => v = .str x
  | .tup ds, v => ∃ a vs, v = .ref a ∧ SqT K F a vs ∧ RpL K F ds vs
  | .lst ds, v => ∃ a vs, v = .ref a ∧ F a = some (.lst vs) ∧ RpL K F ds vs
  | .fix ds, v => ∃ a vs, v = .ref a ∧ SqL K F a vs ∧ RpL K F ds vs
  | .ty n, v => v = .ty n
  | .dic ks ds, v => ∃ a vs, v = .ref a ∧ F a = some (.dK (ks.zip vs)) ∧ ks.length = vs.length ∧ RpL K F ds vs
def RpL (K : PySem.W.Frag) (F : Hp) : List D → List V → Prop
  | [], vs => vs = []
  | d :: ds, vs => ∃ v r, vs = v :: r ∧ Rp K F d v ∧ RpL K F ds r
end
theorem RpL.length {K : PySem.W.Frag} {F : Hp} : ∀ {ds : List D} {vs : List V}, RpL K F ds vs → ds.length = vs.length
  | [], _, h => by
    have e : _ = [] := h
    subst e
    rfl
  | d :: ds, vs, h => by
    obtain ⟨v, r, rfl, _, t⟩ := h
    rw [List.length_cons, List.length_cons, RpL.length t]
theorem Same.tseq {K : PySem.W.Frag} {H H' : Hp} {a : Addr} {xs : List V} (e : Same H H') (h : SqT K H a xs) : SqT K H' a xs := by
  rcases h with (h | ⟨o, h⟩) | h
  · exact .inl (.inl (e _ _ h))
  · exact .inl (.inr ⟨o, e _ _ h⟩)
  · exact .inr h
mutual
theorem Rp.mono {K : PySem.W.Frag} {F F' : Hp} (s : Same F F') : ∀ {d : D} {v : V}, Rp K F d v → Rp K F' d v
  | .non, _, h => h
  | .bl _, _, h => h
  | .int _, _, h => h
  | .str _, _, h => h
  | .tup ds, _, h => by
    obtain ⟨a, vs, e, q, r⟩ := h
    exact ⟨a, vs, e, Same.tseq s q, RpL.mono s r⟩
  | .ty _, _, h => h
  | .fix ds, _, h => by
    obtain ⟨a, vs, e, q, r⟩ := h
    exact ⟨a, vs, e, s.seq q, RpL.mono s r⟩
  | .lst ds, _, h => by
    obtain ⟨a, vs, e, q, r⟩ := h
    exact ⟨a, vs, e, s _ _ q, RpL.mono s r⟩
  | .dic ks ds, _, h => by
    obtain ⟨a, vs, e, q, l, r⟩ := h
    exact ⟨a, vs, e, s _ _ q, l, RpL.mono s r⟩
theorem RpL.mono {K : PySem.W.Frag} {F F' : Hp} (s : Same F F') : ∀ {ds : List D} {vs : List V}, RpL K F ds vs → RpL K F' ds vs
  | [], _, h => h
  | d :: ds, _, h => by
    obtain ⟨v, r, e, h1, h2⟩ := h
    exact ⟨v, r, e, Rp.mono s h1, RpL.mono s h2⟩
end
theorem RpL.get {K : PySem.W.Frag} {F : Hp} : ∀ {ds : List D} {vs : List V} {i : Nat} {d : D}, RpL K F ds vs → ds[i]? = some d → ∃ v, vs[i]? = some v ∧ Rp K F d v
  | [], _, _, _, _, e => by simp at e
  | d :: ds, _, 0, x, h, e => by
    obtain ⟨v, r, rfl, h1, h2⟩ := h
    simp at e
    subst e
    exact ⟨v, rfl, h1⟩
  | d :: ds, _, i + 1, x, h, e => by
    obtain ⟨v, r, rfl, h1, h2⟩ := h
    obtain ⟨u, e2, h3⟩ := RpL.get h2 (i := i) (d := x) (by simpa using e)
    exact ⟨u, by simpa using e2, h3⟩
theorem RpL.append {K : PySem.W.Frag} {F : Hp} : ∀ {ds es : List D} {vs us : List V}, RpL K F ds vs → RpL K F es us → RpL K F (ds ++ es) (vs ++ us)
  | [], _, _, _, h, g => by
    have e : _ = [] := h
    subst e
    exact g
  | d :: ds, _, _, _, h, g => by
    obtain ⟨v, r, rfl, h1, h2⟩ := h
    exact ⟨v, r ++ _, rfl, h1, RpL.append h2 g⟩
theorem RpL.take {K : PySem.W.Frag} {F : Hp} : ∀ (n : Nat) {ds : List D} {vs : List V}, RpL K F ds vs → RpL K F (ds.take n) (vs.take n)
  | 0, _, _, _ => rfl
  | n + 1, [], _, h => by
    have e : _ = [] := h
    subst e
    rfl
  | n + 1, d :: ds, _, h => by
    obtain ⟨v, r, rfl, h1, h2⟩ := h
    exact ⟨v, r.take n, rfl, h1, RpL.take n h2⟩
theorem RpL.drop {K : PySem.W.Frag} {F : Hp} : ∀ (n : Nat) {ds : List D} {vs : List V}, RpL K F ds vs → RpL K F (ds.drop n) (vs.drop n)
  | 0, _, _, h => h
  | n + 1, [], _, h => by
    have e : _ = [] := h
    subst e
    rfl
  | n + 1, d :: ds, _, h => by
    obtain ⟨v, r, rfl, h1, h2⟩ := h
    exact RpL.drop n h2
theorem RpL.set {K : PySem.W.Frag} {F : Hp} {d : D} {v : V} (hd : Rp K F d v) : ∀ (n : Nat) {ds : List D} {vs : List V}, RpL K F ds vs → RpL K F (ds.set n d) (vs.set n v)
  | _, [], _, h => by
    have e : _ = [] := h
    subst e
    rfl
  | 0, d :: ds, _, h => by
    obtain ⟨v, r, rfl, h1, h2⟩ := h
    exact ⟨_, r, rfl, hd, h2⟩
  | n + 1, d :: ds, _, h => by
    obtain ⟨v, r, rfl, h1, h2⟩ := h
    exact ⟨v, _, rfl, h1, RpL.set hd n h2⟩
theorem RpL.reverse {K : PySem.W.Frag} {F : Hp} : ∀ {ds : List D} {vs : List V}, RpL K F ds vs → RpL K F ds.reverse vs.reverse
  | [], _, h => by
    have e : _ = [] := h
    subst e
    rfl
  | d :: ds, _, h => by
    obtain ⟨v, r, rfl, h1, h2⟩ := h
    rw [List.reverse_cons, List.reverse_cons]
    exact RpL.append (RpL.reverse h2) ⟨v, [], rfl, h1, rfl⟩
theorem RpL.ints {K : PySem.W.Frag} {F : Hp} : ∀ ns : List Int, RpL K F (ns.map D.int) (ns.map V.int)
  | [] => rfl
  | n :: ns => ⟨.int n, ns.map V.int, rfl, rfl, RpL.ints ns⟩
theorem RpL.to_ints {K : PySem.W.Frag} {F : Hp} : ∀ {ns : List Int} {vs : List V}, RpL K F (ns.map D.int) vs → vs = ns.map V.int
  | [], _, h => h
  | n :: ns, _, h => by
    obtain ⟨v, r, rfl, h1, h2⟩ := h
    have e1 : v = .int n := h1
    rw [e1, RpL.to_ints h2]
    rfl
theorem RpL.one {K : PySem.W.Frag} {F : Hp} {d : D} {v : V} (h : Rp K F d v) : RpL K F [d] [v] := ⟨v, [], rfl, h, rfl⟩
/-- .. seen from above: a list may be one's own -/
def RpV (K : PySem.W.Frag) (F H : Hp) : D → V → Prop
  | .lst ds, v => ∃ a vs, v = .ref a ∧ H a = some (.lst vs) ∧ RpL K F ds vs
  | d, v => Rp K F d v
theorem Rp.view {K : PySem.W.Frag} {F H : Hp} (s : Same F H) : ∀ {d : D} {v : V}, Rp K F d v → RpV K F H d v
  | .non, _, h => h
  | .bl _, _, h => h
  | .int _, _, h => h
  | .str _, _, h => h
  | .tup _, _, h => h
  | .dic _ _, _, h => h
  | .fix _, _, h => h
  | .ty _, _, h => h
  | .lst ds, _, h => by
    obtain ⟨a, vs, e, q, r⟩ := h
    exact ⟨a, vs, e, s _ _ q, r⟩
/-! ### a body's state -/
/-- what stands at a name: data, or a list of one's own -/
inductive Cell where
  | val (d : D) | own (ds : List D)
def Cell.toD : Cell → D
  | .val d => d
  | .own ds => .lst ds
abbrev En := List (Option Cell)
/-- fixed through a body: the written part, the heap and the still part of it at the entry, the parameters that are lists handed over, their addresses -/
structure Bd where
  K : PySem.W.Frag
  H0 : Hp
  F0 : Hp
  ios : List Nat
  ad : Nat → Addr
abbrev La := Nat → Option Addr
def SlotR (B : Bd) (F H : Hp) : Option Cell → Option V → Option Addr → Prop
  | none, _, l => l = none
  | some (.val d), s, l => l = none ∧ ∃ v, s = some v ∧ Rp B.K F d v
  | some (.own ds), s, l => ∃ a vs, s = some (.ref a) ∧ l = some a ∧ H a = some (.lst vs) ∧ F a = none ∧ RpL B.K F ds vs ∧ ((∃ j ∈ B.ios, B.ad j = a) ∨ B.H0 a = none)
structure SR (B : Bd) (F : Hp) (L : La) (σ : L2.St) (H : Hp) (ρ : En) : Prop where
  len : ρ.length = σ.length
  sub : Same F H
  slot : ∀ i, SlotR B F H (ρ.getD i none) (σ.getD i none) (L i)
  inj : ∀ i j a, L i = some a → L j = some a → i = j
  f0 : Same B.F0 F
  fn : ∀ a o, F a = some o → B.F0 a = some o ∨ B.H0 a = none
  keep : ∀ a o, B.H0 a = some o → (∀ j ∈ B.ios, B.ad j ≠ a) → H a = some o
  io : ∀ j ∈ B.ios, L j = some (B.ad j)
  al : ∀ a, B.H0 a ≠ none → H a ≠ none
/-- from one state of an expression's evaluation to the next -/
structure Stp (F : Hp) (L : La) (H F' : Hp) (L' : La) (H' : Hp) : Prop where
  f : Same F F'
  l : ∀ i a, L' i = some a → L i = some a
  h : ∀ b o, H b = some o → (∀ i, L i ≠ some b) → H' b = some o
  fn : ∀ b o, F' b = some o → F b = some o ∨ H b = none ∨ ∃ i, L i = some b
  al : ∀ b, H b ≠ none → H' b ≠ none
theorem Stp.refl (F : Hp) (L : La) (H : Hp) : Stp F L H F L H := ⟨Same.refl F, fun _ _ h => h, fun _ _ h _ => h, fun _ _ h => .inl h, fun _ h => h⟩
theorem Stp.trans {F F1 F2 H H1 H2 : Hp} {L L1 L2 : La} (a : Stp F L H F1 L1 H1) (b : Stp F1 L1 H1 F2 L2 H2) : Stp F L H F2 L2 H2 where
  f := a.f.trans b.f
  l := fun i x h => a.l i x (b.l i x h)
  h := fun x o e n => b.h x o (a.h x o e n) fun i q => n i (a.l i x q)
  fn := fun x o e => by
    rcases b.fn x o e with q | q | ⟨i, q⟩
    · exact a.fn x o q
    · refine .inr (.inl ?_)
      cases e2 : H x with
      | none => rfl
      | some u => exact absurd q (a.al x (by rw [e2]; simp))
    · exact .inr (.inr ⟨i, a.l i x q⟩)
  al := fun x h => b.al x (a.al x h)
/-- new things are laid: F and H grow -/
structure Grow (F H F' H' : Hp) : Prop where
  f : Same F F'
  h : Same H H'
  fn : ∀ b o, F' b = some o → F b = some o ∨ H b = none
theorem Grow.refl (F H : Hp) : Grow F H F H := ⟨Same.refl F, Same.refl H, fun _ _ h => .inl h⟩
theorem Grow.stp {F H F' H' : Hp} {L : La} (g : Grow F H F' H') : Stp F L H F' L H' :=
  ⟨g.f, fun _ _ h => h, fun b o e _ => g.h b o e, fun b o e => (g.fn b o e).imp id .inl, fun b n => by
    cases e : H b with
    | none => exact absurd e n
    | some o => rw [g.h b o e]; simp⟩
theorem same_upd {H : Hp} {p : Addr} {o : HO} (h : H p = none) : Same H (upd H p o) := fun b x e => by
  rw [upd_ne (ne_of_none e h)]
  exact e
theorem Grow.none {F H F' H' : Hp} (g : Grow F H F' H') {a : Addr} (h : H a ≠ none) (f : F a = none) : F' a = none := by
  cases e : F' a with
  | none => rfl
  | some o =>
    rcases g.fn a o e with q | q
    · rw [f] at q; cases q
    · exact absurd q h
theorem Grow.trans {F F1 F2 H H1 H2 : Hp} (a : Grow F H F1 H1) (b : Grow F1 H1 F2 H2) : Grow F H F2 H2 :=
  ⟨a.f.trans b.f, a.h.trans b.h, fun x o e => by
    rcases b.fn x o e with q | q
    · exact a.fn x o q
    · exact .inr (a.h.free q)⟩
theorem SlotR.grow {B : Bd} {F H F' H' : Hp} (g : Grow F H F' H') : ∀ {c : Option Cell} {s : Option V} {l : Option Addr}, SlotR B F H c s l → SlotR B F' H' c s l
  | none, _, _, h => h
  | some (.val d), _, _, h => by
    obtain ⟨h1, v, h2, h3⟩ := h
    exact ⟨h1, v, h2, h3.mono g.f⟩
  | some (.own ds), _, _, h => by
    obtain ⟨a, vs, h1, h2, h3, h4, h5, h6⟩ := h
    exact ⟨a, vs, h1, h2, g.h _ _ h3, g.none (by rw [h3]; simp) h4, h5.mono g.f, h6⟩
theorem SR.grow {B : Bd} {F H F' H' : Hp} {L : La} {σ : L2.St} {ρ : En} (S : SR B F L σ H ρ) (g : Grow F H F' H') (sub : Same F' H') : SR B F' L σ H' ρ where
  len := S.len
  sub := sub
  slot := fun i => (S.slot i).grow g
  inj := S.inj
  f0 := S.f0.trans g.f
  fn := fun a o e => by
    rcases g.fn a o e with q | q
    · exact S.fn a o q
    · refine .inr ?_
      cases e2 : B.H0 a with
      | none => rfl
      | some u => exact absurd q (S.al a (by rw [e2]; simp))
  keep := fun a o e n => g.h _ _ (S.keep a o e n)
  io := S.io
  al := fun a n => by
    have q := S.al a n
    cases e : H a with
    | none => exact absurd e q
    | some o => rw [g.h a o e]; simp
theorem SR.own {B : Bd} {F H : Hp} {L : La} {σ : L2.St} {ρ : En} (S : SR B F L σ H ρ) {i : Nat} {a : Addr} (h : L i = some a) :
    ∃ ds vs, ρ.getD i none = some (.own ds) ∧ σ.getD i none = some (.ref a) ∧ H a = some (.lst vs) ∧ F a = none ∧ RpL B.K F ds vs ∧ ((∃ j ∈ B.ios, B.ad j = a) ∨ B.H0 a = none) := by
  have q := S.slot i
  cases e : ρ.getD i none with
  | none =>
    rw [e] at q
    have z : L i = none := q
    rw [h] at z
    cases z
  | some c =>
    rw [e] at q
    cases c with
    | val d =>
      obtain ⟨z, _⟩ := q
      rw [h] at z
      cases z
    | own ds =>
      obtain ⟨b, vs, h1, h2, h3, h4, h5, h6⟩ := q
      rw [h] at h2
      cases h2
      exact ⟨ds, vs, rfl, h1, h3, h4, h5, h6⟩
/-! ### exceptions -/
/-- a raised one: its class by name, its attributes -/
abbrev DX := Str → List (Str × D) → En → Prop
def ExcR (K : PySem.W.Frag) (F H : Hp) (c : Str) (fs : List (Str × D)) (cls : Value) (dd : Option Addr) : Prop :=
  cls = .ref (He.ga K c) ∧ ((fs = [] ∧ dd = none) ∨ ∃ d fv, dd = some d ∧ H d = some (.xd fv) ∧ fv.map (·.1) = fs.map (·.1) ∧ RpL K F (fs.map (·.2)) (fv.map (·.2)))
def XOk (B : Bd) (W : WX) (F : Hp) (E : DX) : Prop := ∀ c fs ρ' cls dd σ' F' L' H', E c fs ρ' → SR B F' L' σ' H' ρ' → Same F F' → ExcR B.K F' H' c fs cls dd → W cls dd σ' H'
theorem XOk.mono {B : Bd} {W : WX} {F F' : Hp} {E : DX} (x : XOk B W F E) (s : Same F F') : XOk B W F' E := fun c fs ρ' cls dd σ' F2 L' H' e S q r => x c fs ρ' cls dd σ' F2 L' H' e S (s.trans q) r
/-! ### readings -/
abbrev DQ := D → En → Prop
abbrev DE := En → DQ → DX → Prop
abbrev CQ := Cell → En → Prop
abbrev DC := En → CQ → DX → Prop
abbrev DT := En → (Bool → En → Prop) → DX → Prop
/-- an expression of data -/
def rV (B : Bd) (W : WX) (t : DE) : TE := fun σ H Q => ∃ F L ρ Qd Ed, SR B F L σ H ρ ∧ t ρ Qd Ed ∧
  (∀ d ρ' v F' L' H', Qd d ρ' → SR B F' L' σ H' ρ' → Stp F L H F' L' H' → Rp B.K F' d v → Q v H') ∧ XOk B W F Ed
/-- how a result lies: data; or a list that no name holds -/
def ResC (B : Bd) (F : Hp) (L : La) (H F' : Hp) (L' : La) (H' : Hp) : Cell → V → Prop
  | .val d, v => Rp B.K F' d v
  | .own ds, v => ∃ a vs, v = .ref a ∧ H' a = some (.lst vs) ∧ F' a = none ∧ (∀ i, L' i ≠ some a) ∧ B.H0 a = none ∧ RpL B.K F' ds vs ∧ (H a = none ∨ ∃ i, L i = some a)
def rC (B : Bd) (W : WX) (t : DC) : TE := fun σ H Q => ∃ F L ρ Qd Ed, SR B F L σ H ρ ∧ t ρ Qd Ed ∧
  (∀ c ρ' v F' L' H', Qd c ρ' → SR B F' L' σ H' ρ' → Stp F L H F' L' H' → ResC B F L H F' L' H' c v → Q v H') ∧ XOk B W F Ed
def rT (B : Bd) (W : WX) (t : DT) : TT := fun σ H Q => ∃ F L ρ Qd Ed, SR B F L σ H ρ ∧ t ρ Qd Ed ∧
  (∀ b ρ' F' L' H', Qd b ρ' → SR B F' L' σ H' ρ' → Stp F L H F' L' H' → Q b H') ∧ XOk B W F Ed
/-! weaker readings -/
section
variable {X : Cx} {e : Expr}
theorem pe_imp {t u : TE} (h : PE X e t) (i : ∀ σ H Q, u σ H Q → t σ H Q) : PE X e u := ⟨fun pins s σ H Q I q => h.run pins s σ H Q I (i σ H Q q)⟩
theorem pt_imp {t u : TT} (h : PT X e t) (i : ∀ σ H Q, u σ H Q → t σ H Q) : PT X e u := ⟨fun pins s σ H Q I q => h.run pins s σ H Q I (i σ H Q q)⟩
theorem pw_imp {t u : TT} (h : PW X e t) (i : ∀ σ H Q, u σ H Q → t σ H Q) : PW X e u := ⟨fun wh pins s σ H Q I q => h.run wh pins s σ H Q I (i σ H Q q)⟩
theorem pa_imp {es : List Expr} {t u : TA} (h : PA X es t) (i : ∀ σ H Q, u σ H Q → t σ H Q) : PA X es u := ⟨fun pos pins s σ H Q I q => h.run pos pins s σ H Q I (i σ H Q q)⟩
theorem ps_imp {st : Stmt} {t u : TS} (h : PS X st t) (i : ∀ D σ H, u D σ H → t D σ H) : PS X st u := ⟨fun pins s σ H D I q => h.run pins s σ H D I (i D σ H q)⟩
theorem pss_imp {st : List Stmt} {t u : TS} (h : PSs X st t) (i : ∀ D σ H, u D σ H → t D σ H) : PSs X st u := ⟨fun pins s σ H D I q => h.run pins s σ H D I (i D σ H q)⟩
end
end DL
/-! The data layer: names, operands, operators, built-in calls, tests. -/
namespace DL
open PySem PySem.Spec PyProof.Rows L2
theorem getD_some {α : Type} {l : List (Option α)} {i : Nat} {v : α} (h : l.getD i none = some v) : l[i]? = some (some v) := by
  rw [List.getD_eq_getElem?_getD] at h
  cases e : l[i]? with
  | none => rw [e] at h; cases h
  | some o => rw [e] at h; exact congrArg some h
theorem getD_set_ne {α : Type} {l : List α} {i j : Nat} {v d : α} (h : i ≠ j) : (l.set i v).getD j d = l.getD j d := by
  rw [List.getD_eq_getElem?_getD, List.getD_eq_getElem?_getD, List.getElem?_set_ne h]
theorem getD_set_self {α : Type} {l : List α} {i : Nat} {v d : α} (h : i < l.length) : (l.set i v).getD i d = v := by
  rw [List.getD_eq_getElem?_getD, List.getElem?_set_self h]
  rfl
theorem getD_lt {α : Type} {l : List (Option α)} {i : Nat} {v : α} (h : l.getD i none = some v) : i < l.length :=
  (List.getElem?_eq_some_iff.mp (getD_some h)).1
section
variable {B : Bd} {F H F' H' : Hp} {L : La} {σ : L2.St} {ρ : En}
/-- a list that no name holds is made still -/
theorem SR.freeze {a : Addr} {vs : List V} (S : SR B F L σ H ρ) (h : H a = some (.lst vs)) (f : F a = none) (n : ∀ i, L i ≠ some a) (h0 : B.H0 a = none) : SR B (upd F a (.lst vs)) L σ H ρ where
  len := S.len
  sub := fun b o e => by
    by_cases hb : b = a
    · subst hb; rw [upd_same] at e; rw [← e]; exact h
    · rw [upd_ne hb] at e; exact S.sub b o e
  slot := fun i => by
    have q := S.slot i
    revert q
    cases ρ.getD i none with
    | none => exact id
    | some c =>
      cases c with
      | val d => exact fun ⟨h1, v, h2, h3⟩ => ⟨h1, v, h2, h3.mono (same_upd f)⟩
      | own ds =>
        intro ⟨b, ws, h1, h2, h3, h4, h5, h6⟩
        have hb : b ≠ a := fun z => n i (by rw [h2, z])
        exact ⟨b, ws, h1, h2, h3, by rw [upd_ne hb]; exact h4, h5.mono (same_upd f), h6⟩
  inj := S.inj
  f0 := S.f0.trans (same_upd f)
  fn := fun b o e => by
    by_cases hb : b = a
    · rw [hb]; exact .inr h0
    · rw [upd_ne hb] at e; exact S.fn b o e
  keep := S.keep
  io := S.io
  al := S.al
theorem Stp.freeze {L' : La} {a : Addr} {vs : List V} (s : Stp F L H F' L' H') (f : F' a = none) (nw : H a = none ∨ ∃ i, L i = some a) : Stp F L H (upd F' a (.lst vs)) L' H' where
  f := s.f.trans (same_upd f)
  l := s.l
  h := s.h
  fn := fun b o e => by
    by_cases hb : b = a
    · rw [hb]; exact .inr nw
    · rw [upd_ne hb] at e; exact s.fn b o e
  al := s.al
theorem RpV_own {K : PySem.W.Frag} {a : Addr} {vs : List V} {ds : List D} (h : H a = some (.lst vs)) (r : RpL K F ds vs) : RpV K F H (.lst ds) (.ref a) := ⟨a, vs, rfl, h, r⟩
end
/-! ### frozen, data, moved -/
def frz (t : DC) : DE := fun ρ Q E => t ρ (fun c ρ' => Q c.toD ρ') E
def vl (t : DE) : DC := fun ρ Q E => t ρ (fun d ρ' => Q (.val d) ρ') E
section
variable {X : Cx} {B : Bd} {W : WX} {e : Expr} {pos : Pos}
theorem de_frz {t : DC} (h : PE X e (rC B W t)) : PE X e (rV B W (frz t)) := by
  refine pe_imp h fun σ H Q ⟨F, L, ρ, Qd, Ed, S, ht, hq, hx⟩ => ⟨F, L, ρ, fun c ρ' => Qd c.toD ρ', Ed, S, ht, fun c ρ' v F' L' H' q S' s r => ?_, hx⟩
  cases c with
  | val d => exact hq d ρ' v F' L' H' q S' s r
  | own ds =>
    obtain ⟨a, vs, rfl, h1, h2, h3, h4, h5, h6⟩ := r
    exact hq (.lst ds) ρ' _ _ L' H' q (S'.freeze h1 h2 h3 h4) (s.freeze h2 h6) ⟨a, vs, rfl, upd_same, h5.mono (same_upd h2)⟩
theorem dc_val {t : DE} (h : PE X e (rV B W t)) : PE X e (rC B W (vl t)) :=
  pe_imp h fun σ H Q ⟨F, L, ρ, Qd, Ed, S, ht, hq, hx⟩ => ⟨F, L, ρ, fun d ρ' => Qd (.val d) ρ', Ed, S, ht, fun d ρ' v F' L' H' q S' s r => hq (.val d) ρ' v F' L' H' q S' s r, hx⟩
/-- a name that holds data -/
def mVar (i : Nat) : DE := fun ρ Q _ => match ρ.getD i none with
  | some (.val d) => Q d ρ
  | _ => False
theorem SR.val {F H : Hp} {L : La} {σ : L2.St} {ρ : En} (S : SR B F L σ H ρ) {i : Nat} {d : D} (h : ρ.getD i none = some (.val d)) : L i = none ∧ ∃ v, σ[i]? = some (some v) ∧ Rp B.K F d v := by
  have q := S.slot i
  rw [h] at q
  obtain ⟨h1, v, h2, h3⟩ := q
  exact ⟨h1, v, getD_some h2, h3⟩
theorem SR.ow {F H : Hp} {L : La} {σ : L2.St} {ρ : En} (S : SR B F L σ H ρ) {i : Nat} {ds : List D} (h : ρ.getD i none = some (.own ds)) :
    ∃ a vs, σ[i]? = some (some (.ref a)) ∧ L i = some a ∧ H a = some (.lst vs) ∧ F a = none ∧ RpL B.K F ds vs ∧ ((∃ j ∈ B.ios, B.ad j = a) ∨ B.H0 a = none) := by
  have q := S.slot i
  rw [h] at q
  obtain ⟨a, vs, h1, h2, h3, h4, h5, h6⟩ := q
  exact ⟨a, vs, getD_some h1, h2, h3, h4, h5, h6⟩
theorem de_var (i : Nat) {x : Str} (hN : X.N[i]? = some x := by rfl) (hv : Vis X.env.scope x := by first | exact Or.inl rfl | exact Or.inr (Or.inl rfl) | exact Or.inr (Or.inr rfl)) (hd : (x == ("__debug__" : Str)) = false := by decide)
    (hcd : (x == ("__classdict__" : Str)) = false := by decide) : PE X (.Name x pos) (rV B W (mVar i)) := by
  refine pe_imp (pe_var (i := i) hN hv hd hcd) fun σ H Q ⟨F, L, ρ, Qd, Ed, S, ht, hq, hx⟩ => ?_
  unfold mVar at ht
  split at ht
  · rename_i d e
    obtain ⟨h1, v, h2, h3⟩ := S.val e
    exact ⟨v, h2, hq d ρ v F L H ht S (Stp.refl _ _ _) h3⟩
  · exact ht.elim
def forget (L : La) (i : Nat) : La := fun j => if j = i then none else L j
theorem SR.drop {F H : Hp} {L : La} {σ : L2.St} {ρ : En} (S : SR B F L σ H ρ) {i : Nat} (hi : B.ios.contains i = false) : SR B F (forget L i) σ H (ρ.set i none) where
  len := by rw [List.length_set]; exact S.len
  sub := S.sub
  slot := fun j => by
    unfold forget
    by_cases hj : j = i
    · subst hj
      rw [if_pos rfl]
      have e : (ρ.set j none).getD j none = none := by
        by_cases hl : j < ρ.length
        · exact getD_set_self hl
        · rw [List.getD_eq_getElem?_getD, List.getElem?_eq_none (by rw [List.length_set]; omega)]
          rfl
      rw [e]
      exact rfl
    · rw [if_neg hj, getD_set_ne (fun z => hj z.symm)]
      exact S.slot j
  inj := fun j k a h1 h2 => by
    unfold forget at h1 h2
    split at h1
    · cases h1
    · split at h2
      · cases h2
      · exact S.inj j k a h1 h2
  f0 := S.f0
  fn := S.fn
  keep := S.keep
  io := fun j hj => by
    unfold forget
    rw [if_neg (fun z => by subst z; rw [List.contains_iff_mem.mpr hj] at hi; cases hi)]
    exact S.io j hj
  al := S.al
theorem Stp.drop {F H : Hp} {L : La} {i : Nat} : Stp F L H F (forget L i) H where
  f := Same.refl F
  l := fun j a h => by
    unfold forget at h
    split at h
    · cases h
    · exact h
  h := fun _ _ h _ => h
  fn := fun _ _ h => .inl h
  al := fun _ h => h
/-- a list of one's own goes out of its name -/
def mMove (i : Nat) : DC := fun ρ Q _ => match ρ.getD i none with
  | some (.own ds) => Q (.own ds) (ρ.set i none)
  | some (.val d) => Q (.val d) ρ
  | none => False
theorem SR.alone {F H : Hp} {L : La} {σ : L2.St} {ρ : En} (S : SR B F L σ H ρ) {i : Nat} {a : Addr} (hi : B.ios.contains i = false) (h : L i = some a) (z : (∃ j ∈ B.ios, B.ad j = a) ∨ B.H0 a = none) : B.H0 a = none := by
  rcases z with ⟨j, hj, e⟩ | z
  · have q := S.io j hj
    rw [e] at q
    have e2 := S.inj _ _ _ h q
    subst e2
    rw [List.contains_iff_mem.mpr hj] at hi
    cases hi
  · exact z
theorem dc_move (i : Nat) {x : Str} (hi : B.ios.contains i = false := by rfl) (hN : X.N[i]? = some x := by rfl) (hv : Vis X.env.scope x := by first | exact Or.inl rfl | exact Or.inr (Or.inl rfl) | exact Or.inr (Or.inr rfl)) (hd : (x == ("__debug__" : Str)) = false := by decide)
    (hcd : (x == ("__classdict__" : Str)) = false := by decide) : PE X (.Name x pos) (rC B W (mMove i)) := by
  refine pe_imp (pe_var (i := i) hN hv hd hcd) fun σ H Q ⟨F, L, ρ, Qd, Ed, S, ht, hq, hx⟩ => ?_
  unfold mMove at ht
  split at ht
  · rename_i ds e
    obtain ⟨a, vs, h1, h2, h3, h4, h5, h6⟩ := S.ow e
    refine ⟨_, h1, hq (.own ds) _ _ F _ H ht (S.drop hi) Stp.drop ⟨a, vs, rfl, h3, h4, fun j q => ?_, S.alone hi h2 h6, h5, .inr ⟨i, h2⟩⟩⟩
    unfold forget at q
    split at q
    · cases q
    · rename_i hj
      exact hj (S.inj _ _ _ q h2)
  · rename_i d e
    obtain ⟨h1, v, h2, h3⟩ := S.val e
    exact ⟨v, h2, hq (.val d) ρ v F L H ht S (Stp.refl _ _ _) h3⟩
  · exact ht.elim
/-- a list of one's own is made still, its name holds it on -/
def mStill (i : Nat) : DE := fun ρ Q _ => match ρ.getD i none with
  | some (.own ds) => Q (.lst ds) (ρ.set i (some (.val (.lst ds))))
  | some (.val d) => Q d ρ
  | none => False
theorem SR.hold {F H : Hp} {L : La} {σ : L2.St} {ρ : En} (S : SR B F L σ H ρ) {i : Nat} {d : D} {v : V} (hi : i < ρ.length) (hl : L i = none) (hs : σ.getD i none = some v) (r : Rp B.K F d v) : SR B F L σ H (ρ.set i (some (.val d))) where
  len := by rw [List.length_set]; exact S.len
  sub := S.sub
  slot := fun j => by
    by_cases hj : i = j
    · subst hj
      rw [getD_set_self hi]
      exact ⟨hl, v, hs, r⟩
    · rw [getD_set_ne hj]
      exact S.slot j
  inj := S.inj
  f0 := S.f0
  fn := S.fn
  keep := S.keep
  io := S.io
  al := S.al
theorem set_set {α : Type} (l : List α) (i : Nat) (a b : α) : (l.set i a).set i b = l.set i b := by simp
theorem de_still (i : Nat) {x : Str} (hi : B.ios.contains i = false := by rfl) (hN : X.N[i]? = some x := by rfl) (hv : Vis X.env.scope x := by first | exact Or.inl rfl | exact Or.inr (Or.inl rfl) | exact Or.inr (Or.inr rfl)) (hd : (x == ("__debug__" : Str)) = false := by decide)
    (hcd : (x == ("__classdict__" : Str)) = false := by decide) : PE X (.Name x pos) (rV B W (mStill i)) := by
  refine pe_imp (pe_var (i := i) hN hv hd hcd) fun σ H Q ⟨F, L, ρ, Qd, Ed, S, ht, hq, hx⟩ => ?_
  unfold mStill at ht
  split at ht
  · rename_i ds e
    obtain ⟨a, vs, h1, h2, h3, h4, h5, h6⟩ := S.ow e
    have n : ∀ j, forget L i j ≠ some a := fun j q => by
      unfold forget at q
      split at q
      · cases q
      · rename_i hj
        exact hj (S.inj _ _ _ q h2)
    have h0 := S.alone hi h2 h6
    have r : Rp B.K (upd F a (.lst vs)) (.lst ds) (.ref a) := ⟨a, vs, rfl, upd_same, h5.mono (same_upd h4)⟩
    have S2 := ((S.drop hi).freeze h3 h4 n h0).hold (i := i) (d := .lst ds) (v := .ref a) (by rw [List.length_set]; exact getD_lt e) (by unfold forget; rw [if_pos rfl]) (by rw [List.getD_eq_getElem?_getD, h1]; rfl) r
    rw [set_set] at S2
    exact ⟨_, h1, hq (.lst ds) _ _ _ _ H ht S2 (Stp.drop.freeze h4 (.inr ⟨i, h2⟩)) r⟩
  · rename_i d e
    obtain ⟨h1, v, h2, h3⟩ := S.val e
    exact ⟨v, h2, hq d ρ v F L H ht S (Stp.refl _ _ _) h3⟩
  · exact ht.elim
/-! constants -/
def mK (d : D) : DE := fun ρ Q _ => Q d ρ
theorem de_K {v : V} {d : D} (h : PE X e (L2.tC v)) (r : ∀ F, Rp B.K F d v) : PE X e (rV B W (mK d)) :=
  pe_imp h fun σ H Q ⟨F, L, ρ, Qd, Ed, S, ht, hq, hx⟩ => hq d ρ v F L H ht S (Stp.refl _ _ _) (r F)
theorem de_int {i : Int} {j : Nat} : PE X (.Constant (.int i) j pos) (rV B W (mK (.int i))) := de_K pe_int fun _ => rfl
theorem de_bl {b : Bool} {j : Nat} : PE X (.Constant (.bool b) j pos) (rV B W (mK (.bl b))) := de_K pe_bl fun _ => rfl
theorem de_non {j : Nat} : PE X (.Constant .none j pos) (rV B W (mK .non)) := de_K pe_non fun _ => rfl
theorem de_str {x : Str} {j : Nat} : PE X (.Constant (.str x) j pos) (rV B W (mK (.str x))) := de_K pe_str fun _ => rfl
theorem de_glob {x : Str} {d : D} {v : V} {u : Value} (hm : X.mg x = some u) (r : RelV v u) (rd : ∀ F, Rp B.K F d v) (hg : Gl X x := by rfl) (hd : (x == ("__debug__" : Str)) = false := by decide) : PE X (.Name x pos) (rV B W (mK d)) := de_K (pe_glob hg hm r hd) rd
/-! ### operands -/
inductive AX where
  | e (t : DE) | s (i : Nat)
abbrev AV := D ⊕ Nat
def mAX : AX → En → (AV → En → Prop) → DX → Prop
  | .e t, ρ, Q, E => t ρ (fun d => Q (.inl d)) E
  | .s i, ρ, Q, _ => match ρ.getD i none with
    | some (.own _) => Q (.inr i) ρ
    | _ => False
def mAXs : List AX → En → (List AV → En → Prop) → DX → Prop
  | [], ρ, Q, _ => Q [] ρ
  | a :: as, ρ, Q, E => mAX a ρ (fun x ρ1 => mAXs as ρ1 (fun xs => Q (x :: xs)) E) E
def view (ρ : En) : AV → Option D
  | .inl d => some d
  | .inr i => match ρ.getD i none with
    | some (.own ds) => some (.lst ds)
    | _ => none
def views (ρ : En) : List AV → Option (List D)
  | [] => some []
  | x :: xs => match view ρ x, views ρ xs with
    | some d, some ds => some (d :: ds)
    | _, _ => none
def ArgV (K : PySem.W.Frag) (F : Hp) (L : La) : AV → V → Prop
  | .inl d, v => Rp K F d v
  | .inr i, v => ∃ a, v = .ref a ∧ ∀ b, L i = some b → b = a
def ArgVs (K : PySem.W.Frag) (F : Hp) (L : La) : List AV → List V → Prop
  | [], vs => vs = []
  | x :: xs, vs => ∃ v r, vs = v :: r ∧ ArgV K F L x v ∧ ArgVs K F L xs r
theorem ArgV.step {K : PySem.W.Frag} {F H F' H' : Hp} {L L' : La} (s : Stp F L H F' L' H') : ∀ {x : AV} {v : V}, ArgV K F L x v → ArgV K F' L' x v
  | .inl _, _, h => Rp.mono s.f h
  | .inr i, _, ⟨a, e, h⟩ => ⟨a, e, fun b q => h b (s.l i b q)⟩
theorem view_ok {F H : Hp} {L : La} {σ : L2.St} {ρ : En} (S : SR B F L σ H ρ) : ∀ {x : AV} {v : V} {d : D}, ArgV B.K F L x v → view ρ x = some d → RpV B.K F H d v
  | .inl d, v, d', h, e => by
    have e' : d = d' := Option.some.inj e
    subst e'
    exact Rp.view S.sub h
  | .inr i, v, d', ⟨a, e1, h⟩, e => by
    subst e1
    have e' : (match ρ.getD i none with | some (.own ds) => some (D.lst ds) | _ => none) = some d' := e
    split at e'
    · rename_i ds q
      cases e'
      obtain ⟨b, vs, h1, h2, h3, h4, h5, h6⟩ := S.ow q
      have := h b h2
      subst this
      exact RpV_own h3 h5
    · cases e'
def RpVs (K : PySem.W.Frag) (F H : Hp) : List D → List V → Prop
  | [], vs => vs = []
  | d :: ds, vs => ∃ v r, vs = v :: r ∧ RpV K F H d v ∧ RpVs K F H ds r
theorem views_ok {F H : Hp} {L : La} {σ : L2.St} {ρ : En} (S : SR B F L σ H ρ) : ∀ {xs : List AV} {vs : List V} {ds : List D}, ArgVs B.K F L xs vs → views ρ xs = some ds → RpVs B.K F H ds vs
  | [], vs, ds, h, e => by
    cases e
    exact h
  | x :: xs, vs, ds, ⟨v, r, e1, h1, h2⟩, e => by
    have e' : (match view ρ x, views ρ xs with | some d, some ds => some (d :: ds) | _, _ => none) = some ds := e
    split at e'
    · rename_i d es q1 q2
      cases e'
      exact ⟨v, r, e1, view_ok S h1 q1, views_ok S h2 q2⟩
    · cases e'
def rX (B : Bd) (W : WX) (a : AX) : TE := fun σ H Q => ∃ F L ρ Qd Ed, SR B F L σ H ρ ∧ mAX a ρ Qd Ed ∧
  (∀ x ρ' v F' L' H', Qd x ρ' → SR B F' L' σ H' ρ' → Stp F L H F' L' H' → ArgV B.K F' L' x v → Q v H') ∧ XOk B W F Ed
def rA (B : Bd) (W : WX) (as : List AX) : TA := fun σ H Q => ∃ F L ρ Qd Ed, SR B F L σ H ρ ∧ mAXs as ρ Qd Ed ∧
  (∀ xs ρ' vs F' L' H', Qd xs ρ' → SR B F' L' σ H' ρ' → Stp F L H F' L' H' → ArgVs B.K F' L' xs vs → Q vs H') ∧ XOk B W F Ed
theorem dx_e {t : DE} (h : PE X e (rV B W t)) : PE X e (rX B W (.e t)) :=
  pe_imp h fun σ H Q ⟨F, L, ρ, Qd, Ed, S, ht, hq, hx⟩ => ⟨F, L, ρ, fun d => Qd (.inl d), Ed, S, ht, fun d ρ' v F' L' H' q S' s r => hq (.inl d) ρ' v F' L' H' q S' s r, hx⟩
theorem dx_s (i : Nat) {x : Str} (hN : X.N[i]? = some x := by rfl) (hv : Vis X.env.scope x := by first | exact Or.inl rfl | exact Or.inr (Or.inl rfl) | exact Or.inr (Or.inr rfl)) (hd : (x == ("__debug__" : Str)) = false := by decide)
    (hcd : (x == ("__classdict__" : Str)) = false := by decide) : PE X (.Name x pos) (rX B W (.s i)) := by
  refine pe_imp (pe_var (i := i) hN hv hd hcd) fun σ H Q ⟨F, L, ρ, Qd, Ed, S, ht, hq, hx⟩ => ?_
  have ht' : (match ρ.getD i none with | some (.own _) => Qd (.inr i) ρ | _ => False) := ht
  split at ht'
  · rename_i ds e
    obtain ⟨a, vs, h1, h2, h3, h4, h5, h6⟩ := S.ow e
    exact ⟨_, h1, hq (.inr i) ρ _ F L H ht' S (Stp.refl _ _ _) ⟨a, rfl, fun b q => by rw [h2] at q; cases q; rfl⟩⟩
  · exact ht'.elim
/-- two operands, one after the other -/
theorem two_X {ax bx : AX} {k : AV → AV → En → Prop} {E : DX} {σ : L2.St} {H F : Hp} {L : La} {ρ : En} {R : V → V → Hp → Prop} (S : SR B F L σ H ρ) (h : mAX ax ρ (fun x ρ1 => mAX bx ρ1 (fun y ρ2 => k x y ρ2) E) E) (hx : XOk B W F E)
    (hk : ∀ x y ρ' v u F' L' H', k x y ρ' → SR B F' L' σ H' ρ' → Stp F L H F' L' H' → ArgV B.K F' L' x v → ArgV B.K F' L' y u → R v u H') :
    rX B W ax σ H fun v H1 => rX B W bx σ H1 fun u H2 => R v u H2 :=
  ⟨F, L, ρ, _, E, S, h, fun x ρ1 v F1 L1 H1 q1 S1 s1 r1 => ⟨F1, L1, ρ1, _, E, S1, q1, fun y ρ2 u F2 L2 H2 q2 S2 s2 r2 => hk x y ρ2 v u F2 L2 H2 q2 S2 (s1.trans s2) (r1.step s2) r2, hx.mono s1.f⟩, hx⟩
theorem da_nil : PA X [] (rA B W []) := pa_imp pa_nil fun σ H Q ⟨F, L, ρ, Qd, Ed, S, ht, hq, hx⟩ => hq [] ρ [] F L H ht S (Stp.refl _ _ _) rfl
theorem da_cons {es : List Expr} {a : AX} {as : List AX} (ha : PE X e (rX B W a)) (hr : PA X es (rA B W as)) (hs : starEach (e :: es) X.env = (false, eval e X.env) :: starEach es X.env := by rfl) : PA X (e :: es) (rA B W (a :: as)) :=
  pa_imp (pa_cons ha hr hs) fun σ H Q ⟨F, L, ρ, Qd, Ed, S, ht, hq, hx⟩ =>
    ⟨F, L, ρ, _, Ed, S, ht, fun x ρ1 v F1 L1 H1 q1 S1 s1 r1 => ⟨F1, L1, ρ1, _, Ed, S1, q1, fun xs ρ2 vs F2 L2 H2 q2 S2 s2 r2 => hq (x :: xs) ρ2 (v :: vs) F2 L2 H2 q2 S2 (s1.trans s2) ⟨v, vs, rfl, r1.step s2, r2⟩, hx.mono s1.f⟩, hx⟩
/-! ### operators -/
/-- a new result: data, or a new list -/
def NewR (K : PySem.W.Frag) (H : Hp) : Cell → V → Hp → Hp → Prop
  | .val d, v, F', _ => Rp K F' d v
  | .own ds, v, F', H' => ∃ a vs, v = .ref a ∧ H a = none ∧ H' a = some (.lst vs) ∧ F' a = none ∧ RpL K F' ds vs
theorem NewR.res {F H F' H' : Hp} {L : La} {σ : L2.St} {ρ : En} (S : SR B F L σ H ρ) : ∀ {c : Cell} {v : V}, NewR B.K H c v F' H' → ResC B F L H F' L H' c v
  | .val _, _, h => h
  | .own ds, _, ⟨a, vs, e, h1, h2, h3, h4⟩ => by
    refine ⟨a, vs, e, h2, h3, fun i q => ?_, ?_, h4, .inl h1⟩
    · obtain ⟨_, _, _, _, q3, _⟩ := S.own q
      rw [h1] at q3
      cases q3
    · cases e0 : B.H0 a with
      | none => rfl
      | some o => exact absurd h1 (S.al a (by rw [e0]; simp))
abbrev DOp2 := D → D → Option Cell
/-- an operator's reading by values serves a function of data -/
def Op2 (K : PySem.W.Frag) (r : R2) (f : DOp2) : Prop := ∀ (F H : Hp) (d1 d2 : D) (v1 v2 : V) (c : Cell) (Q : VK), Same F H → RpV K F H d1 v1 → RpV K F H d2 v2 → f d1 d2 = some c →
  (∀ v F' H', Grow F H F' H' → Same F' H' → NewR K H c v F' H' → Q v H') → r v1 v2 H Q
def DOpN := List D → Option Cell
def OpN (K : PySem.W.Frag) (r : List V → Hp → VK → Prop) (f : DOpN) : Prop := ∀ (F H : Hp) (ds : List D) (vs : List V) (c : Cell) (Q : VK), Same F H → RpVs K F H ds vs → f ds = some c →
  (∀ v F' H', Grow F H F' H' → Same F' H' → NewR K H c v F' H' → Q v H') → r vs H Q
def app2 (f : DOp2) (ρ : En) (x y : AV) (Q : CQ) : Prop := match view ρ x, view ρ y with
  | some d, some e => ∃ c, f d e = some c ∧ Q c ρ
  | _, _ => False
def mOp2 (f : DOp2) (a b : AX) : DC := fun ρ Q E => mAX a ρ (fun x ρ1 => mAX b ρ1 (fun y ρ2 => app2 f ρ2 x y Q) E) E
theorem app2_ok {r : R2} {f : DOp2} (hf : Op2 B.K r f) {x y : AV} {Q : CQ} {F H : Hp} {L : La} {σ : L2.St} {ρ : En} {v u : V} {R : VK} (S : SR B F L σ H ρ) (h : app2 f ρ x y Q) (rx : ArgV B.K F L x v) (ry : ArgV B.K F L y u)
    (hq : ∀ c w F' H', Q c ρ → SR B F' L σ H' ρ → Stp F L H F' L H' → ResC B F L H F' L H' c w → R w H') : r v u H R := by
  unfold app2 at h
  split at h
  · rename_i d e e1 e2
    obtain ⟨c, ec, h⟩ := h
    exact hf F H d e v u c R S.sub (view_ok S rx e1) (view_ok S ry e2) ec fun w F' H' g sb n => hq c w F' H' h (S.grow g sb) g.stp (n.res S)
  · exact h.elim
theorem ResC.back {F F1 H H1 F2 H2 : Hp} {L L1 L2' : La} (s : Stp F L H F1 L1 H1) : ∀ {c : Cell} {v : V}, ResC B F1 L1 H1 F2 L2' H2 c v → ResC B F L H F2 L2' H2 c v
  | .val _, _, h => h
  | .own _, _, ⟨a, vs, e, h1, h2, h3, h4, h5, h6⟩ => ⟨a, vs, e, h1, h2, h3, h4, h5, by
      rcases h6 with q | ⟨i, q⟩
      · refine .inl ?_
        cases e0 : H a with
        | none => rfl
        | some o => exact absurd q (s.al a (by rw [e0]; simp))
      · exact .inr ⟨i, s.l i a q⟩⟩
theorem two_op {ax bx : AX} {r : R2} {f : DOp2} (hf : Op2 B.K r f) {σ : L2.St} {H : Hp} {Q : VK} (h : rC B W (mOp2 f ax bx) σ H Q) : tOp r (rX B W ax) (rX B W bx) σ H Q := by
  obtain ⟨F, L, ρ, Qd, Ed, S, ht, hq, hx⟩ := h
  refine two_X S ht hx fun x y ρ' v u F' L' H' k S' s r1 r2 => ?_
  exact app2_ok hf S' k r1 r2 fun c w F2 H2 q S2 s2 rs => hq c ρ' w F2 L' H2 q S2 (s.trans s2) (rs.back s)
theorem dc_bin {a b : Expr} {ax bx : AX} {op : Operator} {r : R2} {f : DOp2} (ho : OpR X (binaryOp op) r) (hf : Op2 B.K r f) (ha : PE X a (rX B W ax)) (hb : PE X b (rX B W bx)) : PE X (.BinOp a op b pos) (rC B W (mOp2 f ax bx)) :=
  pe_imp (pe_op ho ha hb) fun _ _ _ h => two_op hf h
theorem dc_cmp {a b : Expr} {ax bx : AX} {op : CmpOp} {r : R2} {f : DOp2} (ho : OpR X (compareOp op) r) (hf : Op2 B.K r f) (ha : PE X a (rX B W ax)) (hb : PE X b (rX B W bx)) (hm : behindInMarks op b = false := by first | exact nomark _ | rfl) : PE X (.Compare a [op] [b] pos) (rC B W (mOp2 f ax bx)) :=
  pe_imp (pe_cmpR ho ha hb hm) fun _ _ _ h => two_op hf h
theorem dc_ix {a b : Expr} {ax bx : AX} {r : R2} {f : DOp2} (ho : IxR X r) (hf : Op2 B.K r f) (ha : PE X a (rX B W ax)) (hb : PE X b (rX B W bx)) (hs : PlainIx b := by exact fun _ _ => rfl) : PE X (.Subscript a b pos) (rC B W (mOp2 f ax bx)) :=
  pe_imp (pe_ix ho ha hb hs) fun _ _ _ h => two_op hf h
/-- a test: what is told must be True or False -/
def asT (t : DC) : DT := fun ρ Q E => t ρ (fun c ρ' => match c with
  | .val (.bl b) => Q b ρ'
  | _ => False) E
theorem dt_cmp {a b : Expr} {ax bx : AX} {op : CmpOp} {r : R2} {f : DOp2} (ho : OpR X (compareOp op) r) (hf : Op2 B.K r f) (ha : PE X a (rX B W ax)) (hb : PE X b (rX B W bx)) (hm : behindInMarks op b = false := by first | exact nomark _ | rfl) : PT X (.Compare a [op] [b] pos) (rT B W (asT (mOp2 f ax bx))) := by
  refine pt_imp (pt_cmpR ho ha hb hm) fun σ H Q ⟨F, L, ρ, Qd, Ed, S, ht, hq, hx⟩ => ?_
  refine two_op hf ⟨F, L, ρ, _, Ed, S, ht, fun c ρ' v F' L' H' q S' s r => ?_, hx⟩
  cases c with
  | own _ => exact False.elim q
  | val d =>
    cases d with
    | bl b =>
      have e : v = .bl b := r
      exact ⟨b, e, hq b ρ' F' L' H' q S' s⟩
    | _ => exact False.elim q
/-! one operand -/
abbrev DOp1 := D → Option Cell
def Op1 (K : PySem.W.Frag) (r : V → Hp → VK → Prop) (f : DOp1) : Prop := ∀ (F H : Hp) (d : D) (v : V) (c : Cell) (Q : VK), Same F H → RpV K F H d v → f d = some c →
  (∀ w F' H', Grow F H F' H' → Same F' H' → NewR K H c w F' H' → Q w H') → r v H Q
def mOp1 (f : DOp1) (a : AX) : DC := fun ρ Q E => mAX a ρ (fun x ρ1 => match view ρ1 x with
  | some d => ∃ c, f d = some c ∧ Q c ρ1
  | none => False) E
theorem one_op {ax : AX} {r : V → Hp → VK → Prop} {f : DOp1} (hf : Op1 B.K r f) {σ : L2.St} {H : Hp} {Q : VK} (h : rC B W (mOp1 f ax) σ H Q) : tUn r (rX B W ax) σ H Q := by
  obtain ⟨F, L, ρ, Qd, Ed, S, ht, hq, hx⟩ := h
  refine ⟨F, L, ρ, _, Ed, S, ht, fun x ρ' v F' L' H' k S' s r1 => ?_, hx⟩
  split at k
  · rename_i d e
    obtain ⟨c, ec, k⟩ := k
    exact hf F' H' d v c Q S'.sub (view_ok S' r1 e) ec fun w F2 H2 g sb n => hq c ρ' w F2 L' H2 k (S'.grow g sb) (s.trans g.stp) ((n.res S').back s)
  · exact k.elim
theorem dc_un {a : Expr} {ax : AX} {op : UnaryOp} {r : V → Hp → VK → Prop} {f : DOp1} (ho : UnR X (unaryOp op) r) (hf : Op1 B.K r f) (ha : PE X a (rX B W ax)) : PE X (.UnaryOp op a pos) (rC B W (mOp1 f ax)) :=
  pe_imp (pe_un ho ha) fun _ _ _ h => one_op hf h
/-! built-in calls -/
def mOpN (f : DOpN) (as : List AX) : DC := fun ρ Q E => mAXs as ρ (fun xs ρ1 => match views ρ1 xs with
  | some ds => ∃ c, f ds = some c ∧ Q c ρ1
  | none => False) E
theorem many_op {as : List AX} {r : List V → Hp → VK → Prop} {f : DOpN} (hf : OpN B.K r f) {σ : L2.St} {H : Hp} {Q : VK} (h : rC B W (mOpN f as) σ H Q) : tCB r (rA B W as) σ H Q := by
  obtain ⟨F, L, ρ, Qd, Ed, S, ht, hq, hx⟩ := h
  refine ⟨F, L, ρ, _, Ed, S, ht, fun xs ρ' vs F' L' H' k S' s r1 => ?_, hx⟩
  split at k
  · rename_i ds e
    obtain ⟨c, ec, k⟩ := k
    exact hf F' H' ds vs c Q S'.sub (views_ok S' r1 e) ec fun w F2 H2 g sb n => hq c ρ' w F2 L' H2 k (S'.grow g sb) (s.trans g.stp) ((n.res S').back s)
  · exact k.elim
section
variable {x : Str} {p : Pos} {es : List Expr} {as : List AX} {id T : String} {r : List V → Hp → VK → Prop} {f : DOpN}
theorem dc_callB (hc : CallR X (.builtin id) r) (hf : OpN B.K r f) (hm : X.mg x = none) (ha : PA X (e :: es) (rA B W as)) (hv : bootBuiltins x = some (.builtin id) := by decide +kernel) (hg : Gl X x := by rfl) (hn : x ≠ "__name__" := by decide) (hdb : (x == ("__debug__" : Str)) = false := by decide)
    (he : starEach (e :: es) X.env = (false, eval e X.env) :: starEach es X.env := by rfl) (hpl : (backTo pos (starEach es X.env)).any (·.1) = false := by rfl) : PE X (.Call (.Name x p) (e :: es) [] pos) (rC B W (mOpN f as)) :=
  pe_imp (pe_callB hc hg hm hv ha hn hdb he hpl) fun _ _ _ h => many_op hf h
theorem dc_callTy (hc : CallR X (.type T) r) (hf : OpN B.K r f) (hm : X.mg x = none) (ha : PA X (e :: es) (rA B W as)) (hv : bootBuiltins x = some (.type T) := by decide +kernel) (hg : Gl X x := by rfl) (hn : x ≠ "__name__" := by decide) (hdb : (x == ("__debug__" : Str)) = false := by decide)
    (he : starEach (e :: es) X.env = (false, eval e X.env) :: starEach es X.env := by rfl) (hpl : (backTo pos (starEach es X.env)).any (·.1) = false := by rfl) : PE X (.Call (.Name x p) (e :: es) [] pos) (rC B W (mOpN f as)) :=
  pe_imp (pe_callTy hc hg hm hv ha hn hdb he hpl) fun _ _ _ h => many_op hf h
theorem dc_callF (hc : CallR X (.builtin id) r) (hf : OpN B.K r f) (hm : X.mg x = some (.builtin id)) (ha : PA X (e :: es) (rA B W as)) (hg : Gl X x := by rfl) (hdb : (x == ("__debug__" : Str)) = false := by decide)
    (he : starEach (e :: es) X.env = (false, eval e X.env) :: starEach es X.env := by rfl) (hpl : (backTo pos (starEach es X.env)).any (·.1) = false := by rfl) : PE X (.Call (.Name x p) (e :: es) [] pos) (rC B W (mOpN f as)) :=
  pe_imp (pe_callBfun hc hg hm ha hdb he hpl) fun _ _ _ h => many_op hf h
end
/-! tests -/
/-- truth of data -/
def truD : D → Option Bool
  | .non => some false
  | .bl b => some b
  | .int i => some (i != 0)
  | .str x => if x.length ≤ sizeLine then some ((x.length : Int) != 0) else none
  | .tup ds => some (!ds.isEmpty)
  | .lst ds => some (!ds.isEmpty)
  | .fix ds => some (!ds.isEmpty)
  | .dic _ _ => none
  | .ty _ => none
theorem isEmpty_rp {K : PySem.W.Frag} {F : Hp} : ∀ {ds : List D} {vs : List V}, RpL K F ds vs → ds.isEmpty = vs.isEmpty
  | [], _, h => by
    have e : _ = [] := h
    subst e
    rfl
  | _ :: _, _, ⟨_, _, e, _, _⟩ => by subst e; rfl
theorem truD_ok {K : PySem.W.Frag} {F H : Hp} : ∀ {d : D} {v : V} {b : Bool}, Same F H → RpV K F H d v → truD d = some b → TruV K v H b
  | .non, _, _, _, h, e => by
    cases (show _ = V.non from h)
    cases e
    exact rfl
  | .bl _, _, _, _, h, e => by
    cases (show _ = V.bl _ from h)
    cases e
    exact rfl
  | .int _, _, _, _, h, e => by
    cases (show _ = V.int _ from h)
    cases e
    exact rfl
  | .str x, _, b, _, h, e => by
    cases (show _ = V.str _ from h)
    have e' : (if x.length ≤ sizeLine then some ((x.length : Int) != 0) else none) = some b := e
    split at e'
    · rename_i hl
      cases e'
      exact ⟨hl, rfl⟩
    · cases e'
  | .tup ds, _, _, s, h, e => by
    obtain ⟨a, vs, rfl, q, r⟩ := h
    cases e
    exact .inr (.inl ⟨vs, Same.tseq s q, by rw [isEmpty_rp r]⟩)
  | .lst ds, _, _, s, h, e => by
    obtain ⟨a, vs, rfl, q, r⟩ := h
    cases e
    exact .inl ⟨vs, SqL.of q, by rw [isEmpty_rp r]⟩
  | .fix ds, _, _, s, h, e => by
    obtain ⟨a, vs, rfl, q, r⟩ := h
    cases e
    exact .inl ⟨vs, s.seq q, by rw [isEmpty_rp r]⟩
  | .dic _ _, _, _, _, _, e => by cases e
  | .ty _, _, _, _, _, e => by cases e
/-- an operand's truth -/
def mTru (a : AX) : DT := fun ρ Q E => mAX a ρ (fun x ρ1 => match view ρ1 x with
  | some d => ∃ b, truD d = some b ∧ Q b ρ1
  | none => False) E
theorem dt_tru {a : Expr} {ax : AX} (ha : PE X a (rX B W ax)) (he : ∀ whole, isTrue a X.env whole = (do let v ← whole; standAt a.pos; holding [v] (truthy v)) := by intro _; rfl) (hK : B.K = X.K := by rfl) : PT X a (rT B W (mTru ax)) := by
  refine pt_imp (pt_truth ha he) fun σ H Q ⟨F, L, ρ, Qd, Ed, S, ht, hq, hx⟩ => ⟨F, L, ρ, _, Ed, S, ht, fun x ρ' v F' L' H' k S' s r1 => ?_, hx⟩
  split at k
  · rename_i d e
    obtain ⟨b, eb, k⟩ := k
    exact ⟨b, hK ▸ truD_ok S'.sub (view_ok S' r1 e) eb, hq b ρ' F' L' H' k S' s⟩
  · exact k.elim
def mNot (t : DT) : DT := fun ρ Q E => t ρ (fun b ρ' => Q (!b) ρ') E
theorem dt_not {a : Expr} {t : DT} (ha : PT X a (rT B W t)) : PT X (.UnaryOp .Not a pos) (rT B W (mNot t)) :=
  pt_imp (pt_not ha) fun σ H Q ⟨F, L, ρ, Qd, Ed, S, ht, hq, hx⟩ => ⟨F, L, ρ, _, Ed, S, ht, fun b ρ' F' L' H' q S' s => hq (!b) ρ' F' L' H' q S' s, hx⟩
def mAndT (t u : DT) : DT := fun ρ Q E => t ρ (fun b ρ1 => if b = true then u ρ1 Q E else Q false ρ1) E
def mOrT (t u : DT) : DT := fun ρ Q E => t ρ (fun b ρ1 => if b = true then Q true ρ1 else u ρ1 Q E) E
theorem dw_and1 {a : Expr} {t : DT} (ha : PT X a (rT B W t)) : PW X (.BoolOp .And [a] pos) (rT B W t) := pw_and1 ha
theorem dw_or1 {a : Expr} {t : DT} (ha : PT X a (rT B W t)) : PW X (.BoolOp .Or [a] pos) (rT B W t) := pw_or1 ha
theorem dw_and {a b : Expr} {rest : List Expr} {t u : DT} (ha : PT X a (rT B W t)) (hb : PW X (.BoolOp .And (b :: rest) pos) (rT B W u)) : PW X (.BoolOp .And (a :: b :: rest) pos) (rT B W (mAndT t u)) := by
  refine pw_imp (pw_and ha hb) fun σ H Q ⟨F, L, ρ, Qd, Ed, S, ht, hq, hx⟩ => ⟨F, L, ρ, _, Ed, S, ht, fun c ρ1 F1 L1 H1 q S1 s1 => ?_, hx⟩
  cases c with
  | true => exact ⟨F1, L1, ρ1, Qd, Ed, S1, q, fun b ρ' F' L' H' q' S' s' => hq b ρ' F' L' H' q' S' (s1.trans s'), hx.mono s1.f⟩
  | false => exact hq false ρ1 F1 L1 H1 q S1 s1
theorem dw_or {a b : Expr} {rest : List Expr} {t u : DT} (ha : PT X a (rT B W t)) (hb : PW X (.BoolOp .Or (b :: rest) pos) (rT B W u)) : PW X (.BoolOp .Or (a :: b :: rest) pos) (rT B W (mOrT t u)) := by
  refine pw_imp (pw_or ha hb) fun σ H Q ⟨F, L, ρ, Qd, Ed, S, ht, hq, hx⟩ => ⟨F, L, ρ, _, Ed, S, ht, fun c ρ1 F1 L1 H1 q S1 s1 => ?_, hx⟩
  cases c with
  | false => exact ⟨F1, L1, ρ1, Qd, Ed, S1, q, fun b ρ' F' L' H' q' S' s' => hq b ρ' F' L' H' q' S' (s1.trans s'), hx.mono s1.f⟩
  | true => exact hq true ρ1 F1 L1 H1 q S1 s1
theorem dt_w {a : Expr} {t : DT} (h : PW X a (rT B W t)) : PT X a (rT B W t) := h.pt
/-! and, or, not as values: all but the last must be True or False where they are told -/
def mAndV (a : AX) (u : DC) : DC := fun ρ Q E => mAX a ρ (fun x ρ1 => match x with
  | .inl d => ∃ b, truD d = some b ∧ (if b = true then u ρ1 Q E else Q (.val d) ρ1)
  | .inr _ => False) E
def mOrV (a : AX) (u : DC) : DC := fun ρ Q E => mAX a ρ (fun x ρ1 => match x with
  | .inl d => ∃ b, truD d = some b ∧ (if b = true then Q (.val d) ρ1 else u ρ1 Q E)
  | .inr _ => False) E
def mNotV (a : AX) : DE := fun ρ Q E => mAX a ρ (fun x ρ1 => match view ρ1 x with
  | some d => ∃ b, truD d = some b ∧ Q (.bl (!b)) ρ1
  | none => False) E
theorem dc_one {a : Expr} {op : BoolOp} {t : DC} (h : PE X a (rC B W t)) : PE X (.BoolOp op [a] pos) (rC B W t) := pe_one h
theorem dc_and {a b : Expr} {rest : List Expr} {ax : AX} {u : DC} (ha : PE X a (rX B W ax)) (hb : PE X (.BoolOp .And (b :: rest) pos) (rC B W u)) (hK : B.K = X.K := by rfl) : PE X (.BoolOp .And (a :: b :: rest) pos) (rC B W (mAndV ax u)) := by
  refine pe_imp (pe_andT ha hb) fun σ H Q ⟨F, L, ρ, Qd, Ed, S, ht, hq, hx⟩ => ⟨F, L, ρ, _, Ed, S, ht, fun x ρ1 v F1 L1 H1 k S1 s1 r1 => ?_, hx⟩
  split at k
  · rename_i d
    obtain ⟨b, e, k⟩ := k
    cases b with
    | true => exact ⟨true, hK ▸ truD_ok S1.sub (Rp.view S1.sub r1) e, ⟨F1, L1, ρ1, Qd, Ed, S1, k, fun c ρ' w F' L' H' q' S' s' r' => hq c ρ' w F' L' H' q' S' (s1.trans s') (r'.back s1), hx.mono s1.f⟩⟩
    | false => exact ⟨false, hK ▸ truD_ok S1.sub (Rp.view S1.sub r1) e, hq (.val d) ρ1 v F1 L1 H1 k S1 s1 r1⟩
  · exact k.elim
theorem dc_or {a b : Expr} {rest : List Expr} {ax : AX} {u : DC} (ha : PE X a (rX B W ax)) (hb : PE X (.BoolOp .Or (b :: rest) pos) (rC B W u)) (hK : B.K = X.K := by rfl) : PE X (.BoolOp .Or (a :: b :: rest) pos) (rC B W (mOrV ax u)) := by
  refine pe_imp (pe_orT ha hb) fun σ H Q ⟨F, L, ρ, Qd, Ed, S, ht, hq, hx⟩ => ⟨F, L, ρ, _, Ed, S, ht, fun x ρ1 v F1 L1 H1 k S1 s1 r1 => ?_, hx⟩
  split at k
  · rename_i d
    obtain ⟨b, e, k⟩ := k
    cases b with
    | false => exact ⟨false, hK ▸ truD_ok S1.sub (Rp.view S1.sub r1) e, ⟨F1, L1, ρ1, Qd, Ed, S1, k, fun c ρ' w F' L' H' q' S' s' r' => hq c ρ' w F' L' H' q' S' (s1.trans s') (r'.back s1), hx.mono s1.f⟩⟩
    | true => exact ⟨true, hK ▸ truD_ok S1.sub (Rp.view S1.sub r1) e, hq (.val d) ρ1 v F1 L1 H1 k S1 s1 r1⟩
  · exact k.elim
theorem de_not {a : Expr} {ax : AX} (ha : PE X a (rX B W ax)) (hK : B.K = X.K := by rfl) : PE X (.UnaryOp .Not a pos) (rV B W (mNotV ax)) := by
  refine pe_imp (pe_notT ha) fun σ H Q ⟨F, L, ρ, Qd, Ed, S, ht, hq, hx⟩ => ⟨F, L, ρ, _, Ed, S, ht, fun x ρ' v F' L' H' k S' s r1 => ?_, hx⟩
  split at k
  · rename_i d e
    obtain ⟨b, eb, k⟩ := k
    exact ⟨b, hK ▸ truD_ok S'.sub (view_ok S' r1 e) eb, hq (.bl (!b)) ρ' _ F' L' H' k S' s rfl⟩
  · exact k.elim
def mIf (t : DT) (u w : DC) : DC := fun ρ Q E => t ρ (fun b ρ1 => if b = true then u ρ1 Q E else w ρ1 Q E) E
theorem dc_if {c a b : Expr} {t : DT} {u w : DC} (hc : PT X c (rT B W t)) (ha : PE X a (rC B W u)) (hb : PE X b (rC B W w)) : PE X (.IfExp c a b pos) (rC B W (mIf t u w)) := by
  refine pe_imp (pe_ifExp hc ha hb) fun σ H Q ⟨F, L, ρ, Qd, Ed, S, ht, hq, hx⟩ => ⟨F, L, ρ, _, Ed, S, ht, fun c ρ1 F1 L1 H1 k S1 s1 => ?_, hx⟩
  cases c with
  | true => exact ⟨F1, L1, ρ1, Qd, Ed, S1, k, fun c ρ' w F' L' H' q' S' s' r' => hq c ρ' w F' L' H' q' S' (s1.trans s') (r'.back s1), hx.mono s1.f⟩
  | false => exact ⟨F1, L1, ρ1, Qd, Ed, S1, k, fun c ρ' w F' L' H' q' S' s' r' => hq c ρ' w F' L' H' q' S' (s1.trans s') (r'.back s1), hx.mono s1.f⟩
end
end DL
/-! The data layer: tuple * int, of any count. -/
namespace DL
open PySem PySem.Spec PyProof.Rows L2
theorem tuple_mulSame (l : Addr) (items : Array Value) (n : Nat) (dd : Option Addr) (sl : Array (Option Value)) (x : Int) (u : Tok) (c0 : (decide (x < -(2 ^ 63)) || decide (x ≥ 2 ^ 63)) = false) (c1 : (items.isEmpty || x == 1) = true) :
    Meets (Builtin.«tuple.__mul__» ⟨[.ref l, .int x u], []⟩) (fun _ R s => s.heap.get? l = some { cls := .type "tuple", dict := dd, data := .seq items n, slots := sl } ∧
      R (.ok (.ret (Value.ref l))) s) :=
  .of_wp fun prog w A R s h => by
    obtain ⟨hp, g, d, tk, os⟩ := s
    obtain ⟨hl, h⟩ := h
    have f1 := AutoSeq1.idx_int
    wp_walk using wpAny_loadPart' hl
    repeat (first
      | (refine wpAny_ite_false (decide_eq_false (by rw [c0]; exact Bool.false_ne_true)) ?_; wp_walk using wpAny_loadPart' hl)
      | (refine wpAny_ite_true (decide_eq_true (by rw [c1])) ?_; wp_walk using wpAny_loadPart' hl))
    exact ⟨_, rfl, h⟩
theorem tuple_mulNone (l : Addr) (items : Array Value) (n : Nat) (dd : Option Addr) (sl : Array (Option Value)) (x : Int) (u : Tok) (c0 : (decide (x < -(2 ^ 63)) || decide (x ≥ 2 ^ 63)) = false) (c1 : (items.isEmpty || x == 1) = false) (c2 : (decide (x ≤ 0) || items.isEmpty) = true) :
    Meets (Builtin.«tuple.__mul__» ⟨[.ref l, .int x u], []⟩) (fun _ R s => s.heap.get? l = some { cls := .type "tuple", dict := dd, data := .seq items n, slots := sl } ∧
      R (.ok (.ret (Value.ref s.heap.objs.size))) { s with heap := s.heap.push { cls := Value.type "tuple", data := Data.seq #[] }, toks := s.toks }) :=
  .of_wp fun prog w A R s h => by
    obtain ⟨hp, g, d, tk, os⟩ := s
    obtain ⟨hl, h⟩ := h
    have f1 := AutoSeq1.idx_int
    wp_walk using wpAny_loadPart' hl
    repeat (first
      | (refine wpAny_ite_false (decide_eq_false (by rw [c0]; exact Bool.false_ne_true)) ?_; wp_walk using wpAny_loadPart' hl)
      | (refine wpAny_ite_false (decide_eq_false (by rw [c1]; exact Bool.false_ne_true)) ?_; wp_walk using wpAny_loadPart' hl)
      | (refine wpAny_ite_true (decide_eq_true (by rw [c2])) ?_; wp_walk using wpAny_loadPart' hl))
    exact ⟨_, rfl, h⟩
def rRepA (K : PySem.W.Frag) : R2 := fun x y H Q => ∃ l k xs, x = .ref l ∧ y = .int k ∧ SqT K H l xs ∧ (-(2 ^ 63) ≤ k ∧ k < 2 ^ 63) ∧ xs.length * k.toNat ≤ 1000000 ∧ ((xs = [] ∨ k = 1) → Q (.ref l) H) ∧ (xs ≠ [] → k ≠ 1 → ∀ p, H p = none → Q (.ref p) (upd H p (.tup (List.replicate k.toNat xs).flatten)))
theorem op_repA {X : Cx} : OpR X (binaryOp .Mult) (rRepA X.K) := by
  intro pins s σ H x y v u Q I rx ry h
  obtain ⟨l, k, xs, rfl, rfl, hT, ⟨hk1, hk2⟩, hz, q1, q2⟩ := h
  cases rx
  obtain ⟨t, rfl⟩ := ry
  obtain ⟨its, r, ⟨⟨cls, dd, data, sl⟩, ho, hc, n, hd⟩, hs⟩ := I.tuple hT
  simp only at hc hd
  subst hc hd
  have hle : its.length = xs.length := r.length.symm
  have c0 : (decide (k < -(2 ^ 63)) || decide (k ≥ 2 ^ 63)) = false := by
    rw [decide_eq_false (by omega), decide_eq_false (by omega)] <;> rfl
  have hE : its.toArray.isEmpty = xs.isEmpty := by
    cases its with
    | nil => cases xs with
      | nil => rfl
      | cons a b => cases hle
    | cons a b => cases xs with
      | nil => cases hle
      | cons a b => rfl
  refine wpAny_binaryOp_repeat_ref (T := "tuple") (U := "int") (by decide) ⟨_, ho, rfl⟩ (fun s' => typeIs_int s' k t) noFill_tuple_mul F.fills_int_mul F.slot_int_rmul repeat_tuple F.slot_int_index.lookup
    (call_meets F.slot_int_rmul (typeIs_int s k t) F.entry_int_rmul (F.args_int_rmul_2 _ _) (int_rmul_tuple k t l its.toArray n dd sl) ⟨ho, rfl, ⟨_, ho, rfl⟩, ?_⟩)
  by_cases h1 : xs = [] ∨ k = 1
  · have c1 : (its.toArray.isEmpty || k == 1) = true := by
      rcases h1 with h1 | h1
      · rw [hE, h1]; rfl
      · rw [h1]; simp
    exact call_meets F.slot_tuple_mul ⟨_, ho, rfl⟩ F.entry_tuple_mul (F.args_tuple_mul_2 _ _) (tuple_mulSame l its.toArray n dd sl k t c0 c1) ⟨ho, ⟨.ref l, H, I, rfl, q1 h1⟩⟩
  · have hne : xs ≠ [] := fun z => h1 (.inl z)
    have hk : k ≠ 1 := fun z => h1 (.inr z)
    have hi : its.toArray.isEmpty = false := by
      rw [hE]
      cases xs with
      | nil => exact absurd rfl hne
      | cons a b => rfl
    have c1 : (its.toArray.isEmpty || k == 1) = false := by
      rw [hi, Bool.false_or]
      exact beq_eq_false_iff_ne.mpr hk
    by_cases h0 : k ≤ 0
    · have c2 : (decide (k ≤ 0) || its.toArray.isEmpty) = true := by rw [decide_eq_true h0]; rfl
      have ek : k.toNat = 0 := by omega
      have q3 := q2 hne hk s.heap.objs.size (I.hok.fresh (Nat.le_refl _))
      rw [ek] at q3
      refine call_meets F.slot_tuple_mul ⟨_, ho, rfl⟩ F.entry_tuple_mul (F.args_tuple_mul_2 _ _) (tuple_mulNone l its.toArray n dd sl k t c0 c1 c2) ⟨ho, ?_⟩
      exact ⟨.ref s.heap.objs.size, _, I.laid (t' := s.toks) (o := .tup []) (fun b ob q => Heap.get?_push_of_some _ q) (Nat.le_refl _) ⟨by rw [sizeLine_eq]; decide, [], .nil, IsTup.new _ _⟩, rfl, q3⟩
    · have ek : (k.toNat : Int) = k := by omega
      have hm : ((its.toArray.size : Nat) : Int) * k ≤ 1000000 := by
        rw [List.size_toArray, hle, ← ek]
        rw [← Int.natCast_mul]
        omega
      have flen : (List.replicate k.toNat its).flatten.length ≤ sizeLine := by
        rw [PyProof.Rows.lm_len_rep_flat, hle, sizeLine_eq, Nat.mul_comm]
        omega
      have c2 : (decide (k ≤ 0) || its.toArray.isEmpty) = false := by
        rw [hi, Bool.or_false]
        exact decide_eq_false h0
      have c4 : Builtin.Tuple.tupleTooMany (((its.toArray.size : Nat) : Int) * k) = false := by
        unfold Builtin.Tuple.tupleTooMany
        rw [sizeLine_eq]
        exact decide_eq_false (by omega)
      refine call_meets F.slot_tuple_mul ⟨_, ho, rfl⟩ F.entry_tuple_mul (F.args_tuple_mul_2 _ _) (tuple_mulW l its.toArray n dd sl k t c0 c1 c2 (by omega) c4 (by rw [size_rep, List.size_toArray]; exact flen)) ⟨ho, ?_⟩
      rw [size_rep]
      refine ⟨.ref s.heap.objs.size, _, I.laid (t' := s.toks) (o := .tup (List.replicate k.toNat xs).flatten) (fun b ob q => Heap.get?_push_of_some _ q) (Nat.le_refl _) ?_, rfl, q2 hne hk _ (I.hok.fresh (Nat.le_refl _))⟩
      exact ⟨by rw [PyProof.Rows.lm_len_rep_flat, sizeLine_eq, Nat.mul_comm]; omega, _, r.rep k.toNat, IsTup.new _ _⟩
end DL
/-! The data layer: operators and built-ins as functions of data. -/
namespace DL
open PySem PySem.Spec PyProof.Rows L2
section
variable {K : PySem.W.Frag} {F H : Hp} {Q : VK}
theorem fin_val {d : D} {v : V} (sb : Same F H) (h : ∀ v F' H', Grow F H F' H' → Same F' H' → NewR K H (.val d) v F' H' → Q v H') (r : Rp K F d v) : Q v H := h v F H (Grow.refl _ _) sb r
theorem grow_upd {p : Addr} {o : HO} (sb : Same F H) (hp : H p = none) : Grow F H (upd F p o) (upd H p o) ∧ Same (upd F p o) (upd H p o) := by
  refine ⟨⟨same_upd (sb.free hp), same_upd hp, fun b u e => ?_⟩, fun b u e => ?_⟩
  · by_cases hb : b = p
    · rw [hb]; exact .inr hp
    · rw [upd_ne hb] at e; exact .inl e
  · by_cases hb : b = p
    · subst hb; rw [upd_same] at e ⊢; exact e
    · rw [upd_ne hb] at e; rw [upd_ne hb]; exact sb b u e
theorem fin_tup {ds : List D} {vs : List V} {p : Addr} (sb : Same F H) (h : ∀ v F' H', Grow F H F' H' → Same F' H' → NewR K H (.val (.tup ds)) v F' H' → Q v H') (hp : H p = none) (r : RpL K F ds vs) : Q (.ref p) (upd H p (.tup vs)) := by
  obtain ⟨g, s⟩ := grow_upd (o := .tup vs) sb hp
  exact h _ _ _ g s ⟨p, vs, rfl, SqT.of upd_same, r.mono g.f⟩
theorem fin_lst {ds : List D} {vs : List V} {p : Addr} (sb : Same F H) (h : ∀ v F' H', Grow F H F' H' → Same F' H' → NewR K H (.own ds) v F' H' → Q v H') (hp : H p = none) (r : RpL K F ds vs) : Q (.ref p) (upd H p (.lst vs)) :=
  h _ F _ ⟨Same.refl F, same_upd hp, fun _ _ e => .inl e⟩ (sb.trans (same_upd hp)) ⟨p, vs, rfl, hp, upd_same, sb.free hp, r⟩
end
theorem RpV.tup_ {K : PySem.W.Frag} {F H : Hp} {ds : List D} {v : V} (sb : Same F H) (h : RpV K F H (.tup ds) v) : ∃ a vs, v = .ref a ∧ SqT K H a vs ∧ RpL K F ds vs := by
  obtain ⟨a, vs, e, q, r⟩ := h
  exact ⟨a, vs, e, Same.tseq sb q, r⟩
/-! ### + - * // % ** and the sign -/
section
variable {X : Cx}
def rAddD (K : PySem.W.Frag) : R2 := fun x y H Q => (∃ i j, x = .int i ∧ y = .int j ∧ Q (.int (i + j)) H) ∨
  ((∃ i j, x = .str i ∧ y = .str j ∧ i.length + j.length ≤ sizeLine ∧ Q (.str (i ++ j)) H) ∨ (rCatA K x y H Q ∨ rCat x y H Q))
theorem op_addD : OpR X (binaryOp .Add) (rAddD X.K) := OpR.or op_add (OpR.or op_add_str (OpR.or op_catA op_cat))
def fAdd : DOp2
  | .int i, .int j => some (.val (.int (i + j)))
  | .str x, .str y => if x.length + y.length ≤ sizeLine then some (.val (.str (x ++ y))) else none
  | .tup xs, .tup ys => if xs.length + ys.length ≤ sizeLine then some (.val (.tup (xs ++ ys))) else none
  | .lst xs, .lst ys => if xs.length + ys.length ≤ sizeLine then some (.own (xs ++ ys)) else none
  | _, _ => none
theorem fAdd_ok {K : PySem.W.Frag} : Op2 K (rAddD K) fAdd := by
  intro F H d1 d2 v1 v2 c Q sb h1 h2 e q
  cases d1 <;> cases d2 <;> first | (cases e; done) | skip
  · cases e
    cases (show v1 = V.int _ from h1)
    cases (show v2 = V.int _ from h2)
    exact .inl ⟨_, _, rfl, rfl, fin_val sb q rfl⟩
  · rename_i x y
    cases (show v1 = V.str _ from h1)
    cases (show v2 = V.str _ from h2)
    have e' : (if x.length + y.length ≤ sizeLine then some (Cell.val (.str (x ++ y))) else none) = some c := e
    split at e'
    · rename_i hl
      cases e'
      exact .inr (.inl ⟨_, _, rfl, rfl, hl, fin_val sb q rfl⟩)
    · cases e'
  · rename_i xs ys
    obtain ⟨a, vs, rfl, q1, r1⟩ := RpV.tup_ sb h1
    obtain ⟨b, us, rfl, q2, r2⟩ := RpV.tup_ sb h2
    have e' : (if xs.length + ys.length ≤ sizeLine then some (Cell.val (.tup (xs ++ ys))) else none) = some c := e
    split at e'
    · rename_i hl
      cases e'
      rw [r1.length, r2.length] at hl
      refine .inr (.inr (.inl ⟨a, b, vs, us, rfl, rfl, q1, q2, hl, fun z => ?_, fun _ z => ?_, fun _ _ p hp => fin_tup sb q hp (r1.append r2)⟩))
      · subst z
        have z2 : xs = [] := List.eq_nil_of_length_eq_zero r1.length
        subst z2
        exact fin_val sb q h2
      · subst z
        have z2 : ys = [] := List.eq_nil_of_length_eq_zero r2.length
        subst z2
        rw [List.append_nil] at q
        exact fin_val sb q h1
    · cases e'
  · rename_i xs ys
    obtain ⟨a, vs, rfl, q1, r1⟩ := h1
    obtain ⟨b, us, rfl, q2, r2⟩ := h2
    have e' : (if xs.length + ys.length ≤ sizeLine then some (Cell.own (xs ++ ys)) else none) = some c := e
    split at e'
    · rename_i hl
      cases e'
      rw [r1.length, r2.length] at hl
      exact .inr (.inr (.inr ⟨a, b, vs, us, rfl, rfl, q1, q2, hl, fun p hp => fin_lst sb q hp (r1.append r2)⟩))
    · cases e'
/-- an operator of two whole numbers -/
def fI2 (C : Int → Int → Bool) (g : Int → Int → D) : DOp2
  | .int i, .int j => if C i j = true then some (.val (g i j)) else none
  | _, _ => none
theorem fI2_ok {K : PySem.W.Frag} {C : Int → Int → Bool} {P : Int → Int → Prop} {g : Int → Int → D} {gv : Int → Int → V} (hC : ∀ i j, C i j = true → P i j) (hg : ∀ F i j, Rp K F (g i j) (gv i j)) : Op2 K (rI P gv) (fI2 C g) := by
  intro F H d1 d2 v1 v2 c Q sb h1 h2 e q
  cases d1 <;> cases d2 <;> first | (cases e; done) | skip
  rename_i i j
  cases (show v1 = V.int _ from h1)
  cases (show v2 = V.int _ from h2)
  have e' : (if C i j = true then some (Cell.val (g i j)) else none) = some c := e
  split at e'
  · rename_i hc
    cases e'
    exact ⟨i, j, rfl, rfl, hC i j hc, fin_val sb q (hg F i j)⟩
  · cases e'
theorem fI0_ok {K : PySem.W.Frag} {g : Int → Int → D} {gv : Int → Int → V} (hg : ∀ F i j, Rp K F (g i j) (gv i j)) : Op2 K (rI0 gv) (fI2 (fun _ _ => true) g) := by
  intro F H d1 d2 v1 v2 c Q sb h1 h2 e q
  cases d1 <;> cases d2 <;> first | (cases e; done) | skip
  rename_i i j
  cases (show v1 = V.int _ from h1)
  cases (show v2 = V.int _ from h2)
  cases e
  exact ⟨i, j, rfl, rfl, fin_val sb q (hg F i j)⟩
abbrev fSub : DOp2 := fI2 (fun _ _ => true) fun i j => .int (i - j)
theorem fSub_ok {K : PySem.W.Frag} : Op2 K (rI0 fun i j => .int (i - j)) fSub := fI0_ok fun _ _ _ => rfl
/-- j is not 0, and the division is done by C -/
@[irreducible] def CDivB (i j : Int) : Bool := decide (j ≠ 0) && !Builtin.divisionGoesByPylong i j
theorem op_fdivD : OpR X (binaryOp .FloorDiv) (rI (fun i j => CDivB i j = true) fun i j => .int (i.fdiv j)) := opI fun i j _ _ _ _ _ hc q => by
  have hc' : CDivB i j = true := hc
  unfold CDivB at hc'
  rw [Bool.and_eq_true] at hc'
  exact floordiv_int (of_decide_eq_true hc'.1) q (.inl (by simpa using hc'.2))
abbrev fDiv : DOp2 := fI2 CDivB fun i j => .int (i.fdiv j)
theorem fDiv_ok {K : PySem.W.Frag} : Op2 K (rI (fun i j => CDivB i j = true) fun i j => .int (i.fdiv j)) fDiv := fI2_ok (fun _ _ h => h) fun _ _ _ => rfl
abbrev fMod : DOp2 := fI2 (fun _ j => decide (j ≠ 0)) fun i j => .int (i.fmod j)
theorem fMod_ok {K : PySem.W.Frag} : Op2 K (rI (fun _ j => j ≠ 0) fun i j => .int (i.fmod j)) fMod := fI2_ok (fun _ _ h => of_decide_eq_true h) fun _ _ _ => rfl
def CPowB (i j : Int) : Bool := decide (0 ≤ j) && (decide (j ≤ 1000000) && decide (i.natAbs < 2 ^ 64))
abbrev fPow : DOp2 := fI2 CPowB fun i j => .int (i ^ j.toNat)
theorem fPow_ok {K : PySem.W.Frag} : Op2 K (rI CPow fun i j => .int (i ^ j.toNat)) fPow := fI2_ok (fun i j h => by
  have h' : (decide (0 ≤ j) && (decide (j ≤ 1000000) && decide (i.natAbs < 2 ^ 64))) = true := h
  simp only [Bool.and_eq_true, decide_eq_true_eq] at h'
  exact h') fun _ _ _ => rfl
/-- * : two numbers of together less than 2 ^ 27 bits; a list so many times -/
@[irreducible] def CMulB (i j : Int) : Bool := decide ((Builtin.Int.intBits i : Int) + (Builtin.Int.intBits j : Int) ≤ 134217728)
def rMulD (K : PySem.W.Frag) : R2 := fun x y H Q => rI CMulX (fun i j => .int (i * j)) x y H Q ∨ (rRep x y H Q ∨ rRepA K x y H Q)
theorem op_mulD : OpR X (binaryOp .Mult) (rMulD X.K) := OpR.or op_mulX (OpR.or op_rep op_repA)
def fMul : DOp2
  | .int i, .int j => if CMulB i j = true then some (.val (.int (i * j))) else none
  | .lst xs, .int k => if -(2 ^ 63) ≤ k ∧ k < 2 ^ 63 ∧ xs.length * k.toNat ≤ sizeLine then some (.own (List.replicate k.toNat xs).flatten) else none
  | .tup xs, .int k => if -(2 ^ 63) ≤ k ∧ k < 2 ^ 63 ∧ xs.length * k.toNat ≤ 1000000 then some (.val (.tup (List.replicate k.toNat xs).flatten)) else none
  | _, _ => none
theorem RpL.rep {K : PySem.W.Frag} {F : Hp} {ds : List D} {vs : List V} (h : RpL K F ds vs) : ∀ k : Nat, RpL K F (List.replicate k ds).flatten (List.replicate k vs).flatten
  | 0 => rfl
  | k + 1 => by
    rw [List.replicate_succ, List.replicate_succ, List.flatten_cons, List.flatten_cons]
    exact h.append (RpL.rep h k)
theorem fMul_ok {K : PySem.W.Frag} : Op2 K (rMulD K) fMul := by
  intro F H d1 d2 v1 v2 c Q sb h1 h2 e q
  cases d1 <;> cases d2 <;> first | (cases e; done) | skip
  · rename_i i j
    cases (show v1 = V.int _ from h1)
    cases (show v2 = V.int _ from h2)
    have e' : (if CMulB i j = true then some (Cell.val (.int (i * j))) else none) = some c := e
    split at e'
    · rename_i hc
      cases e'
      unfold CMulB at hc
      exact .inl ⟨i, j, rfl, rfl, (show (Builtin.Int.intBits i : Int) + (Builtin.Int.intBits j : Int) ≤ 134217728 from of_decide_eq_true hc), fin_val sb q rfl⟩
    · cases e'
  · rename_i xs k
    have h1' := h1
    obtain ⟨a, vs, rfl, q1, r1⟩ := RpV.tup_ sb h1
    cases (show v2 = V.int _ from h2)
    have e' : (if -(2 ^ 63) ≤ k ∧ k < 2 ^ 63 ∧ xs.length * k.toNat ≤ 1000000 then some (Cell.val (.tup (List.replicate k.toNat xs).flatten)) else none) = some c := e
    split at e'
    · rename_i hc
      cases e'
      obtain ⟨c1, c2, c3⟩ := hc
      have same : vs = [] ∨ k = 1 → (List.replicate k.toNat xs).flatten = xs := fun z => by
        rcases z with z | z
        · have e0 : xs = [] := List.eq_nil_of_length_eq_zero (by rw [r1.length, z]; rfl)
          rw [e0]
          simp
        · rw [z]
          simp
      rw [r1.length] at c3
      refine .inr (.inr ⟨a, k, vs, rfl, rfl, q1, ⟨c1, c2⟩, c3, fun z => ?_, fun _ _ p hp => fin_tup sb q hp (r1.rep _)⟩)
      rw [same z] at q
      exact fin_val sb q h1'
    · cases e'
  · rename_i xs k
    obtain ⟨a, vs, rfl, q1, r1⟩ := h1
    cases (show v2 = V.int _ from h2)
    have e' : (if -(2 ^ 63) ≤ k ∧ k < 2 ^ 63 ∧ xs.length * k.toNat ≤ sizeLine then some (Cell.own (List.replicate k.toNat xs).flatten) else none) = some c := e
    split at e'
    · rename_i hc
      cases e'
      obtain ⟨c1, c2, c3⟩ := hc
      rw [r1.length] at c3
      exact .inr (.inl ⟨a, k, vs, rfl, rfl, q1, c1, c2, c3, fun p hp => fin_lst sb q hp (r1.rep _)⟩)
    · cases e'
def fNeg : DOp1
  | .int i => some (.val (.int (-i)))
  | _ => none
theorem fNeg_ok {K : PySem.W.Frag} : Op1 K (rU fun i => .int (-i)) fNeg := by
  intro F H d v c Q sb h e q
  cases d <;> first | (cases e; done) | skip
  cases (show v = V.int _ from h)
  cases e
  exact ⟨_, rfl, fin_val sb q rfl⟩
/-! ### comparisons -/
abbrev fLt : DOp2 := fI2 (fun _ _ => true) fun i j => .bl (decide (i < j))
abbrev fLe : DOp2 := fI2 (fun _ _ => true) fun i j => .bl (decide (i ≤ j))
abbrev fGt : DOp2 := fI2 (fun _ _ => true) fun i j => .bl (decide (j < i))
abbrev fGe : DOp2 := fI2 (fun _ _ => true) fun i j => .bl (decide (j ≤ i))
theorem fLt_ok {K : PySem.W.Frag} : Op2 K (rI0 fun i j => .bl (decide (i < j))) fLt := fI0_ok fun _ _ _ => rfl
theorem fLe_ok {K : PySem.W.Frag} : Op2 K (rI0 fun i j => .bl (decide (i ≤ j))) fLe := fI0_ok fun _ _ _ => rfl
theorem fGt_ok {K : PySem.W.Frag} : Op2 K (rI0 fun i j => .bl (decide (j < i))) fGt := fI0_ok fun _ _ _ => rfl
theorem fGe_ok {K : PySem.W.Frag} : Op2 K (rI0 fun i j => .bl (decide (j ≤ i))) fGe := fI0_ok fun _ _ _ => rfl
mutual
/-- data as the library has it -/
def toPy : D → PyData
  | .non => .none
  | .bl b => .bool b
  | .int i => .int i
  | .str x => .str x
  | .tup ds => .tuple (toPyL ds)
  | .lst ds => .list (toPyL ds)
  | .fix ds => .list (toPyL ds)
  | .dic _ _ => .dict []
  | .ty _ => .dict []
def toPyL : List D → List PyData
  | [] => []
  | d :: ds => toPy d :: toPyL ds
end
/-- what may be compared by == -/
def eqOk (d : D) : Bool := SeqAt.shaped (toPy d)
theorem shaped_ {d : PyData} (h : SeqAt.shaped d = true) : d.canLay0 = true := SeqAt.canLay_of_shaped h
mutual
theorem Rp.dp {K : PySem.W.Frag} {F H : Hp} (sb : Same F H) : ∀ {d : D} {v : V}, (toPy d).canLay0 = true → Rp K F d v → Dp K H v (toPy d)
  | .non, _, _, h => by cases (show _ = V.non from h); exact .non
  | .bl _, _, _, h => by cases (show _ = V.bl _ from h); exact .bl _
  | .int _, _, _, h => by cases (show _ = V.int _ from h); exact .int _
  | .str _, _, _, h => by cases (show _ = V.str _ from h); exact .str _
  | .tup ds, _, c, ⟨a, vs, e, q, r⟩ => by
    subst e
    exact .tup (Same.tseq sb q) (RpL.dp sb c r)
  | .lst ds, _, c, ⟨a, vs, e, q, r⟩ => by
    subst e
    exact .lst (SqL.of (sb _ _ q)) (RpL.dp sb c r)
  | .fix ds, _, c, ⟨a, vs, e, q, r⟩ => by
    subst e
    exact .lst (sb.seq q) (RpL.dp sb c r)
  | .dic _ _, _, c, _ => by cases c
  | .ty _, _, c, _ => by cases c
theorem RpL.dp {K : PySem.W.Frag} {F H : Hp} (sb : Same F H) : ∀ {ds : List D} {vs : List V}, PyData.canLayAll0 (toPyL ds) = true → RpL K F ds vs → DpAll K H vs (toPyL ds)
  | [], _, _, h => by
    have e : _ = [] := h
    subst e
    exact .nil
  | d :: ds, _, c, ⟨v, r, e, h1, h2⟩ => by
    subst e
    have c' : (PyData.canLay0 (toPy d) && PyData.canLayAll0 (toPyL ds)) = true := c
    rw [Bool.and_eq_true] at c'
    exact .cons (Rp.dp sb c'.1 h1) (RpL.dp sb c'.2 h2)
end
theorem RpV.dp {K : PySem.W.Frag} {F H : Hp} (sb : Same F H) : ∀ {d : D} {v : V}, (toPy d).canLay0 = true → RpV K F H d v → Dp K H v (toPy d)
  | .lst ds, _, c, ⟨a, vs, e, q, r⟩ => by
    subst e
    exact .lst (SqL.of q) (RpL.dp sb c r)
  | .non, _, c, h => Rp.dp sb c h
  | .bl _, _, c, h => Rp.dp sb c h
  | .int _, _, c, h => Rp.dp sb c h
  | .str _, _, c, h => Rp.dp sb c h
  | .tup _, _, c, h => Rp.dp sb c h
  | .fix _, _, c, h => Rp.dp sb c h
  | .dic _ _, _, c, h => Rp.dp sb c h
  | .ty _, _, c, h => Rp.dp sb c h
def eqD (d e : D) : Bool := PyData.eqv (toPy d) (toPy e)
def fEq : DOp2 := fun d e => if eqOk d = true ∧ eqOk e = true then some (.val (.bl (eqD d e))) else none
def fNe : DOp2 := fun d e => if eqOk d = true ∧ eqOk e = true then some (.val (.bl (!eqD d e))) else none
theorem fEq_ok {K : PySem.W.Frag} : Op2 K (rEqD K) fEq := by
  intro F H d1 d2 v1 v2 c Q sb h1 h2 e q
  unfold fEq at e
  split at e
  · rename_i hc
    cases e
    exact ⟨toPy d1, toPy d2, RpV.dp sb (shaped_ hc.1) h1, RpV.dp sb (shaped_ hc.2) h2, hc.1, hc.2, fin_val sb q rfl⟩
  · cases e
theorem fNe_ok {K : PySem.W.Frag} : Op2 K (rNeD K) fNe := by
  intro F H d1 d2 v1 v2 c Q sb h1 h2 e q
  unfold fNe at e
  split at e
  · rename_i hc
    cases e
    exact ⟨toPy d1, toPy d2, RpV.dp sb (shaped_ hc.1) h1, RpV.dp sb (shaped_ hc.2) h2, hc.1, hc.2, fin_val sb q rfl⟩
  · cases e
def isNon : D → Bool
  | .non => true
  | _ => false
theorem isNon_ok {K : PySem.W.Frag} {F H : Hp} : ∀ {d : D} {v : V}, RpV K F H d v → decide (v = .non) = isNon d
  | .non, _, h => by cases (show _ = V.non from h); rfl
  | .bl _, _, h => by cases (show _ = V.bl _ from h); rfl
  | .int _, _, h => by cases (show _ = V.int _ from h); rfl
  | .str _, _, h => by cases (show _ = V.str _ from h); rfl
  | .ty _, _, h => by cases (show _ = V.ty _ from h); rfl
  | .tup _, _, ⟨_, _, e, _⟩ => by subst e; rfl
  | .lst _, _, ⟨_, _, e, _⟩ => by subst e; rfl
  | .fix _, _, ⟨_, _, e, _⟩ => by subst e; rfl
  | .dic _ _, _, ⟨_, _, e, _⟩ => by subst e; rfl
/-- is None, is not None -/
def fIsN : DOp2
  | d, .non => some (.val (.bl (isNon d)))
  | _, _ => none
def fNotN : DOp2
  | d, .non => some (.val (.bl (!isNon d)))
  | _, _ => none
theorem fIsN_ok {K : PySem.W.Frag} : Op2 K (fun x y H Q => y = .non ∧ Q (.bl (decide (x = .non))) H) fIsN := by
  intro F H d1 d2 v1 v2 c Q sb h1 h2 e q
  cases d2 <;> first | (cases d1 <;> cases e; done) | skip
  have e' : some (Cell.val (.bl (isNon d1))) = some c := by cases d1 <;> exact e
  cases e'
  refine ⟨h2, ?_⟩
  rw [isNon_ok h1]
  exact fin_val sb q rfl
theorem fNotN_ok {K : PySem.W.Frag} : Op2 K (fun x y H Q => y = .non ∧ Q (.bl (!decide (x = .non))) H) fNotN := by
  intro F H d1 d2 v1 v2 c Q sb h1 h2 e q
  cases d2 <;> first | (cases d1 <;> cases e; done) | skip
  have e' : some (Cell.val (.bl (!isNon d1))) = some c := by cases d1 <;> exact e
  cases e'
  refine ⟨h2, ?_⟩
  rw [isNon_ok h1]
  exact fin_val sb q rfl
/-- is True, is not True, of truths -/
def fIsB : DOp2
  | .bl a, .bl b => some (.val (.bl (decide (a = b))))
  | _, _ => none
def fNotB : DOp2
  | .bl a, .bl b => some (.val (.bl (!decide (a = b))))
  | _, _ => none
theorem fIsB_ok {K : PySem.W.Frag} : Op2 K rIsB fIsB := by
  intro F H d1 d2 v1 v2 c Q sb h1 h2 e q
  cases d1 <;> cases d2 <;> first | (cases e; done) | skip
  cases (show v1 = V.bl _ from h1)
  cases (show v2 = V.bl _ from h2)
  cases e
  exact ⟨_, _, rfl, rfl, fin_val sb q rfl⟩
theorem fNotB_ok {K : PySem.W.Frag} : Op2 K rNotB fNotB := by
  intro F H d1 d2 v1 v2 c Q sb h1 h2 e q
  cases d1 <;> cases d2 <;> first | (cases e; done) | skip
  cases (show v1 = V.bl _ from h1)
  cases (show v2 = V.bl _ from h2)
  cases e
  exact ⟨_, _, rfl, rfl, fin_val sb q rfl⟩
/-! ### subscripts, slices -/
def fIx : DOp2
  | .tup xs, .int i => (atI xs i).map Cell.val
  | .lst xs, .int i => (atI xs i).map Cell.val
  | .fix xs, .int i => (atI xs i).map Cell.val
  | .str z, .int i => if z.length ≤ sizeLine then (atI z.cps.toList i).map fun c => .val (.str ⟨#[c]⟩) else none
  | _, _ => none
theorem atI_rp {K : PySem.W.Frag} {F : Hp} {ds : List D} {vs : List V} {i : Int} {d : D} (r : RpL K F ds vs) (h : atI ds i = some d) : ∃ v, atI vs i = some v ∧ Rp K F d v := by
  unfold atI at h ⊢
  rw [← r.length]
  cases e : ixN ds.length i with
  | none => rw [e] at h; cases h
  | some j =>
    rw [e] at h
    exact r.get h
theorem fIx_ok {K : PySem.W.Frag} : Op2 K (rIx K) fIx := by
  intro F H d1 d2 v1 v2 c Q sb h1 h2 e q
  cases d1 <;> cases d2 <;> first | (cases e; done) | skip
  · rename_i z i
    cases (show v1 = V.str _ from h1)
    cases (show v2 = V.int _ from h2)
    have e' : (if z.length ≤ sizeLine then (atI z.cps.toList i).map fun c => Cell.val (.str ⟨#[c]⟩) else none) = some c := e
    split at e'
    · rename_i hl
      cases ea : atI z.cps.toList i with
      | none => rw [ea] at e'; cases e'
      | some k =>
        rw [ea] at e'
        cases e'
        exact .inr (.inr ⟨z, i, k, rfl, rfl, hl, ea, fin_val sb q rfl⟩)
    · cases e'
  · rename_i xs i
    obtain ⟨a, vs, rfl, q1, r1⟩ := RpV.tup_ sb h1
    cases (show v2 = V.int _ from h2)
    have e' : (atI xs i).map Cell.val = some c := e
    cases ea : atI xs i with
    | none => rw [ea] at e'; cases e'
    | some d =>
      rw [ea] at e'
      cases e'
      obtain ⟨v, ev, rv⟩ := atI_rp r1 ea
      exact .inr (.inl ⟨a, vs, i, v, rfl, rfl, q1, ev, fin_val sb q rv⟩)
  · rename_i xs i
    obtain ⟨a, vs, rfl, q1, r1⟩ := h1
    cases (show v2 = V.int _ from h2)
    have e' : (atI xs i).map Cell.val = some c := e
    cases ea : atI xs i with
    | none => rw [ea] at e'; cases e'
    | some d =>
      rw [ea] at e'
      cases e'
      obtain ⟨v, ev, rv⟩ := atI_rp r1 ea
      exact .inl ⟨a, vs, i, v, rfl, rfl, SqL.of q1, ev, fin_val sb q rv⟩
  · rename_i xs i
    obtain ⟨a, vs, rfl, q1, r1⟩ := h1
    cases (show v2 = V.int _ from h2)
    have e' : (atI xs i).map Cell.val = some c := e
    cases ea : atI xs i with
    | none => rw [ea] at e'; cases e'
    | some d =>
      rw [ea] at e'
      cases e'
      obtain ⟨v, ev, rv⟩ := atI_rp r1 ea
      exact .inl ⟨a, vs, i, v, rfl, rfl, sb.seq q1, ev, fin_val sb q rv⟩
/-- xs[lo:hi] -/
def cutD {α : Type} (xs : List α) (lo hi : Option Int) : List α := (xs.drop (HT.sIx xs.length 0 lo)).take (HT.sIx xs.length xs.length hi - HT.sIx xs.length 0 lo)
def fSl (lo hi : Option Int) : DOp1
  | .tup xs => some (.val (.tup (cutD xs lo hi)))
  | .lst xs => some (.own (cutD xs lo hi))
  | .fix xs => some (.own (cutD xs lo hi))
  | .str z => if z.length ≤ sizeLine then some (.val (.str (cutS z lo hi))) else none
  | _ => none
def rSlD (K : PySem.W.Frag) : V → Option Int → Option Int → Hp → VK → Prop := fun x lo hi H Q => rSlA K x lo hi H Q ∨ (rSlL K x lo hi H Q ∨ rSlS x lo hi H Q)
theorem sl_D : SlR X (rSlD X.K) := sl_tupA.or (sl_list.or sl_str)
theorem cut_rp {K : PySem.W.Frag} {F : Hp} {ds : List D} {vs : List V} {lo hi : Option Int} (r : RpL K F ds vs) : RpL K F (cutD ds lo hi) (cutV vs lo hi) := by
  unfold cutD cutV
  rw [r.length]
  exact (r.drop _).take _
theorem fSl_ok {K : PySem.W.Frag} {lo hi : Option Int} : Op1 K (fun x H Q => rSlD K x lo hi H Q) (fSl lo hi) := by
  intro F H d v c Q sb h e q
  cases d <;> first | (cases e; done) | skip
  · rename_i z
    cases (show v = V.str _ from h)
    have e' : (if z.length ≤ sizeLine then some (Cell.val (.str (cutS z lo hi))) else none) = some c := e
    split at e'
    · rename_i hl
      cases e'
      exact .inr (.inr ⟨z, rfl, hl, fin_val sb q rfl⟩)
    · cases e'
  · rename_i xs
    obtain ⟨a, vs, rfl, q1, r1⟩ := RpV.tup_ sb h
    cases e
    refine .inl ⟨a, vs, rfl, q1, fun z => ?_, fun _ p hp => fin_tup sb q hp (cut_rp r1)⟩
    have ez : cutD xs lo hi = xs := by
      unfold cutD
      rw [r1.length, z.1, z.2, List.drop_zero, Nat.sub_zero, ← r1.length, List.take_length]
    rw [ez] at q
    exact fin_val sb q h
  · obtain ⟨a, vs, rfl, q1, r1⟩ := h
    cases e
    exact .inr (.inl ⟨a, vs, rfl, SqL.of q1, fun p hp => fin_lst sb q hp (cut_rp r1)⟩)
  · obtain ⟨a, vs, rfl, q1, r1⟩ := h
    cases e
    exact .inr (.inl ⟨a, vs, rfl, sb.seq q1, fun p hp => fin_lst sb q hp (cut_rp r1)⟩)
end
/-- a part of a slice: an int, or left out -/
def mPart : Option DE → En → (Option Int → En → Prop) → DX → Prop
  | none, ρ, Q, _ => Q none ρ
  | some t, ρ, Q, E => t ρ (fun d ρ1 => match d with
    | .int i => Q (some i) ρ1
    | _ => False) E
def rPart (B : Bd) (W : WX) (o : Option DE) : TO := fun σ H Q => ∃ F L ρ Qd Ed, SR B F L σ H ρ ∧ mPart o ρ Qd Ed ∧ (∀ i ρ' F' L' H', Qd i ρ' → SR B F' L' σ H' ρ' → Stp F L H F' L' H' → Q i H') ∧ XOk B W F Ed
def mSl (a : AX) (lo hi : Option DE) : DC := fun ρ Q E => mAX a ρ (fun x ρ1 => mPart lo ρ1 (fun i ρ2 => mPart hi ρ2 (fun j ρ3 => match view ρ3 x with
  | some d => ∃ c, fSl i j d = some c ∧ Q c ρ3
  | none => False) E) E) E
section
variable {X : Cx} {B : Bd} {W : WX} {pos : Pos}
theorem do_none : PO X none (rPart B W none) := ⟨fun pins s σ H Q I ⟨F, L, ρ, Qd, Ed, S, ht, hq, hx⟩ => po_none.run pins s σ H Q I (hq none ρ F L H ht S (Stp.refl _ _ _))⟩
theorem do_some {e : Expr} {t : DE} (h : PE X e (rV B W t)) : PO X (some e) (rPart B W (some t)) := by
  refine ⟨fun pins s σ H Q I ⟨F, L, ρ, Qd, Ed, S, ht, hq, hx⟩ => (po_some h).run pins s σ H Q I ⟨F, L, ρ, _, Ed, S, ht, fun d ρ' v F' L' H' k S' s r => ?_, hx⟩⟩
  cases d <;> first | (exact False.elim k) | skip
  rename_i i
  exact ⟨i, r, hq (some i) ρ' F' L' H' k S' s⟩
theorem dc_slice {e : Expr} {lo hi : Option Expr} {p2 : Pos} {ax : AX} {ol oh : Option DE} (he : PE X e (rX B W ax)) (hl : PO X lo (rPart B W ol)) (hu : PO X hi (rPart B W oh)) (hK : B.K = X.K := by rfl) :
    PE X (.Subscript e (.Slice lo hi none p2) pos) (rC B W (mSl ax ol oh)) := by
  refine pe_imp (pe_slice sl_D he hl hu) fun σ H Q ⟨F, L, ρ, Qd, Ed, S, ht, hq, hx⟩ => ?_
  refine ⟨F, L, ρ, _, Ed, S, ht, fun x ρ1 v F1 L1 H1 k1 S1 s1 r1 => ⟨F1, L1, ρ1, _, Ed, S1, k1, fun i ρ2 F2 L2 H2 k2 S2 s2 => ⟨F2, L2, ρ2, _, Ed, S2, k2, fun j ρ3 F3 L3 H3 k3 S3 s3 => ?_, (hx.mono s1.f).mono s2.f⟩, hx.mono s1.f⟩, hx⟩
  split at k3
  · rename_i d ed
    obtain ⟨c, ec, k3⟩ := k3
    have st := (s1.trans s2).trans s3
    exact hK ▸ fSl_ok F3 H3 d v c Q S3.sub (view_ok S3 ((r1.step s2).step s3) ed) ec fun w F' H' g sb n => hq c ρ3 w F' L3 H' k3 (S3.grow g sb) (st.trans g.stp) ((n.res S3).back st)
  · exact k3.elim
end
end DL
/-! The data layer: statements, targets, loops. -/
namespace DL
open PySem PySem.Spec PyProof.Rows L2
structure DEnds where
  nx : En → Prop
  rt : Cell → En → Prop
  bk : En → Prop
  ct : En → Prop
  ex : DX
abbrev DS := DEnds → En → Prop
/-- a cell beside the names: data; or a list that no name holds -/
def CellR (B : Bd) (F : Hp) (L : La) (H : Hp) : Cell → V → Prop
  | .val d, v => Rp B.K F d v
  | .own ds, v => ∃ a vs, v = .ref a ∧ H a = some (.lst vs) ∧ F a = none ∧ (∀ i, L i ≠ some a) ∧ B.H0 a = none ∧ RpL B.K F ds vs
theorem ResC.cell {B : Bd} {F H F' H' : Hp} {L L' : La} : ∀ {c : Cell} {v : V}, ResC B F L H F' L' H' c v → CellR B F' L' H' c v
  | .val _, _, h => h
  | .own _, _, ⟨a, vs, e, h1, h2, h3, h4, h5, _⟩ => ⟨a, vs, e, h1, h2, h3, h4, h5⟩
structure EOk (B : Bd) (W : WX) (F : Hp) (Dd : DEnds) (D : Ends) : Prop where
  nx : ∀ ρ' σ' F' L' H', Dd.nx ρ' → SR B F' L' σ' H' ρ' → Same F F' → D.nx σ' H'
  rt : ∀ r ρ' v σ' F' L' H', Dd.rt r ρ' → SR B F' L' σ' H' ρ' → Same F F' → CellR B F' L' H' r v → D.rt v H'
  bk : ∀ ρ' σ' F' L' H', Dd.bk ρ' → SR B F' L' σ' H' ρ' → Same F F' → D.bk σ' H'
  ct : ∀ ρ' σ' F' L' H', Dd.ct ρ' → SR B F' L' σ' H' ρ' → Same F F' → D.ct σ' H'
  ex : XOk B W F Dd.ex
theorem EOk.mono {B : Bd} {W : WX} {F F1 : Hp} {Dd : DEnds} {D : Ends} (o : EOk B W F Dd D) (s : Same F F1) : EOk B W F1 Dd D where
  nx := fun ρ' σ' F' L' H' q S z => o.nx ρ' σ' F' L' H' q S (s.trans z)
  rt := fun r ρ' v σ' F' L' H' q S z c => o.rt r ρ' v σ' F' L' H' q S (s.trans z) c
  bk := fun ρ' σ' F' L' H' q S z => o.bk ρ' σ' F' L' H' q S (s.trans z)
  ct := fun ρ' σ' F' L' H' q S z => o.ct ρ' σ' F' L' H' q S (s.trans z)
  ex := o.ex.mono s
def rS (B : Bd) (W : WX) (t : DS) : TS := fun D σ H => ∃ F L ρ Dd, SR B F L σ H ρ ∧ t Dd ρ ∧ EOk B W F Dd D
section
variable {X : Cx} {B : Bd} {W : WX}
/-- a weaker reading, the slots' number known -/
theorem ps_impL {st : Stmt} {t u : TS} (h : PS X st t) (i : ∀ D σ H, σ.length = X.N.length → u D σ H → t D σ H) : PS X st u := ⟨fun pins s σ H D I q => h.run pins s σ H D I (i D σ H I.len q)⟩
theorem pg_impL {e : Expr} {t u : TG} (h : PG X e t) (i : ∀ v σ H Q, σ.length = X.N.length → u v σ H Q → t v σ H Q) : PG X e u := ⟨fun pins s σ H v w Q I r q => h.run pins s σ H v w Q I r (i v σ H Q I.len q)⟩
theorem pgs_impL {es : List Expr} {t u : TGs} (h : PGs X es t) (i : ∀ v σ H Q, σ.length = X.N.length → u v σ H Q → t v σ H Q) : PGs X es u := ⟨fun pins s σ H v w Q I r q => h.run pins s σ H v w Q I r (i v σ H Q I.len q)⟩
variable {pos : Pos}
def mNext : DS := fun D ρ => D.nx ρ
def mSeq (t u : DS) : DS := fun D ρ => t { D with nx := u D } ρ
theorem dss_nil : PSs X [] (rS B W mNext) := pss_imp pss_nil fun D σ H ⟨F, L, ρ, Dd, S, q, o⟩ => o.nx ρ σ F L H q S (Same.refl F)
theorem dss_cons {st : Stmt} {rest : List Stmt} {t u : DS} (h1 : PS X st (rS B W t)) (h2 : PSs X rest (rS B W u)) : PSs X (st :: rest) (rS B W (mSeq t u)) :=
  pss_imp (pss_cons h1 h2) fun D σ H ⟨F, L, ρ, Dd, S, q, o⟩ => ⟨F, L, ρ, { Dd with nx := u Dd }, S, q, ⟨fun ρ' σ' F' L' H' k S' z => ⟨F', L', ρ', Dd, S', k, o.mono z⟩, o.rt, o.bk, o.ct, o.ex⟩⟩
theorem dss_one {st : Stmt} {t : DS} (h : PS X st (rS B W t)) : PSs X [st] (rS B W t) := pss_one h
theorem ds_pass : PS X (.Pass pos) (rS B W mNext) := ps_imp ps_pass fun D σ H ⟨F, L, ρ, Dd, S, q, o⟩ => o.nx ρ σ F L H q S (Same.refl F)
def mBreak : DS := fun D ρ => D.bk ρ
def mCont : DS := fun D ρ => D.ct ρ
theorem ds_break : PS X (.Break pos) (rS B W mBreak) := ps_imp ps_break fun D σ H ⟨F, L, ρ, Dd, S, q, o⟩ => o.bk ρ σ F L H q S (Same.refl F)
theorem ds_continue : PS X (.Continue pos) (rS B W mCont) := ps_imp ps_continue fun D σ H ⟨F, L, ρ, Dd, S, q, o⟩ => o.ct ρ σ F L H q S (Same.refl F)
theorem ds_doc {x : Str} {j : Nat} {pos' : Pos} : PS X (.Expr (.Constant (.str x) j pos) pos') (rS B W mNext) := ps_imp ps_doc fun D σ H ⟨F, L, ρ, Dd, S, q, o⟩ => o.nx ρ σ F L H q S (Same.refl F)
def mDrop (t : DC) : DS := fun D ρ => t ρ (fun _ ρ1 => D.nx ρ1) D.ex
theorem ds_expr {e : Expr} {t : DC} (he : PE X e (rC B W t)) (hs : swapsWith e none pos.line X.env = pure false := by rfl) : PS X (.Expr e pos) (rS B W (mDrop t)) :=
  ps_imp (ps_expr he hs) fun D σ H ⟨F, L, ρ, Dd, S, q, o⟩ => ⟨F, L, ρ, _, Dd.ex, S, q, fun c ρ' v F' L' H' k S' s _ => o.nx ρ' σ F' L' H' k S' s.f, o.ex⟩
def mRet (t : DC) : DS := fun D ρ => t ρ D.rt D.ex
theorem ds_ret {e : Expr} {t : DC} (he : PE X e (rC B W t)) : PS X (.Return (some e) pos) (rS B W (mRet t)) :=
  ps_imp (ps_ret he) fun D σ H ⟨F, L, ρ, Dd, S, q, o⟩ => ⟨F, L, ρ, Dd.rt, Dd.ex, S, q, fun c ρ' v F' L' H' k S' s r => o.rt c ρ' v σ F' L' H' k S' s.f r.cell, o.ex⟩
def mRetN : DS := fun D ρ => D.rt (.val .non) ρ
theorem ds_retN : PS X (.Return none pos) (rS B W mRetN) := ps_imp ps_retN fun D σ H ⟨F, L, ρ, Dd, S, q, o⟩ => o.rt (.val .non) ρ .non σ F L H q S (Same.refl F) rfl
def mIfS (c : DT) (t u : DS) : DS := fun D ρ => c ρ (fun b ρ1 => if b = true then t D ρ1 else u D ρ1) D.ex
theorem ds_if {c : Expr} {a b : List Stmt} {tc : DT} {t u : DS} (hc : PT X c (rT B W tc)) (ha : PSs X a (rS B W t)) (hb : PSs X b (rS B W u)) : PS X (.If c a b pos) (rS B W (mIfS tc t u)) :=
  ps_imp (ps_if hc ha hb) fun D σ H ⟨F, L, ρ, Dd, S, q, o⟩ => ⟨F, L, ρ, _, Dd.ex, S, q, fun c ρ' F' L' H' k S' s => by
    cases c with
    | true => exact ⟨F', L', ρ', Dd, S', k, o.mono s.f⟩
    | false => exact ⟨F', L', ρ', Dd, S', k, o.mono s.f⟩, o.ex⟩
/-! ### targets -/
/-- a name; a place of a list of one's own; several -/
inductive Tg where
  | nm (i : Nat) | sub (i : Nat) (ix : DE) | tp (ts : List Tg)
def setIx (ρ : En) (i : Nat) (k d : D) (Q : En → Prop) : Prop := match k, ρ.getD i none with
  | .int k, some (.own ds) => ∃ j, ixN ds.length k = some j ∧ Q (ρ.set i (some (.own (ds.set j d))))
  | _, _ => False
mutual
def tgGo : Tg → Cell → En → (En → Prop) → DX → Prop
  | .nm i, c, ρ, Q, _ => Q (ρ.set i (some c))
  | .sub i ix, c, ρ, Q, E => match ρ.getD i none with
    | some (.own _) => ix ρ (fun k ρ1 => setIx ρ1 i k c.toD Q) E
    | _ => False
  | .tp ts, c, ρ, Q, E => match c with
    | .val (.tup ds) => ds.length = ts.length ∧ tgsGo ts (ds.map Cell.val) ρ Q E
    | _ => False
def tgsGo : List Tg → List Cell → En → (En → Prop) → DX → Prop
  | [], [], ρ, Q, _ => Q ρ
  | t :: ts, c :: cs, ρ, Q, E => tgGo t c ρ (fun ρ1 => tgsGo ts cs ρ1 Q E) E
  | _, _, _, _, _ => False
end
def putL (L : La) (i : Nat) (o : Option Addr) : La := fun j => if j = i then o else L j
theorem SR.put {F H : Hp} {L : La} {σ : L2.St} {ρ : En} {i : Nat} {d : D} {v : V} (S : SR B F L σ H ρ) (hi : B.ios.contains i = false) (hl : i < σ.length) (r : Rp B.K F d v) : SR B F (forget L i) (σ.set i (some v)) H (ρ.set i (some (.val d))) where
  len := by rw [List.length_set, List.length_set]; exact S.len
  sub := S.sub
  slot := fun j => by
    unfold forget
    by_cases hj : j = i
    · subst hj
      rw [if_pos rfl, getD_set_self (by rw [S.len]; exact hl), getD_set_self hl]
      exact ⟨rfl, v, rfl, r⟩
    · rw [if_neg hj, getD_set_ne (fun z => hj z.symm), getD_set_ne (fun z => hj z.symm)]
      exact S.slot j
  inj := (S.drop hi).inj
  f0 := S.f0
  fn := S.fn
  keep := S.keep
  io := (S.drop hi).io
  al := S.al
theorem SR.putO {F H : Hp} {L : La} {σ : L2.St} {ρ : En} {i : Nat} {ds : List D} {a : Addr} {vs : List V} (S : SR B F L σ H ρ) (hi : B.ios.contains i = false) (hl : i < σ.length) (h1 : H a = some (.lst vs)) (h2 : F a = none) (h3 : ∀ j, L j ≠ some a) (h4 : B.H0 a = none)
    (r : RpL B.K F ds vs) : SR B F (putL L i (some a)) (σ.set i (some (.ref a))) H (ρ.set i (some (.own ds))) where
  len := by rw [List.length_set, List.length_set]; exact S.len
  sub := S.sub
  slot := fun j => by
    unfold putL
    by_cases hj : j = i
    · subst hj
      rw [if_pos rfl, getD_set_self (by rw [S.len]; exact hl), getD_set_self hl]
      exact ⟨a, vs, rfl, rfl, h1, h2, r, .inr h4⟩
    · rw [if_neg hj, getD_set_ne (fun z => hj z.symm), getD_set_ne (fun z => hj z.symm)]
      exact S.slot j
  inj := fun j k b e1 e2 => by
    unfold putL at e1 e2
    split at e1
    · split at e2
      · rename_i q1 q2; rw [q1, q2]
      · cases e1; exact absurd e2 (h3 k)
    · split at e2
      · cases e2; exact absurd e1 (h3 j)
      · exact S.inj j k b e1 e2
  f0 := S.f0
  fn := S.fn
  keep := S.keep
  io := fun j hj => by
    unfold putL
    rw [if_neg (fun z => by subst z; rw [List.contains_iff_mem.mpr hj] at hi; cases hi)]
    exact S.io j hj
  al := S.al
theorem CellR.stp {F H F' H' : Hp} {L L' : La} (s : Stp F L H F' L' H') : ∀ {c : Cell} {v : V}, CellR B F L H c v → CellR B F' L' H' c v
  | .val _, _, h => Rp.mono s.f h
  | .own ds, _, ⟨a, vs, e, h1, h2, h3, h4, h5⟩ => ⟨a, vs, e, s.h _ _ h1 h3, by
      cases q : F' a with
      | none => rfl
      | some o =>
        rcases s.fn a o q with z | z | ⟨i, z⟩
        · rw [h2] at z; cases z
        · rw [h1] at z; cases z
        · exact absurd z (h3 i), fun i q => h3 i (s.l i a q), h4, h5.mono s.f⟩
def ownA : Cell → V → List Addr
  | .own _, .ref a => [a]
  | _, _ => []
def ownAs : List Cell → List V → List Addr
  | c :: cs, v :: vs => ownA c v ++ ownAs cs vs
  | _, _ => []
/-- several cells, their lists apart -/
def CellsR (B : Bd) (F : Hp) (L : La) (H : Hp) : List Cell → List V → Prop
  | [], vs => vs = []
  | c :: cs, vs => ∃ v r, vs = v :: r ∧ CellR B F L H c v ∧ CellsR B F L H cs r ∧ ∀ a, a ∈ ownA c v → a ∉ ownAs cs r
theorem CellsR.stp {F H F' H' : Hp} {L L' : La} (s : Stp F L H F' L' H') : ∀ {cs : List Cell} {vs : List V}, CellsR B F L H cs vs → CellsR B F' L' H' cs vs
  | [], _, h => h
  | _ :: _, _, ⟨v, r, e, h1, h2, h3⟩ => ⟨v, r, e, h1.stp s, CellsR.stp s h2, h3⟩
theorem CellsR.vals {F H : Hp} {L : La} : ∀ {ds : List D} {vs : List V}, RpL B.K F ds vs → CellsR B F L H (ds.map Cell.val) vs
  | [], _, h => h
  | _ :: _, _, ⟨v, r, e, h1, h2⟩ => ⟨v, r, e, h1, CellsR.vals h2, fun a z => by cases z⟩
theorem CellsR.length {F H : Hp} {L : La} : ∀ {cs : List Cell} {vs : List V}, CellsR B F L H cs vs → cs.length = vs.length
  | [], _, h => by
    have e : _ = [] := h
    subst e
    rfl
  | _ :: _, _, ⟨v, r, e, h1, h2, h3⟩ => by
    subst e
    rw [List.length_cons, List.length_cons, CellsR.length h2]
/-- from one state to the next, of names too -/
structure Mv (B : Bd) (F : Hp) (L : La) (H F' : Hp) (L' : La) (H' : Hp) (own : List Addr) : Prop where
  f : Same F F'
  /-- a list that no name holds is as it was, unless it is one of own -/
  c : ∀ c v, CellR B F L H c v → (∀ a, a ∈ ownA c v → a ∉ own) → CellR B F' L' H' c v
theorem CellsR.mv {F H F' H' : Hp} {L L' : La} {own : List Addr} (m : Mv B F L H F' L' H' own) : ∀ {cs : List Cell} {vs : List V}, CellsR B F L H cs vs → (∀ a, a ∈ own → a ∉ ownAs cs vs) → CellsR B F' L' H' cs vs
  | [], _, h, _ => h
  | c :: cs, _, ⟨v, r, e, h1, h2, h3⟩, n => by
    subst e
    have n1 : ∀ a, a ∈ own → a ∉ ownA c v ++ ownAs cs r := n
    exact ⟨v, r, rfl, m.c c v h1 fun a ha ho => n1 a ho (List.mem_append_left _ ha), CellsR.mv m h2 fun a ha hb => n1 a ha (List.mem_append_right _ hb), h3⟩
theorem Mv.of_stp {F H F' H' : Hp} {L L' : La} (s : Stp F L H F' L' H') : Mv B F L H F' L' H' [] := ⟨s.f, fun _ _ h _ => h.stp s⟩
theorem Mv.mono {F H F' H' : Hp} {L L' : La} {o o' : List Addr} (m : Mv B F L H F' L' H' o) (h : ∀ a, a ∈ o → a ∈ o') : Mv B F L H F' L' H' o' := ⟨m.f, fun c v r n => m.c c v r fun a ha hb => n a ha (h a hb)⟩
theorem Mv.trans {F H F1 H1 F2 H2 : Hp} {L L1 L2 : La} {o : List Addr} (a : Mv B F L H F1 L1 H1 o) (b : Mv B F1 L1 H1 F2 L2 H2 o) : Mv B F L H F2 L2 H2 o := ⟨a.f.trans b.f, fun c v r n => b.c c v (a.c c v r n) n⟩
/-- a target takes a cell -/
def rG (B : Bd) (W : WX) (tg : Tg) : TG := fun v σ H Q => ∃ F L ρ Qd Ed c, SR B F L σ H ρ ∧ CellR B F L H c v ∧ tgGo tg c ρ Qd Ed ∧
  (∀ ρ' σ' F' L' H', Qd ρ' → SR B F' L' σ' H' ρ' → Mv B F L H F' L' H' (ownA c v) → Q σ' H') ∧ XOk B W F Ed
def rGs (B : Bd) (W : WX) (ts : List Tg) : TGs := fun vs σ H Q => ∃ F L ρ Qd Ed cs, SR B F L σ H ρ ∧ CellsR B F L H cs vs ∧ tgsGo ts cs ρ Qd Ed ∧
  (∀ ρ' σ' F' L' H', Qd ρ' → SR B F' L' σ' H' ρ' → Mv B F L H F' L' H' (ownAs cs vs) → Q σ' H') ∧ XOk B W F Ed
theorem mv_forget {F H : Hp} {L : La} {i : Nat} {o : List Addr} : Mv B F L H F (forget L i) H o := ⟨Same.refl F, fun c v h _ => h.stp Stp.drop⟩
theorem mv_put {F H : Hp} {L : La} {i : Nat} {a : Addr} : Mv B F L H F (putL L i (some a)) H [a] := ⟨Same.refl F, fun c v h n => by
  cases c with
  | val d => exact h
  | own ds =>
    obtain ⟨b, vs, e, h1, h2, h3, h4, h5⟩ := h
    subst e
    refine ⟨b, vs, rfl, h1, h2, fun j q => ?_, h4, h5⟩
    unfold putL at q
    split at q
    · cases q
      exact n _ List.mem_cons_self List.mem_cons_self
    · exact h3 j q⟩
theorem dg_nm (i : Nat) {x : Str} (hN : X.N.Nodup) (hio : B.ios.contains i = false := by rfl) (hi : X.N[i]? = some x := by rfl) (hx : Loc X.env.scope x := by first | exact Or.inl rfl | exact Or.inr rfl)
    (hf : X.fn x = true ∨ X.env.scope.names.lookup x = some .local := by first | exact .inl rfl | exact .inr rfl) : PG X (.Name x pos) (rG B W (.nm i)) := by
  refine pg_impL (pg_name hN hi hx hf) fun v σ H Q hl ⟨F, L, ρ, Qd, Ed, c, S, r, q, o, hxx⟩ => ?_
  have hlt : i < σ.length := by rw [hl]; exact (List.getElem?_eq_some_iff.mp hi).1
  cases c with
  | val d => exact o _ _ _ _ _ q (S.put hio hlt r) mv_forget
  | own ds =>
    obtain ⟨a, vs, e, h1, h2, h3, h4, h5⟩ := r
    subst e
    exact o _ _ _ _ _ q (S.putO hio hlt h1 h2 h3 h4 h5) mv_put
/-- cells to data: a list that no name holds is made still -/
theorem CellR.toD {F H : Hp} {L : La} {σ : L2.St} {ρ : En} (S : SR B F L σ H ρ) : ∀ {c : Cell} {v : V}, CellR B F L H c v → ∃ F', SR B F' L σ H ρ ∧ Rp B.K F' c.toD v ∧ Mv B F L H F' L H (ownA c v)
  | .val d, v, h => ⟨F, S, h, Mv.mono (Mv.of_stp (Stp.refl _ _ _)) fun _ z => by cases z⟩
  | .own ds, v, h => by
    obtain ⟨a, vs, e, h1, h2, h3, h4, h5⟩ := h
    subst e
    refine ⟨upd F a (.lst vs), S.freeze h1 h2 h3 h4, ⟨a, vs, rfl, upd_same, h5.mono (same_upd h2)⟩, same_upd h2, fun c v h n => ?_⟩
    cases c with
    | val d => exact Rp.mono (same_upd h2) h
    | own es =>
      obtain ⟨b, us, e, g1, g2, g3, g4, g5⟩ := h
      subst e
      have hb : b ≠ a := fun z => n b List.mem_cons_self (by rw [z]; exact List.mem_cons_self)
      exact ⟨b, us, rfl, g1, by rw [upd_ne hb]; exact g2, g3, g4, g5.mono (same_upd h2)⟩
theorem SR.write {F H : Hp} {L : La} {σ : L2.St} {ρ : En} {i : Nat} {a : Addr} {ds' : List D} {vs' : List V} (S : SR B F L σ H ρ) (h : L i = some a) (r : RpL B.K F ds' vs') : SR B F L σ (upd H a (.lst vs')) (ρ.set i (some (.own ds'))) := by
  obtain ⟨ds, vs, e1, e2, e3, e4, e5, e6⟩ := S.own h
  have nF : ∀ b o, F b = some o → b ≠ a := fun b o q z => by rw [z, e4] at q; cases q
  refine ⟨by rw [List.length_set]; exact S.len, fun b o q => by rw [upd_ne (nF b o q)]; exact S.sub b o q, fun j => ?_, S.inj, S.f0, S.fn, fun b o q n => ?_, S.io, fun b n => ?_⟩
  · by_cases hj : i = j
    · subst hj
      rw [getD_set_self (getD_lt e1)]
      exact ⟨a, vs', e2, h, upd_same, e4, r, e6⟩
    · rw [getD_set_ne hj]
      have q := S.slot j
      revert q
      cases ρ.getD j none with
      | none => exact id
      | some c =>
        cases c with
        | val d => exact id
        | own es =>
          intro ⟨b, us, g1, g2, g3, g4, g5, g6⟩
          have hb : b ≠ a := fun z => hj (S.inj i j a h (by rw [g2, z]))
          exact ⟨b, us, g1, g2, by rw [upd_ne hb]; exact g3, g4, g5, g6⟩
  · have hb : b ≠ a := fun z => by
      subst z
      rcases e6 with ⟨j, hj, ej⟩ | z
      · exact n j hj ej
      · rw [z] at q; cases q
    rw [upd_ne hb]
    exact S.keep b o q n
  · by_cases hb : b = a
    · rw [hb, upd_same]; simp
    · rw [upd_ne hb]; exact S.al b n
theorem mv_write {F H : Hp} {L : La} {i : Nat} {a : Addr} {vs' : List V} {o : List Addr} (h : L i = some a) : Mv B F L H F L (upd H a (.lst vs')) o := ⟨Same.refl F, fun c v r _ => by
  cases c with
  | val d => exact r
  | own es =>
    obtain ⟨b, us, e, g1, g2, g3, g4, g5⟩ := r
    have hb : b ≠ a := fun z => g3 i (by rw [h, z])
    exact ⟨b, us, e, by rw [upd_ne hb]; exact g1, g2, g3, g4, g5⟩⟩
theorem stp_write {F H : Hp} {L : La} {i : Nat} {a : Addr} {vs' : List V} (h : L i = some a) (hH : H a ≠ none) : Stp F L H F L (upd H a (.lst vs')) where
  f := Same.refl F
  l := fun _ _ q => q
  h := fun b o q n => by rw [upd_ne (fun z => n i (by rw [h, z]))]; exact q
  fn := fun _ _ q => .inl q
  al := fun b n => by
    by_cases hb : b = a
    · rw [hb, upd_same]; simp
    · rw [upd_ne hb]; exact n
theorem dg_sub (i : Nat) {x : Str} {ix : Expr} {t : DE} {p : Pos} (hix : PE X ix (rV B W t)) (hN : X.N[i]? = some x := by rfl) (hv : Vis X.env.scope x := by first | exact Or.inl rfl | exact Or.inr (Or.inl rfl) | exact Or.inr (Or.inr rfl)) (hd : (x == ("__debug__" : Str)) = false := by decide)
    (hcd : (x == ("__classdict__" : Str)) = false := by decide)
    (ha : ∀ v, assign (.Subscript (.Name x p) ix pos) X.env v = (do
      let ov ← holding [v] (eval (.Name x p) X.env)
      let iv ← holding [v, ov] (eval ix X.env)
      standAt pos
      holding [v, ov, iv] (setItem ov iv v)
      release [v, ov, iv] []) := by intro _; rfl) : PG X (.Subscript (.Name x p) ix pos) (rG B W (.sub i t)) := by
  refine pg_impL (pg_sub (pe_var (i := i) hN hv hd hcd) hix set_list ha) fun v σ H Q hl ⟨F, L, ρ, Qd, Ed, c, S, r, q, o, hx⟩ => ?_
  obtain ⟨F1, S1, r1, m1⟩ := r.toD S
  have q0 : (match ρ.getD i none with | some (.own _) => t ρ (fun k ρ1 => setIx ρ1 i k c.toD Qd) Ed | _ => False) := q
  split at q0
  · rename_i es e0
    obtain ⟨a, vs, e1, e2, e3, _⟩ := S.ow e0
    refine ⟨_, e1, F1, L, ρ, _, Ed, S1, q0, fun k ρ1 kv F2 L2 H2 z S2 s2 rk => ?_, hx.mono m1.f⟩
    unfold setIx at z
    split at z
    · rename_i k ds eo
      obtain ⟨j, ej, z⟩ := z
      obtain ⟨b, us, g1, g2, g3, g4, g5, g6⟩ := S2.ow eo
      have ea : L i = some b := s2.l i b g2
      rw [e2] at ea
      cases ea
      have hk : kv = .int k := rk
      subst hk
      refine ⟨a, us, k, j, rfl, rfl, g3, by rw [← g5.length]; exact ej, ?_⟩
      refine o _ _ _ _ _ z (S2.write g2 (g5.set (r1.mono s2.f) j)) ?_
      exact m1.trans (((Mv.of_stp s2).mono fun _ z => by cases z).trans (mv_write g2))
    · exact z.elim
  · exact q0.elim
theorem dgs_nil : PGs X [] (rGs B W []) := by
  refine pgs_impL pgs_nil fun vs σ H Q _ ⟨F, L, ρ, Qd, Ed, cs, S, r, q, o, hx⟩ => ?_
  cases cs with
  | nil => exact ⟨r, o _ _ _ _ _ q S ((Mv.of_stp (Stp.refl _ _ _)).mono fun _ z => by cases z)⟩
  | cons c cs => exact False.elim q
theorem dgs_cons {e : Expr} {es : List Expr} {t : Tg} {ts : List Tg} (h1 : PG X e (rG B W t)) (h2 : PGs X es (rGs B W ts)) (hs : (assignEach (e :: es) X.env).map (·.2) = assign e X.env :: (assignEach es X.env).map (·.2) := by rfl) : PGs X (e :: es) (rGs B W (t :: ts)) := by
  refine pgs_impL (pgs_cons h1 h2 hs) fun vs σ H Q _ ⟨F, L, ρ, Qd, Ed, cs, S, r, q, o, hx⟩ => ?_
  cases cs with
  | nil => exact False.elim q
  | cons c cs =>
    obtain ⟨v, r', e, c1, c2, n⟩ := r
    subst e
    refine ⟨v, r', rfl, F, L, ρ, _, Ed, c, S, c1, q, fun ρ1 σ1 F1 L1 H1 q1 S1 m1 => ⟨F1, L1, ρ1, Qd, Ed, cs, S1, c2.mv m1 n, q1, fun ρ' σ' F' L' H' q' S' m' => ?_, hx.mono m1.f⟩, hx⟩
    exact o _ _ _ _ _ q' S' ((m1.mono fun a ha => List.mem_append_left _ ha).trans (m'.mono fun a ha => List.mem_append_right _ ha))
/-- (a, b) = a pair told as data -/
theorem dg_tp {es : List Expr} {k : Nat} {ts : List Tg} {n : Nat} (hc : X.calm = true) (h : PGs X es (rGs B W ts)) (htn : ts.length = n := by rfl) (hn : (assignEach es X.env).length = n := by rfl) (hst : (assignEach es X.env).findIdx? (·.1) = none := by rfl) (hK : B.K = X.K := by rfl) :
    PG X (.Tuple es k pos) (rG B W (.tp ts)) := by
  refine pg_impL (pg_tup hc h hn hst) fun v σ H Q _ ⟨F, L, ρ, Qd, Ed, c, S, r, q, o, hx⟩ => ?_
  cases c with
  | own _ => exact False.elim q
  | val d =>
    cases d <;> first | (exact False.elim q) | skip
    rename_i ds
    obtain ⟨a, vs, e, h1, h2⟩ := r
    subst e
    obtain ⟨hl, q'⟩ : ds.length = ts.length ∧ tgsGo ts (ds.map Cell.val) ρ Qd Ed := q
    refine ⟨a, vs, rfl, hK ▸ Same.tseq S.sub h1, by rw [← h2.length, hl, htn], F, L, ρ, Qd, Ed, _, S, CellsR.vals h2, q', fun ρ' σ' F' L' H' q S' m => o _ _ _ _ _ q S' (m.mono fun b hb => ?_), hx⟩
    have z : ∀ (ds : List D) (vs : List V), b ∉ ownAs (ds.map Cell.val) vs := by
      intro ds
      induction ds with
      | nil => intro vs hm; cases hm
      | cons d ds ih =>
        intro vs hm
        cases vs with
        | nil => cases hm
        | cons v vs => exact ih vs hm
    exact absurd hb (z ds vs)
/-! ### assignments -/
def mAsg (tg : Tg) (t : DC) : DS := fun D ρ => t ρ (fun c ρ1 => tgGo tg c ρ1 D.nx D.ex) D.ex
theorem asg_imp {tg : Tg} {t : DC} {D : Ends} {σ : L2.St} {H : Hp} (h : rS B W (mAsg tg t) D σ H) : rC B W t σ H fun x H1 => rG B W tg x σ H1 D.nx := by
  obtain ⟨F, L, ρ, Dd, S, q, o⟩ := h
  exact ⟨F, L, ρ, _, Dd.ex, S, q, fun c ρ1 v F1 L1 H1 k S1 s1 r1 => ⟨F1, L1, ρ1, Dd.nx, Dd.ex, c, S1, r1.cell, k, fun ρ' σ' F' L' H' q' S' m => o.nx ρ' σ' F' L' H' q' S' (s1.f.trans m.f), o.ex.mono s1.f⟩, o.ex⟩
theorem ds_asg {tg e : Expr} {g : Tg} {t : DC} (he : PE X e (rC B W t)) (hg : PG X tg (rG B W g)) (hs : swapsWithSole [tg] e pos.line X.env = pure false := by rfl) (hw : swappedStores [tg] e X.env = pure none := by rfl)
    (h1 : (assignEach [tg] X.env).map (·.2) = [assign tg X.env] := by rfl) : PS X (.Assign [tg] e pos) (rS B W (mAsg g t)) := ps_imp (ps_asg he hg hs hw h1) fun _ _ _ h => asg_imp h
/-- name = value -/
theorem ds_set (i : Nat) {x : Str} {e : Expr} {t : DC} {pos' : Pos} (he : PE X e (rC B W t)) (hN : X.N.Nodup) (hio : B.ios.contains i = false := by rfl) (hi : X.N[i]? = some x := by rfl) (hx : Loc X.env.scope x := by first | exact Or.inl rfl | exact Or.inr rfl)
    (hs : swapsWith e (some (.Name x pos')) pos.line X.env = pure false := by rfl) (hf : X.fn x = true ∨ X.env.scope.names.lookup x = some .local := by first | exact .inl rfl | exact .inr rfl) : PS X (.Assign [.Name x pos'] e pos) (rS B W (mAsg (.nm i) t)) := by
  refine ps_impL (ps_set hN hi hx he hs hf) fun D σ H hl h => ?_
  obtain ⟨F, L, ρ, Dd, S, q, o⟩ := h
  have hlt : i < σ.length := by rw [hl]; exact (List.getElem?_eq_some_iff.mp hi).1
  refine ⟨F, L, ρ, _, Dd.ex, S, q, fun c ρ1 v F1 L1 H1 k S1 s1 r1 => ?_, o.ex⟩
  have k' : Dd.nx (ρ1.set i (some c)) := k
  cases c with
  | val d => exact o.nx _ _ _ _ _ k' (S1.put hio hlt r1) s1.f
  | own ds =>
    obtain ⟨a, vs, e, h1, h2, h3, h4, h5, _⟩ := r1
    subst e
    exact o.nx _ _ _ _ _ k' (S1.putO hio hlt h1 h2 h3 h4 h5) s1.f
/-! several expressions, one after the other -/
def mCs : List DC → En → (List Cell → En → Prop) → DX → Prop
  | [], ρ, Q, _ => Q [] ρ
  | t :: ts, ρ, Q, E => t ρ (fun c ρ1 => mCs ts ρ1 (fun cs => Q (c :: cs)) E) E
def rCs (B : Bd) (W : WX) (ts : List DC) : TA := fun σ H Q => ∃ F L ρ Qd Ed, SR B F L σ H ρ ∧ mCs ts ρ Qd Ed ∧
  (∀ cs ρ' vs F' L' H', Qd cs ρ' → SR B F' L' σ H' ρ' → Stp F L H F' L' H' → CellsR B F' L' H' cs vs → (∀ a, a ∈ ownAs cs vs → H a = none ∨ ∃ i, L i = some a) → Q vs H') ∧ XOk B W F Ed
theorem dcs_nil : PA X [] (rCs B W []) := pa_imp pa_nil fun σ H Q ⟨F, L, ρ, Qd, Ed, S, ht, hq, hx⟩ => hq [] ρ [] F L H ht S (Stp.refl _ _ _) rfl (fun a z => by cases z)
theorem dcs_cons {e : Expr} {es : List Expr} {t : DC} {ts : List DC} (ha : PE X e (rC B W t)) (hr : PA X es (rCs B W ts)) (hs : starEach (e :: es) X.env = (false, eval e X.env) :: starEach es X.env := by rfl) : PA X (e :: es) (rCs B W (t :: ts)) := by
  refine pa_imp (pa_cons ha hr hs) fun σ H Q ⟨F, L, ρ, Qd, Ed, S, ht, hq, hx⟩ => ?_
  refine ⟨F, L, ρ, _, Ed, S, ht, fun c ρ1 v F1 L1 H1 q1 S1 s1 r1 => ⟨F1, L1, ρ1, _, Ed, S1, q1, fun cs ρ2 vs F2 L2 H2 q2 S2 s2 r2 nw => ?_, hx.mono s1.f⟩, hx⟩
  have nw2 : ∀ a, a ∈ ownA c v → (H a = none ∨ ∃ i, L i = some a) ∧ H1 a ≠ none ∧ ∀ i, L1 i ≠ some a := fun a ha => by
    cases c with
    | val d => cases ha
    | own ds =>
      obtain ⟨b, us, e, g1, g2, g3, g4, g5, g6⟩ := r1
      subst e
      have : a = b := by simpa [ownA] using ha
      subst this
      exact ⟨g6, by rw [g1]; simp, g3⟩
  refine hq (c :: cs) ρ2 (v :: vs) F2 L2 H2 q2 S2 (s1.trans s2) ⟨v, vs, rfl, r1.cell.stp s2, r2, fun a ha hb => ?_⟩ fun a ha => ?_
  · obtain ⟨_, n1, n2⟩ := nw2 a ha
    rcases nw a hb with z | ⟨i, z⟩
    · exact n1 z
    · exact n2 i z
  · have ha' : a ∈ ownA c v ++ ownAs cs vs := ha
    rcases List.mem_append.mp ha' with z | z
    · exact (nw2 a z).1
    · rcases nw a z with q | ⟨i, q⟩
      · refine .inl ?_
        cases e0 : H a with
        | none => rfl
        | some o => exact absurd q (s1.al a (by rw [e0]; simp))
      · exact .inr ⟨i, s1.l i a q⟩
/-- a, b = x, y -/
def mPar (tgs : List Tg) (ts : List DC) : DS := fun D ρ => mCs ts ρ (fun cs ρ1 => cs.length = tgs.length ∧ tgsGo tgs cs ρ1 D.nx D.ex) D.ex
/-- .. by the pair itself -/
theorem ds_parT {es vs : List Expr} {k k2 : Nat} {p p2 : Pos} {tgs : List Tg} {ts : List DC} {n : Nat} (hc : X.calm = true) (hv : PA X vs (rCs B W ts)) (hg : PGs X es (rGs B W tgs)) (hn : (assignEach es X.env).length = n := by rfl) (hst : (assignEach es X.env).findIdx? (·.1) = none := by rfl)
    (hln : tgs.length = n := by rfl) (hsz : n ≤ sizeLine := by decide) (hs : swapsWithSole [.Tuple es k p] (.Tuple vs k2 p2) pos.line X.env = pure false := by rfl) (hw : swappedStores [.Tuple es k p] (.Tuple vs k2 p2) X.env = pure none := by rfl)
    (h1 : (assignEach [.Tuple es k p] X.env).map (·.2) = [assign (.Tuple es k p) X.env] := by rfl) : PS X (.Assign [.Tuple es k p] (.Tuple vs k2 p2) pos) (rS B W (mPar tgs ts)) := by
  refine ps_imp (ps_asg (pe_tup hv) (pg_tup hc hg hn hst) hs hw h1) fun D σ H ⟨F, L, ρ, Dd, S, q, o⟩ => ?_
  refine ⟨F, L, ρ, _, Dd.ex, S, q, fun cs ρ1 us F1 L1 H1 k1 S1 s1 r1 nw => ?_, o.ex⟩
  · obtain ⟨hl, k1⟩ := k1
    rw [hln] at hl
    have hl2 : us.length = n := by rw [← r1.length, hl]
    refine ⟨by rw [hl2]; exact hsz, fun p hp => ⟨p, us, rfl, SqT.of upd_same, hl2, F1, L1, ρ1, Dd.nx, Dd.ex, cs, ?_, ?_, k1, fun ρ' σ' F' L' H' q' S' m => o.nx ρ' σ' F' L' H' q' S' (s1.f.trans m.f), o.ex.mono s1.f⟩⟩
    · exact S1.grow ⟨Same.refl _, same_upd hp, fun _ _ e => .inl e⟩ (S1.sub.trans (same_upd hp))
    · exact r1.stp (Grow.stp ⟨Same.refl _, same_upd hp, fun _ _ e => .inl e⟩)
/-- .. names that are stored from the right -/
theorem ds_par2 (i j : Nat) {x y : Str} {a b : Expr} {px py pt pt2 : Pos} {kt k2 : Nat} {ts : List DC} (hc : X.calm = true) (hN : X.N.Nodup) (ha : PA X [a, b] (rCs B W ts)) (hioi : B.ios.contains i = false := by rfl) (hioj : B.ios.contains j = false := by rfl) (hi : X.N[i]? = some x := by rfl) (hj : X.N[j]? = some y := by rfl)
    (hij : i ≠ j := by decide) (hx : X.env.scope.names.lookup x = some .local := by rfl) (hy : X.env.scope.names.lookup y = some .local := by rfl)
    (hw : swappedStores [.Tuple [.Name x px, .Name y py] kt pt] (.Tuple [a, b] k2 pt2) X.env = pure (some [x, y]) := by rfl)
    (hs : swapsWithSole [.Tuple [.Name x px, .Name y py] kt pt] (.Tuple [a, b] k2 pt2) pos.line X.env = pure false := by rfl) : PS X (.Assign [.Tuple [.Name x px, .Name y py] kt pt] (.Tuple [a, b] k2 pt2) pos) (rS B W (mPar [.nm i, .nm j] ts)) := by
  refine ps_impL (ps_par hc hN hi hj hij hx hy ha hw hs) fun D σ H hl ⟨F, L, ρ, Dd, S, q, o⟩ => ?_
  have hli : i < σ.length := by rw [hl]; exact (List.getElem?_eq_some_iff.mp hi).1
  have hlj : j < σ.length := by rw [hl]; exact (List.getElem?_eq_some_iff.mp hj).1
  refine ⟨F, L, ρ, _, Dd.ex, S, q, fun cs ρ1 us F1 L1 H1 k1 S1 s1 r1 nw => ?_, o.ex⟩
  obtain ⟨hl2, k1⟩ := k1
  match cs, hl2, k1, r1, nw with
  | [c, d], _, k1, r1, nw =>
    obtain ⟨v, r, e, c1, ⟨w, r', e', c2, e2, _⟩, n⟩ := r1
    have e2' : r' = [] := e2
    subst e2'
    subst e'
    subst e
    refine ⟨v, w, rfl, ?_⟩
    have k2 : Dd.nx ((ρ1.set i (some c)).set j (some d)) := k1
    have step1 : ∃ L2, SR B F1 L2 (σ.set i (some v)) H1 (ρ1.set i (some c)) ∧ CellR B F1 L2 H1 d w := by
      cases c with
      | val z => exact ⟨_, S1.put hioi hli c1, (mv_forget (o := [])).c _ _ c2 fun a _ h => by cases h⟩
      | own ds =>
        obtain ⟨a, vs, e, h1, h2, h3, h4, h5⟩ := c1
        subst e
        exact ⟨_, S1.putO hioi hli h1 h2 h3 h4 h5, mv_put.c _ _ c2 fun b hb hm => n a List.mem_cons_self (by
          have : b = a := by simpa using hm
          subst this
          exact List.mem_append_left _ hb)⟩
    obtain ⟨L2, S2, c2'⟩ := step1
    have hlj2 : j < (σ.set i (some v)).length := by rw [List.length_set]; exact hlj
    cases d with
    | val z => exact o.nx _ _ _ _ _ k2 (S2.put hioj hlj2 c2') s1.f
    | own ds =>
      obtain ⟨a, vs, e, h1, h2, h3, h4, h5⟩ := c2'
      subst e
      exact o.nx _ _ _ _ _ k2 (S2.putO hioj hlj2 h1 h2 h3 h4 h5) s1.f
theorem ds_par3 (i j l : Nat) {x y z : Str} {a b c : Expr} {px py pz pt pt2 : Pos} {kt k2 : Nat} {ts : List DC} (hc : X.calm = true) (hN : X.N.Nodup) (ha : PA X [a, b, c] (rCs B W ts)) (hioi : B.ios.contains i = false := by rfl) (hioj : B.ios.contains j = false := by rfl) (hiol : B.ios.contains l = false := by rfl)
    (hi : X.N[i]? = some x := by rfl) (hj : X.N[j]? = some y := by rfl) (hlz : X.N[l]? = some z := by rfl) (hij : i ≠ j := by decide) (hil : i ≠ l := by decide) (hjl : j ≠ l := by decide)
    (hx : X.env.scope.names.lookup x = some .local := by rfl) (hy : X.env.scope.names.lookup y = some .local := by rfl) (hz : X.env.scope.names.lookup z = some .local := by rfl)
    (hw : swappedStores [.Tuple [.Name x px, .Name y py, .Name z pz] kt pt] (.Tuple [a, b, c] k2 pt2) X.env = pure (some [x, y, z]) := by rfl)
    (hs : swapsWithSole [.Tuple [.Name x px, .Name y py, .Name z pz] kt pt] (.Tuple [a, b, c] k2 pt2) pos.line X.env = pure false := by rfl) : PS X (.Assign [.Tuple [.Name x px, .Name y py, .Name z pz] kt pt] (.Tuple [a, b, c] k2 pt2) pos) (rS B W (mPar [.nm i, .nm j, .nm l] ts)) := by
  refine ps_impL (ps_par3 hc hN hi hj hlz hij hil hjl hx hy hz ha hw hs) fun D σ H hl ⟨F, L, ρ, Dd, S, q, o⟩ => ?_
  have hli : i < σ.length := by rw [hl]; exact (List.getElem?_eq_some_iff.mp hi).1
  have hlj : j < σ.length := by rw [hl]; exact (List.getElem?_eq_some_iff.mp hj).1
  have hll : l < σ.length := by rw [hl]; exact (List.getElem?_eq_some_iff.mp hlz).1
  refine ⟨F, L, ρ, _, Dd.ex, S, q, fun cs ρ1 us F1 L1 H1 k1 S1 s1 r1 nw => ?_, o.ex⟩
  obtain ⟨hl2, k1⟩ := k1
  match cs, hl2, k1, r1, nw with
  | [c1, c2, c3], _, k1, r1, nw =>
    obtain ⟨v, r, e, q1, ⟨w, r', e', q2, ⟨u, r'', e'', q3, e3, _⟩, n2⟩, n⟩ := r1
    have e3' : r'' = [] := e3
    subst e3'
    subst e''
    subst e'
    subst e
    refine ⟨v, w, u, rfl, ?_⟩
    have k2 : Dd.nx (((ρ1.set i (some c1)).set j (some c2)).set l (some c3)) := k1
    have put1 : ∀ {L : La} {σ : L2.St} {ρ : En} {c : Cell} {v : V} {m : Nat}, SR B F1 L σ H1 ρ → B.ios.contains m = false → m < σ.length → CellR B F1 L H1 c v → ∃ L2, SR B F1 L2 (σ.set m (some v)) H1 (ρ.set m (some c)) ∧ Mv B F1 L H1 F1 L2 H1 (ownA c v) := by
      intro L σ ρ c v m S hio hlt r
      cases c with
      | val z => exact ⟨_, S.put hio hlt r, mv_forget⟩
      | own ds =>
        obtain ⟨a, vs, e, h1, h2, h3, h4, h5⟩ := r
        subst e
        exact ⟨_, S.putO hio hlt h1 h2 h3 h4 h5, mv_put⟩
    obtain ⟨L2, S2, m2⟩ := put1 S1 hioi hli q1
    have q2' := m2.c _ _ q2 fun a ha hb => n a hb (List.mem_append_left _ ha)
    have q3' := m2.c _ _ q3 fun a ha hb => n a hb (List.mem_append_right _ (List.mem_append_left _ ha))
    obtain ⟨L3, S3, m3⟩ := put1 S2 hioj (by rw [List.length_set]; exact hlj) q2'
    have q3'' := m3.c _ _ q3' fun a ha hb => n2 a hb (List.mem_append_left _ ha)
    obtain ⟨L4, S4, m4⟩ := put1 S3 hiol (by rw [List.length_set, List.length_set]; exact hll) q3''
    exact o.nx _ _ _ _ _ k2 S4 s1.f
/-! ### x.append(e), x.extend(e) -/
def mApp (i : Nat) (t : DE) : DS := fun D ρ => match ρ.getD i none with
  | some (.own _) => t ρ (fun d ρ1 => match ρ1.getD i none with
    | some (.own ds) => ds.length < sizeLine ∧ D.nx (ρ1.set i (some (.own (ds ++ [d]))))
    | _ => False) D.ex
  | _ => False
theorem ds_app (i : Nat) {x : Str} {e : Expr} {t : DE} {p apos cpos : Pos} (he : PE X e (rV B W t)) (hN : X.N[i]? = some x := by rfl) (hv : Vis X.env.scope x := by first | exact Or.inl rfl | exact Or.inr (Or.inl rfl) | exact Or.inr (Or.inr rfl)) (hd : (x == ("__debug__" : Str)) = false := by decide)
    (hcd : (x == ("__classdict__" : Str)) = false := by decide) (hb : PE X (.Call (.Attribute (.Name x p) "append" apos) [e] [] cpos) (tBM X.K "list" rAppend (tVar i) (tCons (rV B W t) tNil)))
    (hs : swapsWith (.Call (.Attribute (.Name x p) "append" apos) [e] [] cpos) none pos.line X.env = pure false := by rfl) : PS X (.Expr (.Call (.Attribute (.Name x p) "append" apos) [e] [] cpos) pos) (rS B W (mApp i t)) := by
  refine ps_imp (ps_expr hb hs) fun D σ H ⟨F, L, ρ, Dd, S, q, o⟩ => ?_
  unfold mApp at q
  split at q
  · rename_i es e0
    obtain ⟨a, vs, e1, e2, e3, _⟩ := S.ow e0
    refine ⟨_, e1, .inl ⟨rfl, _, SqL.of e3⟩, F, L, ρ, _, Dd.ex, S, q, fun d ρ1 v F2 L2 H2 z S2 s2 rk => ?_, o.ex⟩
    split at z
    · rename_i ds eo
      obtain ⟨b, us, g1, g2, g3, g4, g5, g6⟩ := S2.ow eo
      have ea : L i = some b := s2.l i b g2
      rw [e2] at ea
      cases ea
      refine ⟨a, us, v, rfl, rfl, g3, by rw [← g5.length]; exact z.1, ?_⟩
      exact o.nx _ _ _ _ _ z.2 (S2.write g2 (g5.append (RpL.one rk))) s2.f
    · exact z.elim
  · exact q.elim
def mExt (i : Nat) (t : DE) : DS := fun D ρ => match ρ.getD i none with
  | some (.own _) => t ρ (fun d ρ1 => match d, ρ1.getD i none with
    | .lst es, some (.own ds) => ds.length + es.length ≤ sizeLine ∧ D.nx (ρ1.set i (some (.own (ds ++ es))))
    | _, _ => False) D.ex
  | _ => False
theorem ds_ext (i : Nat) {x : Str} {e : Expr} {t : DE} {p apos cpos : Pos} (he : PE X e (rV B W t)) (hN : X.N[i]? = some x := by rfl) (hv : Vis X.env.scope x := by first | exact Or.inl rfl | exact Or.inr (Or.inl rfl) | exact Or.inr (Or.inr rfl)) (hd : (x == ("__debug__" : Str)) = false := by decide)
    (hcd : (x == ("__classdict__" : Str)) = false := by decide) (hb : PE X (.Call (.Attribute (.Name x p) "extend" apos) [e] [] cpos) (tBM X.K "list" rExtend (tVar i) (tCons (rV B W t) tNil)))
    (hs : swapsWith (.Call (.Attribute (.Name x p) "extend" apos) [e] [] cpos) none pos.line X.env = pure false := by rfl) : PS X (.Expr (.Call (.Attribute (.Name x p) "extend" apos) [e] [] cpos) pos) (rS B W (mExt i t)) := by
  refine ps_imp (ps_expr hb hs) fun D σ H ⟨F, L, ρ, Dd, S, q, o⟩ => ?_
  unfold mExt at q
  split at q
  · rename_i es e0
    obtain ⟨a, vs, e1, e2, e3, _⟩ := S.ow e0
    refine ⟨_, e1, .inl ⟨rfl, _, SqL.of e3⟩, F, L, ρ, _, Dd.ex, S, q, fun d ρ1 v F2 L2 H2 z S2 s2 rk => ?_, o.ex⟩
    split at z
    · rename_i es' ds eo
      obtain ⟨b, us, g1, g2, g3, g4, g5, g6⟩ := S2.ow eo
      obtain ⟨c, ws, ec, hc, rc⟩ := rk
      subst ec
      have ea : L i = some b := s2.l i b g2
      rw [e2] at ea
      cases ea
      refine ⟨a, c, us, ws, rfl, rfl, g3, S2.sub _ _ hc, by rw [← g5.length, ← rc.length]; exact z.1, ?_⟩
      exact o.nx _ _ _ _ _ z.2 (S2.write g2 (g5.append rc)) s2.f
    · exact z.elim
  · exact q.elim
end
end DL
/-! The data layer: what is walked. -/
namespace DL
open PySem PySem.Spec PyProof.Rows L2
/-! ### a list or a tuple -/
def SqS (K : PySem.W.Frag) : Bool → Hp → Addr → List V → Prop
  | true, H, a, xs => SqL K H a xs
  | false, H, a, xs => SqT K H a xs
def IterS : Bool → Heap → Addr → Addr → Nat → Prop
  | true, h, it, a, i => h.IsListIter it a i
  | false, h, it, a, i => h.IsTupleIter it a i
def IsS : Bool → Heap → Addr → Array Value → Prop
  | true, h, a, its => h.IsList a its
  | false, h, a, its => h.IsTuple a its
def objS : Bool → Addr → Obj
  | true, a => { cls := .type "list_iterator", data := .fields #[.ref a, .int 0 0] }
  | false, a => { cls := .type "tuple_iterator", data := .fields #[.ref a, .int 0 0] }
theorem begins_S : ∀ (b : Bool) (a : Addr) (its : Array Value), Begins (.ref a) (objS b a) fun h => IsS b h a its
  | true, a, its => begins_list a its
  | false, a, its => begins_tuple a its
theorem draws_S {P : Program} {w : World} {A : Around} (hh : A.handled = none) : ∀ (b : Bool) (it a : Addr) (hne : a ≠ it) (its : Array Value),
    Draws P w A it [it, a] its.size (fun i v => its[i]? = some v) (fun i h => IterS b h it a i ∧ IsS b h a its)
  | true, it, a, hne, its => Draws.list hh it a hne its
  | false, it, a, hne, its => Draws.tuple hh it a hne its
theorem IterS.at : ∀ {b : Bool} {h h' : Heap} {it a : Addr} {i : Nat}, IterS b h it a i → (∀ o, h.get? it = some o → h'.get? it = some o) → IterS b h' it a i
  | true, _, _, _, _, _, x, k => Heap.IsListIter.at x k
  | false, _, _, _, _, _, x, k => Heap.IsTupleIter.at x k
theorem IterS.new : ∀ {b : Bool} {h : Heap} {it a : Addr}, h.get? it = some (objS b a) → IterS b h it a 0
  | true, _, _, _, e => ⟨_, e, rfl, rfl⟩
  | false, _, _, _, e => ⟨_, e, rfl, rfl⟩
theorem IterS.obj : ∀ {b : Bool} {h : Heap} {it a : Addr} {i : Nat}, IterS b h it a i → ∃ o, h.get? it = some o ∧ ∀ v, o.data ≠ .cell v
  | true, _, _, _, _, ⟨o, e, _, d⟩ => ⟨o, e, fun v z => by rw [d] at z; cases z⟩
  | false, _, _, _, _, ⟨o, e, _, d⟩ => ⟨o, e, fun v z => by rw [d] at z; cases z⟩
section
variable {X : Cx} {pins : List (Addr × Obj)} {σ : L2.St} {H : Hp} {s : Shared}
theorem Inv.seqS (I : Inv X pins σ H s) : ∀ {b : Bool} {a : Addr} {xs : List V}, SqS X.K b H a xs → ∃ its : List Value, Vals xs its ∧ IsS b s.heap a its.toArray ∧ a < s.heap.objs.size
  | true, _, _, h => by
    obtain ⟨its, r, p, _⟩ := I.list h
    exact ⟨its, r, p.isList, p.lt⟩
  | false, _, _, h => by
    obtain ⟨its, r, p, _⟩ := I.tuple h
    exact ⟨its, r, p, let ⟨_, e, _⟩ := p; Heap.lt_size e⟩
theorem Inv.injS (I : Inv X pins σ H s) : ∀ {b : Bool} {a : Addr} {xs ys : List V}, SqS X.K b H a xs → SqS X.K b H a ys → xs = ys
  | true, _, _, _, h, h' => I.list_inj h h'
  | false, _, _, _, h, h' => I.tuple_inj h h'
end
/-! ### a turn by the library's walks -/
/-- what a walk of new tuples is worth here -/
theorem turn_goes {P : Program} {w : World} {K : PySem.W.Frag} {tg : Expr} {J : It} {fp wr : List Addr} {it : Addr} {tn : Nat → Heap → Prop} (mem : it ∈ fp) (wf : ∀ b ∈ wr, b ∈ fp)
    (obj : ∀ i h, tn i h → ∀ b ∈ fp, ∃ o, h.get? b = some o ∧ ∀ v, o.data ≠ .cell v)
    (keep : ∀ i h h', tn i h → (∀ b ∈ fp, ∀ o, h.get? b = some o → h'.get? b = some o) → tn i h')
    (self : ∀ (A : Around) (i : Nat) (s : Shared) (Q : Value → Shared → Prop) (E : Value → Shared → Prop), tn i s.heap → Q (.ref it) s → wpAny (model P w) A (pyIter (.ref it)) Q E s)
    (W : ∀ (X : Cx), X.prog = P → X.w = w → X.K = K → ∀ (A : Around), A.handled = none → ∀ (i : Nat) (pins : List (Addr × Obj)) (s : Shared) (σ : L2.St) (H : Hp), Inv X pins σ H s → J.go i H ∨ J.stop i H → tn i s.heap →
      ∃ (fpG : List Addr) (n : Nat) (Y : Nat → Heap → Value → Heap → Prop) (St : Nat → Heap → Prop), GoesN P w A tg it fpG wr n Y St ∧ St i s.heap ∧ (J.go i H → i < n) ∧ (J.stop i H → i = n) ∧ (∀ h', St (i + 1) h' → tn (i + 1) h') ∧
        (∀ v h', Y i s.heap v h' → ∃ (T : Addr) (us : List Value) (xs : List V), v = .ref T ∧ s.heap.objs.size ≤ T ∧ h'.IsTuple T us.toArray ∧ Vals xs us ∧ xs.length ≤ sizeLine ∧ J.yld i H (.ref T) (upd H T (.tup xs)))) :
    Turn P w K tg J fp it tn where
  mem := mem
  obj := obj
  keep := keep
  item := by
    intro X hP hw hK hc i pins s σ H E I hf st hg
    obtain ⟨fpG, n, Y, St, G, hst, h1, h2, h3, h4⟩ := W X hP hw hK X.A (I.ok.hd hc) i pins s σ H I (.inl hg) st
    subst hP hw hK
    refine G.goes i s _ E (h1 hg) hst fun v h' tk hY st' hk htk => ?_
    obtain ⟨T, us, xs, ev, hT, ht, rv, hz, hy⟩ := h4 v h' hY
    subst ev
    have new : ObjOk X.prog X.w (upd H T (.tup xs)) h' T (.tup xs) := ⟨hz, us, rv, ht⟩
    have I1 : Inv X pins σ (upd H T (.tup xs)) { s with heap := h', toks := tk } := I.turnedNew (t' := tk) (ch := fp) (fun b o hb e => hk b o (fun q => hb (wf b q)) e) hf hT new
    refine ⟨.ref T, _, I1, rfl, hy, h3 h' st', fun b hb => ?_⟩
    obtain ⟨o, e, _⟩ := obj i _ st b hb
    have hlt : b < s.heap.objs.size := Heap.lt_size e
    rw [upd_ne (Nat.ne_of_lt (Nat.lt_of_lt_of_le hlt hT))]
    exact (hf b hb).1
  done := by
    intro X hP hw hK hc i pins s σ H E I hf st hg
    obtain ⟨fpG, n, Y, St, G, hst, h1, h2, h3, h4⟩ := W X hP hw hK X.A (I.ok.hd hc) i pins s σ H I (.inr hg) st
    have e := h2 hg
    subst e
    subst hP hw hK
    refine thn (G.stops s (fun s₁ => Inv X pins σ H s₁) E hst fun h' tk hk htk => ?_) fun r s1 q => q
    exact I.turnedL (t' := tk) (ch := fp) (fun b o hb e => hk b o (fun q => hb (wf b q)) e) hf
  self := self
/-! ### a list or a tuple itself -/
def iSeq (K : PySem.W.Frag) (tl : TE) : TI := fun σ H R => tl σ H fun x H1 => ∃ a, x = .ref a ∧ (((∃ xs, SqL K H1 a xs) ∧ R (Itl K a) H1) ∨ ((∃ xs, SqT K H1 a xs) ∧ R (Itt K a) H1))
theorem pi_seq {X : Cx} {tg l : Expr} {tl : TE} (hl : PE X l tl) : PI X tg l (iSeq X.K tl) := by
  refine ⟨fun pins s σ H R I h => ?_⟩
  refine thn (hl.run pins s σ H _ I h) fun v s1 ⟨x, H1, I1, r1, q1⟩ => ?_
  obtain ⟨a, e, q1⟩ := q1
  subst e
  cases r1
  rcases q1 with ⟨⟨xs, hq⟩, q⟩ | ⟨⟨xs, hq⟩, q⟩
  · obtain ⟨its, rv, p, hz⟩ := I1.list hq
    refine wpAny_pyIter_list p.isList ?_
    refine ⟨s1.heap.objs.size, [s1.heap.objs.size], _, _, H1, rfl, I1.kept (t' := s1.toks) fun b o e => Heap.get?_push_of_some _ e, turn_list a _, ⟨_, Heap.get?_push_size _ rfl, rfl, rfl⟩, fun b hb => ?_, q⟩
    have e : b = s1.heap.objs.size := by simpa using hb
    subst e
    exact I1.fpOk (Nat.le_refl _) (I1.hok.fresh (Nat.le_refl _))
  · obtain ⟨its, rv, p, hz⟩ := I1.tuple hq
    refine wpAny_pyIter_tuple (show s1.heap.IsTuple a its.toArray from p) ?_
    refine ⟨s1.heap.objs.size, [s1.heap.objs.size], _, _, H1, rfl, I1.kept (t' := s1.toks) fun b o e => Heap.get?_push_of_some _ e, turn_tuple a _, ⟨_, Heap.get?_push_size _ rfl, rfl, rfl⟩, fun b hb => ?_, q⟩
    have e : b = s1.heap.objs.size := by simpa using hb
    subst e
    exact I1.fpOk (Nat.le_refl _) (I1.hok.fresh (Nat.le_refl _))
/-! ### enumerate -/
def ItE (K : PySem.W.Frag) (b : Bool) (a : Addr) : It :=
  ⟨fun i H => ∃ (xs : List V) (x : V), SqS K b H a xs ∧ xs[i]? = some x, fun i H v H' => ∃ T x, v = .ref T ∧ H T = none ∧ H' = upd H T (.tup [.int (i : Nat), x]) ∧ ∀ xs, SqS K b H a xs → xs[i]? = some x, fun i H => ∃ xs : List V, SqS K b H a xs ∧ i = xs.length⟩
theorem turn_enumS {P : Program} {w : World} {K : PySem.W.Frag} {elts : List Expr} {kk : Nat} {tpos : Pos} {b : Bool} {a e it N : Addr} (hit : it < N) (ha : a < N) (hai : a ≠ it) (hei : e ≠ it) (hea : e ≠ a) :
    Turn P w K (.Tuple elts kk tpos) (ItE K b a) [e, it] e (fun i h => (∃ old, IsEnum h e it ((i : Nat) : Int) old) ∧ IterS b h it a i) := by
  refine turn_goes (wr := [e, it]) (by simp) (fun _ h => h) (fun i h st c hb => ?_) (fun i h h' st k => ?_) (fun A i s Q E st h => ?_) fun X hP hw hK A hh i pins s σ H I hg st => ?_
  · obtain ⟨⟨old, he⟩, hi⟩ := st
    have e' : c = e ∨ c = it := by simpa using hb
    rcases e' with z | z
    · rw [z]; exact ⟨_, he, fun v q => nomatch q⟩
    · rw [z]; exact hi.obj
  · obtain ⟨⟨old, he⟩, hi⟩ := st
    exact ⟨⟨old, k e (by simp) _ he⟩, hi.at fun o q => k it (by simp) o q⟩
  · obtain ⟨⟨_, he⟩, _⟩ := st
    exact wpAny_pyIter_enum he h
  · subst hP hw hK
    have hsrc : ∃ xs, SqS X.K b H a xs := by
      rcases hg with ⟨xs, x, q, _⟩ | ⟨xs, q, _⟩
      · exact ⟨xs, q⟩
      · exact ⟨xs, q⟩
    obtain ⟨xs, hq⟩ := hsrc
    obtain ⟨its, rv, p, hlt⟩ := Inv.seqS I hq
    have D := draws_S (P := X.prog) (w := X.w) (A := A.in1) (show A.in1.handled = none from hh) b it a hai its.toArray
    have G := GoesN.enumFrom (elts := elts) (x1 := kk) (pos := tpos) 0 D e hei (by simp [hei, hea]) (by simp)
    have z0 : ∀ j : Nat, (0 : Int) + (j : Int) = (j : Int) := fun j => by omega
    refine ⟨_, _, _, _, G, ⟨?_, st.2, p⟩, fun ⟨ys, x, q, hx⟩ => ?_, fun ⟨ys, q, hl⟩ => ?_, fun h' st' => ?_, fun v h' hY => ?_⟩
    · obtain ⟨old, he⟩ := st.1
      exact ⟨old, by rw [z0]; exact he⟩
    · have e1 := Inv.injS I q hq
      subst e1
      have := (List.getElem?_eq_some_iff.mp hx).1
      rw [List.size_toArray, ← rv.length]
      exact this
    · have e1 := Inv.injS I q hq
      subst e1
      rw [List.size_toArray, ← rv.length]
      exact hl
    · obtain ⟨⟨old, he⟩, hi, _⟩ := st'
      exact ⟨⟨old, by rw [z0] at he; exact he⟩, hi⟩
    · obtain ⟨T, t, x, ev, hT, hx, ht⟩ := hY
      have hx' : its[i]? = some x := by simpa using hx
      have hi : i < xs.length := by rw [rv.length]; exact (List.getElem?_eq_some_iff.mp hx').1
      obtain ⟨u, hu, ru⟩ := rv.get (List.getElem?_eq_getElem hi)
      rw [hx'] at hu
      cases hu
      rw [z0] at ht
      exact ⟨T, [.int i t, x], [.int (i : Nat), xs[i]], ev, hT, ht, .cons ⟨_, rfl⟩ (.cons ru .nil), by show 2 ≤ sizeLine; decide, T, xs[i], rfl, I.hok.fresh hT, rfl, fun ys hy => by rw [Inv.injS I hy hq]; exact List.getElem?_eq_getElem hi⟩
def iEnumS (K : PySem.W.Frag) (ta : TA) : TI := fun σ H R => ta σ H fun vs H1 => ∃ b a xs, vs = [.ref a] ∧ SqS K b H1 a xs ∧ R (ItE K b a) H1
end DL
namespace DL
open PySem PySem.Spec PyProof.Rows L2
theorem meets_enum1 {v : Value} {o : Obj} {H : Heap → Prop} (B : Begins v o H) :
    Meets (Builtin.«enumerate.__new__» ⟨[.type "enumerate", v], []⟩) (fun _ R s => H s.heap ∧
      R (.ok (.ret (.ref (s.heap.push o).objs.size))) { s with heap := (s.heap.push o).push { cls := .type "enumerate", data := .fields #[.none, .bool false, .ref s.heap.objs.size, rawInt 0, .none, .none] } }) :=
  .of_wp fun prog w A R s h => by
    obtain ⟨hp, g, d, tk, os⟩ := s; obtain ⟨h1, h⟩ := h
    have hsub := sub_enumerate
    have q1 : ∀ {A' : Around} {E : Value → Shared → Prop} {Q : Value → Shared → Prop}, Q (.ref hp.objs.size) ⟨hp.push o, g, d, tk, os⟩ → wpAny (model prog w) A' (pyIter v) Q E ⟨hp, g, d, tk, os⟩ :=
      fun q => B.iter prog w _ _ ⟨hp, g, d, tk, os⟩ _ h1 q
    wp_walk using q1
    refine wpAny_stack_any fun st => wpAny_pure ?_
    split
    · rename_i c _ _ _ _ _
      cases (c == Value.type "enumerate")
      · wp_walk using q1
        exact ⟨_, rfl, h⟩
      · wp_walk using q1
        exact ⟨_, rfl, h⟩
    · wp_walk using q1
      exact ⟨_, rfl, h⟩
section
variable {prog : Program} {w : World} {A : Around} {E : Value → Shared → Prop} {s : Shared}
theorem enum_begins1 {v : Value} {o : Obj} {H : Heap → Prop} {Q : Value → Shared → Prop} (B : Begins v o H) (h1 : H s.heap)
    (h : ∀ h', IsEnum h' (s.heap.objs.size + 1) s.heap.objs.size 0 .none → h'.get? s.heap.objs.size = some o → h'.objs.size = s.heap.objs.size + 2 →
      (∀ b o, s.heap.get? b = some o → h'.get? b = some o) → Q (.ref (s.heap.objs.size + 1)) { s with heap := h' }) :
    wpAny (model prog w) A (call (.type "enumerate") [v]) Q E s := by
  refine callType_new F.called_enumerate (by decide) (F.typeCall_enumerate_1 _) (F.newCall_enumerate_1 _) (fun obj => F.args_object_init_2 obj _) F.entry_enumerate_new
    (meets_enum1 B) ⟨h1, ?_⟩
  have hz : (s.heap.push o).objs.size = s.heap.objs.size + 1 := Heap.size_push ..
  show _ ∧ _
  rw [hz]
  have he : IsEnum ((s.heap.push o).push { cls := .type "enumerate", data := .fields #[.none, .bool false, .ref s.heap.objs.size, rawInt 0, .none, .none] }) (s.heap.objs.size + 1) s.heap.objs.size 0 .none := by
    have := Heap.get?_push_size (s.heap.push o) (o := { cls := .type "enumerate", data := .fields #[.none, .bool false, .ref s.heap.objs.size, rawInt 0, .none, .none] }) rfl
    rw [hz] at this; exact this
  refine ⟨⟨_, he, rfl⟩, h _ he (Heap.get?_push_of_some _ (Heap.get?_push_size _ B.free)) (by rw [Heap.size_push, hz]) fun b o x => Heap.get?_push_of_some _ (Heap.get?_push_of_some _ x)⟩
end
section
variable {X : Cx}
theorem pi_enumS {e : Expr} {ta : TA} {p pos tpos : Pos} {elts : List Expr} {kk : Nat} (hm : X.mg "enumerate" = none) (ha : PA X [e] ta) (hg : Gl X "enumerate" := by rfl) (hs : starEach [e] X.env = [(false, eval e X.env)] := by rfl) :
    PI X (.Tuple elts kk tpos) (.Call (.Name "enumerate" p) [e] [] pos) (iEnumS X.K ta) := by
  refine ⟨fun pins s σ H R I h => ?_⟩
  refine Call_ (ld_blt I hg hm boot_enumerate (PyProof.Rows.callWith_type1 (thn (ha.run pos pins s σ H _ I h) fun us s1 ⟨vs, H1, I1, r1, q1⟩ => ?_) hs rfl))
  obtain ⟨b, a, xs, ex, hq, q⟩ := q1
  subst ex
  cases r1 with
  | cons r rr =>
    cases rr
    cases r
    obtain ⟨its, rv, p', hlt⟩ := Inv.seqS I1 hq
    refine enum_begins1 (begins_S b a its.toArray) p' fun h' he hit hsz hk => wpAny_pyIter_enum he ?_
    have I2 : Inv X pins σ H1 { s1 with heap := h' } := I1.kept (t' := s1.toks) hk
    have hlt' : (a : Nat) < s1.heap.objs.size := hlt
    refine ⟨s1.heap.objs.size + 1, [s1.heap.objs.size + 1, s1.heap.objs.size], _, _, H1, rfl, I2, turn_enumS (N := s1.heap.objs.size + 1) (b := b) (a := a) (e := s1.heap.objs.size + 1) (it := s1.heap.objs.size) (Nat.lt_succ_self _) (Nat.lt_succ_of_lt hlt) (Nat.ne_of_lt hlt) (Nat.succ_ne_self _) (Nat.ne_of_gt (Nat.lt_succ_of_lt hlt)), ⟨⟨.none, he⟩, IterS.new hit⟩, fun c hb => ?_, q⟩
    have e' : c = s1.heap.objs.size + 1 ∨ c = s1.heap.objs.size := by simpa using hb
    have hle : s1.heap.objs.size ≤ c := by
      rcases e' with z | z
      · rw [z]; exact Nat.le_add_right _ _
      · rw [z]; exact Nat.le_refl _
    exact I1.fpOk hle (I1.hok.fresh hle)
end
/-! ### zip of two, of three -/
def ItZ2 (K : PySem.W.Frag) (b1 b2 : Bool) (a1 a2 : Addr) : It :=
  ⟨fun i H => ∃ (xs ys : List V) (x y : V), SqS K b1 H a1 xs ∧ SqS K b2 H a2 ys ∧ xs[i]? = some x ∧ ys[i]? = some y,
    fun i H v H' => ∃ T x y, v = .ref T ∧ H T = none ∧ H' = upd H T (.tup [x, y]) ∧ (∀ xs, SqS K b1 H a1 xs → xs[i]? = some x) ∧ ∀ ys, SqS K b2 H a2 ys → ys[i]? = some y,
    fun i H => ∃ xs ys : List V, SqS K b1 H a1 xs ∧ SqS K b2 H a2 ys ∧ i = min xs.length ys.length⟩
theorem sep2 {z TI TO i1 i2 a1 a2 N : Nat} (h1 : a1 < N) (h2 : a2 < N) (e1 : i1 = N) (e2 : i2 = N + 1) (e3 : TI = N + 2) (e4 : TO = N + 3) (e5 : z = N + 4) : ZipSep2 z TI TO i1 i2 [i1, a1] [i2, a2] := by
  subst e1 e2 e3 e4 e5
  exact zip_sep2 (fp1 := [a1]) (fp2 := [a2]) (fun b hb => by have e := List.mem_singleton.mp hb; rw [e]; assumption) (fun b hb => by have e := List.mem_singleton.mp hb; rw [e]; assumption)
theorem turn_zip2S {P : Program} {w : World} {K : PySem.W.Frag} {elts : List Expr} {kk : Nat} {tpos : Pos} {b1 b2 : Bool} {a1 a2 N : Addr} (h1 : a1 < N) (h2 : a2 < N) :
    Turn P w K (.Tuple elts kk tpos) (ItZ2 K b1 b2 a1 a2) [N + 4, N + 2, N + 3, N, N + 1] (N + 4)
      (fun i h => IsZip h (N + 4) (N + 2) (N + 3) .none ∧ IsTupOf2 h (N + 2) (.ref N) (.ref (N + 1)) ∧ (∃ x y, IsTupOf2 h (N + 3) x y) ∧ IterS b1 h N a1 i ∧ IterS b2 h (N + 1) a2 i) := by
  have h1' : (a1 : Nat) < N := h1
  have h2' : (a2 : Nat) < N := h2
  refine turn_goes (wr := [N + 4, N + 3, N, N + 1]) (by simp) (fun c hc => ?_) (fun i h st c hb => ?_) (fun i h h' st k => ?_) (fun A i s Q E st h => ?_) fun X hP hw hK A hh i pins s σ H I hg st => ?_
  · have e : c = N + 4 ∨ c = N + 3 ∨ c = N ∨ c = N + 1 := by simpa using hc
    rcases e with e | e | e | e <;> (rw [e]; simp)
  · obtain ⟨hz, hTI, ⟨x, y, hTO⟩, q1, q2⟩ := st
    have e : c = N + 4 ∨ c = N + 2 ∨ c = N + 3 ∨ c = N ∨ c = N + 1 := by simpa using hb
    rcases e with e | e | e | e | e
    · rw [e]; exact ⟨_, hz, fun v q => nomatch q⟩
    · rw [e]; exact ⟨_, hTI, fun v q => nomatch q⟩
    · rw [e]; exact ⟨_, hTO, fun v q => nomatch q⟩
    · rw [e]; exact q1.obj
    · rw [e]; exact q2.obj
  · obtain ⟨hz, hTI, ⟨x, y, hTO⟩, q1, q2⟩ := st
    exact ⟨k _ (by simp) _ hz, k _ (by simp) _ hTI, ⟨x, y, k _ (by simp) _ hTO⟩, q1.at fun o q => k _ (by simp) o q, q2.at fun o q => k _ (by simp) o q⟩
  · exact wpAny_pyIter_zip st.1 h
  · subst hP hw hK
    obtain ⟨hz, hTI, hTO, q1, q2⟩ := st
    have hsrc : ∃ xs ys, SqS X.K b1 H a1 xs ∧ SqS X.K b2 H a2 ys := by
      rcases hg with ⟨xs, ys, _, _, q1, q2, _⟩ | ⟨xs, ys, q1, q2, _⟩
      · exact ⟨xs, ys, q1, q2⟩
      · exact ⟨xs, ys, q1, q2⟩
    obtain ⟨xs, ys, hx, hy⟩ := hsrc
    obtain ⟨its, rv, p, _⟩ := Inv.seqS I hx
    obtain ⟨its2, rv2, p2, _⟩ := Inv.seqS I hy
    have D1 := draws_S (P := X.prog) (w := X.w) (A := A.in1) (show A.in1.handled = none from hh) b1 N a1 (Nat.ne_of_lt h1) its.toArray
    have D2 := draws_S (P := X.prog) (w := X.w) (A := A.in1) (show A.in1.handled = none from hh) b2 (N + 1) a2 (Nat.ne_of_lt (Nat.lt_succ_of_lt h2)) its2.toArray
    have G := GoesN.zip2 (elts := elts) (x1 := kk) (pos := tpos) (sep2 (z := N + 4) (TI := N + 2) (TO := N + 3) (i1 := N) (i2 := N + 1) h1 h2 rfl rfl rfl rfl rfl) D1 D2
    have e1 : its.toArray.size = xs.length := by rw [List.size_toArray, ← rv.length]
    have e2 : its2.toArray.size = ys.length := by rw [List.size_toArray, ← rv2.length]
    refine ⟨_, _, _, _, G, ⟨hz, hTI, hTO, ⟨q1, p⟩, ⟨q2, p2⟩⟩, fun ⟨us, ws, x, y, g1, g2, g3, g4⟩ => ?_, fun ⟨us, ws, g1, g2, hl⟩ => ?_, fun h' st' => ?_, fun v h' hY => ?_⟩
    · have z1 := Inv.injS I g1 hx
      have z2 := Inv.injS I g2 hy
      subst z1
      subst z2
      have l1 := (List.getElem?_eq_some_iff.mp g3).1
      have l2 := (List.getElem?_eq_some_iff.mp g4).1
      rw [e1, e2]
      omega
    · have z1 := Inv.injS I g1 hx
      have z2 := Inv.injS I g2 hy
      subst z1
      subst z2
      rw [e1, e2]
      exact hl
    · obtain ⟨a, b, c, d, e⟩ := st'
      exact ⟨a, b, c, d.1, e.1⟩
    · obtain ⟨T, x, y, ev, hT, g1, g2, ht⟩ := hY
      have g1' : its[i]? = some x := by simpa using g1
      have g2' : its2[i]? = some y := by simpa using g2
      have l1 : i < xs.length := by rw [rv.length]; exact (List.getElem?_eq_some_iff.mp g1').1
      have l2 : i < ys.length := by rw [rv2.length]; exact (List.getElem?_eq_some_iff.mp g2').1
      obtain ⟨u, hu, ru⟩ := rv.get (List.getElem?_eq_getElem l1)
      obtain ⟨u2, hu2, ru2⟩ := rv2.get (List.getElem?_eq_getElem l2)
      rw [g1'] at hu
      rw [g2'] at hu2
      cases hu
      cases hu2
      exact ⟨T, [x, y], [xs[i], ys[i]], ev, hT, ht, .cons ru (.cons ru2 .nil), by show 2 ≤ sizeLine; decide, T, xs[i], ys[i], rfl, I.hok.fresh hT, rfl, fun l hl => by rw [Inv.injS I hl hx]; exact List.getElem?_eq_getElem l1, fun l hl => by rw [Inv.injS I hl hy]; exact List.getElem?_eq_getElem l2⟩
def iZip2 (K : PySem.W.Frag) (ta : TA) : TI := fun σ H R => ta σ H fun vs H1 => ∃ b1 b2 a1 a2 xs ys, vs = [.ref a1, .ref a2] ∧ SqS K b1 H1 a1 xs ∧ SqS K b2 H1 a2 ys ∧ R (ItZ2 K b1 b2 a1 a2) H1
section
variable {X : Cx}
theorem fp_above {pins : List (Addr × Obj)} {σ : L2.St} {H : Hp} {s : Shared} {l : List Addr} (I : Inv X pins σ H s) (h : ∀ c ∈ l, s.heap.objs.size ≤ c) : ∀ c ∈ l, FpOk X pins H c := fun c hc => I.fpOk (h c hc) (I.hok.fresh (h c hc))
theorem pi_zip2S {e e2 : Expr} {ta : TA} {p pos tpos : Pos} {elts : List Expr} {kk : Nat} (hm : X.mg "zip" = none) (ha : PA X [e, e2] ta) (hg : Gl X "zip" := by rfl)
    (hs : starEach [e, e2] X.env = (false, eval e X.env) :: starEach [e2] X.env := by rfl) (hpl : (backTo pos (starEach [e2] X.env)).any (·.1) = false := by rfl) :
    PI X (.Tuple elts kk tpos) (.Call (.Name "zip" p) [e, e2] [] pos) (iZip2 X.K ta) := by
  refine ⟨fun pins s σ H R I h => ?_⟩
  refine Call_ (ld_blt I hg hm PyProof.Rows.boot_zip (PyProof.Rows.callWith_type1 (thn (ha.run pos pins s σ H _ I h) fun us s1 ⟨vs, H1, I1, r1, q1⟩ => ?_) hs hpl))
  obtain ⟨b1, b2, a1, a2, xs, ys, ex, hx, hy, q⟩ := q1
  subst ex
  cases r1 with
  | cons r rr =>
    cases rr with
    | cons r' rr =>
      cases rr
      cases r
      cases r'
      obtain ⟨its, rv, p1, l1⟩ := Inv.seqS I1 hx
      obtain ⟨its2, rv2, p2, l2⟩ := Inv.seqS I1 hy
      refine zip_begins2 (begins_S b1 a1 its.toArray) (begins_S b2 a2 its2.toArray) p1 p2 fun h' hz hTI hTO g1 g2 hsz hk => wpAny_pyIter_zip hz ?_
      have I2 : Inv X pins σ H1 { s1 with heap := h' } := I1.kept (t' := s1.toks) hk
      refine ⟨s1.heap.objs.size + 4, _, _, _, H1, rfl, I2, turn_zip2S (b1 := b1) (b2 := b2) l1 l2, ⟨hz, hTI, ⟨_, _, hTO⟩, IterS.new g1, IterS.new g2⟩, fp_above I1 fun c hc => ?_, q⟩
      have e' : c = s1.heap.objs.size + 4 ∨ c = s1.heap.objs.size + 2 ∨ c = s1.heap.objs.size + 3 ∨ c = s1.heap.objs.size ∨ c = s1.heap.objs.size + 1 := by simpa using hc
      rcases e' with z | z | z | z | z
      · rw [z]; exact Nat.le_add_right _ _
      · rw [z]; exact Nat.le_add_right _ _
      · rw [z]; exact Nat.le_add_right _ _
      · rw [z]; exact Nat.le_refl _
      · rw [z]; exact Nat.le_add_right _ _
end
def ItZ3 (K : PySem.W.Frag) (b1 b2 b3 : Bool) (a1 a2 a3 : Addr) : It :=
  ⟨fun i H => ∃ (xs ys zs : List V) (x y z : V), SqS K b1 H a1 xs ∧ SqS K b2 H a2 ys ∧ SqS K b3 H a3 zs ∧ xs[i]? = some x ∧ ys[i]? = some y ∧ zs[i]? = some z,
    fun i H v H' => ∃ T x y z, v = .ref T ∧ H T = none ∧ H' = upd H T (.tup [x, y, z]) ∧ (∀ xs, SqS K b1 H a1 xs → xs[i]? = some x) ∧ (∀ ys, SqS K b2 H a2 ys → ys[i]? = some y) ∧ ∀ zs, SqS K b3 H a3 zs → zs[i]? = some z,
    fun i H => ∃ xs ys zs : List V, SqS K b1 H a1 xs ∧ SqS K b2 H a2 ys ∧ SqS K b3 H a3 zs ∧ i = min (min xs.length ys.length) zs.length⟩
theorem sep3 {z TI TO i1 i2 i3 a1 a2 a3 N : Nat} (h1 : a1 < N) (h2 : a2 < N) (h3 : a3 < N) (e1 : i1 = N) (e2 : i2 = N + 1) (e3 : i3 = N + 2) (e4 : TI = N + 3) (e5 : TO = N + 4) (e6 : z = N + 5) : ZipSep3 z TI TO i1 i2 i3 [i1, a1] [i2, a2] [i3, a3] := by
  subst e1 e2 e3 e4 e5 e6
  exact zip_sep3 (fp1 := [a1]) (fp2 := [a2]) (fp3 := [a3]) (fun b hb => by have e := List.mem_singleton.mp hb; rw [e]; assumption) (fun b hb => by have e := List.mem_singleton.mp hb; rw [e]; assumption) (fun b hb => by have e := List.mem_singleton.mp hb; rw [e]; assumption)
theorem turn_zip3S {P : Program} {w : World} {K : PySem.W.Frag} {elts : List Expr} {kk : Nat} {tpos : Pos} {b1 b2 b3 : Bool} {a1 a2 a3 N : Addr} (h1 : a1 < N) (h2 : a2 < N) (h3 : a3 < N) :
    Turn P w K (.Tuple elts kk tpos) (ItZ3 K b1 b2 b3 a1 a2 a3) [N + 5, N + 3, N + 4, N, N + 1, N + 2] (N + 5)
      (fun i h => IsZip h (N + 5) (N + 3) (N + 4) .none ∧ IsTupOf3 h (N + 3) (.ref N) (.ref (N + 1)) (.ref (N + 2)) ∧ (∃ x y z, IsTupOf3 h (N + 4) x y z) ∧ IterS b1 h N a1 i ∧ IterS b2 h (N + 1) a2 i ∧ IterS b3 h (N + 2) a3 i) := by
  have h1' : (a1 : Nat) < N := h1
  have h2' : (a2 : Nat) < N := h2
  have h3' : (a3 : Nat) < N := h3
  refine turn_goes (wr := [N + 5, N + 4, N, N + 1, N + 2]) (by simp) (fun c hc => ?_) (fun i h st c hb => ?_) (fun i h h' st k => ?_) (fun A i s Q E st h => ?_) fun X hP hw hK A hh i pins s σ H I hg st => ?_
  · have e : c = N + 5 ∨ c = N + 4 ∨ c = N ∨ c = N + 1 ∨ c = N + 2 := by simpa using hc
    rcases e with e | e | e | e | e <;> (rw [e]; simp)
  · obtain ⟨hz, hTI, ⟨x, y, z, hTO⟩, q1, q2, q3⟩ := st
    have e : c = N + 5 ∨ c = N + 3 ∨ c = N + 4 ∨ c = N ∨ c = N + 1 ∨ c = N + 2 := by simpa using hb
    rcases e with e | e | e | e | e | e
    · rw [e]; exact ⟨_, hz, fun v q => nomatch q⟩
    · rw [e]; exact ⟨_, hTI, fun v q => nomatch q⟩
    · rw [e]; exact ⟨_, hTO, fun v q => nomatch q⟩
    · rw [e]; exact q1.obj
    · rw [e]; exact q2.obj
    · rw [e]; exact q3.obj
  · obtain ⟨hz, hTI, ⟨x, y, z, hTO⟩, q1, q2, q3⟩ := st
    exact ⟨k _ (by simp) _ hz, k _ (by simp) _ hTI, ⟨x, y, z, k _ (by simp) _ hTO⟩, q1.at fun o q => k _ (by simp) o q, q2.at fun o q => k _ (by simp) o q, q3.at fun o q => k _ (by simp) o q⟩
  · exact wpAny_pyIter_zip st.1 h
  · subst hP hw hK
    obtain ⟨hz, hTI, hTO, q1, q2, q3⟩ := st
    have hsrc : ∃ xs ys zs, SqS X.K b1 H a1 xs ∧ SqS X.K b2 H a2 ys ∧ SqS X.K b3 H a3 zs := by
      rcases hg with ⟨xs, ys, zs, _, _, _, q1, q2, q3, _⟩ | ⟨xs, ys, zs, q1, q2, q3, _⟩
      · exact ⟨xs, ys, zs, q1, q2, q3⟩
      · exact ⟨xs, ys, zs, q1, q2, q3⟩
    obtain ⟨xs, ys, zs, hx, hy, hw⟩ := hsrc
    obtain ⟨its, rv, p, _⟩ := Inv.seqS I hx
    obtain ⟨its2, rv2, p2, _⟩ := Inv.seqS I hy
    obtain ⟨its3, rv3, p3, _⟩ := Inv.seqS I hw
    have hh' : A.in1.handled = none := hh
    have D1 := draws_S (P := X.prog) (w := X.w) (A := A.in1) hh' b1 N a1 (Nat.ne_of_lt h1) its.toArray
    have D2 := draws_S (P := X.prog) (w := X.w) (A := A.in1) hh' b2 (N + 1) a2 (Nat.ne_of_lt (Nat.lt_succ_of_lt h2)) its2.toArray
    have D3 := draws_S (P := X.prog) (w := X.w) (A := A.in1) hh' b3 (N + 2) a3 (Nat.ne_of_lt (Nat.lt_succ_of_lt (Nat.lt_succ_of_lt h3))) its3.toArray
    have G := GoesN.zip3 (elts := elts) (x1 := kk) (pos := tpos) (sep3 (z := N + 5) (TI := N + 3) (TO := N + 4) (i1 := N) (i2 := N + 1) (i3 := N + 2) h1 h2 h3 rfl rfl rfl rfl rfl rfl) D1 D2 D3
    have e1 : its.toArray.size = xs.length := by rw [List.size_toArray, ← rv.length]
    have e2 : its2.toArray.size = ys.length := by rw [List.size_toArray, ← rv2.length]
    have e3 : its3.toArray.size = zs.length := by rw [List.size_toArray, ← rv3.length]
    refine ⟨_, _, _, _, G, ⟨hz, hTI, hTO, ⟨q1, p⟩, ⟨q2, p2⟩, ⟨q3, p3⟩⟩, fun ⟨us, ws, ts, x, y, z, g1, g2, g3, g4, g5, g6⟩ => ?_, fun ⟨us, ws, ts, g1, g2, g3, hl⟩ => ?_, fun h' st' => ?_, fun v h' hY => ?_⟩
    · have z1 := Inv.injS I g1 hx
      have z2 := Inv.injS I g2 hy
      have z3 := Inv.injS I g3 hw
      subst z1
      subst z2
      subst z3
      have l1 := (List.getElem?_eq_some_iff.mp g4).1
      have l2 := (List.getElem?_eq_some_iff.mp g5).1
      have l3 := (List.getElem?_eq_some_iff.mp g6).1
      rw [e1, e2, e3]
      omega
    · have z1 := Inv.injS I g1 hx
      have z2 := Inv.injS I g2 hy
      have z3 := Inv.injS I g3 hw
      subst z1
      subst z2
      subst z3
      rw [e1, e2, e3]
      exact hl
    · obtain ⟨a, b, c, d, e, f⟩ := st'
      exact ⟨a, b, c, d.1, e.1, f.1⟩
    · obtain ⟨T, x, y, z, ev, hT, g1, g2, g3, ht⟩ := hY
      have g1' : its[i]? = some x := by simpa using g1
      have g2' : its2[i]? = some y := by simpa using g2
      have g3' : its3[i]? = some z := by simpa using g3
      have l1 : i < xs.length := by rw [rv.length]; exact (List.getElem?_eq_some_iff.mp g1').1
      have l2 : i < ys.length := by rw [rv2.length]; exact (List.getElem?_eq_some_iff.mp g2').1
      have l3 : i < zs.length := by rw [rv3.length]; exact (List.getElem?_eq_some_iff.mp g3').1
      obtain ⟨u, hu, ru⟩ := rv.get (List.getElem?_eq_getElem l1)
      obtain ⟨u2, hu2, ru2⟩ := rv2.get (List.getElem?_eq_getElem l2)
      obtain ⟨u3, hu3, ru3⟩ := rv3.get (List.getElem?_eq_getElem l3)
      rw [g1'] at hu
      rw [g2'] at hu2
      rw [g3'] at hu3
      cases hu
      cases hu2
      cases hu3
      exact ⟨T, [x, y, z], [xs[i], ys[i], zs[i]], ev, hT, ht, .cons ru (.cons ru2 (.cons ru3 .nil)), by show 3 ≤ sizeLine; decide, T, xs[i], ys[i], zs[i], rfl, I.hok.fresh hT, rfl, fun l hl => by rw [Inv.injS I hl hx]; exact List.getElem?_eq_getElem l1, fun l hl => by rw [Inv.injS I hl hy]; exact List.getElem?_eq_getElem l2, fun l hl => by rw [Inv.injS I hl hw]; exact List.getElem?_eq_getElem l3⟩
def iZip3 (K : PySem.W.Frag) (ta : TA) : TI := fun σ H R => ta σ H fun vs H1 => ∃ b1 b2 b3 a1 a2 a3 xs ys zs, vs = [.ref a1, .ref a2, .ref a3] ∧ SqS K b1 H1 a1 xs ∧ SqS K b2 H1 a2 ys ∧ SqS K b3 H1 a3 zs ∧ R (ItZ3 K b1 b2 b3 a1 a2 a3) H1
section
variable {X : Cx}
theorem pi_zip3S {e e2 e3 : Expr} {ta : TA} {p pos tpos : Pos} {elts : List Expr} {kk : Nat} (hm : X.mg "zip" = none) (ha : PA X [e, e2, e3] ta) (hg : Gl X "zip" := by rfl)
    (hs : starEach [e, e2, e3] X.env = (false, eval e X.env) :: starEach [e2, e3] X.env := by rfl) (hpl : (backTo pos (starEach [e2, e3] X.env)).any (·.1) = false := by rfl) :
    PI X (.Tuple elts kk tpos) (.Call (.Name "zip" p) [e, e2, e3] [] pos) (iZip3 X.K ta) := by
  refine ⟨fun pins s σ H R I h => ?_⟩
  refine Call_ (ld_blt I hg hm PyProof.Rows.boot_zip (PyProof.Rows.callWith_type1 (thn (ha.run pos pins s σ H _ I h) fun us s1 ⟨vs, H1, I1, r1, q1⟩ => ?_) hs hpl))
  obtain ⟨b1, b2, b3, a1, a2, a3, xs, ys, zs, ex, hx, hy, hw, q⟩ := q1
  subst ex
  cases r1 with
  | cons r rr =>
    cases rr with
    | cons r' rr =>
      cases rr with
      | cons r'' rr =>
        cases rr
        cases r
        cases r'
        cases r''
        obtain ⟨its, rv, p1, l1⟩ := Inv.seqS I1 hx
        obtain ⟨its2, rv2, p2, l2⟩ := Inv.seqS I1 hy
        obtain ⟨its3, rv3, p3, l3⟩ := Inv.seqS I1 hw
        refine zip_begins3 (begins_S b1 a1 its.toArray) (begins_S b2 a2 its2.toArray) (begins_S b3 a3 its3.toArray) p1 p2 p3 fun h' hz hTI hTO g1 g2 g3 hsz hk => wpAny_pyIter_zip hz ?_
        have I2 : Inv X pins σ H1 { s1 with heap := h' } := I1.kept (t' := s1.toks) hk
        refine ⟨s1.heap.objs.size + 5, _, _, _, H1, rfl, I2, turn_zip3S (b1 := b1) (b2 := b2) (b3 := b3) l1 l2 l3, ⟨hz, hTI, ⟨_, _, _, hTO⟩, IterS.new g1, IterS.new g2, IterS.new g3⟩, fp_above I1 fun c hc => ?_, q⟩
        have e' : c = s1.heap.objs.size + 5 ∨ c = s1.heap.objs.size + 3 ∨ c = s1.heap.objs.size + 4 ∨ c = s1.heap.objs.size ∨ c = s1.heap.objs.size + 1 ∨ c = s1.heap.objs.size + 2 := by simpa using hc
        rcases e' with z | z | z | z | z | z
        · rw [z]; exact Nat.le_add_right _ _
        · rw [z]; exact Nat.le_add_right _ _
        · rw [z]; exact Nat.le_add_right _ _
        · rw [z]; exact Nat.le_refl _
        · rw [z]; exact Nat.le_add_right _ _
        · rw [z]; exact Nat.le_add_right _ _
end
end DL
/-! The data layer: loops and comprehensions. -/
namespace DL
open PySem PySem.Spec PyProof.Rows L2
/-! ### what an iterable gives -/
structure Gives (K : PySem.W.Frag) (F1 : Hp) (J : It) (items : List D) : Prop where
  go : ∀ i H, Same F1 H → i < items.length → J.go i H
  stop : ∀ H, Same F1 H → J.stop items.length H
  yld : ∀ i F H x H', Same F1 F → Same F H → i < items.length → J.yld i H x H' → ∃ F' d, Grow F H F' H' ∧ Same F' H' ∧ items[i]? = some d ∧ Rp K F' d x
theorem SqS.mono {K : PySem.W.Frag} {H H' : Hp} (s : Same H H') : ∀ {b : Bool} {a : Addr} {xs : List V}, SqS K b H a xs → SqS K b H' a xs
  | true, _, _, h => s.seq h
  | false, _, _, h => Same.tseq s h
theorem gives_list {K : PySem.W.Frag} {F : Hp} {a : Addr} {vs : List V} {ds : List D} (h : SqL K F a vs) (r : RpL K F ds vs) : Gives K F (Itl K a) ds where
  go := fun i H s hi => ⟨vs, vs[i]'(by rw [← r.length]; exact hi), s.seq h, List.getElem?_eq_getElem _⟩
  stop := fun H s => ⟨vs, s.seq h, by rw [r.length]; exact Nat.le_refl _⟩
  yld := fun i F1 H x H' s1 s2 hi y => by
    obtain ⟨e, g⟩ := y
    subst e
    obtain ⟨v, hv, rv⟩ := r.get (List.getElem?_eq_getElem hi)
    have := g vs ((s1.trans s2).seq h)
    rw [hv] at this
    cases this
    exact ⟨F1, ds[i], Grow.refl _ _, s2, List.getElem?_eq_getElem hi, rv.mono s1⟩
theorem gives_tup {K : PySem.W.Frag} {F : Hp} {a : Addr} {vs : List V} {ds : List D} (h : SqT K F a vs) (r : RpL K F ds vs) : Gives K F (Itt K a) ds where
  go := fun i H s hi => ⟨vs, vs[i]'(by rw [← r.length]; exact hi), Same.tseq s h, List.getElem?_eq_getElem _⟩
  stop := fun H s => ⟨vs, Same.tseq s h, by rw [r.length]; exact Nat.le_refl _⟩
  yld := fun i F1 H x H' s1 s2 hi y => by
    obtain ⟨e, g⟩ := y
    subst e
    obtain ⟨v, hv, rv⟩ := r.get (List.getElem?_eq_getElem hi)
    have := g vs (Same.tseq (s1.trans s2) h)
    rw [hv] at this
    cases this
    exact ⟨F1, ds[i], Grow.refl _ _, s2, List.getElem?_eq_getElem hi, rv.mono s1⟩
def rangeD (lo : Int) (n : Nat) : List D := (List.range n).map fun i => D.int (lo + (i : Nat))
theorem rangeD_get {lo : Int} {n i : Nat} (h : i < n) : (rangeD lo n)[i]? = some (.int (lo + (i : Nat))) := by
  unfold rangeD
  rw [List.getElem?_map, List.getElem?_range h]
  rfl
theorem rangeD_len (lo : Int) (n : Nat) : (rangeD lo n).length = n := by unfold rangeD; rw [List.length_map, List.length_range]
theorem gives_range {K : PySem.W.Frag} {F : Hp} {lo : Int} {n : Nat} : Gives K F (Itr lo n) (rangeD lo n) where
  go := fun i H s hi => by rw [rangeD_len] at hi; exact hi
  stop := fun H s => by rw [rangeD_len]; exact Nat.le_refl _
  yld := fun i F1 H x H' s1 s2 hi y => by
    obtain ⟨e, g⟩ := y
    subst e
    rw [rangeD_len] at hi
    exact ⟨F1, _, Grow.refl _ _, s2, rangeD_get hi, g⟩
def rangeCD (lo c : Int) (n : Nat) : List D := (List.range n).map fun i => D.int (lo + (i : Nat) * c)
theorem rangeCD_len (lo c : Int) (n : Nat) : (rangeCD lo c n).length = n := by unfold rangeCD; rw [List.length_map, List.length_range]
theorem gives_rangeC {K : PySem.W.Frag} {F : Hp} {lo c : Int} {n : Nat} : Gives K F (Itc lo c n) (rangeCD lo c n) where
  go := fun i H s hi => by rw [rangeCD_len] at hi; exact hi
  stop := fun H s => by rw [rangeCD_len]; exact Nat.le_refl _
  yld := fun i F1 H x H' s1 s2 hi y => by
    obtain ⟨e, g⟩ := y
    subst e
    rw [rangeCD_len] at hi
    refine ⟨F1, .int (lo + (i : Nat) * c), Grow.refl _ _, s2, ?_, g⟩
    unfold rangeCD
    rw [List.getElem?_map, List.getElem?_range hi]
    rfl
theorem new_tup {K : PySem.W.Frag} {F H : Hp} {T : Addr} {ds : List D} {vs : List V} (sb : Same F H) (hT : H T = none) (r : RpL K F ds vs) : Grow F H (upd F T (.tup vs)) (upd H T (.tup vs)) ∧ Same (upd F T (.tup vs)) (upd H T (.tup vs)) ∧ Rp K (upd F T (.tup vs)) (.tup ds) (.ref T) := by
  obtain ⟨g, s⟩ := grow_upd (o := .tup vs) sb hT
  exact ⟨g, s, T, vs, rfl, SqT.of upd_same, r.mono g.f⟩
def enumD (ds : List D) : List D := ds.zipIdx.map fun p => D.tup [.int (p.2 : Nat), p.1]
theorem enumD_len (ds : List D) : (enumD ds).length = ds.length := by unfold enumD; rw [List.length_map, List.length_zipIdx]
theorem enumD_get {ds : List D} {i : Nat} {d : D} (h : ds[i]? = some d) : (enumD ds)[i]? = some (.tup [.int (i : Nat), d]) := by
  unfold enumD
  rw [List.getElem?_map, List.getElem?_zipIdx, h]
  simp
theorem gives_enum {K : PySem.W.Frag} {F : Hp} {b : Bool} {a : Addr} {vs : List V} {ds : List D} (h : SqS K b F a vs) (r : RpL K F ds vs) : Gives K F (ItE K b a) (enumD ds) where
  go := fun i H s hi => by
    rw [enumD_len] at hi
    exact ⟨vs, vs[i]'(by rw [← r.length]; exact hi), h.mono s, List.getElem?_eq_getElem _⟩
  stop := fun H s => ⟨vs, h.mono s, by rw [enumD_len, r.length]⟩
  yld := fun i F1 H x H' s1 s2 hi y => by
    obtain ⟨T, u, e1, e2, e3, g⟩ := y
    subst e1
    subst e3
    rw [enumD_len] at hi
    obtain ⟨v, hv, rv⟩ := r.get (List.getElem?_eq_getElem hi)
    have := g vs (h.mono (s1.trans s2))
    rw [hv] at this
    cases this
    obtain ⟨g1, g2, g3⟩ := new_tup (ds := [.int (i : Nat), ds[i]]) s2 e2 ⟨_, _, rfl, rfl, RpL.one (rv.mono s1)⟩
    exact ⟨_, _, g1, g2, enumD_get (List.getElem?_eq_getElem hi), g3⟩
def zipD2 (xs ys : List D) : List D := (xs.zip ys).map fun p => D.tup [p.1, p.2]
theorem zipD2_len (xs ys : List D) : (zipD2 xs ys).length = min xs.length ys.length := by unfold zipD2; rw [List.length_map, List.length_zip]
theorem zipD2_get {xs ys : List D} {i : Nat} {x y : D} (h : xs[i]? = some x) (h2 : ys[i]? = some y) : (zipD2 xs ys)[i]? = some (.tup [x, y]) := by
  unfold zipD2
  rw [List.getElem?_map, (List.getElem?_zip_eq_some (z := (x, y))).mpr ⟨h, h2⟩]
  rfl
theorem gives_zip2 {K : PySem.W.Frag} {F : Hp} {b1 b2 : Bool} {a1 a2 : Addr} {vs us : List V} {ds es : List D} (h : SqS K b1 F a1 vs) (r : RpL K F ds vs) (h2 : SqS K b2 F a2 us) (r2 : RpL K F es us) : Gives K F (ItZ2 K b1 b2 a1 a2) (zipD2 ds es) where
  go := fun i H s hi => by
    rw [zipD2_len] at hi
    exact ⟨vs, us, vs[i]'(by rw [← r.length]; omega), us[i]'(by rw [← r2.length]; omega), h.mono s, h2.mono s, List.getElem?_eq_getElem _, List.getElem?_eq_getElem _⟩
  stop := fun H s => ⟨vs, us, h.mono s, h2.mono s, by rw [zipD2_len, r.length, r2.length]⟩
  yld := fun i F1 H x H' s1 s2 hi y => by
    obtain ⟨T, u, w, e1, e2, e3, g, g2⟩ := y
    subst e1
    subst e3
    rw [zipD2_len] at hi
    have l1 : i < ds.length := by omega
    have l2 : i < es.length := by omega
    obtain ⟨v, hv, rv⟩ := r.get (List.getElem?_eq_getElem l1)
    obtain ⟨v2, hv2, rv2⟩ := r2.get (List.getElem?_eq_getElem l2)
    have q := g vs (h.mono (s1.trans s2))
    have q2 := g2 us (h2.mono (s1.trans s2))
    rw [hv] at q
    rw [hv2] at q2
    cases q
    cases q2
    obtain ⟨g1, g2, g3⟩ := new_tup (ds := [ds[i], es[i]]) s2 e2 ⟨_, _, rfl, rv.mono s1, RpL.one (rv2.mono s1)⟩
    exact ⟨_, _, g1, g2, zipD2_get (List.getElem?_eq_getElem l1) (List.getElem?_eq_getElem l2), g3⟩
def zipD3 : List D → List D → List D → List D
  | x :: xs, y :: ys, z :: zs => .tup [x, y, z] :: zipD3 xs ys zs
  | _, _, _ => []
theorem zipD3_len : ∀ xs ys zs : List D, (zipD3 xs ys zs).length = min (min xs.length ys.length) zs.length
  | [], _, _ => by simp [zipD3]
  | _ :: _, [], _ => by simp [zipD3]
  | _ :: _, _ :: _, [] => by simp [zipD3]
  | x :: xs, y :: ys, z :: zs => by
    have := zipD3_len xs ys zs
    simp only [zipD3, List.length_cons, this]
    omega
theorem zipD3_get : ∀ {xs ys zs : List D} {i : Nat} {x y z : D}, xs[i]? = some x → ys[i]? = some y → zs[i]? = some z → (zipD3 xs ys zs)[i]? = some (.tup [x, y, z])
  | [], _, _, _, _, _, _, h, _, _ => by simp at h
  | _ :: _, [], _, _, _, _, _, _, h, _ => by simp at h
  | _ :: _, _ :: _, [], _, _, _, _, _, _, h => by simp at h
  | x :: xs, y :: ys, z :: zs, 0, _, _, _, h1, h2, h3 => by
    simp at h1 h2 h3
    subst h1 h2 h3
    rfl
  | x :: xs, y :: ys, z :: zs, i + 1, _, _, _, h1, h2, h3 => by
    have := zipD3_get (xs := xs) (ys := ys) (zs := zs) (i := i) (by simpa using h1) (by simpa using h2) (by simpa using h3)
    simpa [zipD3] using this
theorem gives_zip3 {K : PySem.W.Frag} {F : Hp} {b1 b2 b3 : Bool} {a1 a2 a3 : Addr} {vs us ws : List V} {ds es fs : List D} (h : SqS K b1 F a1 vs) (r : RpL K F ds vs) (h2 : SqS K b2 F a2 us) (r2 : RpL K F es us) (h3 : SqS K b3 F a3 ws) (r3 : RpL K F fs ws) :
    Gives K F (ItZ3 K b1 b2 b3 a1 a2 a3) (zipD3 ds es fs) where
  go := fun i H s hi => by
    rw [zipD3_len] at hi
    exact ⟨vs, us, ws, vs[i]'(by rw [← r.length]; omega), us[i]'(by rw [← r2.length]; omega), ws[i]'(by rw [← r3.length]; omega), h.mono s, h2.mono s, h3.mono s, List.getElem?_eq_getElem _, List.getElem?_eq_getElem _, List.getElem?_eq_getElem _⟩
  stop := fun H s => ⟨vs, us, ws, h.mono s, h2.mono s, h3.mono s, by rw [zipD3_len, r.length, r2.length, r3.length]⟩
  yld := fun i F1 H x H' s1 s2 hi y => by
    obtain ⟨T, u, w, t, e1, e2, e3, g, g2, g3⟩ := y
    subst e1
    subst e3
    rw [zipD3_len] at hi
    have l1 : i < ds.length := by omega
    have l2 : i < es.length := by omega
    have l3 : i < fs.length := by omega
    obtain ⟨v, hv, rv⟩ := r.get (List.getElem?_eq_getElem l1)
    obtain ⟨v2, hv2, rv2⟩ := r2.get (List.getElem?_eq_getElem l2)
    obtain ⟨v3, hv3, rv3⟩ := r3.get (List.getElem?_eq_getElem l3)
    have q := g vs (h.mono (s1.trans s2))
    have q2 := g2 us (h2.mono (s1.trans s2))
    have q3 := g3 ws (h3.mono (s1.trans s2))
    rw [hv] at q
    rw [hv2] at q2
    rw [hv3] at q3
    cases q
    cases q2
    cases q3
    obtain ⟨g1, g2, g3⟩ := new_tup (ds := [ds[i], es[i], fs[i]]) s2 e2 ⟨_, _, rfl, rv.mono s1, _, _, rfl, rv2.mono s1, RpL.one (rv3.mono s1)⟩
    exact ⟨_, _, g1, g2, zipD3_get (List.getElem?_eq_getElem l1) (List.getElem?_eq_getElem l2) (List.getElem?_eq_getElem l3), g3⟩
/-! ### iterables -/
abbrev DI := En → (List D → En → Prop) → DX → Prop
def rI (B : Bd) (W : WX) (it : DI) : TI := fun σ H R => ∃ F L ρ Qd Ed, SR B F L σ H ρ ∧ it ρ Qd Ed ∧
  (∀ items ρ' F' L' H' J, Qd items ρ' → SR B F' L' σ H' ρ' → Stp F L H F' L' H' → Gives B.K F' J items → R J H') ∧ XOk B W F Ed
def seqOf : D → Option (List D)
  | .tup ds => some ds
  | .lst ds => some ds
  | .fix ds => some ds
  | _ => none
theorem seqOf_ok {K : PySem.W.Frag} {F : Hp} : ∀ {d : D} {v : V} {ds : List D}, Rp K F d v → seqOf d = some ds → ∃ a vs b, v = .ref a ∧ SqS K b F a vs ∧ RpL K F ds vs
  | .tup _, _, _, ⟨a, vs, e, q, r⟩, z => by cases z; exact ⟨a, vs, false, e, q, r⟩
  | .lst _, _, _, ⟨a, vs, e, q, r⟩, z => by cases z; exact ⟨a, vs, true, e, SqL.of q, r⟩
  | .fix _, _, _, ⟨a, vs, e, q, r⟩, z => by cases z; exact ⟨a, vs, true, e, q, r⟩
  | .non, _, _, _, z => by cases z
  | .bl _, _, _, _, z => by cases z
  | .int _, _, _, _, z => by cases z
  | .str _, _, _, _, z => by cases z
  | .dic _ _, _, _, _, z => by cases z
  | .ty _, _, _, _, z => by cases z
/-- of a list, a tuple -/
def iSq (t : DE) : DI := fun ρ Q E => t ρ (fun d ρ1 => match seqOf d with
  | some ds => Q ds ρ1
  | none => False) E
def lim62 (i : Int) : Prop := -(2 ^ 62) ≤ i ∧ i < 2 ^ 62
def iRg1 (t : DE) : DI := fun ρ Q E => t ρ (fun d ρ1 => match d with
  | .int n => lim62 n ∧ Q (rangeD 0 n.toNat) ρ1
  | _ => False) E
def iRg2 (t u : DE) : DI := fun ρ Q E => t ρ (fun d ρ1 => u ρ1 (fun e ρ2 => match d, e with
  | .int m, .int n => lim62 m ∧ lim62 n ∧ Q (rangeD m (n - m).toNat) ρ2
  | _, _ => False) E) E
/-- range(a, b, -1) -/
def iRgD (t u w : DE) : DI := fun ρ Q E => t ρ (fun d ρ1 => u ρ1 (fun e ρ2 => w ρ2 (fun f ρ3 => match d, e, f with
  | .int m, .int n, .int c => c = -1 ∧ lim62 m ∧ lim62 n ∧ Q (rangeCD m (-1) (m - n).toNat) ρ3
  | _, _, _ => False) E) E) E
def iEn (t : DE) : DI := fun ρ Q E => t ρ (fun d ρ1 => match seqOf d with
  | some ds => Q (enumD ds) ρ1
  | none => False) E
def iZp2 (t u : DE) : DI := fun ρ Q E => t ρ (fun d ρ1 => u ρ1 (fun e ρ2 => match seqOf d, seqOf e with
  | some ds, some es => Q (zipD2 ds es) ρ2
  | _, _ => False) E) E
def iZp3 (t u w : DE) : DI := fun ρ Q E => t ρ (fun d ρ1 => u ρ1 (fun e ρ2 => w ρ2 (fun f ρ3 => match seqOf d, seqOf e, seqOf f with
  | some ds, some es, some fs => Q (zipD3 ds es fs) ρ3
  | _, _, _ => False) E) E) E
section
variable {X : Cx} {B : Bd} {W : WX} {tg : Expr} {pos p : Pos}
theorem pi_imp {e : Expr} {t u : TI} (h : PI X tg e t) (i : ∀ σ H R, u σ H R → t σ H R) : PI X tg e u := ⟨fun pins s σ H R I q => h.run pins s σ H R I (i σ H R q)⟩
theorem di_sq {e : Expr} {t : DE} (he : PE X e (rV B W t)) (hK : B.K = X.K := by rfl) : PI X tg e (rI B W (iSq t)) := by
  refine pi_imp (pi_seq he) fun σ H R ⟨F, L, ρ, Qd, Ed, S, ht, hq, hx⟩ => ⟨F, L, ρ, _, Ed, S, ht, fun d ρ' v F' L' H' k S' s r => ?_, hx⟩
  split at k
  · rename_i ds e
    obtain ⟨a, vs, b, ev, q, rl⟩ := seqOf_ok r e
    subst ev
    refine ⟨a, rfl, ?_⟩
    cases b with
    | true => exact .inl ⟨⟨vs, hK ▸ S'.sub.seq q⟩, hq ds ρ' F' L' H' _ k S' s (hK ▸ gives_list q rl)⟩
    | false => exact .inr ⟨⟨vs, hK ▸ Same.tseq S'.sub q⟩, hq ds ρ' F' L' H' _ k S' s (hK ▸ gives_tup q rl)⟩
  · exact k.elim
/-! frozen arguments -/
def q1 (k : D → En → Prop) : List AV → En → Prop
  | [.inl d], ρ => k d ρ
  | _, _ => False
def q2 (k : D → D → En → Prop) : List AV → En → Prop
  | [.inl d, .inl e], ρ => k d e ρ
  | _, _ => False
def q3 (k : D → D → D → En → Prop) : List AV → En → Prop
  | [.inl d, .inl e, .inl f], ρ => k d e f ρ
  | _, _ => False
theorem q1_ok {k : D → En → Prop} {xs : List AV} {ρ : En} (h : q1 k xs ρ) : ∃ d, xs = [.inl d] ∧ k d ρ := by
  unfold q1 at h
  split at h
  · exact ⟨_, rfl, h⟩
  · exact h.elim
theorem q2_ok {k : D → D → En → Prop} {xs : List AV} {ρ : En} (h : q2 k xs ρ) : ∃ d e, xs = [.inl d, .inl e] ∧ k d e ρ := by
  unfold q2 at h
  split at h
  · exact ⟨_, _, rfl, h⟩
  · exact h.elim
theorem q3_ok {k : D → D → D → En → Prop} {xs : List AV} {ρ : En} (h : q3 k xs ρ) : ∃ d e f, xs = [.inl d, .inl e, .inl f] ∧ k d e f ρ := by
  unfold q3 at h
  split at h
  · exact ⟨_, _, _, rfl, h⟩
  · exact h.elim
theorem args1 {K : PySem.W.Frag} {F : Hp} {L : La} {d : D} {vs : List V} (h : ArgVs K F L [.inl d] vs) : ∃ v, vs = [v] ∧ Rp K F d v := by
  obtain ⟨v, r, e, h1, h2⟩ := h
  cases (show r = [] from h2)
  exact ⟨v, e, h1⟩
theorem args2 {K : PySem.W.Frag} {F : Hp} {L : La} {d e : D} {vs : List V} (h : ArgVs K F L [.inl d, .inl e] vs) : ∃ v u, vs = [v, u] ∧ Rp K F d v ∧ Rp K F e u := by
  obtain ⟨v, r, ev, h1, h2⟩ := h
  obtain ⟨u, e, h3⟩ := args1 h2
  subst e
  exact ⟨v, u, ev, h1, h3⟩
theorem args3 {K : PySem.W.Frag} {F : Hp} {L : La} {d e f : D} {vs : List V} (h : ArgVs K F L [.inl d, .inl e, .inl f] vs) : ∃ v u w, vs = [v, u, w] ∧ Rp K F d v ∧ Rp K F e u ∧ Rp K F f w := by
  obtain ⟨v, r, ev, h1, h2⟩ := h
  obtain ⟨u, w, e, h3, h4⟩ := args2 h2
  subst e
  exact ⟨v, u, w, ev, h1, h3, h4⟩
theorem da1 {e : Expr} {t : DE} (he : PE X e (rV B W t)) (hs : starEach [e] X.env = (false, eval e X.env) :: starEach [] X.env := by rfl) : PA X [e] (rA B W [.e t]) := da_cons (dx_e he) da_nil hs
theorem di_rg1 {e : Expr} {t : DE} (hm : X.mg "range" = none) (he : PE X e (rV B W t)) (hg : Gl X "range" := by rfl) (hs : starEach [e] X.env = [(false, eval e X.env)] := by rfl) : PI X tg (.Call (.Name "range" p) [e] [] pos) (rI B W (iRg1 t)) := by
  refine pi_imp (pi_range1 hg hm (da1 he hs) hs) fun σ H R ⟨F, L, ρ, Qd, Ed, S, ht, hq, hx⟩ => ⟨F, L, ρ, q1 _, Ed, S, ht, fun xs ρ' vs F' L' H' k S' s r => ?_, hx⟩
  obtain ⟨d, e, z⟩ := q1_ok k
  clear k
  have k := z
  subst e
  obtain ⟨v, ev, r1⟩ := args1 r
  clear r
  cases d <;> first | (exact False.elim k) | skip
  rename_i n
  cases (show v = .int n from r1)
  exact ⟨n, ev, k.1.1, k.1.2, hq _ ρ' F' L' H' _ k.2 S' s gives_range⟩
theorem di_rg2 {a b : Expr} {t u : DE} (hm : X.mg "range" = none) (ha : PE X a (rV B W t)) (hb : PE X b (rV B W u)) (hg : Gl X "range" := by rfl) (hs : starEach [a, b] X.env = [(false, eval a X.env), (false, eval b X.env)] := by rfl) (hs2 : starEach [b] X.env = [(false, eval b X.env)] := by rfl)
    (hs3 : starEach (a :: [b]) X.env = (false, eval a X.env) :: starEach [b] X.env := by rfl) : PI X tg (.Call (.Name "range" p) [a, b] [] pos) (rI B W (iRg2 t u)) := by
  refine pi_imp (pi_range2 hg hm (da_cons (dx_e ha) (da1 hb hs2) hs3) hs hs2) fun σ H R ⟨F, L, ρ, Qd, Ed, S, ht, hq, hx⟩ => ⟨F, L, ρ, q2 _, Ed, S, ht, fun xs ρ' vs F' L' H' k S' s r => ?_, hx⟩
  obtain ⟨d, e, e1, z⟩ := q2_ok k
  clear k
  have k := z
  subst e1
  obtain ⟨v, w, e2, r1, r2⟩ := args2 r
  cases d <;> first | (exact False.elim k) | skip
  cases e <;> first | (exact False.elim k) | skip
  rename_i m n
  cases (show v = .int m from r1)
  cases (show w = .int n from r2)
  obtain ⟨k1, k2, k3⟩ : lim62 m ∧ lim62 n ∧ Qd (rangeD m (n - m).toNat) ρ' := k
  exact ⟨m, n, e2, ⟨k1.1, k1.2, k2.1, k2.2⟩, hq _ ρ' F' L' H' _ k3 S' s gives_range⟩
theorem di_rgd {a b c : Expr} {t u w : DE} (hm : X.mg "range" = none) (ha : PE X a (rV B W t)) (hb : PE X b (rV B W u)) (hc : PE X c (rV B W w)) (hg : Gl X "range" := by rfl)
    (hs : starEach [a, b, c] X.env = (false, eval a X.env) :: starEach [b, c] X.env := by rfl) (hs2 : starEach [b, c] X.env = (false, eval b X.env) :: starEach [c] X.env := by rfl) (hs3 : starEach [c] X.env = (false, eval c X.env) :: starEach [] X.env := by rfl) (hpl : (backTo pos (starEach [b, c] X.env)).any (·.1) = false := by rfl) : PI X tg (.Call (.Name "range" p) [a, b, c] [] pos) (rI B W (iRgD t u w)) := by
  refine pi_imp (pi_range3 hg hm (da_cons (dx_e ha) (da_cons (dx_e hb) (da1 hc hs3) hs2) hs) hs hpl) fun σ H R ⟨F, L, ρ, Qd, Ed, S, ht, hq, hx⟩ => ⟨F, L, ρ, q3 _, Ed, S, ht, fun xs ρ' vs F' L' H' k S' s r => ?_, hx⟩
  obtain ⟨d, e, f, e1, z⟩ := q3_ok k
  clear k
  have k := z
  subst e1
  obtain ⟨v, w, x, e2, r1, r2, r3⟩ := args3 r
  cases d <;> first | (exact False.elim k) | skip
  cases e <;> first | (exact False.elim k) | skip
  cases f <;> first | (exact False.elim k) | skip
  rename_i m n c
  cases (show v = .int m from r1)
  cases (show w = .int n from r2)
  cases (show x = .int c from r3)
  obtain ⟨k0, k1, k2, k3⟩ : c = -1 ∧ lim62 m ∧ lim62 n ∧ Qd (rangeCD m (-1) (m - n).toNat) ρ' := k
  subst k0
  exact ⟨m, n, -1, _, e2, RgC.neg k1.1 k1.2 k2.1 k2.2, hq _ ρ' F' L' H' _ k3 S' s gives_rangeC⟩
theorem di_en {e : Expr} {t : DE} {elts : List Expr} {kk : Nat} {tpos : Pos} (hm : X.mg "enumerate" = none) (he : PE X e (rV B W t)) (hg : Gl X "enumerate" := by rfl) (hs : starEach [e] X.env = [(false, eval e X.env)] := by rfl) (hK : B.K = X.K := by rfl) :
    PI X (.Tuple elts kk tpos) (.Call (.Name "enumerate" p) [e] [] pos) (rI B W (iEn t)) := by
  refine pi_imp (pi_enumS hm (da1 he hs) hg hs) fun σ H R ⟨F, L, ρ, Qd, Ed, S, ht, hq, hx⟩ => ⟨F, L, ρ, q1 _, Ed, S, ht, fun xs ρ' vs F' L' H' k S' s r => ?_, hx⟩
  obtain ⟨d, e, z⟩ := q1_ok k
  clear k
  have k := z
  subst e
  obtain ⟨v, e, r⟩ := args1 r
  split at k
  · rename_i ds es
    obtain ⟨a, us, b, ev, q, rl⟩ := seqOf_ok r es
    subst ev
    exact ⟨b, a, us, e, hK ▸ q.mono S'.sub, hq _ ρ' F' L' H' _ k S' s (hK ▸ gives_enum q rl)⟩
  · exact k.elim
theorem di_zp2 {e e2 : Expr} {t u : DE} {elts : List Expr} {kk : Nat} {tpos : Pos} (hm : X.mg "zip" = none) (he : PE X e (rV B W t)) (he2 : PE X e2 (rV B W u)) (hg : Gl X "zip" := by rfl) (hs : starEach [e, e2] X.env = (false, eval e X.env) :: starEach [e2] X.env := by rfl)
    (hs2 : starEach [e2] X.env = (false, eval e2 X.env) :: starEach [] X.env := by rfl) (hpl : (backTo pos (starEach [e2] X.env)).any (·.1) = false := by rfl) (hK : B.K = X.K := by rfl) : PI X (.Tuple elts kk tpos) (.Call (.Name "zip" p) [e, e2] [] pos) (rI B W (iZp2 t u)) := by
  refine pi_imp (pi_zip2S hm (da_cons (dx_e he) (da1 he2 hs2) hs) hg hs hpl) fun σ H R ⟨F, L, ρ, Qd, Ed, S, ht, hq, hx⟩ => ⟨F, L, ρ, q2 _, Ed, S, ht, fun xs ρ' vs F' L' H' k S' s r => ?_, hx⟩
  obtain ⟨d, e, e1, z⟩ := q2_ok k
  clear k
  have k := z
  subst e1
  obtain ⟨v, w, e2, r1, r2⟩ := args2 r
  split at k
  · rename_i ds es z1 z2
    obtain ⟨a, us, b, ev, q, rl⟩ := seqOf_ok r1 z1
    obtain ⟨a2, us2, b2, ev2, q2, rl2⟩ := seqOf_ok r2 z2
    subst ev
    subst ev2
    exact ⟨b, b2, a, a2, us, us2, e2, hK ▸ q.mono S'.sub, hK ▸ q2.mono S'.sub, hq _ ρ' F' L' H' _ k S' s (hK ▸ gives_zip2 q rl q2 rl2)⟩
  · exact k.elim
theorem di_zp3 {e e2 e3 : Expr} {t u w : DE} {elts : List Expr} {kk : Nat} {tpos : Pos} (hm : X.mg "zip" = none) (he : PE X e (rV B W t)) (he2 : PE X e2 (rV B W u)) (he3 : PE X e3 (rV B W w)) (hg : Gl X "zip" := by rfl) (hs : starEach [e, e2, e3] X.env = (false, eval e X.env) :: starEach [e2, e3] X.env := by rfl)
    (hs2 : starEach [e2, e3] X.env = (false, eval e2 X.env) :: starEach [e3] X.env := by rfl) (hs3 : starEach [e3] X.env = (false, eval e3 X.env) :: starEach [] X.env := by rfl) (hpl : (backTo pos (starEach [e2, e3] X.env)).any (·.1) = false := by rfl) (hK : B.K = X.K := by rfl) :
    PI X (.Tuple elts kk tpos) (.Call (.Name "zip" p) [e, e2, e3] [] pos) (rI B W (iZp3 t u w)) := by
  refine pi_imp (pi_zip3S hm (da_cons (dx_e he) (da_cons (dx_e he2) (da1 he3 hs3) hs2) hs) hg hs hpl) fun σ H R ⟨F, L, ρ, Qd, Ed, S, ht, hq, hx⟩ => ⟨F, L, ρ, q3 _, Ed, S, ht, fun xs ρ' vs F' L' H' k S' s r => ?_, hx⟩
  obtain ⟨d, e, f, e1, z⟩ := q3_ok k
  clear k
  have k := z
  subst e1
  obtain ⟨v, w, x, e2, r1, r2, r3⟩ := args3 r
  split at k
  · rename_i ds es fs z1 z2 z3
    obtain ⟨a, us, b, ev, q, rl⟩ := seqOf_ok r1 z1
    obtain ⟨a2, us2, b2, ev2, q2, rl2⟩ := seqOf_ok r2 z2
    obtain ⟨a3, us3, b3, ev3, q3, rl3⟩ := seqOf_ok r3 z3
    subst ev
    subst ev2
    subst ev3
    exact ⟨b, b2, b3, a, a2, a3, us, us2, us3, e2, hK ▸ q.mono S'.sub, hK ▸ q2.mono S'.sub, hK ▸ q3.mono S'.sub, hq _ ρ' F' L' H' _ k S' s (hK ▸ gives_zip3 q rl q2 rl2 q3 rl3)⟩
  · exact k.elim
end
end DL
/-! The data layer: for, while, list comprehensions. -/
namespace DL
open PySem PySem.Spec PyProof.Rows L2
/-! ### for -/
def forGo (tg : Tg) (tb : DS) : List D → DEnds → En → Prop
  | [], D, ρ => D.nx ρ
  | d :: ds, D, ρ => tgGo tg (.val d) ρ (fun ρ1 => tb { D with nx := forGo tg tb ds D, ct := forGo tg tb ds D, bk := D.nx } ρ1) D.ex
def mFor (it : DI) (tg : Tg) (tb : DS) : DS := fun D ρ => it ρ (fun items ρ1 => forGo tg tb items D ρ1) D.ex
section
variable {X : Cx} {B : Bd} {W : WX} {tg : Expr} {pos : Pos}
theorem ds_for {iter : Expr} {body : List Stmt} {it : DI} {g : Tg} {tb : DS} (hp : PassesOwn (model X.prog X.w) X.A X.env X.xe) (hc : X.calm = true) (hi : PI X tg iter (rI B W it)) (hg : PG X tg (rG B W g)) (hb : PSs X body (rS B W tb))
    (hs : ∀ x, foldedSetIterable iter X.env x = pure x := by intro _; rfl) : PS X (.For tg iter body [] pos) (rS B W (mFor it g tb)) := by
  refine ps_imp (ps_for hp hc hi hg hb hs) fun D σ H ⟨F, L, ρ, Dd, S, q, o⟩ => ⟨F, L, ρ, _, Dd.ex, S, q, fun items ρ1 F1 L1 H1 J k S1 s1 gv => ?_, o.ex⟩
  refine ⟨fun i m σ H => m = items.length - i ∧ i ≤ items.length ∧ ∃ F L ρ, SR B F L σ H ρ ∧ Same F1 F ∧ forGo g tb (items.drop i) Dd ρ, ⟨items.length, rfl, Nat.zero_le _, F1, L1, ρ1, S1, Same.refl F1, k⟩, ?_⟩
  rintro i m σ2 H2 ⟨rfl, hi, F2, L2, ρ2, S2, s2, k2⟩
  by_cases hlt : i < items.length
  · rw [List.drop_eq_getElem_cons hlt] at k2
    refine .inr ⟨gv.go i H2 (s2.trans S2.sub) hlt, fun σ' H' => items.length - (i + 1) = items.length - (i + 1) ∧ i + 1 ≤ items.length ∧ ∃ F L ρ, SR B F L σ' H' ρ ∧ Same F1 F ∧ forGo g tb (items.drop (i + 1)) Dd ρ, fun σ' H' h => ⟨_, by omega, h⟩, fun x H' y => ?_⟩
    obtain ⟨F3, d, g3, sb3, ed, rd⟩ := gv.yld i F2 H2 x H' s2 S2.sub hlt y
    rw [List.getElem?_eq_getElem hlt] at ed
    cases ed
    refine ⟨F3, L2, ρ2, _, Dd.ex, .val items[i], S2.grow g3 sb3, rd, k2, fun ρ' σ' F' L' H'' q' S' m => ⟨F', L', ρ', _, S', q', ?_⟩, o.ex.mono (s1.f.trans (s2.trans g3.f))⟩
    have sF : Same F1 F' := s2.trans (g3.f.trans m.f)
    exact ⟨fun ρ4 σ4 F4 L4 H4 q4 S4 z => ⟨rfl, hlt, F4, L4, ρ4, S4, sF.trans z, q4⟩, fun r ρ4 v σ4 F4 L4 H4 q4 S4 z c => o.rt r ρ4 v σ4 F4 L4 H4 q4 S4 (s1.f.trans (sF.trans z)) c,
      fun ρ4 σ4 F4 L4 H4 q4 S4 z => o.nx ρ4 σ4 F4 L4 H4 q4 S4 (s1.f.trans (sF.trans z)), fun ρ4 σ4 F4 L4 H4 q4 S4 z => ⟨rfl, hlt, F4, L4, ρ4, S4, sF.trans z, q4⟩, o.ex.mono (s1.f.trans sF)⟩
  · have e : i = items.length := by omega
    subst e
    rw [List.drop_length] at k2
    exact .inl ⟨gv.stop H2 (s2.trans S2.sub), o.nx ρ2 σ2 F2 L2 H2 k2 S2 (s1.f.trans s2)⟩
/-! ### while -/
/-- at most n turns -/
def whGo (c : DT) (tb : DS) : Nat → DEnds → En → Prop
  | 0, _, _ => False
  | n + 1, D, ρ => c ρ (fun b ρ1 => if b = true then tb { D with nx := whGo c tb n D, ct := whGo c tb n D, bk := D.nx } ρ1 else D.nx ρ1) D.ex
def mWhile (c : DT) (tb : DS) : DS := fun D ρ => ∃ n, whGo c tb n D ρ
theorem ds_while {c : Expr} {body : List Stmt} {tc : DT} {tb : DS} (hp : PassesOwn (model X.prog X.w) X.A X.env X.xe) (hc : PT X c (rT B W tc)) (hb : PSs X body (rS B W tb)) : PS X (.While c body [] pos) (rS B W (mWhile tc tb)) := by
  refine ps_imp (ps_while hp hc hb) fun D σ H ⟨F, L, ρ, Dd, S, ⟨n, q⟩, o⟩ => ?_
  refine ⟨fun m σ H => ∃ F' L ρ, SR B F' L σ H ρ ∧ Same F F' ∧ whGo tc tb m Dd ρ, ⟨n, F, L, ρ, S, Same.refl F, q⟩, ?_⟩
  rintro m σ2 H2 ⟨F2, L2, ρ2, S2, s2, k2⟩
  cases m with
  | zero => exact k2.elim
  | succ m =>
    refine ⟨F2, L2, ρ2, _, Dd.ex, S2, k2, fun b ρ1 F1 L1 H1 k1 S1 s1 => ?_, o.ex.mono s2⟩
    have sF : Same F F1 := s2.trans s1.f
    cases b with
    | false => exact o.nx _ _ _ _ _ k1 S1 sF
    | true =>
      exact ⟨fun σ' H' => ∃ F' L ρ, SR B F' L σ' H' ρ ∧ Same F F' ∧ whGo tc tb m Dd ρ, fun σ' H' h => ⟨m, Nat.lt_succ_self m, h⟩, F1, L1, ρ1, _, S1, k1,
        ⟨fun ρ4 σ4 F4 L4 H4 q4 S4 z => ⟨F4, L4, ρ4, S4, sF.trans z, q4⟩, fun r ρ4 v σ4 F4 L4 H4 q4 S4 z c => o.rt r ρ4 v σ4 F4 L4 H4 q4 S4 (sF.trans z) c,
          fun ρ4 σ4 F4 L4 H4 q4 S4 z => o.nx ρ4 σ4 F4 L4 H4 q4 S4 (sF.trans z), fun ρ4 σ4 F4 L4 H4 q4 S4 z => ⟨F4, L4, ρ4, S4, sF.trans z, q4⟩, o.ex.mono sF⟩⟩
end
/-! ### patterns: names of a block only -/
inductive Pt where
  | nm (i : Nat) | tp (ps : List Pt)
mutual
def ptGo : Pt → D → En → (En → Prop) → Prop
  | .nm i, d, ρ, Q => Q (ρ.set i (some (.val d)))
  | .tp ps, d, ρ, Q => match d with
    | .tup ds => ds.length = ps.length ∧ ptsGo ps ds ρ Q
    | _ => False
def ptsGo : List Pt → List D → En → (En → Prop) → Prop
  | [], [], ρ, Q => Q ρ
  | p :: ps, d :: ds, ρ, Q => ptGo p d ρ (fun ρ1 => ptsGo ps ds ρ1 Q)
  | _, _, _, _ => False
end
mutual
def ptNs : Pt → List Nat
  | .nm i => [i]
  | .tp ps => ptsNs ps
def ptsNs : List Pt → List Nat
  | [] => []
  | p :: ps => ptNs p ++ ptsNs ps
end
theorem wipe_set {σ : L2.St} {i : Nat} {x : Option V} : ∀ {vs : List Nat}, i ∈ vs → L2.wipe (σ.set i x) vs = L2.wipe σ vs
  | v :: vs, h => by
    unfold L2.wipe
    by_cases hi : i ∈ vs
    · rw [wipe_set hi]
    · have e : i = v := (List.mem_cons.mp h).elim id fun z => absurd z hi
      subst e
      have key : ∀ (us : List Nat), i ∉ us → L2.wipe (σ.set i x) us = (L2.wipe σ us).set i x := by
        intro us
        induction us with
        | nil => intro _; rfl
        | cons u us ih =>
          intro hu
          have h1 : u ≠ i := fun e => hu (by rw [e]; exact List.mem_cons_self)
          unfold L2.wipe
          rw [ih fun m => hu (List.mem_cons_of_mem _ m), List.set_comm _ _ h1]
      rw [key vs hi, List.set_set]
theorem wipe_idem {σ : L2.St} : ∀ {vs us : List Nat}, (∀ i ∈ us, i ∈ vs) → L2.wipe (L2.wipe σ us) vs = L2.wipe σ vs
  | vs, [], _ => rfl
  | vs, u :: us, h => by
    show L2.wipe ((L2.wipe σ us).set u none) vs = _
    rw [wipe_set (h u List.mem_cons_self), wipe_idem fun i hi => h i (List.mem_cons_of_mem _ hi)]
/-- σ' is as σ but for the names ns -/
def Only (ns : List Nat) (σ σ' : L2.St) : Prop := ∀ vs : List Nat, (∀ i ∈ ns, i ∈ vs) → L2.wipe σ' vs = L2.wipe σ vs
def rP (B : Bd) (p : Pt) : TG := fun v σ H Q => ∃ F L ρ Qd d, SR B F L σ H ρ ∧ Rp B.K F d v ∧ ptGo p d ρ Qd ∧
  ∀ ρ' σ' L', Qd ρ' → SR B F L' σ' H ρ' → (∀ i a, L' i = some a → L i = some a) → Only (ptNs p) σ σ' → Q σ' H
def rPs (B : Bd) (ps : List Pt) : TGs := fun vs σ H Q => ∃ F L ρ Qd ds, SR B F L σ H ρ ∧ RpL B.K F ds vs ∧ ptsGo ps ds ρ Qd ∧
  ∀ ρ' σ' L', Qd ρ' → SR B F L' σ' H ρ' → (∀ i a, L' i = some a → L i = some a) → Only (ptsNs ps) σ σ' → Q σ' H
section
variable {X : Cx} {B : Bd} {W : WX} {pos : Pos}
theorem dp_nm (i : Nat) {x : Str} (hN : X.N.Nodup) (hio : B.ios.contains i = false := by rfl) (hi : X.N[i]? = some x := by rfl) (hx : Loc X.env.scope x := by first | exact Or.inl rfl | exact Or.inr rfl)
    (hf : X.fn x = true ∨ X.env.scope.names.lookup x = some .local := by first | exact .inl rfl | exact .inr rfl) : PG X (.Name x pos) (rP B (.nm i)) := by
  refine pg_impL (pg_name hN hi hx hf) fun v σ H Q hl ⟨F, L, ρ, Qd, d, S, r, q, o⟩ => ?_
  have hlt : i < σ.length := by rw [hl]; exact (List.getElem?_eq_some_iff.mp hi).1
  refine o _ _ _ q (S.put hio hlt r) (fun j a h => ?_) fun vs h => wipe_set (h i List.mem_cons_self)
  unfold forget at h
  split at h
  · cases h
  · exact h
theorem dps_nil : PGs X [] (rPs B []) := by
  refine pgs_impL pgs_nil fun vs σ H Q _ ⟨F, L, ρ, Qd, ds, S, r, q, o⟩ => ?_
  cases ds with
  | nil => exact ⟨r, o _ _ _ q S (fun _ _ h => h) fun _ _ => rfl⟩
  | cons c cs => exact False.elim q
theorem dps_cons {e : Expr} {es : List Expr} {p : Pt} {ps : List Pt} (h1 : PG X e (rP B p)) (h2 : PGs X es (rPs B ps)) (hs : (assignEach (e :: es) X.env).map (·.2) = assign e X.env :: (assignEach es X.env).map (·.2) := by rfl) : PGs X (e :: es) (rPs B (p :: ps)) := by
  refine pgs_impL (pgs_cons h1 h2 hs) fun vs σ H Q _ ⟨F, L, ρ, Qd, ds, S, r, q, o⟩ => ?_
  cases ds with
  | nil => exact False.elim q
  | cons d ds =>
    obtain ⟨v, r', e, c1, c2⟩ := r
    refine ⟨v, r', e, F, L, ρ, _, d, S, c1, q, fun ρ1 σ1 L1 q1 S1 l1 w1 => ⟨F, L1, ρ1, Qd, ds, S1, c2, q1, fun ρ' σ' L' q' S' l' w' => ?_⟩⟩
    exact o _ _ _ q' S' (fun i a h => l1 i a (l' i a h)) fun vs h => (w' vs fun i hi => h i (List.mem_append_right _ hi)).trans (w1 vs fun i hi => h i (List.mem_append_left _ hi))
theorem dp_tp {es : List Expr} {k : Nat} {ps : List Pt} {n : Nat} (hc : X.calm = true) (h : PGs X es (rPs B ps)) (htn : ps.length = n := by rfl) (hn : (assignEach es X.env).length = n := by rfl) (hst : (assignEach es X.env).findIdx? (·.1) = none := by rfl) (hK : B.K = X.K := by rfl) :
    PG X (.Tuple es k pos) (rP B (.tp ps)) := by
  refine pg_impL (pg_tup hc h hn hst) fun v σ H Q _ ⟨F, L, ρ, Qd, d, S, r, q, o⟩ => ?_
  cases d <;> first | (exact False.elim q) | skip
  rename_i ds
  obtain ⟨a, vs, e, h1, h2⟩ := r
  obtain ⟨hl, q'⟩ : ds.length = ps.length ∧ ptsGo ps ds ρ Qd := q
  exact ⟨a, vs, e, hK ▸ Same.tseq S.sub h1, by rw [← h2.length, hl, htn], F, L, ρ, Qd, _, S, h2, q', o⟩
end
/-! ### names forgotten, and put back -/
def wipeE (ρ : En) : List Nat → En
  | [] => ρ
  | v :: vs => (wipeE ρ vs).set v none
def backE (ρ' ρ : En) : List Nat → En
  | [] => ρ'
  | v :: vs => (backE ρ' ρ vs).set v (ρ.getD v none)
def isOwn : Option Cell → Bool
  | some (.own _) => true
  | _ => false
def noOwn (ρ : En) (vs : List Nat) : Bool := vs.all fun v => !isOwn (ρ.getD v none)
theorem SR.unsig {B : Bd} {F H : Hp} {L : La} {σ : L2.St} {ρ : En} (S : SR B F L σ H ρ) {i : Nat} (h : ρ.getD i none = none) : SR B F L (σ.set i none) H ρ where
  len := by rw [List.length_set]; exact S.len
  sub := S.sub
  slot := fun j => by
    by_cases hj : i = j
    · subst hj
      have q := S.slot i
      rw [h] at q ⊢
      exact q
    · rw [getD_set_ne hj]
      exact S.slot j
  inj := S.inj
  f0 := S.f0
  fn := S.fn
  keep := S.keep
  io := S.io
  al := S.al
theorem getD_set_none {ρ : En} {i : Nat} : (ρ.set i none).getD i none = none := by
  by_cases hl : i < ρ.length
  · exact getD_set_self hl
  · rw [List.getD_eq_getElem?_getD, List.getElem?_eq_none (by rw [List.length_set]; omega)]
    rfl
theorem SR.wipe {B : Bd} {F H : Hp} {L : La} {σ : L2.St} {ρ : En} (S : SR B F L σ H ρ) : ∀ {vs : List Nat}, (vs.all fun v => !B.ios.contains v) = true → ∃ L', SR B F L' (L2.wipe σ vs) H (wipeE ρ vs) ∧ ∀ i a, L' i = some a → L i = some a
  | [], _ => ⟨L, S, fun _ _ h => h⟩
  | v :: vs, hio => by
    rw [List.all_cons, Bool.and_eq_true] at hio
    obtain ⟨L1, S1, l1⟩ := SR.wipe S hio.2
    refine ⟨forget L1 v, (S1.drop (i := v) (by simpa using hio.1)).unsig getD_set_none, fun i a h => l1 i a ?_⟩
    unfold forget at h
    split at h
    · cases h
    · exact h
theorem backE_len (ρ' ρ : En) : ∀ vs : List Nat, (backE ρ' ρ vs).length = ρ'.length
  | [] => rfl
  | v :: vs => by unfold backE; rw [List.length_set, backE_len]
theorem backE_out (ρ' ρ : En) {i : Nat} : ∀ {vs : List Nat}, i ∉ vs → (backE ρ' ρ vs).getD i none = ρ'.getD i none
  | [], _ => rfl
  | v :: vs, h => by
    unfold backE
    rw [getD_set_ne fun e => h (by rw [e]; exact List.mem_cons_self)]
    exact backE_out ρ' ρ fun m => h (List.mem_cons_of_mem _ m)
theorem backE_in (ρ' ρ : En) {i : Nat} : ∀ {vs : List Nat}, i ∈ vs → i < ρ'.length → (backE ρ' ρ vs).getD i none = ρ.getD i none
  | v :: vs, h, hl => by
    unfold backE
    by_cases hi : v = i
    · subst hi
      exact getD_set_self (by rw [backE_len]; exact hl)
    · rw [getD_set_ne hi]
      exact backE_in ρ' ρ ((List.mem_cons.mp h).elim (fun e => absurd e.symm hi) id) hl
theorem wipe_getD {σ : L2.St} {i : Nat} {vs : List Nat} (h : i ∉ vs) : (L2.wipe σ vs).getD i none = σ.getD i none := by
  rw [List.getD_eq_getElem?_getD, List.getD_eq_getElem?_getD, L2.wipe_out h]
theorem wipe_getD_in {σ : L2.St} {i : Nat} : ∀ {vs : List Nat}, i ∈ vs → (L2.wipe σ vs).getD i none = none
  | v :: vs, h => by
    unfold L2.wipe
    by_cases hi : v = i
    · subst hi
      by_cases hl : v < (L2.wipe σ vs).length
      · exact getD_set_self hl
      · rw [List.getD_eq_getElem?_getD, List.getElem?_eq_none (by rw [List.length_set]; omega)]
        rfl
    · rw [getD_set_ne hi]
      exact wipe_getD_in ((List.mem_cons.mp h).elim (fun e => absurd e.symm hi) id)
theorem SR.back {B : Bd} {F F' H H' : Hp} {L L' : La} {σ : L2.St} {ρ ρ' : En} {vs : List Nat} (S : SR B F L σ H ρ) (n : noOwn ρ vs = true) (S' : SR B F' L' (L2.wipe σ vs) H' ρ') (s : Same F F') : SR B F' L' σ H' (backE ρ' ρ vs) where
  len := by rw [backE_len, S'.len, L2.wipe_length]
  sub := S'.sub
  slot := fun i => by
    by_cases hi : i ∈ vs
    · have q' := S'.slot i
      rw [wipe_getD_in hi] at q'
      have hL : L' i = none := by
        revert q'
        cases ρ'.getD i none with
        | none => exact id
        | some c =>
          cases c with
          | val d => exact fun z => z.1
          | own ds => intro ⟨a, vs, z, _⟩; cases z
      by_cases hl : i < ρ'.length
      · rw [backE_in ρ' ρ hi hl]
        have q := S.slot i
        unfold noOwn at n
        rw [List.all_eq_true] at n
        have n1 := n i hi
        revert q n1
        cases ρ.getD i none with
        | none => exact fun _ _ => hL
        | some c =>
          cases c with
          | val d => exact fun ⟨_, v, h2, h3⟩ _ => ⟨hL, v, h2, h3.mono s⟩
          | own ds => intro _ z; cases z
      · have e : (backE ρ' ρ vs).getD i none = none := by
          rw [List.getD_eq_getElem?_getD, List.getElem?_eq_none (by rw [backE_len]; omega)]
          rfl
        rw [e]
        exact hL
    · have q' := S'.slot i
      rw [wipe_getD hi] at q'
      rw [backE_out ρ' ρ hi]
      exact q'
  inj := S'.inj
  f0 := S'.f0
  fn := S'.fn
  keep := S'.keep
  io := S'.io
  al := S'.al
/-- an object that no name holds and F does not is written -/
theorem SR.poke {B : Bd} {F H : Hp} {L : La} {σ : L2.St} {ρ : En} {a : Addr} {o : HO} (S : SR B F L σ H ρ) (f : F a = none) (n : ∀ i, L i ≠ some a) (h0 : B.H0 a = none) : SR B F L σ (upd H a o) ρ where
  len := S.len
  sub := fun b x e => by
    rw [upd_ne (fun z => by rw [z, f] at e; cases e)]
    exact S.sub b x e
  slot := fun i => by
    have q := S.slot i
    revert q
    cases ρ.getD i none with
    | none => exact id
    | some c =>
      cases c with
      | val d => exact id
      | own ds =>
        intro ⟨b, ws, h1, h2, h3, h4, h5, h6⟩
        have hb : b ≠ a := fun z => n i (by rw [h2, z])
        exact ⟨b, ws, h1, h2, by rw [upd_ne hb]; exact h3, h4, h5, h6⟩
  inj := S.inj
  f0 := S.f0
  fn := S.fn
  keep := fun b x e z => by
    rw [upd_ne (fun y => by rw [y, h0] at e; cases e)]
    exact S.keep b x e z
  io := S.io
  al := fun b z => by
    rw [upd_ne (fun y => z (by rw [y]; exact h0))]
    exact S.al b z
/-! ### list comprehensions -/
def WF : WX := fun _ _ _ _ => False
def noX : DX := fun _ _ _ => False
theorem noX_ok {B : Bd} {W : WX} {F : Hp} : XOk B W F noX := fun _ _ _ _ _ _ _ _ _ e _ _ _ => False.elim e
def mYes : DT := fun ρ Q _ => Q true ρ
theorem dts_nil {X : Cx} {B : Bd} {W : WX} : PTs X [] (rT B W mYes) := ⟨fun pins s σ H Q I ⟨F, L, ρ, Qd, Ed, S, ht, hq, hx⟩ => pts_nil.run pins s σ H Q I (hq true ρ F L H ht S (Stp.refl _ _ _))⟩
def lcGo (p : Pt) (tt : DT) (te : DE) (vs : List Nat) : List D → List D → En → (List D → En → Prop) → Prop
  | [], acc, ρ, Q => Q acc ρ
  | d :: ds, acc, ρ, Q => ptGo p d ρ fun ρ1 => tt ρ1 (fun b ρ2 => if b = true then te ρ2 (fun x ρ3 => acc.length < sizeLine ∧ lcGo p tt te vs ds (acc ++ [x]) (wipeE ρ3 vs) Q) noX else lcGo p tt te vs ds acc (wipeE ρ2 vs) Q) noX
def mLc (it : DI) (p : Pt) (tt : DT) (te : DE) (vs : List Nat) : DC := fun ρ Q E => it ρ (fun items ρ1 => noOwn ρ1 vs = true ∧ lcGo p tt te vs items [] (wipeE ρ1 vs) fun acc ρ2 => Q (.own acc) (backE ρ2 ρ1 vs)) E
theorem lc_imp {B : Bd} {W : WX} {it : DI} {p : Pt} {tt : DT} {te : DE} {vs : List Nat} (hio : (vs.all fun v => !B.ios.contains v) = true) (hp : ((ptNs p).all fun v => vs.contains v) = true) {σ : L2.St} {H : Hp} {Q : VK} (h : rC B W (mLc it p tt te vs) σ H Q) :
    tLc (rI B W it) (rP B p) (rT B WF tt) (rV B WF te) vs σ H Q := by
  obtain ⟨F, L, ρ, Qd, Ed, S, ht, hq, hx⟩ := h
  refine ⟨F, L, ρ, _, Ed, S, ht, fun items ρ1 F1 L1 H1 J ⟨kn, k⟩ S1 s1 gv D hD => ?_, hx⟩
  have hpv : ∀ i ∈ ptNs p, i ∈ vs := fun i hi => by
    have := List.all_eq_true.mp hp i hi
    exact List.contains_iff_mem.mp this
  have fD : F1 D = none := S1.sub.free hD
  have lD : ∀ i, L1 i ≠ some D := fun i e => by
    obtain ⟨_, _, _, _, q3, _⟩ := S1.own e
    rw [hD] at q3; cases q3
  have h0 : B.H0 D = none := by
    cases e : B.H0 D with
    | none => rfl
    | some o => exact absurd hD (S1.al D (by rw [e]; simp))
  obtain ⟨Lw, Sw, lw⟩ := (S1.poke (o := .lst []) fD lD h0).wipe hio
  refine ⟨fun i m H => m = items.length - i ∧ i ≤ items.length ∧ ∃ F L ρ acc av, SR B F L (L2.wipe σ vs) H ρ ∧ Stp F1 L1 H1 F L H ∧ H D = some (.lst av) ∧ F D = none ∧ (∀ i, L i ≠ some D) ∧ RpL B.K F acc av ∧
    lcGo p tt te vs (items.drop i) acc ρ fun acc ρ2 => Qd (.own acc) (backE ρ2 ρ1 vs), ⟨items.length, rfl, Nat.zero_le _, F1, Lw, _, [], [], Sw, ?_, upd_same, fD, fun i e => lD i (lw i _ e), rfl, k⟩, ?_⟩
  · exact ⟨Same.refl F1, lw, fun b o e _ => by rw [upd_ne (ne_of_none e hD)]; exact e, fun b o e => .inl e, fun b e => by rw [upd_ne (fun z => e (by rw [z]; exact hD))]; exact e⟩
  rintro i m H2 ⟨rfl, hi, F2, L2', ρ2, acc, av, S2, s2, hD2, fD2, lD2, racc, k2⟩
  by_cases hlt : i < items.length
  · rw [List.drop_eq_getElem_cons hlt] at k2
    have subF : Same F1 H2 := s2.f.trans S2.sub
    refine .inr ⟨gv.go i H2 subF hlt, fun H => items.length - (i + 1) = items.length - (i + 1) ∧ i + 1 ≤ items.length ∧ ∃ F L ρ acc av, SR B F L (L2.wipe σ vs) H ρ ∧ Stp F1 L1 H1 F L H ∧ H D = some (.lst av) ∧ F D = none ∧ (∀ i, L i ≠ some D) ∧ RpL B.K F acc av ∧
      lcGo p tt te vs (items.drop (i + 1)) acc ρ fun acc ρ2 => Qd (.own acc) (backE ρ2 ρ1 vs), fun H' h => ⟨_, by omega, h⟩, fun x H' y => ?_⟩
    obtain ⟨F3, d, g3, sb3, ed, rd⟩ := gv.yld i F2 H2 x H' s2.f S2.sub hlt y
    rw [List.getElem?_eq_getElem hlt] at ed
    cases ed
    have S3 := S2.grow g3 sb3
    refine ⟨F3, L2', ρ2, _, items[i], S3, rd, k2, fun ρ4 σ4 L4 q4 S4 l4 w4 => ⟨?_, F3, L4, ρ4, _, noX, S4, q4, fun b ρ5 F5 L5 H5 q5 S5 s5 => ?_, noX_ok⟩⟩
    · rw [w4 vs hpv, wipe_idem fun _ h => h]
    have s3 : Stp F1 L1 H1 F3 L4 H' := (s2.trans g3.stp).trans ⟨Same.refl _, l4, fun _ _ e _ => e, fun _ _ e => .inl e, fun _ e => e⟩
    have hw4 : L2.wipe σ4 vs = L2.wipe σ vs := by rw [w4 vs hpv, wipe_idem fun _ h => h]
    have hD3 : H' D = some (.lst av) := g3.h _ _ hD2
    have fD3 : F3 D = none := g3.none (by rw [hD2]; simp) fD2
    have lD4 : ∀ i, L4 i ≠ some D := fun i e => lD2 i (l4 i _ e)
    -- one step on
    have on : ∀ {F5 L5 H5}, Stp F3 L4 H' F5 L5 H5 → H5 D = some (.lst av) ∧ F5 D = none ∧ ∀ i, L5 i ≠ some D := fun {F5 L5 H5} s => by
      refine ⟨s.h _ _ hD3 lD4, ?_, fun i e => lD4 i (s.l i _ e)⟩
      cases e : F5 D with
      | none => rfl
      | some o =>
        rcases s.fn D o e with z | z | ⟨i, z⟩
        · rw [fD3] at z; cases z
        · rw [hD3] at z; cases z
        · exact absurd z (lD4 i)
    cases b with
    | false =>
      obtain ⟨d1, d2, d3⟩ := on s5
      obtain ⟨L6, S6, l6⟩ := S5.wipe hio
      rw [hw4] at S6
      exact ⟨rfl, hlt, F5, L6, _, acc, av, S6, (s3.trans s5).trans ⟨Same.refl _, l6, fun _ _ e _ => e, fun _ _ e => .inl e, fun _ e => e⟩, d1, d2, fun i e => d3 i (l6 i _ e), racc.mono (g3.f.trans s5.f), q5⟩
    | true =>
      refine ⟨F5, L5, ρ5, _, noX, S5, q5, fun x ρ6 xv F6 L6 H6 ⟨hz, q6⟩ S6 s6 rx => ?_, noX_ok⟩
      obtain ⟨d1, d2, d3⟩ := on (s5.trans s6)
      have r6 := racc.mono (g3.f.trans (s5.f.trans s6.f))
      refine ⟨av, d1, by rw [← racc.length]; exact hz, rfl, hlt, ?_⟩
      obtain ⟨L7, S7, l7⟩ := (S6.poke (o := .lst (av ++ [xv])) d2 d3 h0).wipe hio
      rw [hw4] at S7
      refine ⟨F6, L7, _, acc ++ [x], av ++ [xv], S7, ?_, upd_same, d2, fun i e => d3 i (l7 i _ e), r6.append (RpL.one rx), q6⟩
      have st := (s3.trans s5).trans s6
      exact ⟨st.f, fun i a h => st.l i a (l7 i a h), fun b o e n => by rw [upd_ne (ne_of_none e hD)]; exact st.h b o e n, st.fn, fun b e => by rw [upd_ne (fun z => e (by rw [z]; exact hD))]; exact st.al b e⟩
  · have e : i = items.length := by omega
    subst e
    rw [List.drop_length] at k2
    refine .inl ⟨gv.stop H2 (s2.f.trans S2.sub), hq (.own acc) _ _ F2 L2' H2 k2 (S1.back kn S2 s2.f) (s1.trans s2) ⟨D, av, rfl, hD2, fD2, lD2, h0, racc, .inl ?_⟩⟩
    cases e : H D with
    | none => rfl
    | some o => exact absurd hD (s1.al D (by rw [e]; simp))
section
variable {X : Cx} {B : Bd} {W : WX} {pos : Pos}
theorem dc_lc {elt tg iter : Expr} {ifs : List Expr} {scope : Scope} (own : List (Str × Nat)) {it : DI} {p : Pt} {tt : DT} {te : DE} (hc : X.calm = true) (hN : X.N.Nodup) (hi : PI X tg iter (rI B W it)) 
    (hg : ∀ (s : Shared) (H : Hp) (C : Addr) (cl : List (Str × Addr)) (fp : List Addr), PG (X.blk s H scope (compEnvC scope cl C X.env) fp) tg (rP B p)) (ht : ∀ (s : Shared) (H : Hp) (C : Addr) (cl : List (Str × Addr)) (fp : List Addr), PTs (X.blk s H scope (compEnvC scope cl C X.env) fp) ifs (rT B WF tt))
    (he : ∀ (s : Shared) (H : Hp) (C : Addr) (cl : List (Str × Addr)) (fp : List Addr), PE (X.blk s H scope (compEnvC scope cl C X.env) fp) elt (rV B WF te)) (ok : blkC X.N X.env.scope scope own = true := by rfl) (hio : ((own.map (·.2)).all fun v => !B.ios.contains v) = true := by rfl) (hp : ((ptNs p).all fun v => (own.map (·.2)).contains v) = true := by rfl)
    (hs : ∀ x, foldedSetIterable iter X.env x = pure x := by intro _; rfl) : PE X (.ListComp elt [⟨tg, iter, ifs, 0⟩] scope pos) (rC B W (mLc it p tt te (own.map (·.2)))) :=
  pe_imp (pe_lc hc hN hi (blkOk_by ok) hg ht he hs) fun _ _ _ h => lc_imp hio hp h
/-- name = [..] on one line -/
theorem ds_setLc (i : Nat) {y : Str} {py : Pos} {elt tg iter : Expr} {ifs : List Expr} {scope : Scope} {spos : Pos} (own : List (Str × Nat)) {it : DI} {p : Pt} {tt : DT} {te : DE} (hc : X.calm = true) (hN : X.N.Nodup) (hi : PI X tg iter (rI B W it)) 
    (hg : ∀ (s : Shared) (H : Hp) (C : Addr) (cl : List (Str × Addr)) (fp : List Addr), PG (X.blk s H scope (compEnvC scope cl C X.env) fp) tg (rP B p)) (ht : ∀ (s : Shared) (H : Hp) (C : Addr) (cl : List (Str × Addr)) (fp : List Addr), PTs (X.blk s H scope (compEnvC scope cl C X.env) fp) ifs (rT B WF tt))
    (he : ∀ (s : Shared) (H : Hp) (C : Addr) (cl : List (Str × Addr)) (fp : List Addr), PE (X.blk s H scope (compEnvC scope cl C X.env) fp) elt (rV B WF te)) (hsw : swapsWith (.ListComp elt [⟨tg, iter, ifs, 0⟩] scope pos) (some (.Name y py)) spos.line X.env = pure true := by exact sw_true rfl rfl rfl rfl)
    (hy : X.N[i]? = some y := by rfl) (hyl : X.env.scope.names.lookup y = some .local := by rfl) (hioi : B.ios.contains i = false := by rfl) (ok : blkC X.N X.env.scope scope own = true := by rfl) (hio : ((own.map (·.2)).all fun v => !B.ios.contains v) = true := by rfl) (hp : ((ptNs p).all fun v => (own.map (·.2)).contains v) = true := by rfl)
    (hs : ∀ x, foldedSetIterable iter X.env x = pure x := by intro _; rfl) : PS X (.Assign [.Name y py] (.ListComp elt [⟨tg, iter, ifs, 0⟩] scope pos) spos) (rS B W (mAsg (.nm i) (mLc it p tt te (own.map (·.2))))) := by
  refine ps_impL (ps_setLc hc hN hy hyl hsw hi (blkOk_by ok) hg ht he hs) fun D σ H hl h => ?_
  obtain ⟨F, L, ρ, Dd, S, q, o⟩ := h
  have hlt : i < σ.length := by rw [hl]; exact (List.getElem?_eq_some_iff.mp hy).1
  refine lc_imp hio hp ⟨F, L, ρ, _, Dd.ex, S, q, fun c ρ1 v F1 L1 H1 k S1 s1 r1 => ?_, o.ex⟩
  have k' : Dd.nx (ρ1.set i (some c)) := k
  cases c with
  | val d => exact o.nx _ _ _ _ _ k' (S1.put hioi hlt r1) s1.f
  | own ds =>
    obtain ⟨a, vs, e, h1, h2, h3, h4, h5, _⟩ := r1
    subst e
    exact o.nx _ _ _ _ _ k' (S1.putO hioi hlt h1 h2 h3 h4 h5) s1.f
theorem dts_one {c : Expr} {t : DT} (h : PT X c (rT B W t)) : PTs X [c] (rT B W t) := pts_one h
end
end DL
/-! The data layer: built-in calls, displays, chains, membership. -/
namespace DL
open PySem PySem.Spec PyProof.Rows L2
theorem RpVs.one {K : PySem.W.Frag} {F H : Hp} {d : D} {vs : List V} (h : RpVs K F H [d] vs) : ∃ v, vs = [v] ∧ RpV K F H d v := by
  obtain ⟨v, r, e, h1, h2⟩ := h
  cases (show r = [] from h2)
  exact ⟨v, e, h1⟩
theorem RpVs.two {K : PySem.W.Frag} {F H : Hp} {d e : D} {vs : List V} (h : RpVs K F H [d, e] vs) : ∃ v u, vs = [v, u] ∧ RpV K F H d v ∧ RpV K F H e u := by
  obtain ⟨v, r, ev, h1, h2⟩ := h
  obtain ⟨u, e, h3⟩ := h2.one
  subst e
  exact ⟨v, u, ev, h1, h3⟩
/-- a function of one datum, of two -/
def n1 (f : D → Option Cell) : DOpN
  | [d] => f d
  | _ => none
def n2 (f : D → D → Option Cell) : DOpN
  | [d, e] => f d e
  | _ => none
theorem n1_ok {K : PySem.W.Frag} {r : List V → Hp → VK → Prop} {f : D → Option Cell} (h : ∀ (F H : Hp) (d : D) (v : V) (c : Cell) (Q : VK), Same F H → RpV K F H d v → f d = some c → (∀ w F' H', Grow F H F' H' → Same F' H' → NewR K H c w F' H' → Q w H') → r [v] H Q) : OpN K r (n1 f) := by
  intro F H ds vs c Q sb rs e q
  match ds, rs, e with
  | [d], rs, e =>
    obtain ⟨v, ev, rv⟩ := rs.one
    subst ev
    exact h F H d v c Q sb rv e q
theorem n2_ok {K : PySem.W.Frag} {r : List V → Hp → VK → Prop} {f : D → D → Option Cell} (h : ∀ (F H : Hp) (d d2 : D) (v v2 : V) (c : Cell) (Q : VK), Same F H → RpV K F H d v → RpV K F H d2 v2 → f d d2 = some c → (∀ w F' H', Grow F H F' H' → Same F' H' → NewR K H c w F' H' → Q w H') → r [v, v2] H Q) : OpN K r (n2 f) := by
  intro F H ds vs c Q sb rs e q
  match ds, rs, e with
  | [d, d2], rs, e =>
    obtain ⟨v, u, ev, rv, ru⟩ := rs.two
    subst ev
    exact h F H d d2 v u c Q sb rv ru e q
/-! ### len, tuple, list, int, abs -/
def gLen : D → Option Cell
  | .str x => if x.length ≤ sizeLine then some (.val (.int (x.length : Nat))) else none
  | .tup ds => some (.val (.int (ds.length : Nat)))
  | .lst ds => some (.val (.int (ds.length : Nat)))
  | .fix ds => some (.val (.int (ds.length : Nat)))
  | _ => none
abbrev fLen : DOpN := n1 gLen
def rLen (K : PySem.W.Frag) : List V → Hp → VK → Prop := fun xs H Q => ∃ x n, xs = [x] ∧ LenV K x H n ∧ Q (.int n) H
theorem fLen_ok {K : PySem.W.Frag} : OpN K (rLen K) fLen := by
  refine n1_ok fun F H d v c Q sb h e q => ?_
  cases d <;> first | (cases e; done) | skip
  · rename_i x
    cases (show v = V.str _ from h)
    have e' : (if x.length ≤ sizeLine then some (Cell.val (.int (x.length : Nat))) else none) = some c := e
    split at e'
    · rename_i hl
      cases e'
      exact ⟨_, _, rfl, ⟨hl, rfl⟩, fin_val sb q rfl⟩
    · cases e'
  · obtain ⟨a, vs, rfl, q1, r1⟩ := RpV.tup_ sb h
    cases e
    exact ⟨_, _, rfl, .inr ⟨vs, q1, rfl⟩, fin_val sb q (by rw [r1.length]; rfl)⟩
  · obtain ⟨a, vs, rfl, q1, r1⟩ := h
    cases e
    exact ⟨_, _, rfl, .inl ⟨vs, SqL.of q1, rfl⟩, fin_val sb q (by rw [r1.length]; rfl)⟩
  · obtain ⟨a, vs, rfl, q1, r1⟩ := h
    cases e
    exact ⟨_, _, rfl, .inl ⟨vs, sb.seq q1, rfl⟩, fin_val sb q (by rw [r1.length]; rfl)⟩
def gTuple : D → Option Cell
  | .tup ds => some (.val (.tup ds))
  | .lst ds => some (.val (.tup ds))
  | .fix ds => some (.val (.tup ds))
  | _ => none
abbrev fTuple : DOpN := n1 gTuple
def rTuple (K : PySem.W.Frag) : List V → Hp → VK → Prop := fun xs H Q => ∃ p ys, xs = [.ref p] ∧ ((SqL K H p ys ∧ ∀ l, H l = none → Q (.ref l) (upd H l (.tup ys))) ∨ (SqT K H p ys ∧ Q (.ref p) H))
theorem fTuple_ok {K : PySem.W.Frag} : OpN K (rTuple K) fTuple := by
  refine n1_ok fun F H d v c Q sb h e q => ?_
  cases d <;> first | (cases e; done) | skip
  · rename_i ds
    cases e
    have h' := h
    obtain ⟨a, vs, rfl, q1, r1⟩ := RpV.tup_ sb h
    exact ⟨a, vs, rfl, .inr ⟨q1, fin_val sb q h'⟩⟩
  · obtain ⟨a, vs, rfl, q1, r1⟩ := h
    cases e
    exact ⟨a, vs, rfl, .inl ⟨SqL.of q1, fun l hl => fin_tup sb q hl r1⟩⟩
  · obtain ⟨a, vs, rfl, q1, r1⟩ := h
    cases e
    exact ⟨a, vs, rfl, .inl ⟨sb.seq q1, fun l hl => fin_tup sb q hl r1⟩⟩
def gList : D → Option Cell
  | .tup ds => some (.own ds)
  | .lst ds => some (.own ds)
  | .fix ds => some (.own ds)
  | _ => none
abbrev fList : DOpN := n1 gList
def rList (K : PySem.W.Frag) : List V → Hp → VK → Prop := fun xs H Q => ∃ p ys, xs = [.ref p] ∧ (SqL K H p ys ∨ SqT K H p ys) ∧ ∀ l, H l = none → Q (.ref l) (upd H l (.lst ys))
theorem fList_ok {K : PySem.W.Frag} : OpN K (rList K) fList := by
  refine n1_ok fun F H d v c Q sb h e q => ?_
  cases d <;> first | (cases e; done) | skip
  · cases e
    obtain ⟨a, vs, rfl, q1, r1⟩ := RpV.tup_ sb h
    exact ⟨a, vs, rfl, .inr q1, fun l hl => fin_lst sb q hl r1⟩
  · obtain ⟨a, vs, rfl, q1, r1⟩ := h
    cases e
    exact ⟨a, vs, rfl, .inl (SqL.of q1), fun l hl => fin_lst sb q hl r1⟩
  · obtain ⟨a, vs, rfl, q1, r1⟩ := h
    cases e
    exact ⟨a, vs, rfl, .inl (sb.seq q1), fun l hl => fin_lst sb q hl r1⟩
def gInt : D → Option Cell
  | .int i => some (.val (.int i))
  | .bl b => some (.val (.int (if b then 1 else 0)))
  | _ => none
abbrev fInt : DOpN := n1 gInt
def rInt1 : List V → Hp → VK → Prop := fun xs H Q => (∃ i, xs = [.int i] ∧ Q (.int i) H) ∨ ∃ k, xs = [.bl k] ∧ Q (.int (if k then 1 else 0)) H
theorem fInt_ok {K : PySem.W.Frag} : OpN K rInt1 fInt := by
  refine n1_ok fun F H d v c Q sb h e q => ?_
  cases d <;> first | (cases e; done) | skip
  · cases (show v = V.bl _ from h)
    cases e
    exact .inr ⟨_, rfl, fin_val sb q rfl⟩
  · cases (show v = V.int _ from h)
    cases e
    exact .inl ⟨_, rfl, fin_val sb q rfl⟩
def gAbs : D → Option Cell
  | .int i => some (.val (.int (if i < 0 then -i else i)))
  | _ => none
abbrev fAbs : DOpN := n1 gAbs
def rAbs : List V → Hp → VK → Prop := fun xs H Q => ∃ i, xs = [.int i] ∧ Q (.int (if i < 0 then -i else i)) H
theorem fAbs_ok {K : PySem.W.Frag} : OpN K rAbs fAbs := by
  refine n1_ok fun F H d v c Q sb h e q => ?_
  cases d <;> first | (cases e; done) | skip
  cases (show v = V.int _ from h)
  cases e
  exact ⟨_, rfl, fin_val sb q rfl⟩
/-! ### lists of whole numbers, of truths -/
def numsD : List D → Option (List Int)
  | [] => some []
  | .int i :: ds => (numsD ds).map (i :: ·)
  | _ :: _ => none
theorem ints_eq : ∀ {ds : List D} {ns : List Int}, numsD ds = some ns → ds = ns.map D.int
  | [], _, e => by cases e; rfl
  | .int i :: ds, ns, e => by
    cases h : numsD ds with
    | none => simp [numsD, h] at e
    | some ms =>
      simp [numsD, h] at e
      subst e
      rw [ints_eq h]
      rfl
theorem ints_map : ∀ ns : List Int, numsD (ns.map D.int) = some ns
  | [] => rfl
  | n :: ns => by simp [numsD, ints_map ns]
def bls : List D → Option (List Bool)
  | [] => some []
  | .bl b :: ds => (bls ds).map (b :: ·)
  | _ :: _ => none
theorem bls_eq : ∀ {ds : List D} {ns : List Bool}, bls ds = some ns → ds = ns.map D.bl
  | [], _, e => by cases e; rfl
  | .bl i :: ds, ns, e => by
    cases h : bls ds with
    | none => simp [bls, h] at e
    | some ms =>
      simp [bls, h] at e
      subst e
      rw [bls_eq h]
      rfl
theorem bls_map : ∀ ns : List Bool, bls (ns.map D.bl) = some ns
  | [] => rfl
  | n :: ns => by simp [bls, bls_map ns]
theorem RpL.to_bls {K : PySem.W.Frag} {F : Hp} : ∀ {ns : List Bool} {vs : List V}, RpL K F (ns.map D.bl) vs → vs = ns.map V.bl
  | [], _, h => h
  | n :: ns, _, h => by
    obtain ⟨v, r, rfl, h1, h2⟩ := h
    have e1 : v = .bl n := h1
    rw [e1, RpL.to_bls h2]
    rfl
def lstOf : D → Option (List D)
  | .lst ds => some ds
  | .fix ds => some ds
  | _ => none
theorem lstOf_ok {K : PySem.W.Frag} {F H : Hp} (sb : Same F H) : ∀ {d : D} {v : V} {ds : List D}, RpV K F H d v → lstOf d = some ds → ∃ a vs, v = .ref a ∧ SqL K H a vs ∧ RpL K F ds vs
  | .lst _, _, _, ⟨a, vs, e, q, r⟩, z => by cases z; exact ⟨a, vs, e, SqL.of q, r⟩
  | .fix _, _, _, ⟨a, vs, e, q, r⟩, z => by cases z; exact ⟨a, vs, e, sb.seq q, r⟩
  | .tup _, _, _, _, z => by cases z
  | .non, _, _, _, z => by cases z
  | .bl _, _, _, _, z => by cases z
  | .int _, _, _, _, z => by cases z
  | .str _, _, _, _, z => by cases z
  | .dic _ _, _, _, _, z => by cases z
  | .ty _, _, _, _, z => by cases z
def gSum (d : D) : Option Cell := match lstOf d with
  | some ds => (numsD ds).map fun ns => .val (.int ns.sum)
  | none => none
abbrev fSum : DOpN := n1 gSum
theorem intl {K : PySem.W.Frag} {F H : Hp} {d : D} {v : V} {α : Type} {g : List Int → α} {c : α} (sb : Same F H) (h : RpV K F H d v) (e : (match lstOf d with | some ds => (numsD ds).map g | none => none) = some c) : ∃ a ns, v = .ref a ∧ SqL K H a (ns.map V.int) ∧ c = g ns ∧ lstOf d = some (ns.map D.int) := by
  cases ed : lstOf d with
  | none => rw [ed] at e; cases e
  | some ds =>
    rw [ed] at e
    obtain ⟨a, vs, ev, q, r⟩ := lstOf_ok sb h ed
    cases en : numsD ds with
    | none => simp only [en] at e; cases e
    | some ns =>
      simp only [en] at e
      cases e
      have := ints_eq en
      subst this
      rw [r.to_ints] at q
      exact ⟨a, ns, ev, q, rfl, rfl⟩
theorem fSum_ok {K : PySem.W.Frag} : OpN K (rSum K) fSum := by
  refine n1_ok fun F H d v c Q sb h e q => ?_
  obtain ⟨a, ns, ev, hq, ec, _⟩ := intl sb h e
  subst ec
  exact ⟨a, ns, by rw [ev], hq, fin_val sb q rfl⟩
def maxI : List Int → Option Int
  | [] => none
  | [n] => some n
  | n :: ns => (maxI ns).map fun m => if m > n then m else n
def minI : List Int → Option Int
  | [] => none
  | [n] => some n
  | n :: ns => (minI ns).map fun m => if m < n then m else n
theorem maxI_eq : ∀ {ns : List Int} {m : Int}, m ∈ ns → (∀ y, y ∈ ns → y ≤ m) → maxI ns = some m
  | [], _, h, _ => by cases h
  | [n], m, h, _ => by
    have : m = n := by simpa using h
    rw [this]; rfl
  | n :: k :: ns, m, h, g => by
    have hm : ∀ y, y ∈ k :: ns → y ≤ m := fun y hy => g y (List.mem_cons_of_mem _ hy)
    have gn := g n List.mem_cons_self
    show (maxI (k :: ns)).map _ = _
    by_cases hk : m ∈ k :: ns
    · rw [maxI_eq hk hm]
      simp only [Option.map_some]
      split <;> congr 1 <;> omega
    · have e : m = n := (List.mem_cons.mp h).elim id fun z => absurd z hk
      subst e
      -- the greatest of the rest is less
      have : ∀ {xs : List Int}, xs ≠ [] → ∃ k, maxI xs = some k ∧ k ∈ xs := by
        intro xs
        induction xs with
        | nil => intro z; exact absurd rfl z
        | cons x xs ih =>
          intro _
          cases xs with
          | nil => exact ⟨x, rfl, List.mem_cons_self⟩
          | cons y ys =>
            obtain ⟨w, e1, e2⟩ := ih (by simp)
            refine ⟨if w > x then w else x, ?_, ?_⟩
            · show (maxI (y :: ys)).map _ = _
              rw [e1]; rfl
            · split
              · exact List.mem_cons_of_mem _ e2
              · exact List.mem_cons_self
      obtain ⟨w, e1, e2⟩ := this (xs := k :: ns) (by simp)
      rw [e1]
      have := hm w e2
      simp only [Option.map_some]
      rw [if_neg (by omega)]
theorem minI_eq : ∀ {ns : List Int} {m : Int}, m ∈ ns → (∀ y, y ∈ ns → m ≤ y) → minI ns = some m
  | [], _, h, _ => by cases h
  | [n], m, h, _ => by
    have : m = n := by simpa using h
    rw [this]; rfl
  | n :: k :: ns, m, h, g => by
    have hm : ∀ y, y ∈ k :: ns → m ≤ y := fun y hy => g y (List.mem_cons_of_mem _ hy)
    have gn := g n List.mem_cons_self
    show (minI (k :: ns)).map _ = _
    by_cases hk : m ∈ k :: ns
    · rw [minI_eq hk hm]
      simp only [Option.map_some]
      split <;> congr 1 <;> omega
    · have e : m = n := (List.mem_cons.mp h).elim id fun z => absurd z hk
      subst e
      have : ∀ {xs : List Int}, xs ≠ [] → ∃ k, minI xs = some k ∧ k ∈ xs := by
        intro xs
        induction xs with
        | nil => intro z; exact absurd rfl z
        | cons x xs ih =>
          intro _
          cases xs with
          | nil => exact ⟨x, rfl, List.mem_cons_self⟩
          | cons y ys =>
            obtain ⟨w, e1, e2⟩ := ih (by simp)
            refine ⟨if w < x then w else x, ?_, ?_⟩
            · show (minI (y :: ys)).map _ = _
              rw [e1]; rfl
            · split
              · exact List.mem_cons_of_mem _ e2
              · exact List.mem_cons_self
      obtain ⟨w, e1, e2⟩ := this (xs := k :: ns) (by simp)
      rw [e1]
      have := hm w e2
      simp only [Option.map_some]
      rw [if_neg (by omega)]
/-- max of two whole numbers, or of a list of them -/
def fMax : DOpN
  | [.int i, .int j] => some (.val (.int (if j > i then j else i)))
  | [d] => (match lstOf d with
    | some ds => (numsD ds).bind fun ns => (maxI ns).map fun m => .val (.int m)
    | none => none)
  | _ => none
def fMin : DOpN
  | [.int i, .int j] => some (.val (.int (if j < i then j else i)))
  | [d] => (match lstOf d with
    | some ds => (numsD ds).bind fun ns => (minI ns).map fun m => .val (.int m)
    | none => none)
  | _ => none
def rMaxD (K : PySem.W.Frag) : List V → Hp → VK → Prop := fun xs H Q => (∃ i j, xs = [.int i, .int j] ∧ Q (.int (if j > i then j else i)) H) ∨ rMax K xs H Q
def rMinD (K : PySem.W.Frag) : List V → Hp → VK → Prop := fun xs H Q => (∃ i j, xs = [.int i, .int j] ∧ Q (.int (if j < i then j else i)) H) ∨ rMin K xs H Q
theorem intl2 {K : PySem.W.Frag} {F H : Hp} {d : D} {v : V} {α : Type} {g : List Int → Option α} {c : α} (sb : Same F H) (h : RpV K F H d v) (e : (match lstOf d with | some ds => (numsD ds).bind g | none => none) = some c) : ∃ a ns, v = .ref a ∧ SqL K H a (ns.map V.int) ∧ g ns = some c := by
  cases ed : lstOf d with
  | none => rw [ed] at e; cases e
  | some ds =>
    rw [ed] at e
    obtain ⟨a, vs, ev, q, r⟩ := lstOf_ok sb h ed
    cases en : numsD ds with
    | none => simp only [en] at e; cases e
    | some ns =>
      simp only [en] at e
      have := ints_eq en
      subst this
      rw [r.to_ints] at q
      exact ⟨a, ns, ev, q, e⟩
theorem fMax_ok {K : PySem.W.Frag} : OpN K (rMaxD K) fMax := by
  intro F H ds vs c Q sb rs e q
  unfold fMax at e
  split at e
  · cases e
    obtain ⟨v, u, ev, rv, ru⟩ := rs.two
    subst ev
    cases (show v = V.int _ from rv)
    cases (show u = V.int _ from ru)
    exact .inl ⟨_, _, rfl, fin_val sb q rfl⟩
  · obtain ⟨v, ev, rv⟩ := rs.one
    subst ev
    obtain ⟨a, ns, ev, hq, ec⟩ := intl2 sb rv e
    subst ev
    refine .inr ⟨a, ns, rfl, hq, ?_, fun m h1 h2 => ?_⟩
    · cases ns with
      | nil => cases ec
      | cons n ns => exact Nat.succ_pos _
    · rw [maxI_eq h1 h2] at ec
      cases ec
      exact fin_val sb q rfl
  · cases e
theorem fMin_ok {K : PySem.W.Frag} : OpN K (rMinD K) fMin := by
  intro F H ds vs c Q sb rs e q
  unfold fMin at e
  split at e
  · cases e
    obtain ⟨v, u, ev, rv, ru⟩ := rs.two
    subst ev
    cases (show v = V.int _ from rv)
    cases (show u = V.int _ from ru)
    exact .inl ⟨_, _, rfl, fin_val sb q rfl⟩
  · obtain ⟨v, ev, rv⟩ := rs.one
    subst ev
    obtain ⟨a, ns, ev, hq, ec⟩ := intl2 sb rv e
    subst ev
    refine .inr ⟨a, ns, rfl, hq, ?_, fun m h1 h2 => ?_⟩
    · cases ns with
      | nil => cases ec
      | cons n ns => exact Nat.succ_pos _
    · rw [minI_eq h1 h2] at ec
      cases ec
      exact fin_val sb q rfl
  · cases e
section
variable {X : Cx}
theorem cr_maxD (hc : X.calm = true) : CallR X (.builtin "max") (rMaxD X.K) := (call_max2 hc).or (cr_max hc)
theorem cr_minD (hc : X.calm = true) : CallR X (.builtin "min") (rMinD X.K) := (call_min2 hc).or (cr_min hc)
end
theorem bll {K : PySem.W.Frag} {F H : Hp} {d : D} {v : V} {α : Type} {g : List Bool → α} {c : α} (sb : Same F H) (h : RpV K F H d v) (e : (match lstOf d with | some ds => (bls ds).map g | none => none) = some c) : ∃ a ns, v = .ref a ∧ SqL K H a (ns.map V.bl) ∧ c = g ns := by
  cases ed : lstOf d with
  | none => rw [ed] at e; cases e
  | some ds =>
    rw [ed] at e
    obtain ⟨a, vs, ev, q, r⟩ := lstOf_ok sb h ed
    cases en : bls ds with
    | none => simp only [en] at e; cases e
    | some ns =>
      simp only [en] at e
      cases e
      have := bls_eq en
      subst this
      rw [r.to_bls] at q
      exact ⟨a, ns, ev, q, rfl⟩
def gAll (d : D) : Option Cell := match lstOf d with
  | some ds => (bls ds).map fun ns => .val (.bl (ns.all id))
  | none => none
def gAny (d : D) : Option Cell := match lstOf d with
  | some ds => (bls ds).map fun ns => .val (.bl (ns.any id))
  | none => none
abbrev fAll : DOpN := n1 gAll
abbrev fAny : DOpN := n1 gAny
theorem fAll_ok {K : PySem.W.Frag} : OpN K (rAll K) fAll := by
  refine n1_ok fun F H d v c Q sb h e q => ?_
  obtain ⟨a, ns, ev, hq, ec⟩ := bll sb h e
  subst ec
  exact ⟨a, ns, by rw [ev], hq, fin_val sb q rfl⟩
theorem fAny_ok {K : PySem.W.Frag} : OpN K (rAny K) fAny := by
  refine n1_ok fun F H d v c Q sb h e q => ?_
  obtain ⟨a, ns, ev, hq, ec⟩ := bll sb h e
  subst ec
  exact ⟨a, ns, by rw [ev], hq, fin_val sb q rfl⟩
def gGcd : D → D → Option Cell
  | .int a, .int b => some (.val (.int ((Nat.gcd a.natAbs b.natAbs : Nat) : Int)))
  | _, _ => none
abbrev fGcd : DOpN := n2 gGcd
theorem fGcd_ok {K : PySem.W.Frag} : OpN K rGcd fGcd := by
  refine n2_ok fun F H d d2 v v2 c Q sb h h2 e q => ?_
  cases d <;> cases d2 <;> first | (cases e; done) | skip
  cases (show v = V.int _ from h)
  cases (show v2 = V.int _ from h2)
  cases e
  exact ⟨_, _, rfl, fin_val sb q rfl⟩
def gDivmod : D → D → Option Cell
  | .int i, .int j => if 0 < j ∧ Builtin.divisionGoesByPylong i j = false then some (.val (.tup [.int (i / j), .int (i % j)])) else none
  | _, _ => none
abbrev fDivmod : DOpN := n2 gDivmod
def rDivmod : List V → Hp → VK → Prop := fun xs H Q => ∃ i j, xs = [.int i, .int j] ∧ CDivP i j ∧ ∀ p, H p = none → Q (.ref p) (upd H p (.tup [.int (i / j), .int (i % j)]))
theorem fDivmod_ok {K : PySem.W.Frag} : OpN K rDivmod fDivmod := by
  refine n2_ok fun F H d d2 v v2 c Q sb h h2 e q => ?_
  cases d <;> cases d2 <;> first | (cases e; done) | skip
  rename_i i j
  cases (show v = V.int _ from h)
  cases (show v2 = V.int _ from h2)
  have e' : (if 0 < j ∧ Builtin.divisionGoesByPylong i j = false then some (Cell.val (.tup [.int (i / j), .int (i % j)])) else none) = some c := e
  split at e'
  · rename_i hc
    cases e'
    exact ⟨_, _, rfl, hc, fun p hp => fin_tup sb q hp ⟨_, _, rfl, rfl, _, _, rfl, rfl, rfl⟩⟩
  · cases e'
/-- the numbers in order -/
def sortI (ns : List Int) : List Int := ns.mergeSort (fun a b => decide (a ≤ b))
theorem sortI_eq {ns ms : List Int} (h : ms.Perm ns) (s : ms.Pairwise (· ≤ ·)) : ms = sortI ns := by
  have h2 : (sortI ns).Pairwise (· ≤ ·) := by
    have := List.pairwise_mergeSort (le := fun a b : Int => decide (a ≤ b)) (fun a b c => by simp only [decide_eq_true_eq]; omega) (fun a b => by simp only [Bool.or_eq_true, decide_eq_true_eq]; omega) ns
    exact this.imp fun h => of_decide_eq_true h
  exact List.Perm.eq_of_pairwise (le := fun a b : Int => a ≤ b) (fun a b _ _ h1 h2 => by omega) s h2 (h.trans (List.mergeSort_perm ns _).symm)
def gSort (d : D) : Option Cell := match lstOf d with
  | some ds => (numsD ds).map fun ns => .own ((sortI ns).map D.int)
  | none => none
abbrev fSort : DOpN := n1 gSort
theorem fSort_ok {K : PySem.W.Frag} : OpN K (rSortedI K) fSort := by
  refine n1_ok fun F H d v c Q sb h e q => ?_
  obtain ⟨a, ns, ev, hq, ec, _⟩ := intl sb h e
  subst ec
  refine ⟨a, ns, by rw [ev], hq, fun ns' p h1 h2 hp => ?_⟩
  rw [sortI_eq h1 h2]
  exact fin_lst sb q hp (RpL.ints _)
/-! ### isinstance -/
def tyD : D → Option String
  | .non => some "NoneType"
  | .bl _ => some "bool"
  | .int _ => some "int"
  | .str _ => some "str"
  | .tup _ => some "tuple"
  | .lst _ => some "list"
  | .fix _ => some "list"
  | .dic _ _ => some "dict"
  | .ty _ => none
theorem tyD_lst {K : PySem.W.Frag} {H : Hp} {a : Addr} {xs : List V} (h : SqL K H a xs) : TyX K H (.ref a) (.type "list") := by
  rcases h with (h | ⟨o, h⟩) | ⟨o, its, n, e, c, _⟩
  · exact .base (.lst h)
  · exact .base (.frz h)
  · exact .kList e c
theorem tyD_tup {K : PySem.W.Frag} {H : Hp} {a : Addr} {xs : List V} (h : SqT K H a xs) : TyX K H (.ref a) (.type "tuple") := by
  rcases h with (h | ⟨o, h⟩) | ⟨o, its, n, e, c, _⟩
  · exact .base (.tup h)
  · exact .fTuple h
  · exact .kTuple e c
theorem tyD_ok {K : PySem.W.Frag} {F H : Hp} (sb : Same F H) : ∀ {d : D} {v : V} {t : String}, RpV K F H d v → tyD d = some t → TyX K H v (.type t)
  | .non, _, _, h, e => by cases (show _ = V.non from h); cases e; exact .base .non
  | .bl _, _, _, h, e => by cases (show _ = V.bl _ from h); cases e; exact .base (.bl _)
  | .int _, _, _, h, e => by cases (show _ = V.int _ from h); cases e; exact .base (.int _)
  | .str _, _, _, h, e => by cases (show _ = V.str _ from h); cases e; exact .base (.str _)
  | .tup _, _, _, h, e => by
    obtain ⟨a, vs, rfl, q, r⟩ := RpV.tup_ sb h
    cases e
    exact tyD_tup q
  | .lst _, _, _, h, e => by
    obtain ⟨a, vs, rfl, q, r⟩ := h
    cases e
    exact tyD_lst (SqL.of q)
  | .fix _, _, _, h, e => by
    obtain ⟨a, vs, rfl, q, r⟩ := h
    cases e
    exact tyD_lst (sb.seq q)
  | .dic _ _, _, _, h, e => by
    obtain ⟨a, vs, rfl, q, _, r⟩ := h
    cases e
    exact .base (.dK (sb _ _ q))
  | .ty _, _, _, _, e => by cases e
/-- of the built-in types told here: is the first one the second, or under it -/
def isB (a b : String) : Option Bool :=
  if b = "int" then some (a == "int" || a == "bool") else if b = "bool" || b = "str" || b = "tuple" || b = "list" || b = "dict" then some (a == b) else none
theorem isB_ok : ∀ {d : D} {a b : String} {r : Bool}, tyD d = some a → isB a b = some r → kitB a b = some r := by
  intro d a b r ha hb
  have h1 : a = "NoneType" ∨ a = "bool" ∨ a = "int" ∨ a = "str" ∨ a = "tuple" ∨ a = "list" ∨ a = "dict" := by
    cases d <;> cases ha <;> simp
  have h2 : b = "int" ∨ b = "bool" ∨ b = "str" ∨ b = "tuple" ∨ b = "list" ∨ b = "dict" := by
    unfold isB at hb
    split at hb
    · exact .inl ‹_›
    · split at hb
      · rename_i z
        simp only [Bool.or_eq_true, decide_eq_true_eq] at z
        rcases z with (((z | z) | z) | z) | z <;> simp [z]
      · cases hb
  rcases h1 with rfl | rfl | rfl | rfl | rfl | rfl | rfl <;> rcases h2 with rfl | rfl | rfl | rfl | rfl | rfl <;> (rw [← hb]; decide +kernel)
def isBs (a : String) : List D → Option Bool
  | [] => some false
  | .ty b :: cs => (match isB a b, isBs a cs with
    | some x, some y => some (x || y)
    | _, _ => none)
  | _ :: _ => none
/-- isinstance: of a built-in type, of one of several -/
def gIsi : D → D → Option Cell
  | d, .ty b => (tyD d).bind fun a => (isB a b).map fun r => .val (.bl r)
  | d, .tup cs => (tyD d).bind fun a => (isBs a cs).map fun r => .val (.bl r)
  | _, _ => none
abbrev fIsi : DOpN := n2 gIsi
/-- isinstance(x, (c, ..)) of a tuple that is read -/
def rIsiS (K : PySem.W.Frag) : List V → Hp → VK → Prop := fun xs H Q => ∃ (x : V) (tp : Addr) (cs : List V) (t : Value) (us : List Value) (b : Bool), xs = [x, .ref tp] ∧ SqT K H tp cs ∧ Paired ClsV cs us ∧ TyX K H x t ∧ PySem.W.kitAny K t us = some b ∧ Q (.bl b) H
theorem call_isiS {X : Cx} : CallR X (.builtin "isinstance") (rIsiS X.K) := by
  intro pins s σ H xs us Q I r h
  obtain ⟨x, tp, cs, t, ws, b, rfl, hT, k, ty, e, q⟩ := h
  obtain ⟨u1, u2, rfl, r1, r2⟩ := vals2 r
  cases (show u2 = Value.ref tp from r2)
  obtain ⟨P, Z, p, hx⟩ := kit_of I r1 ty
  obtain ⟨its, rv, ⟨o, h1, h2, n, h3⟩, hz⟩ := I.tuple hT
  have e3 := ClsV.all k rv
  subst e3
  obtain ⟨oc, od, dt, sl⟩ := o
  simp only at h2 h3
  subst h2 h3
  exact PySem.W.kia_tup Z I.kIn p h1 e hx fun tk => ⟨.bl b, H, I.tok tk, rfl, q⟩
def rIsiD (K : PySem.W.Frag) : List V → Hp → VK → Prop := fun xs H Q => rIsi K xs H Q ∨ rIsiS K xs H Q
theorem cr_isi {X : Cx} : CallR X (.builtin "isinstance") (rIsiD X.K) := call_isi.or call_isiS
theorem isBs_ok {K : PySem.W.Frag} {F : Hp} {d : D} {a : String} (ha : tyD d = some a) : ∀ {cs : List D} {vs : List V} {r : Bool}, RpL K F cs vs → isBs a cs = some r → ∃ us, Paired ClsV vs us ∧ PySem.W.kitAny K (.type a) us = some r
  | [], vs, r, h, e => by
    cases (show vs = [] from h)
    cases e
    exact ⟨[], .nil, rfl⟩
  | c :: cs, vs, r, ⟨v, rest, ev, h1, h2⟩, e => by
    subst ev
    cases c <;> first | (cases e; done) | skip
    rename_i b
    cases (show v = V.ty b from h1)
    have e' : (match isB a b, isBs a cs with | some x, some y => some (x || y) | _, _ => none) = some r := e
    split at e'
    · rename_i x y e1 e2
      cases e'
      obtain ⟨us, p, k⟩ := isBs_ok ha h2 e2
      refine ⟨_, .cons (.ty b) p, kitAny_cons (kit_ty (isB_ok ha e1)) (fun z => ?_) (fun z => ?_)⟩
      · subst z; exact k
      · subst z; rfl
    · cases e'
theorem fIsi_ok {K : PySem.W.Frag} : OpN K (rIsiD K) fIsi := by
  refine n2_ok fun F H d d2 v v2 c Q sb h h2 e q => ?_
  cases d2 <;> first | (cases d <;> cases e; done) | skip
  · rename_i cs
    have e' : ((tyD d).bind fun a => (isBs a cs).map fun r => Cell.val (.bl r)) = some c := by cases d <;> exact e
    cases ea : tyD d with
    | none => rw [ea] at e'; cases e'
    | some a =>
      rw [ea] at e'
      simp only [Option.bind_some] at e'
      cases eb : isBs a cs with
      | none => rw [eb] at e'; cases e'
      | some r =>
        rw [eb] at e'
        cases e'
        obtain ⟨p, us, rfl, q1, r1⟩ := RpV.tup_ sb h2
        obtain ⟨ws, k1, k2⟩ := isBs_ok ea r1 eb
        exact .inr ⟨v, p, us, _, ws, r, rfl, q1, k1, tyD_ok sb h ea, k2, fin_val sb q rfl⟩
  · rename_i b
    have e' : ((tyD d).bind fun a => (isB a b).map fun r => Cell.val (.bl r)) = some c := by cases d <;> exact e
    cases ea : tyD d with
    | none => rw [ea] at e'; cases e'
    | some a =>
      rw [ea] at e'
      simp only [Option.bind_some] at e'
      cases eb : isB a b with
      | none => rw [eb] at e'; cases e'
      | some r =>
        rw [eb] at e'
        cases e'
        cases (show v2 = V.ty b from h2)
        exact .inl ⟨v, _, _, _, r, rfl, .ty b, tyD_ok sb h ea, kit_ty (isB_ok ea eb), fin_val sb q rfl⟩
/-! ### displays -/
def mDs : List DE → En → (List D → En → Prop) → DX → Prop
  | [], ρ, Q, _ => Q [] ρ
  | t :: ts, ρ, Q, E => t ρ (fun d ρ1 => mDs ts ρ1 (fun ds => Q (d :: ds)) E) E
def rDs (B : Bd) (W : WX) (ts : List DE) : TA := fun σ H Q => ∃ F L ρ Qd Ed, SR B F L σ H ρ ∧ mDs ts ρ Qd Ed ∧
  (∀ ds ρ' vs F' L' H', Qd ds ρ' → SR B F' L' σ H' ρ' → Stp F L H F' L' H' → RpL B.K F' ds vs → Q vs H') ∧ XOk B W F Ed
section
variable {X : Cx} {B : Bd} {W : WX} {pos : Pos} {e : Expr} {es : List Expr} {t : DE} {ts : List DE}
theorem ddn : PA X [] (rDs B W []) := pa_imp pa_nil fun σ H Q ⟨F, L, ρ, Qd, Ed, S, ht, hq, hx⟩ => hq [] ρ [] F L H ht S (Stp.refl _ _ _) rfl
theorem ddc (ha : PE X e (rV B W t)) (hr : PA X es (rDs B W ts)) (hs : starEach (e :: es) X.env = (false, eval e X.env) :: starEach es X.env := by rfl) : PA X (e :: es) (rDs B W (t :: ts)) :=
  pa_imp (pa_cons ha hr hs) fun σ H Q ⟨F, L, ρ, Qd, Ed, S, ht, hq, hx⟩ =>
    ⟨F, L, ρ, _, Ed, S, ht, fun d ρ1 v F1 L1 H1 q1 S1 s1 r1 => ⟨F1, L1, ρ1, _, Ed, S1, q1, fun ds ρ2 vs F2 L2 H2 q2 S2 s2 r2 => hq (d :: ds) ρ2 (v :: vs) F2 L2 H2 q2 S2 (s1.trans s2) ⟨v, vs, rfl, r1.mono s2.f, r2⟩, hx.mono s1.f⟩, hx⟩
def mTup (ts : List DE) : DE := fun ρ Q E => mDs ts ρ (fun ds ρ1 => ds.length ≤ sizeLine ∧ Q (.tup ds) ρ1) E
def mLst (ts : List DE) : DC := fun ρ Q E => mDs ts ρ (fun ds ρ1 => ds.length ≤ sizeLine ∧ Q (.own ds) ρ1) E
theorem de_tup {j : Nat} (h : PA X es (rDs B W ts)) : PE X (.Tuple es j pos) (rV B W (mTup ts)) := by
  refine pe_imp (pe_tup h) fun σ H Q ⟨F, L, ρ, Qd, Ed, S, ht, hq, hx⟩ => ⟨F, L, ρ, _, Ed, S, ht, fun ds ρ1 vs F1 L1 H1 ⟨hl, k⟩ S1 s1 r1 => ⟨by rw [← r1.length]; exact hl, fun p hp => ?_⟩, hx⟩
  obtain ⟨g, s⟩ := grow_upd (o := .tup vs) S1.sub hp
  exact hq (.tup ds) ρ1 _ _ L1 _ k (S1.grow g s) (s1.trans g.stp) ⟨p, vs, rfl, SqT.of upd_same, r1.mono g.f⟩
theorem dc_lst (h : PA X es (rDs B W ts)) : PE X (.List es pos) (rC B W (mLst ts)) := by
  refine pe_imp (pe_lst h) fun σ H Q ⟨F, L, ρ, Qd, Ed, S, ht, hq, hx⟩ => ⟨F, L, ρ, _, Ed, S, ht, fun ds ρ1 vs F1 L1 H1 ⟨hl, k⟩ S1 s1 r1 => ⟨by rw [← r1.length]; exact hl, fun p hp => ?_⟩, hx⟩
  have g : Grow F1 H1 F1 (upd H1 p (.lst vs)) := ⟨Same.refl F1, same_upd hp, fun _ _ e => .inl e⟩
  have n : NewR B.K H1 (.own ds) (.ref p) F1 (upd H1 p (.lst vs)) := ⟨p, vs, rfl, hp, upd_same, S1.sub.free hp, r1⟩
  exact hq (.own ds) ρ1 _ _ L1 _ k (S1.grow g (S1.sub.trans (same_upd hp))) (s1.trans g.stp) ((n.res S1).back s1)
/-! ### a op b op c -/
def mChain (f g : DOp2) (a b c : AX) : DC := fun ρ Q E => mAX a ρ (fun x ρ1 => mAX b ρ1 (fun y ρ2 => app2 f ρ2 x y fun r ρ3 => match r with
  | .val (.bl true) => mAX c ρ3 (fun z ρ4 => app2 g ρ4 y z Q) E
  | .val (.bl false) => Q (.val (.bl false)) ρ3
  | _ => False) E) E
theorem chain_ok {a b c : Expr} {ax bx cx : AX} {r r' : R2} {f g : DOp2} (hf : Op2 B.K r f) (hg : Op2 B.K r' g) {σ : L2.St} {H : Hp} {Q : VK} (h : rC B W (mChain f g ax bx cx) σ H Q) : tChain r r' (rX B W ax) (rX B W bx) (rX B W cx) σ H Q := by
  obtain ⟨F, L, ρ, Qd, Ed, S, ht, hq, hx⟩ := h
  refine two_X S ht hx fun x y ρ' v u F' L' H' k S' s r1 r2 => ?_
  refine app2_ok hf S' k r1 r2 fun c w F2 H2 q S2 s2 rs => ?_
  split at q
  · cases (show w = V.bl true from rs)
    refine ⟨true, rfl, ?_⟩
    rw [if_pos rfl]
    refine ⟨F2, L', ρ', _, Ed, S2, q, fun z ρ3 zv F3 L3 H3 q3 S3 s3 r3 => ?_, hx.mono (s.f.trans s2.f)⟩
    have st := (s.trans s2).trans s3
    exact app2_ok hg S3 q3 ((r2.step s2).step s3) r3 fun c w F4 H4 q4 S4 s4 rs4 => hq c ρ3 w F4 L3 H4 q4 S4 (st.trans s4) (rs4.back st)
  · cases (show w = V.bl false from rs)
    exact ⟨false, rfl, by rw [if_neg (by decide)]; exact hq _ ρ' _ F2 L' H2 q S2 (s.trans s2) rfl⟩
  · exact q.elim
theorem dc_chain {a b c : Expr} {ax bx cx : AX} {op op' : CmpOp} {r r' : R2} {f g : DOp2} (ho : OpR X (compareOp op) r) (ho' : OpR X (compareOp op') r') (hf : Op2 B.K r f) (hg : Op2 B.K r' g) (ha : PE X a (rX B W ax)) (hb : PE X b (rX B W bx)) (hc : PE X c (rX B W cx))
    (hm : lastMarks [op, op'] [b, c] = false := by with_unfolding_all rfl) : PE X (.Compare a [op, op'] [b, c] pos) (rC B W (mChain f g ax bx cx)) := pe_imp (pe_chain ho ho' ha hb hc hm) fun _ _ _ h => chain_ok (a := a) (b := b) (c := c) hf hg h
theorem dt_chain {a b c : Expr} {ax bx cx : AX} {op op' : CmpOp} {r r' : R2} {f g : DOp2} (ho : OpR X (compareOp op) r) (ho' : OpR X (compareOp op') r') (hf : Op2 B.K r f) (hg : Op2 B.K r' g) (ha : PE X a (rX B W ax)) (hb : PE X b (rX B W bx)) (hc : PE X c (rX B W cx))
    (hm : lastMarks [op, op'] [b, c] = false := by with_unfolding_all rfl) : PT X (.Compare a [op, op'] [b, c] pos) (rT B W (asT (mChain f g ax bx cx))) := by
  refine pt_imp (pt_chain ho ho' ha hb hc hm) fun σ H Q ⟨F, L, ρ, Qd, Ed, S, ht, hq, hx⟩ => ?_
  refine chain_ok (a := a) (b := b) (c := c) hf hg ⟨F, L, ρ, _, Ed, S, ht, fun c ρ' v F' L' H' q S' s r => ?_, hx⟩
  cases c with
  | own _ => exact False.elim q
  | val d =>
    cases d with
    | bl b =>
      have e : v = .bl b := r
      exact ⟨b, e, hq b ρ' F' L' H' q S' s⟩
    | _ => exact False.elim q
end
end DL
/-! The data layer: defs and their calls. -/
namespace DL
open PySem PySem.Spec PyProof.Rows L2
/-- lists handed over, by the parameter's place -/
abbrev Outs := Nat → List D
def outsOf (ρ : En) : Outs := fun i => match ρ.getD i none with
  | some (.own ds) => ds
  | _ => []
/-- what a def does: cells in, a result and the handed lists out, or an exception -/
abbrev DSp := List Cell → (Cell → Outs → Prop) → (Str → List (Str × D) → Outs → Prop) → Prop
/-- behind a def -/
structure Post (B : Bd) (F' H' : Hp) (o : Outs) : Prop where
  f : Same B.F0 F'
  sub : Same F' H'
  h : ∀ b u, B.H0 b = some u → (∀ j ∈ B.ios, B.ad j ≠ b) → H' b = some u
  fn : ∀ b u, F' b = some u → B.F0 b = some u ∨ B.H0 b = none
  al : ∀ b, B.H0 b ≠ none → H' b ≠ none
  io : ∀ j ∈ B.ios, ∃ us, H' (B.ad j) = some (.lst us) ∧ F' (B.ad j) = none ∧ RpL B.K F' (o j) us
def ResD (B : Bd) (F' H' : Hp) : Cell → V → Prop
  | .val d, v => Rp B.K F' d v
  | .own ds, v => ∃ a vs, v = .ref a ∧ H' a = some (.lst vs) ∧ F' a = none ∧ B.H0 a = none ∧ RpL B.K F' ds vs
/-- the def's promise in the kit's terms: n parameters, those at ios are lists handed over -/
def spD (K : PySem.W.Frag) (n : Nat) (ios : List Nat) (w : DSp) : Sp := fun vs H Q E => ∃ F L cs ad Qd Ed, vs.length = n ∧ SR ⟨K, H, F, ios, ad⟩ F L (vs.map some) H (cs.map some) ∧ w cs Qd Ed ∧
  (∀ c o v F' H', Qd c o → Post ⟨K, H, F, ios, ad⟩ F' H' o → ResD ⟨K, H, F, ios, ad⟩ F' H' c v → Q v H') ∧
  (∀ c fs o cls dd F' H', Ed c fs o → Post ⟨K, H, F, ios, ad⟩ F' H' o → ExcR K F' H' c fs cls dd → E cls dd H')
theorem spD_len {K : PySem.W.Frag} {n : Nat} {ios : List Nat} {w : DSp} : ∀ vs H Q E, spD K n ios w vs H Q E → vs.length = n := fun _ _ _ _ ⟨_, _, _, _, _, _, h, _⟩ => h
/-- a body, as what a def does; k: how many names stand behind the parameters -/
def wDef (k : Nat) (t : DS) : DSp := fun cs Qd Ed => t ⟨fun ρ => Qd (.val .non) (outsOf ρ), fun c ρ => Qd c (outsOf ρ), fun _ => False, fun _ => False, fun c fs ρ => Ed c fs (outsOf ρ)⟩ (cs.map some ++ List.replicate k none)
theorem getD_pad {α : Type} {l : List (Option α)} {k i : Nat} : (l ++ List.replicate k none).getD i none = l.getD i none := by
  rw [List.getD_eq_getElem?_getD, List.getD_eq_getElem?_getD]
  by_cases h : i < l.length
  · rw [List.getElem?_append_left h]
  · rw [List.getElem?_append_right (by omega), List.getElem?_eq_none (l := l) (by omega)]
    by_cases h2 : i - l.length < k
    · rw [List.getElem?_replicate, if_pos h2]; rfl
    · rw [List.getElem?_replicate, if_neg h2]
theorem SR.pad {B : Bd} {F H : Hp} {L : La} {σ : L2.St} {ρ : En} (S : SR B F L σ H ρ) (k : Nat) : SR B F L (σ ++ List.replicate k none) H (ρ ++ List.replicate k none) where
  len := by rw [List.length_append, List.length_append, S.len]; simp
  sub := S.sub
  slot := fun i => by
    rw [getD_pad, getD_pad]
    exact S.slot i
  inj := S.inj
  f0 := S.f0
  fn := S.fn
  keep := S.keep
  io := S.io
  al := S.al
theorem SR.post {B : Bd} {F H : Hp} {L : La} {σ : L2.St} {ρ : En} (S : SR B F L σ H ρ) : Post B F H (outsOf ρ) where
  f := S.f0
  sub := S.sub
  h := S.keep
  fn := S.fn
  al := S.al
  io := fun j hj => by
    obtain ⟨ds, vs, e1, e2, e3, e4, e5, _⟩ := S.own (S.io j hj)
    refine ⟨vs, e3, e4, ?_⟩
    unfold outsOf
    rw [e1]
    exact e5
theorem CellR.resD {B : Bd} {F H : Hp} {L : La} : ∀ {c : Cell} {v : V}, CellR B F L H c v → ResD B F H c v
  | .val _, _, h => h
  | .own _, _, ⟨a, vs, e, h1, h2, _, h4, h5⟩ => ⟨a, vs, e, h1, h2, h4, h5⟩
/-- THE RULE for a def -/
theorem def_ok {K : PySem.W.Frag} {P : Program} {w : World} {mg : Str → Option Value} {base : Heap} {x qual : Str} {params : Arguments} {body : List Stmt} {scope : Scope} {dvs : List V} {kws : List (Str × V)} {f : Addr} {fd : FuncData} {N ps : List Str} {k : Nat} (n : Nat) (ios : List Nat) {tb : DS}
    (Fd : FunD K x qual params body scope dvs kws f fd) (S : FnScope N ps scope) (hn : ps.length = n)
    (hb : ∀ (cdv : Value) (A : Around) (outer : List Env) (s : Shared) (H F : Hp) (E : XK) (ad : Nat → Addr), Room k (A.deeper (envOfC qual scope s.heap.objs.size f cdv)) → Takes (cxOf (L2.CX P w) P w K mg base N qual scope f cdv A outer s H E) (fun cls d _ H' => E cls d H') →
      PSs (cxOf (L2.CX P w) P w K mg base N qual scope f cdv A outer s H E) body (rS ⟨K, H, F, ios, ad⟩ (fun cls d _ H' => E cls d H') tb)) : FnOk P w K mg base (L2.CX P w) (k + 1) f fd ps (spD K n ios (wDef (N.length - n) tb)) := by
  refine Fd.ok S (fun vs H Q E h => by rw [spD_len _ _ _ _ h, hn]) fun cdv A outer s H vs Q E hr ⟨F, L, cs, ad, Qd, Ed, hl, hS, hw, hq, hx⟩ => ?_
  refine ⟨_, hb cdv A outer s H F E ad hr (takes_of rfl rfl rfl rfl), F, L, _, _, ?_, hw, ⟨fun ρ' σ' F' L' H' q S' _ => ?_, fun r ρ' v σ' F' L' H' q S' _ c => ?_, fun ρ' σ' F' L' H' q S' _ => ?_, fun ρ' σ' F' L' H' q S' _ => ?_, fun c fs ρ' cls dd σ' F' L' H' q S' _ ex => ?_⟩⟩
  · have := hS.pad (N.length - n)
    unfold L2.start
    rw [hl]
    exact this
  · exact hq (.val .non) _ .non F' H' q S'.post rfl
  · exact hq r _ v F' H' q S'.post c.resD
  · exact q.elim
  · exact q.elim
  · exact hx c fs _ cls dd F' H' q S'.post ex
/-! ### arguments of a call -/
/-- data; a name's own list, handed over; a list that no name holds, handed over -/
inductive KX where
  | e (t : DE) | s (i : Nat) | t (t : DC)
inductive KV where
  | d (d : D) | s (i : Nat) | t (ds : List D)
inductive KS where
  | d | s (i : Nat) | t
def KX.sh : KX → KS
  | .e _ => .d
  | .s i => .s i
  | .t _ => .t
def KV.sh : KV → KS
  | .d _ => .d
  | .s i => .s i
  | .t _ => .t
def mKX : KX → En → (KV → En → Prop) → DX → Prop
  | .e t, ρ, Q, E => t ρ (fun d => Q (.d d)) E
  | .s i, ρ, Q, _ => match ρ.getD i none with
    | some (.own _) => Q (.s i) ρ
    | _ => False
  | .t t, ρ, Q, E => t ρ (fun c ρ1 => match c with
    | .own ds => Q (.t ds) ρ1
    | .val _ => False) E
def mKXs : List KX → En → (List KV → En → Prop) → DX → Prop
  | [], ρ, Q, _ => Q [] ρ
  | a :: as, ρ, Q, E => mKX a ρ (fun x ρ1 => mKXs as ρ1 (fun xs => Q (x :: xs)) E) E
def KR (B : Bd) (F : Hp) (L : La) (H : Hp) : KV → V → Prop
  | .d d, v => Rp B.K F d v
  | .s i, v => ∃ a, v = .ref a ∧ ∀ b, L i = some b → b = a
  | .t ds, v => CellR B F L H (.own ds) v
def KRs (B : Bd) (F : Hp) (L : La) (H : Hp) : List KV → List V → Prop
  | [], vs => vs = []
  | x :: xs, vs => ∃ v r, vs = v :: r ∧ KR B F L H x v ∧ KRs B F L H xs r
theorem KR.step {B : Bd} {F H F' H' : Hp} {L L' : La} (s : Stp F L H F' L' H') : ∀ {x : KV} {v : V}, KR B F L H x v → KR B F' L' H' x v
  | .d _, _, h => Rp.mono s.f h
  | .s i, _, ⟨a, e, h⟩ => ⟨a, e, fun b q => h b (s.l i b q)⟩
  | .t ds, _, h => CellR.stp (c := .own ds) s h
theorem KRs.get {B : Bd} {F H : Hp} {L : La} : ∀ {xs : List KV} {vs : List V} {i : Nat} {x : KV}, KRs B F L H xs vs → xs[i]? = some x → ∃ v, vs[i]? = some v ∧ KR B F L H x v
  | [], _, _, _, _, e => by simp at e
  | x :: xs, _, 0, y, ⟨v, r, ev, h1, h2⟩, e => by
    subst ev
    simp at e
    subst e
    exact ⟨v, rfl, h1⟩
  | x :: xs, _, i + 1, y, ⟨v, r, ev, h1, h2⟩, e => by
    subst ev
    obtain ⟨u, e2, h3⟩ := KRs.get h2 (i := i) (x := y) (by simpa using e)
    exact ⟨u, by simpa using e2, h3⟩
theorem KRs.length {B : Bd} {F H : Hp} {L : La} : ∀ {xs : List KV} {vs : List V}, KRs B F L H xs vs → vs.length = xs.length
  | [], _, h => by
    cases (show _ = [] from h)
    rfl
  | x :: xs, _, ⟨v, r, ev, h1, h2⟩ => by
    subst ev
    rw [List.length_cons, List.length_cons, KRs.length h2]
/-- where the lists no name holds come from -/
def KNew (H : Hp) (L : La) (xs : List KV) (vs : List V) : Prop := ∀ (i : Nat) (ds : List D) (a : Addr), xs[i]? = some (KV.t ds) → vs[i]? = some (V.ref a) → H a = none ∨ ∃ j, L j = some a
def rK (B : Bd) (W : WX) (as : List KX) : TA := fun σ H Q => ∃ F L ρ Qd Ed, SR B F L σ H ρ ∧ mKXs as ρ Qd Ed ∧
  (∀ xs ρ' vs F' L' H', Qd xs ρ' → SR B F' L' σ H' ρ' → Stp F L H F' L' H' → KRs B F' L' H' xs vs → xs.map KV.sh = as.map KX.sh → KNew H L xs vs → Q vs H') ∧ XOk B W F Ed
section
variable {X : Cx} {B : Bd} {W : WX} {pos : Pos} {e : Expr} {es : List Expr}
/-- one argument -/
def rK1 (B : Bd) (W : WX) (a : KX) : TE := fun σ H Q => ∃ F L ρ Qd Ed, SR B F L σ H ρ ∧ mKX a ρ Qd Ed ∧
  (∀ x ρ' v F' L' H', Qd x ρ' → SR B F' L' σ H' ρ' → Stp F L H F' L' H' → KR B F' L' H' x v → x.sh = a.sh → (∀ ds a, x = .t ds → v = .ref a → H a = none ∨ ∃ j, L j = some a) → Q v H') ∧ XOk B W F Ed
theorem dk_e {t : DE} (h : PE X e (rV B W t)) : PE X e (rK1 B W (.e t)) :=
  pe_imp h fun σ H Q ⟨F, L, ρ, Qd, Ed, S, ht, hq, hx⟩ => ⟨F, L, ρ, fun d => Qd (.d d), Ed, S, ht, fun d ρ' v F' L' H' q S' s r => hq (.d d) ρ' v F' L' H' q S' s r rfl (fun _ _ z => by cases z), hx⟩
theorem dk_t {t : DC} (h : PE X e (rC B W t)) : PE X e (rK1 B W (.t t)) := by
  refine pe_imp h fun σ H Q ⟨F, L, ρ, Qd, Ed, S, ht, hq, hx⟩ => ⟨F, L, ρ, _, Ed, S, ht, fun c ρ' v F' L' H' q S' s r => ?_, hx⟩
  cases c with
  | val d => exact False.elim q
  | own ds =>
    refine hq (.t ds) ρ' v F' L' H' q S' s r.cell rfl fun ds' a z ev => ?_
    obtain ⟨b, vs, eb, h1, h2, h3, h4, h5, h6⟩ := r
    rw [ev] at eb
    cases eb
    exact h6
theorem dk_s (i : Nat) {x : Str} (hN : X.N[i]? = some x := by rfl) (hv : Vis X.env.scope x := by first | exact Or.inl rfl | exact Or.inr (Or.inl rfl) | exact Or.inr (Or.inr rfl)) (hd : (x == ("__debug__" : Str)) = false := by decide)
    (hcd : (x == ("__classdict__" : Str)) = false := by decide) : PE X (.Name x pos) (rK1 B W (.s i)) := by
  refine pe_imp (pe_var (i := i) hN hv hd hcd) fun σ H Q ⟨F, L, ρ, Qd, Ed, S, ht, hq, hx⟩ => ?_
  have ht' : (match ρ.getD i none with | some (.own _) => Qd (.s i) ρ | _ => False) := ht
  split at ht'
  · rename_i ds e
    obtain ⟨a, vs, h1, h2, h3, h4, h5, h6⟩ := S.ow e
    exact ⟨_, h1, hq (.s i) ρ _ F L H ht' S (Stp.refl _ _ _) ⟨a, rfl, fun b q => by rw [h2] at q; cases q; rfl⟩ rfl (fun _ _ z => by cases z)⟩
  · exact ht'.elim
theorem KNew.cons {H : Hp} {L : La} {x : KV} {xs : List KV} {v : V} {vs : List V} (h1 : ∀ ds a, x = .t ds → v = .ref a → H a = none ∨ ∃ j, L j = some a) (h2 : KNew H L xs vs) : KNew H L (x :: xs) (v :: vs) := fun i ds a e1 e2 => by
  cases i with
  | zero => exact h1 ds a (by simpa using e1) (by simpa using e2)
  | succ i => exact h2 i ds a (by simpa using e1) (by simpa using e2)
theorem KNew.back {F H F1 H1 : Hp} {L L1 : La} {xs : List KV} {vs : List V} (s : Stp F L H F1 L1 H1) (h : KNew H1 L1 xs vs) : KNew H L xs vs := fun i ds a e1 e2 => by
  rcases h i ds a e1 e2 with q | ⟨j, q⟩
  · refine .inl ?_
    cases e0 : H a with
    | none => rfl
    | some o => exact absurd q (s.al a (by rw [e0]; simp))
  · exact .inr ⟨j, s.l j a q⟩
theorem dkn : PA X [] (rK B W []) := pa_imp pa_nil fun σ H Q ⟨F, L, ρ, Qd, Ed, S, ht, hq, hx⟩ => hq [] ρ [] F L H ht S (Stp.refl _ _ _) rfl rfl (fun i ds a e => by simp at e)
theorem rK_cons {a : KX} {as : List KX} {σ : L2.St} {H : Hp} {Q : List V → Hp → Prop} (h : rK B W (a :: as) σ H Q) : rK1 B W a σ H fun v H1 => rK B W as σ H1 fun vs H2 => Q (v :: vs) H2 := by
  obtain ⟨F, L, ρ, Qd, Ed, S, ht, hq, hx⟩ := h
  refine ⟨F, L, ρ, _, Ed, S, ht, fun x ρ1 v F1 L1 H1 q1 S1 s1 r1 e1 n1 => ⟨F1, L1, ρ1, _, Ed, S1, q1, fun xs ρ2 vs F2 L2 H2 q2 S2 s2 r2 e2 n2 => ?_, hx.mono s1.f⟩, hx⟩
  exact hq (x :: xs) ρ2 (v :: vs) F2 L2 H2 q2 S2 (s1.trans s2) ⟨v, vs, rfl, r1.step s2, r2⟩ (by simp [e1, e2]) (KNew.cons n1 (n2.back s1))
theorem dkc {a : KX} {as : List KX} (ha : PE X e (rK1 B W a)) (hr : PA X es (rK B W as)) (hs : starEach (e :: es) X.env = (false, eval e X.env) :: starEach es X.env := by rfl) : PA X (e :: es) (rK B W (a :: as)) :=
  pa_imp (pa_cons ha hr hs) fun σ H Q h => rK_cons h
end
/-- the cells the callee gets -/
def rsv (ρ : En) : KV → Option Cell
  | .d d => some (.val d)
  | .s i => match ρ.getD i none with
    | some (.own ds) => some (.own ds)
    | _ => none
  | .t ds => some (.own ds)
def rsvs (ρ : En) : List KV → Option (List Cell)
  | [] => some []
  | x :: xs => match rsv ρ x, rsvs ρ xs with
    | some c, some cs => some (c :: cs)
    | _, _ => none
/-- the handed lists come back -/
def putO (ρ : En) : Nat → List KV → Outs → En
  | _, [], _ => ρ
  | k, x :: xs, o => match x with
    | .s p => putO (ρ.set p (some (.own (o k)))) (k + 1) xs o
    | _ => putO ρ (k + 1) xs o
def mCall (as : List KX) (w : DSp) : DC := fun ρ Q E => mKXs as ρ (fun ks ρ1 => match rsvs ρ1 ks with
  | some cs => w cs (fun c o => Q c (putO ρ1 0 ks o)) (fun c fs o => E c fs (putO ρ1 0 ks o))
  | none => False) E
theorem rsvs_get {ρ : En} : ∀ {ks : List KV} {cs : List Cell}, rsvs ρ ks = some cs → cs.length = ks.length ∧ ∀ (i : Nat) (k : KV), ks[i]? = some k → ∃ c, cs[i]? = some c ∧ rsv ρ k = some c
  | [], cs, e => by
    cases e
    exact ⟨rfl, fun i k h => by simp at h⟩
  | x :: xs, cs, e => by
    have e' : (match rsv ρ x, rsvs ρ xs with | some c, some cs => some (c :: cs) | _, _ => none) = some cs := e
    split at e'
    · rename_i c cs' e1 e2
      cases e'
      obtain ⟨l, g⟩ := rsvs_get e2
      refine ⟨by simp [l], fun i k h => ?_⟩
      cases i with
      | zero =>
        simp at h
        subst h
        exact ⟨c, rfl, e1⟩
      | succ i =>
        obtain ⟨d, h1, h2⟩ := g i k (by simpa using h)
        exact ⟨d, by simpa using h1, h2⟩
    · cases e'
/-- no name twice among the handed ones, at most one list that no name holds -/
def slots : List KS → List Nat
  | [] => []
  | .s i :: l => i :: slots l
  | _ :: l => slots l
def tmps : List KS → Nat
  | [] => 0
  | .t :: l => tmps l + 1
  | _ :: l => tmps l
def nodupB : List Nat → Bool
  | [] => true
  | x :: xs => !xs.contains x && nodupB xs
def goodS (l : List KS) : Bool := nodupB (slots l) && decide (tmps l ≤ 1)
def iosS : Nat → List KS → List Nat
  | _, [] => []
  | k, .d :: l => iosS (k + 1) l
  | k, _ :: l => k :: iosS (k + 1) l
theorem mem_slots : ∀ {l : List KS} {i p : Nat}, l[i]? = some (.s p) → p ∈ slots l
  | [], i, p, h => by simp at h
  | x :: l, 0, p, h => by
    simp at h
    subst h
    exact List.mem_cons_self
  | x :: l, i + 1, p, h => by
    have := mem_slots (l := l) (i := i) (p := p) (by simpa using h)
    cases x with
    | d => exact this
    | s q => exact List.mem_cons_of_mem _ this
    | t => exact this
theorem slots_inj : ∀ {l : List KS} {i j p : Nat}, nodupB (slots l) = true → l[i]? = some (.s p) → l[j]? = some (.s p) → i = j
  | [], i, j, p, _, h, _ => by simp at h
  | x :: l, i, j, p, n, h1, h2 => by
    have nl : nodupB (slots l) = true := by
      cases x with
      | d => exact n
      | t => exact n
      | s q =>
        have n' : (!(slots l).contains q && nodupB (slots l)) = true := n
        rw [Bool.and_eq_true] at n'
        exact n'.2
    cases i with
    | zero =>
      cases j with
      | zero => rfl
      | succ j =>
        simp at h1
        subst h1
        have m := mem_slots (l := l) (i := j) (p := p) (by simpa using h2)
        have n' : (!(slots l).contains p && nodupB (slots l)) = true := n
        rw [Bool.and_eq_true] at n'
        rw [List.contains_iff_mem.mpr m] at n'
        cases n'.1
    | succ i =>
      cases j with
      | zero =>
        simp at h2
        subst h2
        have m := mem_slots (l := l) (i := i) (p := p) (by simpa using h1)
        have n' : (!(slots l).contains p && nodupB (slots l)) = true := n
        rw [Bool.and_eq_true] at n'
        rw [List.contains_iff_mem.mpr m] at n'
        cases n'.1
      | succ j => rw [slots_inj nl (i := i) (j := j) (p := p) (by simpa using h1) (by simpa using h2)]
theorem tmps_pos : ∀ {l : List KS} {i : Nat}, l[i]? = some .t → 0 < tmps l
  | [], i, h => by simp at h
  | x :: l, 0, h => by
    simp at h
    subst h
    exact Nat.succ_pos _
  | x :: l, i + 1, h => by
    have := tmps_pos (l := l) (i := i) (by simpa using h)
    cases x with
    | d => exact this
    | s q => exact this
    | t => exact Nat.succ_pos _
theorem tmps_inj : ∀ {l : List KS} {i j : Nat}, tmps l ≤ 1 → l[i]? = some .t → l[j]? = some .t → i = j
  | [], i, j, _, h, _ => by simp at h
  | x :: l, i, j, n, h1, h2 => by
    have nl : tmps l ≤ 1 := by
      cases x with
      | d => exact n
      | s q => exact n
      | t => exact Nat.le_of_succ_le n
    cases i with
    | zero =>
      cases j with
      | zero => rfl
      | succ j =>
        simp at h1
        subst h1
        have := tmps_pos (l := l) (i := j) (by simpa using h2)
        have n' : tmps l + 1 ≤ 1 := n
        omega
    | succ i =>
      cases j with
      | zero =>
        simp at h2
        subst h2
        have := tmps_pos (l := l) (i := i) (by simpa using h1)
        have n' : tmps l + 1 ≤ 1 := n
        omega
      | succ j => rw [tmps_inj nl (i := i) (j := j) (by simpa using h1) (by simpa using h2)]
theorem iosS_mem : ∀ {l : List KS} {k j : Nat}, j ∈ iosS k l ↔ ∃ i x, l[i]? = some x ∧ x ≠ .d ∧ j = k + i
  | [], k, j => by simp [iosS]
  | x :: l, k, j => by
    have step : (∃ i y, (x :: l)[i]? = some y ∧ y ≠ .d ∧ j = k + i) ↔ (x ≠ .d ∧ j = k) ∨ ∃ i y, l[i]? = some y ∧ y ≠ .d ∧ j = k + 1 + i := by
      constructor
      · rintro ⟨i, y, h1, h2, h3⟩
        cases i with
        | zero =>
          simp at h1
          subst h1
          exact .inl ⟨h2, h3⟩
        | succ i => exact .inr ⟨i, y, by simpa using h1, h2, by omega⟩
      · rintro (⟨h1, h2⟩ | ⟨i, y, h1, h2, h3⟩)
        · exact ⟨0, x, rfl, h1, h2⟩
        · exact ⟨i + 1, y, by simpa using h1, h2, by omega⟩
    rw [step, ← iosS_mem (l := l) (k := k + 1)]
    cases x with
    | d => simp [iosS]
    | s q => simp [iosS]
    | t => simp [iosS]
theorem putO_len (o : Outs) : ∀ (xs : List KV) (ρ : En) (k : Nat), (putO ρ k xs o).length = ρ.length
  | [], _, _ => rfl
  | .d _ :: xs, ρ, k => putO_len o xs ρ (k + 1)
  | .t _ :: xs, ρ, k => putO_len o xs ρ (k + 1)
  | .s p :: xs, ρ, k => by
    show (putO (ρ.set p _) (k + 1) xs o).length = _
    rw [putO_len o xs, List.length_set]
theorem putO_out (o : Outs) : ∀ (xs : List KV) (ρ : En) (k p : Nat), p ∉ slots (xs.map KV.sh) → (putO ρ k xs o).getD p none = ρ.getD p none
  | [], _, _, _, _ => rfl
  | .d _ :: xs, ρ, k, p, h => putO_out o xs ρ (k + 1) p h
  | .t _ :: xs, ρ, k, p, h => putO_out o xs ρ (k + 1) p h
  | .s q :: xs, ρ, k, p, h => by
    show (putO (ρ.set q _) (k + 1) xs o).getD p none = _
    have h' : p ∉ q :: slots (xs.map KV.sh) := h
    rw [putO_out o xs _ _ p fun m => h' (List.mem_cons_of_mem _ m), getD_set_ne fun e => h' (by rw [e]; exact List.mem_cons_self)]
theorem putO_in (o : Outs) : ∀ (xs : List KV) (ρ : En) (k p i : Nat), nodupB (slots (xs.map KV.sh)) = true → xs[i]? = some (.s p) → p < ρ.length → (putO ρ k xs o).getD p none = some (.own (o (k + i)))
  | [], _, _, _, _, _, h, _ => by simp at h
  | x :: xs, ρ, k, p, 0, n, h, hl => by
    simp at h
    subst h
    have n' : (!(slots (xs.map KV.sh)).contains p && nodupB (slots (xs.map KV.sh))) = true := n
    rw [Bool.and_eq_true] at n'
    show (putO (ρ.set p _) (k + 1) xs o).getD p none = _
    have m : p ∉ slots (xs.map KV.sh) := fun m => by
      rw [List.contains_iff_mem.mpr m] at n'
      cases n'.1
    rw [putO_out o xs _ _ p m, getD_set_self hl]
    rfl
  | x :: xs, ρ, k, p, i + 1, n, h, hl => by
    have e : k + (i + 1) = k + 1 + i := by omega
    rw [e]
    cases x with
    | d d => exact putO_in o xs ρ (k + 1) p i n (by simpa using h) hl
    | t d => exact putO_in o xs ρ (k + 1) p i n (by simpa using h) hl
    | s q =>
      have n' : (!(slots (xs.map KV.sh)).contains q && nodupB (slots (xs.map KV.sh))) = true := n
      rw [Bool.and_eq_true] at n'
      exact putO_in o xs (ρ.set q _) (k + 1) p i n'.2 (by simpa using h) (by rw [List.length_set]; exact hl)
/-- where an argument lies -/
def adOf (vs : List V) : Nat → Addr := fun i => match vs[i]? with
  | some (.ref a) => a
  | _ => 0
def lac : Cell → Addr → Option Addr
  | .own _, a => some a
  | _, _ => none
def laOf (cs : List Cell) (vs : List V) : La := fun i => match cs[i]? with
  | some (.own _) => some (adOf vs i)
  | _ => none
theorem sh_get {ks : List KV} {as : List KS} (h : ks.map KV.sh = as) {i : Nat} {k : KV} (e : ks[i]? = some k) : as[i]? = some k.sh := by
  rw [← h, List.getElem?_map, e]
  rfl
theorem getD_map_some {α : Type} {l : List α} {i : Nat} : (l.map some).getD i none = l[i]? := by
  rw [List.getD_eq_getElem?_getD, List.getElem?_map]
  cases l[i]? <;> rfl
section
variable {B : Bd} {F H F1 H1 : Hp} {L L1 : La} {σ : L2.St} {ρ1 : En} {ks : List KV} {vs : List V} {cs : List Cell} {as : List KS}
/-- an argument that is a list handed over: where it lies -/
def ArgAt (B : Bd) (F1 : Hp) (L1 : La) (H1 : Hp) (ρ1 : En) (a : Addr) : KV → Cell → V → Prop
  | .d d, c, v => c = .val d ∧ Rp B.K F1 d v
  | .s p, c, v => ∃ ds us, c = .own ds ∧ v = .ref a ∧ L1 p = some a ∧ ρ1.getD p none = some (.own ds) ∧ H1 a = some (.lst us) ∧ F1 a = none ∧ RpL B.K F1 ds us
  | .t ds, c, v => ∃ us, c = .own ds ∧ v = .ref a ∧ (∀ j, L1 j ≠ some a) ∧ B.H0 a = none ∧ H1 a = some (.lst us) ∧ F1 a = none ∧ RpL B.K F1 ds us
theorem arg_at (S1 : SR B F1 L1 σ H1 ρ1) (r : KRs B F1 L1 H1 ks vs) (e : rsvs ρ1 ks = some cs) {i : Nat} {k : KV} (hk : ks[i]? = some k) : ∃ c v, cs[i]? = some c ∧ vs[i]? = some v ∧ ArgAt B F1 L1 H1 ρ1 (adOf vs i) k c v := by
  obtain ⟨v, hv, rv⟩ := r.get hk
  obtain ⟨c, hc, ec⟩ := (rsvs_get e).2 i k hk
  refine ⟨c, v, hc, hv, ?_⟩
  cases k with
  | d d => cases ec; exact ⟨rfl, rv⟩
  | s p =>
    obtain ⟨a, ea, ha⟩ := rv
    subst ea
    have ead : adOf vs i = a := by unfold adOf; rw [hv]
    have ec' : (match ρ1.getD p none with | some (.own ds) => some (Cell.own ds) | _ => none) = some c := ec
    split at ec'
    · rename_i ds q
      cases ec'
      obtain ⟨b, us, h1, h2, h3, h4, h5, h6⟩ := S1.ow q
      have := ha b h2
      subst this
      rw [ead]
      exact ⟨ds, us, rfl, rfl, h2, q, h3, h4, h5⟩
    · cases ec'
  | t ds =>
    cases ec
    obtain ⟨a, us, ea, h1, h2, h3, h4, h5⟩ := rv
    subst ea
    have ead : adOf vs i = a := by unfold adOf; rw [hv]
    show ∃ us, _
    rw [ead]
    exact ⟨us, rfl, rfl, h3, h4, h1, h2, h5⟩
/-- the callee's state at its entry -/
theorem SR.enter (S1 : SR B F1 L1 σ H1 ρ1) (r : KRs B F1 L1 H1 ks vs) (e : rsvs ρ1 ks = some cs) (hs : ks.map KV.sh = as) (hg : goodS as = true) :
    SR ⟨B.K, H1, F1, iosS 0 as, adOf vs⟩ F1 (laOf cs vs) (vs.map some) H1 (cs.map some) := by
  have hlc := (rsvs_get e).1
  have hlv := r.length
  unfold goodS at hg
  rw [Bool.and_eq_true, decide_eq_true_eq] at hg
  have ofC : ∀ {i : Nat} {a : Addr}, laOf cs vs i = some a → ∃ k ds, ks[i]? = some k ∧ cs[i]? = some (.own ds) ∧ a = adOf vs i := fun {i a} h => by
    unfold laOf at h
    split at h
    · rename_i ds ec
      cases h
      have hi : i < ks.length := by rw [← hlc]; exact (List.getElem?_eq_some_iff.mp ec).1
      exact ⟨ks[i], ds, List.getElem?_eq_getElem hi, ec, rfl⟩
    · cases h
  refine ⟨by rw [List.length_map, List.length_map, hlc, hlv], S1.sub, fun i => ?_, fun i j a h1 h2 => ?_, Same.refl F1, fun a o h => .inl h, fun a o h _ => h, fun j hj => ?_, fun a h => h⟩
  · rw [getD_map_some, getD_map_some]
    by_cases hi : i < ks.length
    · obtain ⟨c, v, hc, hv, h⟩ := arg_at S1 r e (List.getElem?_eq_getElem hi)
      have hla : laOf cs vs i = lac c (adOf vs i) := by
        unfold laOf
        rw [hc]
        cases c <;> rfl
      rw [hc, hv, hla]
      have hS : as[i]? = some ks[i].sh := sh_get hs (List.getElem?_eq_getElem hi)
      generalize hkk : ks[i] = k at h hS
      cases k with
      | d d =>
        obtain ⟨rfl, h⟩ := h
        exact ⟨rfl, v, rfl, h⟩
      | s p =>
        obtain ⟨ds, us, rfl, ev, h1, h2, h3, h4, h5⟩ := h
        exact ⟨adOf vs i, us, by rw [ev], rfl, h3, h4, h5, .inl ⟨i, iosS_mem.mpr ⟨i, _, hS, by simp [KV.sh], by omega⟩, rfl⟩⟩
      | t ds =>
        obtain ⟨us, rfl, ev, h1, h2, h3, h4, h5⟩ := h
        exact ⟨adOf vs i, us, by rw [ev], rfl, h3, h4, h5, .inl ⟨i, iosS_mem.mpr ⟨i, _, hS, by simp [KV.sh], by omega⟩, rfl⟩⟩
    · have e1 : cs[i]? = none := List.getElem?_eq_none (by omega)
      have e2 : vs[i]? = none := List.getElem?_eq_none (by omega)
      rw [e1, e2]
      show laOf cs vs i = none
      unfold laOf
      rw [e1]
  · obtain ⟨k, ds, hk, hc, ea⟩ := ofC h1
    obtain ⟨k', ds', hk', hc', ea'⟩ := ofC h2
    obtain ⟨c, v, hc2, hv, h⟩ := arg_at S1 r e hk
    obtain ⟨c', v', hc2', hv', h'⟩ := arg_at S1 r e hk'
    rw [hc] at hc2
    rw [hc'] at hc2'
    cases hc2
    cases hc2'
    cases k with
    | d d => cases h.1
    | s p =>
      obtain ⟨_, _, _, _, h3, _⟩ := h
      cases k' with
      | d d => cases h'.1
      | s p' =>
        obtain ⟨_, _, _, _, h3', _⟩ := h'
        have : p = p' := S1.inj p p' a (by rw [h3, ea]) (by rw [h3', ea'])
        subst this
        exact slots_inj hg.1 (sh_get hs hk) (sh_get hs hk')
      | t ds =>
        obtain ⟨_, _, _, h3', _⟩ := h'
        exact absurd (by rw [h3, ← ea, ← ea']) (h3' p)
    | t ds =>
      obtain ⟨_, _, _, h3, _⟩ := h
      cases k' with
      | d d => cases h'.1
      | s p' =>
        obtain ⟨_, _, _, _, h3', _⟩ := h'
        exact absurd (by rw [h3', ← ea', ← ea]) (h3 p')
      | t ds' => exact tmps_inj hg.2 (sh_get hs hk) (sh_get hs hk')
  · obtain ⟨i, x, hx, hne, ej⟩ := iosS_mem.mp hj
    have ej' : j = i := by omega
    subst ej'
    have hi : j < ks.length := by
      have := (List.getElem?_eq_some_iff.mp hx).1
      rw [← hs, List.length_map] at this
      exact this
    obtain ⟨c, v, hc, hv, h⟩ := arg_at S1 r e (List.getElem?_eq_getElem hi)
    have hS := sh_get hs (List.getElem?_eq_getElem hi)
    rw [hx] at hS
    generalize hkk : ks[j] = k at h hS
    have : ∃ ds, c = .own ds := by
      cases k with
      | d d => cases hS; exact absurd rfl hne
      | s p => obtain ⟨ds, _, h1, _⟩ := h; exact ⟨ds, h1⟩
      | t ds => obtain ⟨_, h1, _⟩ := h; exact ⟨ds, h1⟩
    obtain ⟨ds, rfl⟩ := this
    unfold laOf
    rw [hc]
/-- the caller's state behind it -/
theorem SR.exit {F' H' : Hp} {o : Outs} (S1 : SR B F1 L1 σ H1 ρ1) (r : KRs B F1 L1 H1 ks vs) (e : rsvs ρ1 ks = some cs) (hs : ks.map KV.sh = as) (hg : goodS as = true) (p : Post ⟨B.K, H1, F1, iosS 0 as, adOf vs⟩ F' H' o) :
    SR B F' L1 σ H' (DL.putO ρ1 0 ks o) := by
  unfold goodS at hg
  rw [Bool.and_eq_true, decide_eq_true_eq] at hg
  -- a handed list: whose it is
  have who : ∀ j ∈ iosS 0 as, (∃ q, ks[j]? = some (.s q) ∧ L1 q = some (adOf vs j)) ∨ ((∀ i, L1 i ≠ some (adOf vs j)) ∧ B.H0 (adOf vs j) = none) := fun j hj => by
    obtain ⟨i, x, hx, hne, ej⟩ := iosS_mem.mp hj
    have ej' : j = i := by omega
    subst ej'
    have hi : j < ks.length := by
      have := (List.getElem?_eq_some_iff.mp hx).1
      rw [← hs, List.length_map] at this
      exact this
    obtain ⟨c, v, hc, hv, h⟩ := arg_at S1 r e (List.getElem?_eq_getElem hi)
    have hS := sh_get hs (List.getElem?_eq_getElem hi)
    rw [hx] at hS
    have hkk : ks[j]? = some ks[j] := List.getElem?_eq_getElem hi
    generalize ks[j] = k at h hS hkk
    cases k with
    | d d => cases hS; exact absurd rfl hne
    | s q => obtain ⟨_, _, _, _, h3, _⟩ := h; exact .inl ⟨q, hkk, h3⟩
    | t ds => obtain ⟨_, _, _, h3, h4, _⟩ := h; exact .inr ⟨h3, h4⟩
  have S0 := S1.slot
  refine ⟨by rw [putO_len]; exact S1.len, p.sub, fun i => ?_, S1.inj, S1.f0.trans p.f, fun a u h => ?_, fun a u h n => ?_, S1.io, fun a h => p.al a (S1.al a h)⟩
  · by_cases hi : ∃ j : Nat, ks[j]? = some (KV.s i)
    · obtain ⟨j, hj⟩ := hi
      obtain ⟨c, v, hc, hv, ds, us, rfl, ev, h3, h4, h5, h6, h7⟩ := arg_at S1 r e hj
      have hm : j ∈ iosS 0 as := iosS_mem.mpr ⟨j, _, sh_get hs hj, by simp [KV.sh], by omega⟩
      have hl := getD_lt h4
      rw [putO_in o ks ρ1 0 i j (by rw [hs]; exact hg.1) hj hl, Nat.zero_add]
      obtain ⟨us', g1, g2, g3⟩ := p.io j hm
      obtain ⟨_, _, f1, f2, f3, f4, f5, f6⟩ := S1.own h3
      exact ⟨_, us', f2, h3, g1, g2, g3, f6⟩
    · have nm : i ∉ slots (ks.map KV.sh) := fun hm => by
        have key : ∀ (l : List KV), i ∈ slots (l.map KV.sh) → ∃ j : Nat, l[j]? = some (KV.s i) := by
          intro l
          induction l with
          | nil => intro h; cases h
          | cons x l ih =>
            intro h
            cases x with
            | d d => obtain ⟨j, q⟩ := ih h; exact ⟨j + 1, by simpa using q⟩
            | t d => obtain ⟨j, q⟩ := ih h; exact ⟨j + 1, by simpa using q⟩
            | s q =>
              rcases List.mem_cons.mp (show i ∈ q :: slots (l.map KV.sh) from h) with e | e
              · subst e; exact ⟨0, rfl⟩
              · obtain ⟨j, q⟩ := ih e; exact ⟨j + 1, by simpa using q⟩
        exact hi (key ks hm)
      rw [putO_out o ks ρ1 0 i nm]
      have q := S0 i
      revert q
      cases ρ1.getD i none with
      | none => exact id
      | some c =>
        cases c with
        | val d => exact fun ⟨h1, v, h2, h3⟩ => ⟨h1, v, h2, h3.mono p.f⟩
        | own ds =>
          intro ⟨a, us, h1, h2, h3, h4, h5, h6⟩
          have na : ∀ j ∈ iosS 0 as, adOf vs j ≠ a := fun j hj z => by
            rcases who j hj with ⟨q, hq, hL⟩ | ⟨hL, _⟩
            · rw [z] at hL
              have := S1.inj q i a hL h2
              subst this
              exact hi ⟨j, hq⟩
            · exact hL i (by rw [h2, z])
          refine ⟨a, us, h1, h2, p.h a _ h3 na, ?_, h5.mono p.f, h6⟩
          cases e2 : F' a with
          | none => rfl
          | some u =>
            rcases p.fn a u e2 with z | z
            · rw [show F1 a = some u from z] at h4; cases h4
            · rw [show H1 a = none from z] at h3; cases h3
  · rcases p.fn a u h with z | z
    · exact S1.fn a u z
    · refine .inr ?_
      cases e0 : B.H0 a with
      | none => rfl
      | some w => exact absurd z (S1.al a (by rw [e0]; simp))
  · refine p.h a u (S1.keep a u h n) fun j hj z => ?_
    rcases who j hj with ⟨q, hq, hL⟩ | ⟨_, h0⟩
    · have hL' : L1 q = some a := by rw [hL]; exact congrArg some z
      obtain ⟨_, _, _, _, _, _, _, f6⟩ := S1.own hL'
      rcases f6 with ⟨j', hj', e'⟩ | f6
      · exact n j' hj' e'
      · rw [h] at f6; cases f6
    · have z' : adOf vs j = a := z
      rw [z', h] at h0; cases h0
theorem Stp.call {F' H' : Hp} {o : Outs} (S1 : SR B F1 L1 σ H1 ρ1) (s1 : Stp F L H F1 L1 H1) (r : KRs B F1 L1 H1 ks vs) (e : rsvs ρ1 ks = some cs) (hs : ks.map KV.sh = as) (nw : KNew H L ks vs) (p : Post ⟨B.K, H1, F1, iosS 0 as, adOf vs⟩ F' H' o) :
    Stp F L H F' L1 H' where
  f := s1.f.trans p.f
  l := s1.l
  h := fun b u hb n => p.h b u (s1.h b u hb n) fun j hj z => by
    obtain ⟨i, x, hx, hne, ej⟩ := iosS_mem.mp hj
    have ej' : j = i := by omega
    subst ej'
    have hi : j < ks.length := by
      have := (List.getElem?_eq_some_iff.mp hx).1
      rw [← hs, List.length_map] at this
      exact this
    obtain ⟨c, v, hc, hv, h⟩ := arg_at S1 r e (List.getElem?_eq_getElem hi)
    have hS := sh_get hs (List.getElem?_eq_getElem hi)
    rw [hx] at hS
    have hkk : ks[j]? = some ks[j] := List.getElem?_eq_getElem hi
    generalize ks[j] = k at h hS hkk
    have z' : adOf vs j = b := z
    cases k with
    | d d => cases hS; exact absurd rfl hne
    | s q =>
      obtain ⟨_, _, _, _, h3, _⟩ := h
      exact n q (s1.l q b (by rw [h3, z']))
    | t ds =>
      obtain ⟨_, _, ev, _⟩ := h
      rcases nw j ds b hkk (by rw [hv, ev, z']) with q | ⟨i, q⟩
      · rw [hb] at q; cases q
      · exact n i q
  fn := fun b u h => by
    rcases p.fn b u h with q | q
    · exact s1.fn b u q
    · refine .inr (.inl ?_)
      cases e0 : H b with
      | none => rfl
      | some w => exact absurd q (s1.al b (by rw [e0]; simp))
  al := fun b h => p.al b (s1.al b h)
theorem ResD.res {F' H' : Hp} (S1 : SR B F1 L1 σ H1 ρ1) (s1 : Stp F L H F1 L1 H1) {ios : List Nat} {ad : Nat → Addr} : ∀ {c : Cell} {v : V}, ResD ⟨B.K, H1, F1, ios, ad⟩ F' H' c v → ResC B F L H F' L1 H' c v
  | .val _, _, h => h
  | .own ds, _, ⟨a, us, e, h1, h2, h3, h4⟩ => by
    have h3 : H1 a = none := h3
    refine ⟨a, us, e, h1, h2, fun i q => ?_, ?_, h4, .inl ?_⟩
    · obtain ⟨_, _, _, _, f3, _⟩ := S1.own q
      rw [h3] at f3; cases f3
    · cases e0 : B.H0 a with
      | none => rfl
      | some w => exact absurd h3 (S1.al a (by rw [e0]; simp))
    · cases e0 : H a with
      | none => rfl
      | some w => exact absurd h3 (s1.al a (by rw [e0]; simp))
end
section
variable {X : Cx} {B : Bd} {W : WX} {pos : Pos} {e : Expr} {es : List Expr}
theorem call_imp {ss : List KS} {n : Nat} {ios : List Nat} {w : DSp} {ks : List KV} {vs : List V} {ρ1 : En} {F H F1 H1 : Hp} {L L1 : La} {σ : L2.St} {Qd : CQ} {Ed : DX} {Q : VK} (S1 : SR B F1 L1 σ H1 ρ1) (s1 : Stp F L H F1 L1 H1) (r : KRs B F1 L1 H1 ks vs) (hsh : ks.map KV.sh = ss) (nw : KNew H L ks vs)
    (hn : ss.length = n) (hio : iosS 0 ss = ios) (hg : goodS ss = true) (k : match rsvs ρ1 ks with | some cs => w cs (fun c o => Qd c (putO ρ1 0 ks o)) (fun c fs o => Ed c fs (putO ρ1 0 ks o)) | none => False)
    (hq : ∀ c ρ' v F' L' H', Qd c ρ' → SR B F' L' σ H' ρ' → Stp F L H F' L' H' → ResC B F L H F' L' H' c v → Q v H') (hx : XOk B W F Ed) : spD B.K n ios w vs H1 Q (WE W σ) := by
  split at k
  · rename_i cs ec
    subst hio
    refine ⟨F1, laOf cs vs, cs, adOf vs, _, _, ?_, S1.enter r ec hsh hg, k, fun c o v F' H' q p rd => ?_, fun c fs o cls dd F' H' q p ex => ?_⟩
    · rw [r.length, ← hn, ← hsh, List.length_map]
    · exact hq c _ v F' L1 H' q (S1.exit r ec hsh hg p) (Stp.call S1 s1 r ec hsh nw p) (rd.res S1 s1)
    · exact hx c fs _ cls dd σ F' L1 H' q (S1.exit r ec hsh hg p) (s1.f.trans p.f) ex
  · exact k.elim
/-- f(e, ..), f a def of the text -/
theorem dc_call {as : List KX} {n k : Nat} {ios : List Nat} {w : DSp} {f : Addr} {fd : FuncData} {ps : List Str} {x : Str} {p : Pos} (F : FnOk X.prog X.w X.K X.mg X.base (L2.CX X.prog X.w) k f fd ps (spD B.K n ios w)) (hr : Room k X.A) (tk : Takes X W) (hm : X.mg x = some (.ref f)) (hk : PySem.W.keepIn X.K (.ref f) = true)
    (hb : Binds X.K fd ps []) (ha : PA X (e :: es) (rK B W as)) (hn : (as.map KX.sh).length = n := by rfl) (hio : iosS 0 (as.map KX.sh) = ios := by rfl) (hgs : goodS (as.map KX.sh) = true := by rfl) (hg : Gl X x := by rfl) (hdb : (x == ("__debug__" : Str)) = false := by decide)
    (he : starEach (e :: es) X.env = (false, eval e X.env) :: starEach es X.env := by rfl) (hpl : (backTo pos (starEach es X.env)).any (·.1) = false := by rfl) : PE X (.Call (.Name x p) (e :: es) [] pos) (rC B W (mCall as w)) := by
  refine pe_imp (pe_callS (E := WE W) F hr hg hm hk hb (passAt tk) ha hdb he hpl) fun σ H Q ⟨F0, L, ρ, Qd, Ed, S, ht, hq, hx⟩ => ?_
  exact ⟨F0, L, ρ, _, Ed, S, ht, fun ks ρ1 vs F1 L1 H1 kk S1 s1 r hsh nw => call_imp S1 s1 r hsh nw hn hio hgs kk hq hx, hx⟩
/-- f() -/
theorem pe_call0S {CX : CXT} {k : Nat} {f : Addr} {fd : FuncData} {ps : List Str} {sp : Sp} {E : L2.St → XK} {x : Str} {p : Pos} (F : FnOk X.prog X.w X.K X.mg X.base CX k f fd ps sp) (hr : Room k X.A) (hg : Gl X x) (hm : X.mg x = some (.ref f)) (hk : PySem.W.keepIn X.K (.ref f) = true) (hb : Binds X.K fd ps []) (hx : ∀ σ, PassesAt CX X σ (E σ))
    (hdb : (x == ("__debug__" : Str)) = false := by decide) : PE X (.Call (.Name x p) [] [] pos) (fun σ H Q => sp [] H Q (E σ)) := by
  refine ⟨fun pins s σ H Q I h => ?_⟩
  refine wpAny_Call_Name_kw (ld_glob I hg hm ?_ hdb)
  exact PySem.W.callWith_K0 I.kIn hk (run_fnS (us := []) F hr hb (hx σ) I .nil h)
theorem dc_call0 {k : Nat} {w : DSp} {f : Addr} {fd : FuncData} {ps : List Str} {x : Str} {p : Pos} (F : FnOk X.prog X.w X.K X.mg X.base (L2.CX X.prog X.w) k f fd ps (spD B.K 0 [] w)) (hr : Room k X.A) (tk : Takes X W) (hm : X.mg x = some (.ref f)) (hk : PySem.W.keepIn X.K (.ref f) = true)
    (hb : Binds X.K fd ps []) (hg : Gl X x := by rfl) (hdb : (x == ("__debug__" : Str)) = false := by decide) : PE X (.Call (.Name x p) [] [] pos) (rC B W (mCall [] w)) := by
  refine pe_imp (pe_call0S (E := WE W) F hr hg hm hk hb (passAt tk) hdb) fun σ H Q ⟨F0, L, ρ, Qd, Ed, S, ht, hq, hx⟩ => ?_
  exact call_imp (ss := []) (ks := []) S (Stp.refl _ _ _) rfl rfl (fun i ds a e => by simp at e) rfl rfl rfl ht hq hx
/-! keywords alone, one for each parameter -/
def pm {α : Type} : List Nat → List α → List α
  | [], _ => []
  | j :: js, l => match l[j]? with
    | some x => x :: pm js l
    | none => pm js l
def mCallK (as : List KX) (js : List Nat) (w : DSp) : DC := fun ρ Q E => mKXs as ρ (fun ks ρ1 => match rsvs ρ1 (pm js ks) with
  | some cs => w cs (fun c o => Q c (putO ρ1 0 (pm js ks) o)) (fun c fs o => E c fs (putO ρ1 0 (pm js ks) o))
  | none => False) E
theorem pm_map {α β : Type} {f : α → β} : ∀ {js : List Nat} {l : List α}, (pm js l).map f = pm js (l.map f)
  | [], _ => rfl
  | j :: js, l => by
    unfold pm
    rw [List.getElem?_map]
    cases e : l[j]? with
    | none => exact pm_map (js := js)
    | some x =>
      show f x :: (pm js l).map f = f x :: pm js (l.map f)
      rw [pm_map (js := js)]
theorem pm_vals : ∀ {js : List Nat} {vs : List V} {us : List Value}, Vals vs us → Vals (pm js vs) (pm js us)
  | [], _, _, _ => .nil
  | j :: js, vs, us, r => by
    unfold pm
    cases e : vs[j]? with
    | none =>
      have e2 : us[j]? = none := by
        rw [List.getElem?_eq_none_iff] at e ⊢
        rw [← r.length]; exact e
      rw [e2]
      exact pm_vals r
    | some v =>
      obtain ⟨u, hu, rv⟩ := r.get e
      rw [hu]
      exact .cons rv (pm_vals r)
theorem pm_krs {F H : Hp} {L : La} : ∀ {js : List Nat} {ks : List KV} {vs : List V}, KRs B F L H ks vs → KRs B F L H (pm js ks) (pm js vs)
  | [], _, _, _ => rfl
  | j :: js, ks, vs, r => by
    unfold pm
    cases e : ks[j]? with
    | none =>
      have e2 : vs[j]? = none := by
        rw [List.getElem?_eq_none_iff] at e ⊢
        rw [r.length]; exact e
      rw [e2]
      exact pm_krs r
    | some k =>
      obtain ⟨v, hv, rv⟩ := r.get e
      rw [hv]
      exact ⟨v, _, rfl, rv, pm_krs r⟩
theorem pm_new {H : Hp} {L : La} {F H1 : Hp} {L1 : La} {ks : List KV} {vs : List V} (r : KRs B F L1 H1 ks vs) (n : KNew H L ks vs) : ∀ {js : List Nat}, KNew H L (pm js ks) (pm js vs)
  | [] => fun i ds a e => by simp [pm] at e
  | j :: js => by
    unfold pm
    cases e : ks[j]? with
    | none =>
      have e2 : vs[j]? = none := by
        rw [List.getElem?_eq_none_iff] at e ⊢
        rw [r.length]; exact e
      rw [e2]
      exact pm_new r n
    | some k =>
      obtain ⟨v, hv, rv⟩ := r.get e
      rw [hv]
      exact KNew.cons (fun ds a ek ev => n j ds a (by rw [e, ek]) (by rw [hv, ev])) (pm_new r n)
/-- how keywords alone bind -/
def BindsK (fd : FuncData) (ps ks : List Str) (js : List Nat) : Prop := ∀ (s : Shared) (ws : List Value), ws.length = ks.length → BindsTo s fd ⟨[], ks.zip ws⟩ (ps.zip (pm js ws))
theorem bindsK_of {K : PySem.W.Frag} {x qual : Str} {params : Arguments} {body : List Stmt} {scope : Scope} {kws : List (Str × V)} {f : Addr} {fd : FuncData} {ps ks : List Str} {js : List Nat} (F : FunD K x qual params body scope [] kws f fd)
    (h : ∀ (kV doc pmv : Value) (an : Option Addr) (cdv ct : Value) (ws : List Value), ws.length = ks.length → bindArgs (PySem.W.fnOf x qual params body scope .none kV doc pmv an cdv ct) ⟨[], ks.zip ws⟩ = pure (ps.zip (pm js ws))) : BindsK fd ps ks js := fun s ws hl => by
  obtain ⟨oc, od, dV, kV, doc, pmv, an, cdv, ct, osl, rfl, lk, hcd, hD, hK⟩ := F.ex
  rcases hD with ⟨_, rfl⟩ | ⟨e, _⟩
  · exact .of_eq (h kV doc pmv an cdv ct ws hl)
  · exact absurd rfl e
def rKk (B : Bd) (W : WX) (as : List KX) : TA := rK B W as
theorem dkkn : PK X [] (rK B W []) := ⟨fun pos pins s σ H Q I h => pk_nil.run pos pins s σ H Q I (by
  obtain ⟨F, L, ρ, Qd, Ed, S, ht, hq, hx⟩ := h
  exact hq [] ρ [] F L H ht S (Stp.refl _ _ _) rfl rfl (fun i ds a e => by simp at e))⟩
theorem dkkc {a : KX} {as : List KX} {kws : List Keyword} {nm : Option Str} {kpos : Pos} (ha : PE X e (rK1 B W a)) (hr : PK X kws (rK B W as)) : PK X (⟨nm, e, kpos⟩ :: kws) (rK B W (a :: as)) :=
  ⟨fun pos pins s σ H Q I h => (pk_cons ha hr).run pos pins s σ H Q I (rK_cons h)⟩
theorem dc_callK {as : List KX} {n k : Nat} {ios : List Nat} {w : DSp} {f : Addr} {fd : FuncData} {ps ks : List Str} {js : List Nat} {x : Str} {p : Pos} {kws : List Keyword} (F : FnOk X.prog X.w X.K X.mg X.base (L2.CX X.prog X.w) k f fd ps (spD B.K n ios w)) (hr : Room k X.A) (tk : Takes X W) (hm : X.mg x = some (.ref f)) (hk : PySem.W.keepIn X.K (.ref f) = true)
    (hb : BindsK fd ps ks js) (ha : PK X kws (rK B W as)) (hlk : as.length = ks.length := by rfl) (hn : (pm js (as.map KX.sh)).length = n := by rfl) (hio : iosS 0 (pm js (as.map KX.sh)) = ios := by rfl) (hgs : goodS (pm js (as.map KX.sh)) = true := by rfl) (hg : Gl X x := by rfl) (hdb : (x == ("__debug__" : Str)) = false := by decide)
    (hall : (backToKw pos (keywordEach kws X.env)).all (·.1.isSome) = true := by rfl) (hks : (backToKw pos (keywordEach kws X.env)).filterMap (·.1) = ks := by rfl)
    (hpl : ((backTo pos (starEach [] X.env)).any (·.1) || (backToKw pos (keywordEach kws X.env)).any (·.1.isNone)) = false := by rfl) : PE X (.Call (.Name x p) [] kws pos) (rC B W (mCallK as js w)) := by
  refine ⟨fun pins s σ H Q I ⟨F0, L, ρ, Qd, Ed, S, ht, hq, hx⟩ => ?_⟩
  refine wpAny_Call_Name_kw (ld_glob I hg hm ?_ hdb)
  refine PySem.W.callWith_KW0 (h₀ := X.base) I.ok.mod.kin hk hall ?_ hpl
  refine thn (ha.run pos pins s σ H (fun zs H2 => zs.length = ks.length ∧ spD B.K n ios w (pm js zs) H2 Q (WE W σ)) I ⟨F0, L, ρ, _, Ed, S, ht, fun kvs ρ1 vs F1 L1 H1 kk S1 s1 r hsh nw => ?_, hx⟩) fun ws s2 ⟨zs, H2, I2, rz, l2, q2⟩ => ⟨I2.kIn, ?_⟩
  · refine ⟨by rw [r.length, ← hlk, ← List.length_map (f := KV.sh), hsh, List.length_map], ?_⟩
    exact call_imp S1 s1 (pm_krs r) (by rw [pm_map, hsh]) (pm_new r nw) hn hio hgs kk hq hx
  · rw [hks]
    have rz2 := pm_vals (js := js) rz
    refine wpAny_call (codeAny_mono (F.run X.A X.stack s2 H2 ⟨[], ks.zip ws⟩ (pm js ws) (pm js zs) Q (WE W σ) hr I2.env0 (hb s2 ws (by rw [← rz.length, l2])) rz2 q2) fun r s' hq' => ?_)
    cases r with
    | error e => exact passAt tk σ pins H2 s2 e s' I2 hq'
    | ok fl =>
      cases fl with
      | ret u => exact I2.after hq'
      | next => exact False.elim hq'
      | brk => exact False.elim hq'
      | cont => exact False.elim hq'
end
end DL
/-! The data layer: exceptions raised; facts of the head. -/
namespace DL
open PySem PySem.Spec PyProof.Rows L2
/-! ### what the written part says of an own exception class with an own __init__ -/
def oexB (K : PySem.W.Frag) (x : Str) : Bool := (match K.lookup (He.ga K x) with
  | some ⟨.type "type", _, .cls cd, sl⟩ => (match cd.mro, sl.toList with
    | .ref C' :: bm, [_, _, _, _, some (.builtin n), _] => C' == He.ga K x && n == "ValueError.__new__" && !cd.hasDel && cd.hasDict && PySem.HandSPX.refsVE bm
    | _, _ => false)
  | _ => false) && (He.eqO (PySem.W.findIn K (.ref (He.ga K x)) "__setattr__") (some (some (.builtin "object.__setattr__"))) && (decide (PySem.W.subIn K (.ref (He.ga K x)) (.type "BaseException") = some true) && (decide (PySem.W.typeIn K (.ref (He.ga K x)) = some (.type "type")) &&
    (PySem.W.keepIn K (.ref (He.ga K x)) && (He.eqO (PySem.W.findIn K (.ref (He.ga K x)) "__init__") (some (some (.ref (He.ma K (He.ga K x) "__init__")))) && decide (PySem.W.typeIn K (.ref (He.ma K (He.ga K x) "__init__")) = some (.type "function")))))))
def noatB (K : PySem.W.Frag) (x f : Str) : Bool := He.eqO (PySem.W.findIn K (.ref (He.ga K x)) f) (some none)
/-- an own exception class, its __init__ and the field's name -/
structure Oex (K : PySem.W.Frag) (x f : Str) : Prop where
  cls : OexC K (He.ga K x)
  init : PySem.W.findIn K (.ref (He.ga K x)) "__init__" = some (some (.ref (He.ma K (He.ga K x) "__init__")))
  fn : PySem.W.typeIn K (.ref (He.ma K (He.ga K x) "__init__")) = some (.type "function")
  noat : PySem.W.findIn K (.ref (He.ga K x)) f = some none
theorem oex_ok {K : PySem.W.Frag} {x f : Str} (h : oexB K x = true) (h2 : noatB K x f = true) : Oex K x f := by
  unfold oexB at h
  simp only [Bool.and_eq_true, decide_eq_true_eq] at h
  obtain ⟨h0, hs, hsub, hty, hk, hi, hf⟩ := h
  refine ⟨⟨?_, He.eqO_ok hs, hsub, hty, hk⟩, He.eqO_ok hi, hf, He.eqO_ok h2⟩
  split at h0
  · rename_i dd cd sl ho
    split at h0
    · rename_i C' bm k0 k1 k2 k3 n k5 hm hsl
      simp only [Bool.and_eq_true, beq_iff_eq, Bool.not_eq_true'] at h0
      obtain ⟨⟨⟨⟨rfl, rfl⟩, hdel⟩, hdict⟩, hbm⟩ := h0
      obtain ⟨nm, bs, mro, ns, qn, hd, sn, sub, ab, col, del⟩ := cd
      dsimp only at hm hdel hdict
      subst hm hdel hdict
      have hsl2 : sl = #[k0, k1, k2, k3, some (.builtin "ValueError.__new__"), k5] := by
        obtain ⟨l⟩ := sl
        simp only at hsl
        rw [hsl]
      subst hsl2
      exact ⟨nm, qn, ns, bs, bm, sn, sub, ab, col, dd, k0, k1, k2, k3, k5, ho, hbm⟩
    · cases h0
  · cases h0
/-- what such an __init__ promises -/
def spIni (C : Addr) (f : Str) : Sp := fun vs H Q _ => ∃ a v, vs = [.ref a, v] ∧ H a = some (exo a C none) ∧ ∀ dx, H dx = none → dx ≠ a → Q .non (upd (upd H dx (exd dx [(f, v)])) a (exo a C (some dx)))
/-- def __init__(self, y): self.f = y -/
theorem ini_ok {K : PySem.W.Frag} {P : Program} {w : World} {mg : Str → Option Value} {base : Heap} {x qual : Str} {params : Arguments} {scope : Scope} {dvs : List V} {kws : List (Str × V)} {fa : Addr} {fd : FuncData} {f y c : Str} {p1 p2 p3 p4 : Pos}
    (Fd : FunD K x qual params [.Assign [.Attribute (.Name "self" p1) f p2] (.Name y p3) p4] scope dvs kws fa fd) (O : Oex K c f) (S : FnScope ["self", y] ["self", y] scope) (hs : scope.names.lookup ("self" : Str) = some .local) (hy : scope.names.lookup y = some .local)
    (hd : (y == ("__debug__" : Str)) = false) (hcd : (y == ("__classdict__" : Str)) = false) :
    FnOk P w K mg base (L2.CX P w) 1 fa fd ["self", y] (spIni (He.ga K c) f) := by
  refine Fd.ok S (fun vs H Q E h => ?_) fun cdv A outer s H vs Q E hr ⟨a, v, ev, ea, hq⟩ => ?_
  · obtain ⟨a, v, rfl, _⟩ := h
    rfl
  · subst ev
    refine ⟨_, pss_one (ps_ost (pe_var (i := 0) rfl (.inl hs)) (pe_var (i := 1) rfl (.inl hy) hd hcd)), ?_⟩
    exact ⟨v, rfl, .ref a, rfl, a, He.ga K c, rfl, O.cls, O.noat, .inl ⟨ea, fun dx n ne => hq dx n ne⟩⟩
/-! ### raise -/
def mRaise (c f : Str) (t : DE) : DS := fun D ρ => t ρ (fun d ρ1 => D.ex c [(f, d)] ρ1) D.ex
def mRaise0 (c : Str) : DS := fun D ρ => D.ex c [] ρ
section
variable {X : Cx} {B : Bd} {W : WX} {pos : Pos} {e : Expr}
theorem ds_raise {c f : Str} {t : DE} {fd : FuncData} {ps : List Str} {p p2 : Pos} {k : Nat} (hc : X.calm = true) (tk : Takes X W) (O : Oex X.K c f) (F : FnOk X.prog X.w X.K X.mg X.base (L2.CX X.prog X.w) k (He.ma X.K (He.ga X.K c) "__init__") fd ps (spIni (He.ga X.K c) f)) (hb : Binds X.K fd ps [])
    (hr : Room (k + 1) X.A) (hm : X.mg c = some (.ref (He.ga X.K c))) (ht : PE X e (rV B W t)) (hK : B.K = X.K := by rfl) (hg : Gl X c := by rfl) (hdb : (c == ("__debug__" : Str)) = false := by decide) (he : starEach [e] X.env = (false, eval e X.env) :: starEach [] X.env := by rfl) :
    PS X (.Raise (some (.Call (.Name c p) [e] [] p2)) none pos) (rS B W (mRaise c f t)) := by
  refine ps_imp (ps_raise hc tk (pmk_oex O.cls O.init O.fn F hr hb .nil passL hg hm (ddc ht ddn he) hdb he rfl)) fun D σ H ⟨F0, L, ρ, Dd, S, q, o⟩ => ?_
  have q' : mDs [t] ρ (fun ds ρ1 => ∃ d, ds = [d] ∧ Dd.ex c [(f, d)] ρ1) Dd.ex := by
    have e : (fun d ρ1 => Dd.ex c [(f, d)] ρ1) = fun d ρ1 => ∃ d', [d] = [d'] ∧ Dd.ex c [(f, d')] ρ1 := by
      funext d ρ1
      exact propext ⟨fun h => ⟨d, rfl, h⟩, fun ⟨d', e, h⟩ => by cases e; exact h⟩
    have q0 : t ρ (fun d ρ1 => Dd.ex c [(f, d)] ρ1) Dd.ex := q
    rw [e] at q0
    exact q0
  refine ⟨F0, L, ρ, _, Dd.ex, S, q', fun ds ρ1 vs F1 L1 H1 ⟨d, ed, k1⟩ S1 s1 r1 => ?_, o.ex⟩
  subst ed
  obtain ⟨v, r, ev, rv, rr⟩ := r1
  cases (show r = [] from rr)
  subst ev
  refine ⟨by simp, fun a ha => ⟨a, v, rfl, upd_same, fun dx hdx hne => ⟨rfl, dx, [(f, v)], upd_same, ?_, ?_, ?_⟩⟩⟩
  · rw [upd_ne hne, upd_same]
  · rw [upd_ne hne] at hdx
    exact hdx
  · have hdx1 : H1 dx = none := by
      rw [upd_ne hne] at hdx
      exact hdx
    have eH : upd (del (upd (upd (upd H1 a (exo a (He.ga X.K c) none)) dx (exd dx [(f, v)])) a (exo a (He.ga X.K c) (some dx))) a) dx (.xd [(f, v)]) = upd H1 dx (.xd [(f, v)]) := by
      funext b
      by_cases hb1 : b = dx
      · rw [hb1, upd_same, upd_same]
      · rw [upd_ne hb1, upd_ne hb1]
        by_cases hb2 : b = a
        · rw [hb2, del_same, ha]
        · rw [del_ne hb2, upd_ne hb2, upd_ne hb1, upd_ne hb2]
    rw [eH]
    have g : Grow F1 H1 F1 (upd H1 dx (.xd [(f, v)])) := ⟨Same.refl _, same_upd hdx1, fun _ _ z => .inl z⟩
    refine o.ex c [(f, d)] ρ1 _ _ σ F1 L1 _ k1 (S1.grow g (S1.sub.trans (same_upd hdx1))) s1.f ⟨by rw [hK], .inr ⟨dx, [(f, v)], rfl, upd_same, rfl, RpL.one rv⟩⟩
/-- raise C(), C without an own __init__ -/
theorem pmk_own0 {x : Str} {C : Addr} {bmB : List Value} {Bn newId initId : String} {p pos : Pos} (F : ExcBaseFacts Bn newId initId bmB) (q : PySem.W.excIn X.K C bmB newId = true) (gC : X.mg x = some (.ref C)) (kC : PySem.W.keepIn X.K (.ref C) = true) (r : Raises X (.ref C)) (hg : Gl X x)
    (hdb : (x == ("__debug__" : Str)) = false := by decide) : PMk X (.Call (.Name x p) [] [] pos) (fun _ H Q => Q (.ref C) none H) := by
  intro pins s σ H Q I h
  refine wpAny_Call_Name_kw (ld_glob I hg gC ?_ hdb)
  refine PySem.W.callWith_K0 I.kIn kC ?_
  obtain ⟨bm, N, nm, qn, bs, hdct, sn, sub, ab, col, dd, k0, k1, k2, k3, k5, mN, hC, hN, hni, T⟩ := exc_obj I.kIn q
  refine wpAny_call_exc_subT F T hC hN hni (fun h' e hm => ?_) (by show 0 ≤ sizeLine; exact Nat.zero_le _)
  exact mk_of I hm r h (I.hok.gone hm.new)
theorem ds_raise0 {c : Str} {p p2 : Pos} (hc : X.calm = true) (tk : Takes X W) (q : PySem.W.excIn X.K (He.ga X.K c) He.veBase "ValueError.__new__" = true ∧ PySem.W.keepIn X.K (.ref (He.ga X.K c)) = true ∧ PySem.W.subIn X.K (.ref (He.ga X.K c)) (.type "BaseException") = some true ∧ PySem.W.typeIn X.K (.ref (He.ga X.K c)) = some (.type "type"))
    (hm : X.mg c = some (.ref (He.ga X.K c))) (hK : B.K = X.K := by rfl) (hg : Gl X c := by rfl) (hdb : (c == ("__debug__" : Str)) = false := by decide) : PS X (.Raise (some (.Call (.Name c p) [] [] p2)) none pos) (rS B W (mRaise0 c)) := by
  refine ps_imp (ps_raise hc tk (pmk_own0 PySem.F.excBase_ValueError q.1 hm q.2.1 (raises_own q.2.2.1 q.2.2.2) hg hdb)) fun D σ H ⟨F0, L, ρ, Dd, S, k, o⟩ => ?_
  exact o.ex c [] ρ _ _ σ F0 L H k S (Same.refl _) ⟨by rw [hK], .inl ⟨rfl, rfl⟩⟩
end
/-- name = [..] on one line, the list made still at once -/
theorem ds_setLcV {X : Cx} {B : Bd} {W : WX} (i : Nat) {y : Str} {py pos : Pos} {elt tg iter : Expr} {ifs : List Expr} {scope : Scope} {spos : Pos} (own : List (Str × Nat)) {it : DI} {p : Pt} {tt : DT} {te : DE} (hc : X.calm = true) (hN : X.N.Nodup) (hi : PI X tg iter (rI B W it)) 
    (hg : ∀ (s : Shared) (H : Hp) (C : Addr) (cl : List (Str × Addr)) (fp : List Addr), PG (X.blk s H scope (compEnvC scope cl C X.env) fp) tg (rP B p)) (ht : ∀ (s : Shared) (H : Hp) (C : Addr) (cl : List (Str × Addr)) (fp : List Addr), PTs (X.blk s H scope (compEnvC scope cl C X.env) fp) ifs (rT B WF tt))
    (he : ∀ (s : Shared) (H : Hp) (C : Addr) (cl : List (Str × Addr)) (fp : List Addr), PE (X.blk s H scope (compEnvC scope cl C X.env) fp) elt (rV B WF te)) (hsw : swapsWith (.ListComp elt [⟨tg, iter, ifs, 0⟩] scope pos) (some (.Name y py)) spos.line X.env = pure true := by exact sw_true rfl rfl rfl rfl)
    (hy : X.N[i]? = some y := by rfl) (hyl : X.env.scope.names.lookup y = some .local := by rfl) (hioi : B.ios.contains i = false := by rfl) (ok : blkC X.N X.env.scope scope own = true := by rfl) (hio : ((own.map (·.2)).all fun v => !B.ios.contains v) = true := by rfl) (hp : ((ptNs p).all fun v => (own.map (·.2)).contains v) = true := by rfl)
    (hs : ∀ x, foldedSetIterable iter X.env x = pure x := by intro _; rfl) : PS X (.Assign [.Name y py] (.ListComp elt [⟨tg, iter, ifs, 0⟩] scope pos) spos) (rS B W (mAsg (.nm i) (vl (frz (mLc it p tt te (own.map (·.2))))))) := by
  refine ps_impL (ps_setLc hc hN hy hyl hsw hi (blkOk_by ok) hg ht he hs) fun D σ H hl h => ?_
  obtain ⟨F, L, ρ, Dd, S, q, o⟩ := h
  have hlt : i < σ.length := by rw [hl]; exact (List.getElem?_eq_some_iff.mp hy).1
  refine lc_imp hio hp ⟨F, L, ρ, fun c ρ1 => Dd.nx (ρ1.set i (some (.val c.toD))), Dd.ex, S, q, fun c ρ1 v F1 L1 H1 k S1 s1 r1 => ?_, o.ex⟩
  have k' : Dd.nx (ρ1.set i (some (.val c.toD))) := k
  cases c with
  | val d => exact o.nx _ _ _ _ _ k' (S1.put hioi hlt r1) s1.f
  | own ds =>
    obtain ⟨a, vs, e, h1, h2, h3, h4, h5, _⟩ := r1
    subst e
    exact o.nx _ _ _ _ _ k' ((S1.freeze h1 h2 h3 h4).put hioi hlt ⟨a, vs, rfl, upd_same, h5.mono (same_upd h2)⟩) (s1.f.trans (same_upd h2))
/-! ### names of the module: built-in types, numbers, texts -/
section
variable {X : Cx} {B : Bd} {W : WX} {pos : Pos}
theorem de_int' {x : Str} {i : Int} (h : ∃ t, X.mg x = some (.int i t)) (hg : Gl X x := by rfl) (hd : (x == ("__debug__" : Str)) = false := by decide) : PE X (.Name x pos) (rV B W (mK (.int i))) := by
  obtain ⟨t, hm⟩ := h
  exact de_glob hm (v := .int i) ⟨t, rfl⟩ (fun _ => rfl) hg hd
theorem de_str' {x z : Str} (h : ∃ t, X.mg x = some (.str z t)) (hg : Gl X x := by rfl) (hd : (x == ("__debug__" : Str)) = false := by decide) : PE X (.Name x pos) (rV B W (mK (.str z))) := by
  obtain ⟨t, hm⟩ := h
  exact de_glob hm (v := .str z) ⟨t, rfl⟩ (fun _ => rfl) hg hd
end
section
variable {X : Cx} {B : Bd} {W : WX} {pos : Pos}
theorem de_ty {x : Str} {n : String} (hm : X.mg x = none) (hv : bootBuiltins x = some (.type n) := by decide +kernel) (hg : Gl X x := by rfl) (hn : x ≠ "__name__" := by decide) (hd : (x == ("__debug__" : Str)) = false := by decide) : PE X (.Name x pos) (rV B W (mK (.ty n))) := de_K (pe_bltn hg hm hv (v := .ty n) rfl hn hd) (fun _ => rfl)
end
/-! ### the head's Hook -/
def obsM (n : Nat) (fa : List He.Fa) (fn : List He.DefD) (ex : PySem.W.Frag → Bool) (g : Addr → Option Obj) : He.AlD := ((He.obsD fa fn (He.frG g (He.asD g n))).1 && ex (He.frG g (He.asD g n)), (He.obsD fa fn (He.frG g (He.asD g n))).2)
def SaysM (fa : List He.Fa) (fn : List He.DefD) (ex : PySem.W.Frag → Bool) (K : PySem.W.Frag) : Prop := He.SaysD fa fn K ∧ ex K = true
theorem saysM_of {fa : List He.Fa} {fn : List He.DefD} {ex : PySem.W.Frag → Bool} {K : PySem.W.Frag} (e : ((He.obsD fa fn K).1 && ex K, (He.obsD fa fn K).2) = He.valD fn) : SaysM fa fn ex K := by
  have e1 : ((He.obsD fa fn K).1 && ex K) = true := by
    have z := congrArg (fun z : He.AlD => z.1) e
    exact z
  have e2 : (He.obsD fa fn K).2 = (He.valD fn).2 := by
    have z := congrArg (fun z : He.AlD => z.2) e
    exact z
  rw [Bool.and_eq_true] at e1
  exact ⟨Prod.ext e1.1 e2, e1.2⟩
def hookM (n : Nat) (fa : List He.Fa) (fn : List He.DefD) (ex : PySem.W.Frag → Bool) : PySem.W.Hook where
  α := He.AlD
  obs := fun s => obsM n fa fn ex s.heap.get?
  val := fun _ => He.valD fn
  says := fun _ h => ∃ K : PySem.W.Frag, K.In h ∧ SaysM fa fn ex K
  of := fun _ _ e => ⟨_, He.frG_in, saysM_of e⟩
  keeps := fun _ _ _ ⟨K, hK, c⟩ k => ⟨K, PySem.W.Frag.In.keeps hK k, c⟩
theorem obsM_eq {n : Nat} {fa : List He.Fa} {fn : List He.DefD} {ex : PySem.W.Frag → Bool} {g : Addr → Option Obj} {s : Shared} (h : ∀ a, g a = s.heap.get? a) : obsM n fa fn ex g = (hookM n fa fn ex).obs s := by
  have e : g = s.heap.get? := funext h
  rw [e] <;> rfl
end DL
/-! The data layer: a def and its calls as one; the law's end. -/
namespace DL
open PySem PySem.Spec PyProof.Rows L2
/-- a def of the text that keeps its promise: lv how deep it calls, w what it does -/
structure DefOk (P : Program) (w : World) (K : PySem.W.Frag) (mg : Str → Option Value) (base : Heap) (lv : Nat) (x : Str) (st : Stmt) (fd : FuncData) (ps : List Str) (n : Nat) (ios : List Nat) (sp : DSp) : Prop where
  fun_ : FunD K x x (defArgs st) (defBody st) (defScope st) [] [] (He.ga K x) fd
  ok : FnOk P w K mg base (L2.CX P w) lv (He.ga K x) fd ps (spD K n ios sp)
  glo : mg x = some (.ref (He.ga K x))
  binds : Binds K fd ps []
section
variable {X : Cx} {B : Bd} {W : WX} {pos : Pos} {e : Expr} {es : List Expr}
theorem dc_callD {as : List KX} {n lv k : Nat} {ios : List Nat} {w : DSp} {fd : FuncData} {ps : List Str} {x : Str} {st : Stmt} {p : Pos} (D : DefOk X.prog X.w X.K X.mg X.base lv x st fd ps n ios w) (hr : Room k X.A) (hle : lv ≤ k) (tk : Takes X W) (ha : PA X (e :: es) (rK B W as)) (hK : B.K = X.K := by rfl)
    (hn : (as.map KX.sh).length = n := by rfl) (hio : iosS 0 (as.map KX.sh) = ios := by rfl) (hgs : goodS (as.map KX.sh) = true := by rfl) (hg : Gl X x := by rfl) (hdb : (x == ("__debug__" : Str)) = false := by decide)
    (he : starEach (e :: es) X.env = (false, eval e X.env) :: starEach es X.env := by rfl) (hpl : (backTo pos (starEach es X.env)).any (·.1) = false := by rfl) : PE X (.Call (.Name x p) (e :: es) [] pos) (rC B W (mCall as w)) :=
  dc_call (n := n) (ios := ios) (k := k) (by rw [hK]; exact D.ok.mono hle) hr tk D.glo D.fun_.kp D.binds ha hn hio hgs hg hdb he hpl
theorem dc_call0D {lv k : Nat} {w : DSp} {fd : FuncData} {ps : List Str} {x : Str} {st : Stmt} {p : Pos} (D : DefOk X.prog X.w X.K X.mg X.base lv x st fd ps 0 [] w) (hr : Room k X.A) (hle : lv ≤ k) (tk : Takes X W) (hK : B.K = X.K := by rfl)
    (hg : Gl X x := by rfl) (hdb : (x == ("__debug__" : Str)) = false := by decide) : PE X (.Call (.Name x p) [] [] pos) (rC B W (mCall [] w)) :=
  dc_call0 (k := k) (by rw [hK]; exact D.ok.mono hle) hr tk D.glo D.fun_.kp D.binds hg hdb
theorem dc_callKD {as : List KX} {n lv k : Nat} {ios : List Nat} {w : DSp} {fd : FuncData} {ps ks : List Str} {js : List Nat} {x : Str} {st : Stmt} {p : Pos} {kws : List Keyword} (D : DefOk X.prog X.w X.K X.mg X.base lv x st fd ps n ios w) (hb : BindsK fd ps ks js) (hr : Room k X.A) (hle : lv ≤ k) (tk : Takes X W) (ha : PK X kws (rK B W as)) (hK : B.K = X.K := by rfl)
    (hlk : as.length = ks.length := by rfl) (hn : (pm js (as.map KX.sh)).length = n := by rfl) (hio : iosS 0 (pm js (as.map KX.sh)) = ios := by rfl) (hgs : goodS (pm js (as.map KX.sh)) = true := by rfl) (hg : Gl X x := by rfl) (hdb : (x == ("__debug__" : Str)) = false := by decide)
    (hall : (backToKw pos (keywordEach kws X.env)).all (·.1.isSome) = true := by rfl) (hks : (backToKw pos (keywordEach kws X.env)).filterMap (·.1) = ks := by rfl)
    (hpl : ((backTo pos (starEach [] X.env)).any (·.1) || (backToKw pos (keywordEach kws X.env)).any (·.1.isNone)) = false := by rfl) : PE X (.Call (.Name x p) [] kws pos) (rC B W (mCallK as js w)) :=
  dc_callK (n := n) (ios := ios) (k := k) (by rw [hK]; exact D.ok.mono hle) hr tk D.glo D.fun_.kp hb ha hlk hn hio hgs hg hdb hall hks hpl
/-! x.append(e), x.extend(e) with their walk -/
theorem he_app (i : Nat) {x : Str} {t : DE} {p apos cpos : Pos} (he : PE X e (rV B W t)) (hN : X.N[i]? = some x := by rfl) (hv : Vis X.env.scope x := by first | exact Or.inl rfl | exact Or.inr (Or.inl rfl) | exact Or.inr (Or.inr rfl)) (hd : (x == ("__debug__" : Str)) = false := by decide)
    (hcd : (x == ("__classdict__" : Str)) = false := by decide) (hbase : attributeBase (.Name x p) "append" X.env (eval (.Name x p) X.env) = eval (.Name x p) X.env := by rfl)
    (hfew : ((backTo cpos (starEach [e] X.env)).all (fun x => !x.1) && (backToKw cpos (keywordEach [] X.env)).all (fun x => x.1.isSome)
      && decide ([e].length + ([] : List Keyword).length + (if ([] : List Keyword).isEmpty then 0 else 1) < 30)) = true := by rfl)
    (hline : (apos.endLine == cpos.line) = true := by rfl) (hs : starEach [e] X.env = (false, eval e X.env) :: starEach [] X.env := by rfl) (hplain : (backTo cpos (starEach [] X.env)).any (·.1) = false := by rfl) :
    PE X (.Call (.Attribute (.Name x p) "append" apos) [e] [] cpos) (tBM X.K "list" rAppend (tVar i) (tCons (rV B W t) tNil)) :=
  pe_bm PySem.F.plainAttrs_list PySem.F.slot_list_append PySem.F.type_list_append mt_append (pe_var (i := i) hN hv hd hcd) (pa_cons he pa_nil hs) hbase hfew hline hs hplain
theorem he_ext (i : Nat) {x : Str} {t : DE} {p apos cpos : Pos} (he : PE X e (rV B W t)) (hN : X.N[i]? = some x := by rfl) (hv : Vis X.env.scope x := by first | exact Or.inl rfl | exact Or.inr (Or.inl rfl) | exact Or.inr (Or.inr rfl)) (hd : (x == ("__debug__" : Str)) = false := by decide)
    (hcd : (x == ("__classdict__" : Str)) = false := by decide) (hbase : attributeBase (.Name x p) "extend" X.env (eval (.Name x p) X.env) = eval (.Name x p) X.env := by rfl)
    (hfew : ((backTo cpos (starEach [e] X.env)).all (fun x => !x.1) && (backToKw cpos (keywordEach [] X.env)).all (fun x => x.1.isSome)
      && decide ([e].length + ([] : List Keyword).length + (if ([] : List Keyword).isEmpty then 0 else 1) < 30)) = true := by rfl)
    (hline : (apos.endLine == cpos.line) = true := by rfl) (hs : starEach [e] X.env = (false, eval e X.env) :: starEach [] X.env := by rfl) (hplain : (backTo cpos (starEach [] X.env)).any (·.1) = false := by rfl) :
    PE X (.Call (.Attribute (.Name x p) "extend" apos) [e] [] cpos) (tBM X.K "list" rExtend (tVar i) (tCons (rV B W t) tNil)) :=
  pe_bm PySem.F.plainAttrs_list PySem.F.slot_list_extend PySem.F.type_list_extend mt_extend (pe_var (i := i) hN hv hd hcd) (pa_cons he pa_nil hs) hbase hfew hline hs hplain
theorem ds_appB (i : Nat) {x : Str} {t : DE} {p apos cpos : Pos} (he : PE X e (rV B W t)) (hN : X.N[i]? = some x := by rfl) (hv : Vis X.env.scope x := by first | exact Or.inl rfl | exact Or.inr (Or.inl rfl) | exact Or.inr (Or.inr rfl)) (hd : (x == ("__debug__" : Str)) = false := by decide)
    (hcd : (x == ("__classdict__" : Str)) = false := by decide) (hbase : attributeBase (.Name x p) "append" X.env (eval (.Name x p) X.env) = eval (.Name x p) X.env := by rfl)
    (hfew : ((backTo cpos (starEach [e] X.env)).all (fun x => !x.1) && (backToKw cpos (keywordEach [] X.env)).all (fun x => x.1.isSome)
      && decide ([e].length + ([] : List Keyword).length + (if ([] : List Keyword).isEmpty then 0 else 1) < 30)) = true := by rfl)
    (hline : (apos.endLine == cpos.line) = true := by rfl) (hs : starEach [e] X.env = (false, eval e X.env) :: starEach [] X.env := by rfl) (hplain : (backTo cpos (starEach [] X.env)).any (·.1) = false := by rfl)
    (hsw : swapsWith (.Call (.Attribute (.Name x p) "append" apos) [e] [] cpos) none pos.line X.env = pure false := by rfl) : PS X (.Expr (.Call (.Attribute (.Name x p) "append" apos) [e] [] cpos) pos) (rS B W (mApp i t)) :=
  ds_app i he hN hv hd hcd (he_app i he hN hv hd hcd hbase hfew hline hs hplain) hsw
theorem ds_extB (i : Nat) {x : Str} {t : DE} {p apos cpos : Pos} (he : PE X e (rV B W t)) (hN : X.N[i]? = some x := by rfl) (hv : Vis X.env.scope x := by first | exact Or.inl rfl | exact Or.inr (Or.inl rfl) | exact Or.inr (Or.inr rfl)) (hd : (x == ("__debug__" : Str)) = false := by decide)
    (hcd : (x == ("__classdict__" : Str)) = false := by decide) (hbase : attributeBase (.Name x p) "extend" X.env (eval (.Name x p) X.env) = eval (.Name x p) X.env := by rfl)
    (hfew : ((backTo cpos (starEach [e] X.env)).all (fun x => !x.1) && (backToKw cpos (keywordEach [] X.env)).all (fun x => x.1.isSome)
      && decide ([e].length + ([] : List Keyword).length + (if ([] : List Keyword).isEmpty then 0 else 1) < 30)) = true := by rfl)
    (hline : (apos.endLine == cpos.line) = true := by rfl) (hs : starEach [e] X.env = (false, eval e X.env) :: starEach [] X.env := by rfl) (hplain : (backTo cpos (starEach [] X.env)).any (·.1) = false := by rfl)
    (hsw : swapsWith (.Call (.Attribute (.Name x p) "extend" apos) [e] [] cpos) none pos.line X.env = pure false := by rfl) : PS X (.Expr (.Call (.Attribute (.Name x p) "extend" apos) [e] [] cpos) pos) (rS B W (mExt i t)) :=
  ds_ext i he hN hv hd hcd (he_ext i he hN hv hd hcd hbase hfew hline hs hplain) hsw
end
theorem pss_eq {X : Cx} {B : Bd} {W : WX} {st : List Stmt} {t u : DS} (e : u = t) (h : PSs X st (rS B W t)) : PSs X st (rS B W u) := by
  rw [e]
  exact h
/-! ### what the head tells -/
structure Zx (fa : List He.Fa) (fn : List He.DefD) (ex : PySem.W.Frag → Bool) (K : PySem.W.Frag) (mg : Str → Option Value) (base : Heap) : Prop where
  x : K.In base
  g : base.Ns mainGlobals mg
  c : SaysM fa fn ex K
section
variable {fa : List He.Fa} {fn : List He.DefD} {ex : PySem.W.Frag → Bool} {K : PySem.W.Frag} {mg : Str → Option Value} {base : Heap}
theorem Zx.free (Z : Zx fa fn ex K mg base) (i : Nat) {x : Str} (h : fa[i]? = some (.free x) := by rfl) : mg x = none := He.free_ok Z.x Z.g (Z.c.1.fact i h)
theorem Zx.glo (Z : Zx fa fn ex K mg base) (i : Nat) {x : Str} (h : fa[i]? = some (.glo x) := by rfl) : mg x = some (.ref (He.ga K x)) := He.glo_ok Z.x Z.g (Z.c.1.fact i h)
theorem Zx.int (Z : Zx fa fn ex K mg base) (i : Nat) {x : Str} {j : Int} (h : fa[i]? = some (.int x j) := by rfl) : ∃ t, mg x = some (.int j t) := He.int_ok Z.x Z.g (Z.c.1.fact i h)
theorem Zx.str (Z : Zx fa fn ex K mg base) (i : Nat) {x z : Str} (h : fa[i]? = some (.str x z) := by rfl) : ∃ t, mg x = some (.str z t) := He.str_ok Z.x Z.g (Z.c.1.fact i h)
theorem Zx.exc (Z : Zx fa fn ex K mg base) (i : Nat) {x : Str} (h : fa[i]? = some (.exc x) := by rfl) : PySem.W.excIn K (He.ga K x) He.veBase "ValueError.__new__" = true ∧ PySem.W.keepIn K (.ref (He.ga K x)) = true ∧ PySem.W.subIn K (.ref (He.ga K x)) (.type "BaseException") = some true ∧ PySem.W.typeIn K (.ref (He.ga K x)) = some (.type "type") := He.exc_ok (Z.c.1.fact i h)
theorem Zx.def_ (Z : Zx fa fn ex K mg base) (i : Nat) {d : He.DefD} (h : fn[i]? = some d := by rfl) : ∃ fd, FunD K d.name d.qual d.params d.body d.scope (d.dvs K) (d.kws K) (He.fAd K d.at_) fd := Z.c.1.def_ i h
end
/-- a fact of K among the extra ones -/
def exAll (es : List (PySem.W.Frag → Bool)) (K : PySem.W.Frag) : Bool := es.all fun e => e K
theorem exAll_at {es : List (PySem.W.Frag → Bool)} {K : PySem.W.Frag} (h : exAll es K = true) (i : Nat) {e : PySem.W.Frag → Bool} (he : es[i]? = some e) : e K = true := List.all_eq_true.mp h e (List.mem_of_getElem? he)
/-- the module's name x stands for a built-in function -/
def bltB (x : Str) (id : String) (K : PySem.W.Frag) : Bool := match PySem.W.nsIn K mainGlobals x with
  | some (some (.builtin j)) => decide (j = id)
  | _ => false
theorem bltB_ok {K : PySem.W.Frag} {h : Heap} {mg : Str → Option Value} {x : Str} {id : String} (X : K.In h) (G : h.Ns mainGlobals mg) (c : bltB x id K = true) : mg x = some (.builtin id) := by
  unfold bltB at c
  split at c
  · rename_i j e
    have := of_decide_eq_true c
    subst this
    exact PySem.W.mg_of X G e
  · cases c
/-- a tuple of numbers and texts that the module names -/
inductive Flat where
  | i (n : Int) | s (x : Str)
def Flat.d : Flat → D
  | .i n => .int n
  | .s x => .str x
def Flat.v : Flat → He.Dv
  | .i n => .int n
  | .s x => .str x
theorem flat_rp {K : PySem.W.Frag} {F : Hp} : ∀ fs : List Flat, RpL K F (fs.map Flat.d) ((fs.map Flat.v).map (He.Dv.v K))
  | [] => rfl
  | .i n :: fs => ⟨.int n, _, rfl, rfl, flat_rp fs⟩
  | .s x :: fs => ⟨.str x, _, rfl, rfl, flat_rp fs⟩
theorem tup_rp {K : PySem.W.Frag} {x : Str} {fs : List Flat} (h : He.tupB K x (fs.map Flat.v) = true) : ∀ F, Rp K F (.tup (fs.map Flat.d)) (.ref (He.ga K x)) := fun F => ⟨_, _, rfl, He.tupB_ok h F, flat_rp fs⟩
theorem funD_inj {K : PySem.W.Frag} {x x' q q' : Str} {pa pa' : Arguments} {b b' : List Stmt} {sc sc' : Scope} {dv dv' : List V} {kw kw' : List (Str × V)} {f : Addr} {fd fd' : FuncData} (F : FunD K x q pa b sc dv kw f fd) (F' : FunD K x' q' pa' b' sc' dv' kw' f fd') : fd = fd' := by
  obtain ⟨oc, od, _, _, _, _, _, _, _, osl, _, lk, _⟩ := F.ex
  obtain ⟨oc', od', _, _, _, _, _, _, _, osl', _, lk', _⟩ := F'.ex
  rw [lk] at lk'
  injection lk' with z
  injection z with z1 z2 z3 z4
  injection z3
/-- the law's def, over every base -/
theorem law_def_of {fa : List He.Fa} {fn : List He.DefD} {ex : PySem.W.Frag → Bool} {P : Program} {w : World} {K : PySem.W.Frag} {mg : Str → Option Value} {h : Heap} {lv : Nat} {x a : Str} {st : Stmt} {sp : DSp}
    (H : ∀ base : Heap, Zx fa fn ex K mg base → ∃ fd, DefOk P w K mg base lv x st fd [a] 1 [] sp) (X : K.In h) (G : h.Ns mainGlobals mg) (c : SaysM fa fn ex K)
    (hb : ∀ (kV doc pm : Value) (an : Option Addr) (cdv ct : Value) (us : List Value), us.length = [a].length → bindArgs (PySem.W.fnOf x x (defArgs st) (defBody st) (defScope st) .none kV doc pm an cdv ct) ⟨us, []⟩ = pure ([a].zip us)) :
    ∃ fd, mg x = some (.ref (He.ga K x)) ∧ (∀ (s : Shared) (u : Value), BindsTo s fd ⟨[u], []⟩ [(a, u)]) ∧ ∀ base : Heap, K.In base → base.Ns mainGlobals mg → FnOk P w K mg base (L2.CX P w) lv (He.ga K x) fd [a] (spD K 1 [] sp) := by
  obtain ⟨fd, D⟩ := H h ⟨X, G, c⟩
  refine ⟨fd, D.glo, fun s u => D.fun_.bindsA (ps := [a]) hb s [u] rfl, fun base X' G' => ?_⟩
  obtain ⟨fd', D'⟩ := H base ⟨X', G', c⟩
  have e := funD_inj D.fun_ D'.fun_
  subst e
  exact D'.ok
/-! ### the law's end -/
def lawD (ns : List Int) : List Cell := [.val (.fix (ns.map D.int))]
theorem law_sp {K : PySem.W.Frag} {w : DSp} {H : Hp} {a : Addr} {ns : List Int} (hS : SqL K H a (ns.map V.int)) (h : w (lawD ns) (fun c _ => c = .val (.bl true)) (fun _ _ _ => False)) : spD K 1 [] w [.ref a] H (fun v _ => v = .bl true) fun _ _ _ => False := by
  refine ⟨H, fun _ => none, lawD ns, fun _ => 0, _, _, rfl, ⟨rfl, Same.refl H, fun i => ?_, fun i j a h => (by cases h), Same.refl H, fun a o h => .inl h, fun a o h _ => h, fun j hj => (by cases hj), fun a h => h⟩, h, fun c o v F' H' q _ r => ?_, fun _ _ _ _ _ _ _ q _ _ => q⟩
  · match i with
    | 0 => exact ⟨rfl, _, rfl, a, ns.map V.int, rfl, hS, RpL.ints ns⟩
    | i + 1 =>
      show SlotR _ _ _ (([] : En).getD i none) (([] : L2.St).getD i none) _
      simp only [List.getD_nil]
      exact rfl
  · subst q
    exact r
/-- a law's end: what may be let out told at each world, the script's bits told -/
theorem walk_ofM {l : PySem.W.OpenLaw} {n k : Nat} {q : Program} {loose : List Str} {XP : (Str → Option Value) → Heap → Prop} {YP : World → Heap → Prop} {d : DefRec} {CX : World → CXT} {x : Str}
    (hn : l.most = some n) (hn2 : n ≤ sizeLine) (hdf : d.params.defaults = []) (hr : Room k callerA)
    (F : ∀ (w : World) (mg : Str → Option Value) (fa : Addr) (h : Heap), YP w h → h.Ns mainGlobals mg → mg d.name = some (.ref fa) →
      ∃ (K : PySem.W.Frag) (fd : FuncData) (sp : Sp), K.In h ∧ (∀ (s : Shared) (u : Value), BindsTo s fd ⟨[u], []⟩ [(x, u)]) ∧
        (∀ (H : Hp) (a : Addr) (ns : List Int), ns.length ≤ n → (∀ i ∈ ns, Builtin.Int.intBits i ≤ 1048576) → SqL K H a (ns.map V.int) → sp [.ref a] H (fun v _ => v = .bl true) fun _ _ _ => False) ∧
        ∀ base : Heap, K.In base → base.Ns mainGlobals mg → FnOk l.prog w K mg base (CX w) k fa fd [x] sp)
    (hCX : ∀ (w : World) (H : Hp) (s : Shared) (e : Value) (s' : Shared), CX w [] H s (fun _ _ _ => False) e s' → False) :
    PySem.W.WalkO q loose XP YP l.row.toRowW d [] (fun f vs => PySem.call f vs) := by
  refine Att.attach_callB hn hdf fun w s₀ s₁ mg mb fa o pm cd doc a vs ns G Y ho hd hcd hmg hobj hints hlen hbits hg => ?_
  obtain ⟨K, fd, sp, KX, hb, hsp, hF⟩ := F w mg fa _ Y G.T.g hmg
  exact law_call KX G.T.g G.T.b G.T.builtins G.T.nolimit hg hobj hints (Nat.le_trans hlen hn2) hr hF hb (fun H _ hS => hsp H a ns hlen hbits hS) fun H e s' => hCX w H s₁ e s'
end DL
/-! The data layer: dict displays of constants, str of an int. -/
namespace DL
open PySem PySem.Spec PyProof.Rows L2
section
variable {X : Cx} {B : Bd} {W : WX} {pos p1 p2 : Pos}
theorem de_dic0 : PE X (.Dict [] [] pos) (rV B W (mK (.dic [] []))) := by
  refine pe_imp pe_dnewK fun σ H Q ⟨F, L, ρ, Qd, Ed, S, ht, hq, hx⟩ p hp => ?_
  obtain ⟨g, s⟩ := grow_upd (o := .dK []) S.sub hp
  exact hq (.dic [] []) ρ _ _ L _ ht (S.grow g s) g.stp ⟨p, [], rfl, upd_same, rfl, rfl⟩
theorem de_dic1 {k : Str} {i : Int} {j1 j2 : Nat} : PE X (.Dict [some (.Constant (.str k) j1 p1)] [.Constant (.int i) j2 p2] pos) (rV B W (mK (.dic [.inr k] [.int i]))) := by
  refine pe_imp (pe_disp (pps_cons pe_str pe_int pps_nil) rfl rfl (by simp) (Nat.le_of_ble_eq_true rfl)) fun σ H Q ⟨F, L, ρ, Qd, Ed, S, ht, hq, hx⟩ p hp => ?_
  refine ⟨upd_same, [(.inr k, .int i)], rfl, Nat.le_of_ble_eq_true rfl, ?_⟩
  have e : upd (upd H p (.dK [])) p (.dK (mergeK [] [(.inr k, .int i)])) = upd H p (.dK [(.inr k, .int i)]) := by
    funext b
    unfold upd
    split <;> rfl
  rw [e]
  obtain ⟨g, s⟩ := grow_upd (o := .dK [(.inr k, .int i)]) S.sub hp
  exact hq (.dic [.inr k] [.int i]) ρ _ _ L _ ht (S.grow g s) g.stp ⟨p, [.int i], rfl, upd_same, rfl, _, _, rfl, rfl, rfl⟩
end
/-! ### a display under a name -/
section
variable {X : Cx} {B : Bd} {W : WX} {e : Expr}
theorem de_eq {t u : DE} (h : u = t) (k : PE X e (rV B W t)) : PE X e (rV B W u) := by rw [h]; exact k
theorem dc_eq {t u : DC} (h : u = t) (k : PE X e (rC B W t)) : PE X e (rC B W u) := by rw [h]; exact k
end
/-! ### str -/
def gStr : D → Option Cell
  | .int i => if i.natAbs.log2 < 1920 then some (.val (.str (toString i))) else none
  | .str x => some (.val (.str x))
  | _ => none
abbrev fStr : DOpN := n1 gStr
def rStr : List V → Hp → VK → Prop := fun xs H Q => (∃ i : Int, xs = [.int i] ∧ i.natAbs.log2 < 1920 ∧ Q (.str (toString i)) H) ∨ ∃ a, xs = [.str a] ∧ Q (.str a) H
theorem fStr_ok {K : PySem.W.Frag} : OpN K rStr fStr := by
  refine n1_ok fun F H d v c Q sb h e q => ?_
  cases d <;> first | (cases e; done) | skip
  · rename_i i
    cases (show v = V.int i from h)
    simp only [gStr] at e
    split at e
    · cases e
      exact .inl ⟨i, rfl, by assumption, fin_val sb q rfl⟩
    · cases e
  · rename_i x
    cases (show v = V.str x from h)
    cases e
    exact .inr ⟨x, rfl, fin_val sb q rfl⟩
theorem call_str {X : Cx} : CallR X (.type "str") rStr := call_str_int.or SkE.call_str_str
end DL
/-! The data layer: t[::-1]. -/
namespace HT
open PySem PySem.Spec PySem.W PySem.Calls PyProof.Rows
theorem adjust_rev (n : Nat) : Builtin.Slice.sliceAdjust none none (-1) (n : Int) = ((n : Int) - 1, -1) := by
  unfold Builtin.Slice.sliceAdjust
  simp
theorem places_rev (n : Nat) : Builtin.Slice.slicePlaces ((n : Int) - 1) (-1) (-1) = n := by
  unfold Builtin.Slice.slicePlaces
  have h1 : ¬ ((-1 : Int) > 0) := by omega
  simp only [h1, if_false]
  rw [show (- -1 : Int) = 1 by decide, Int.ediv_one]
  split <;> omega
theorem pick_rev (xs : Array Value) : ((List.range xs.size).filterMap fun (m : Nat) => xs[((((xs.size : Nat) : Int) - 1) + (m : Int) * (-1)).toNat]?).toArray = xs.toList.reverse.toArray := by
  have e : (List.range xs.size).filterMap (fun (m : Nat) => xs[((((xs.size : Nat) : Int) - 1) + (m : Int) * (-1)).toNat]?) = ((List.range xs.size).map fun m => xs.size - 1 - m).filterMap (xs[·]?) := by
    rw [List.filterMap_map]
    refine congrFun (congrArg _ (funext fun m => ?_)) _
    show xs[((((xs.size : Nat) : Int) - 1) + (m : Int) * (-1)).toNat]? = xs[xs.size - 1 - m]?
    by_cases h : 0 < xs.size
    · congr 1
      omega
    · have h0 : xs.size = 0 := by omega
      rw [Array.getElem?_eq_none (by omega), Array.getElem?_eq_none (by omega)]
  rw [e]
  have e2 : (List.range xs.size).map (fun m => xs.size - 1 - m) = (List.range xs.size).reverse := by
    apply List.ext_getElem
    · simp
    · intro i h1 h2
      simp
  rw [e2, List.filterMap_reverse]
  have e3 : (List.range xs.size).filterMap (xs[·]?) = xs.toList := by
    apply List.ext_getElem?
    intro i
    have := pick_run xs 0 xs.size
    have e4 : (List.range xs.size).map (0 + ·) = List.range xs.size := by
      rw [show ((0 + ·) : Nat → Nat) = id from funext fun k => Nat.zero_add k, List.map_id]
    rw [e4, List.drop_zero, List.take_of_length_le (by rw [Array.length_toList]; exact Nat.le_refl _)] at this
    rw [this]
  rw [e3]
section
variable {prog : Program} {w : World} {A : Around} {E : Value → Shared → Prop} {s : Shared}
theorem sliceApplied_rev {sl : Addr} {n : Nat} {u : Tok} {Q : Int × Int × Nat → Shared → Prop} (hs : s.heap.IsSliceOf sl .none .none (.int (-1) u))
    (h : Q ((n : Int) - 1, -1, n) s) : wpAny (model prog w) A (Builtin.Slice.sliceApplied (.ref sl) (pure (n : Int))) Q E s := by
  obtain ⟨os, hos, hcs, hds⟩ := id hs
  unfold Builtin.Slice.sliceApplied Builtin.Slice.sliceFields
  refine wpAny_bind (wpAny_bind (wpAny_field hos hds (x := .none) rfl (wpAny_bind (wpAny_field hos hds (x := .none) rfl (wpAny_bind (wpAny_field hos hds (x := .int (-1) u) rfl (wpAny_pure ?_)))))))
  refine wpAny_bind (slicePart_int ?_)
  show wpAny _ _ (if ((-1 : Int) == 0) = true then _ else _) _ _ s
  rw [if_neg (by decide)]
  refine wpAny_bind (slicePart_none (wpAny_bind (slicePart_none (wpAny_bind (wpAny_pure ?_)))))
  show wpAny _ _ (match Builtin.Slice.sliceAdjust none none (-1) (n : Int) with | (lo, hi) => pure (lo, (-1 : Int), Builtin.Slice.slicePlaces lo hi (-1))) _ _ s
  rw [adjust_rev n]
  show wpAny _ _ (pure ((n : Int) - 1, (-1 : Int), Builtin.Slice.slicePlaces ((n : Int) - 1) (-1) (-1))) _ _ s
  rw [places_rev]
  exact wpAny_pure h
theorem getItem_tuple_rev {t sl : Addr} {items : Array Value} {u : Tok} {Q : Value → Shared → Prop} (ht : IsTup s.heap t items) (hs : s.heap.IsSliceOf sl .none .none (.int (-1) u))
    (h : Q (.ref s.heap.objs.size) { s with heap := s.heap.push { cls := .type "tuple", data := .seq items.toList.reverse.toArray } })
    (hsz : items.size ≤ sizeLine) : wpAny (model prog w) A (getItem (.ref t) (.ref sl)) Q E s := by
  have htake : sizeOk (.seq items.toList.reverse.toArray) := by
    show items.toList.reverse.toArray.size ≤ sizeLine
    rw [List.size_toArray, List.length_reverse, Array.length_toList]
    exact hsz
  obtain ⟨os, hos, hcs, hds⟩ := id hs
  have hTs : s.TypeIs (.ref sl) "slice" := ⟨os, hos, hcs⟩
  unfold getItem
  try with_reducible refine wpAny_holding ?_
  first | refine wpAny_bind (wpAny_pure ?_) | skip
  refine wpAny_bind (wpAny_sequenceKey ht.typeIs (by decide) ?_)
  refine wpAny_bind (wpAny_callSpecial?_slot (name := Str.ofString "__getitem__") ht.typeIs PyProof.Rows.slot_tuple_getitem
    (wpAny_call_entry PyProof.Rows.slot_tuple_getitem ht.typeIs entry_tuple_getitem ?_ (args_tuple_getitem _ _)))
  show wpAny _ _ (Builtin.Tuple.tupleItemsOf (.ref t) >>= _) _ _ s
  refine wpAny_bind (tupleItemsOf_ ht ?_)
  refine wpAny_bind (wpAny_typeOf hTs ?_)
  rw [if_pos (by decide)]
  refine wpAny_bind (sliceApplied_rev hs ?_)
  have hno : ¬ (((((items.size : Nat) : Int) - 1 == 0 && (-1 : Int) == 1 && items.size == items.size)) = true) := by
    intro q
    rw [Bool.and_eq_true, Bool.and_eq_true] at q
    exact absurd q.1.2 (by decide)
  show wpAny _ _ (if (((items.size : Nat) : Int) - 1 == 0 && (-1 : Int) == 1 && items.size == items.size) = true then _ else _) _ _ s
  rw [if_neg hno, pick_rev]
  first
    | exact wpAny_bind (m := Builtin.Tuple.tupleExact _) (wpAny_newObj_type (wpAny_pure ⟨_, rfl, wpAny_pure h⟩) htake)
    | exact wpAny_bind (m := Builtin.Tuple.tupleExact _) (wpAny_newObj_type (wpAny_bind (wpAny_pure (wpAny_pure ⟨_, rfl, wpAny_pure h⟩))) htake)
    | exact wpAny_bind (wpAny_bind (m := Builtin.Tuple.tupleExact _) (wpAny_newObj_type (wpAny_pure (wpAny_pure ⟨_, rfl, wpAny_pure h⟩)) htake))
    | exact wpAny_bind (wpAny_bind (m := Builtin.Tuple.tupleExact _) (wpAny_newObj_type (wpAny_pure ⟨_, rfl, wpAny_pure h⟩) htake))
end
end HT
namespace DL
open PySem PySem.Spec PyProof.Rows L2
def tRevT (K : PySem.W.Frag) (te : TE) : TE := fun σ H Q => te σ H fun x H1 => ∃ a xs, x = .ref a ∧ SqT K H1 a xs ∧ ∀ p, H1 p = none → Q (.ref p) (upd H1 p (.tup xs.reverse))
section
variable {X : Cx} {B : Bd} {W : WX} {e : Expr} {te : TE} {p1 p2 p3 pos : Pos} {j : Nat}
theorem pe_rev (he : PE X e te) : PE X (.Subscript e (.Slice none none (some (.UnaryOp .USub (.Constant (.int 1) j p1) p2)) p3) pos) (tRevT X.K te) := by
  refine ⟨fun pins s σ H Q I h => ?_⟩
  refine Subscript_ (thn (he.run pins s σ H _ I h) fun v s1 ⟨x, H1, I1, r1, q1⟩ => ?_)
  obtain ⟨a, xs, ex, hx, q⟩ := q1
  subst ex
  cases r1
  have hst : PO X (some (.UnaryOp .USub (.Constant (.int 1) j p1) p2)) (tPart (tUn (rU fun i => .int (-i)) (tC (.int 1)))) := po_some (pe_un un_neg pe_int)
  refine wpAny_Slice (thn (po_none.run pins s1 σ H1 (fun o H2 => o = none ∧ H2 = H1) I1 ⟨rfl, rfl⟩) fun vl s2 ⟨l, H2, I2, pl, el, e2⟩ => ?_)
  subst el e2
  refine thn (po_none.run pins s2 σ H2 (fun o H3 => o = none ∧ H3 = H2) I2 ⟨rfl, rfl⟩) fun vu s3 ⟨u, H3, I3, pu, eu, e3⟩ => ?_
  subst eu e3
  refine thn (hst.run pins s3 σ H3 (fun o H4 => o = some (-1) ∧ H4 = H3) I3 ⟨1, rfl, -1, rfl, rfl, rfl⟩) fun vs s4 ⟨o, H4, I4, ps, eo, e4⟩ => ?_
  subst eo e4
  cases pl
  cases pu
  obtain ⟨tk, rfl⟩ : ∃ tk, vs = Value.int (-1) tk := by
    cases ps
    exact ⟨_, rfl⟩
  have I5 : Inv X pins σ H4 { s4 with heap := s4.heap.push { cls := .type "slice", data := .fields #[.none, .none, .int (-1) tk] } } := I4.kept (t' := s4.toks) fun b ob q => Heap.get?_push_of_some _ q
  obtain ⟨its, r, ht, hz⟩ := I5.tuple hx
  have hlen := r.length
  show wpAny (model X.prog X.w) X.A (subscriptTail e (.Slice none none (some (.UnaryOp .USub (.Constant (.int 1) j p1) p2)) p3) (.ref a) (.ref s4.heap.objs.size)) (EP X pins σ Q) X.xe { s4 with heap := s4.heap.push { cls := .type "slice", data := .fields #[.none, .none, .int (-1) tk] } }
  refine tail_any (ops := [.ref a, .ref s4.heap.objs.size]) ht.typeIs (PyProof.Rows.slot_tuple_getitem.lookup) ?_ (by with_unfolding_all rfl)
  refine HT.getItem_tuple_rev ht (Heap.IsSliceOf.new _ .none .none (.int (-1) tk)) ?_ (by rw [List.size_toArray]; omega)
  refine ⟨.ref _, _, I5.laid (t' := s4.toks) (o := .tup xs.reverse) (fun b ob q => Heap.get?_push_of_some _ q) (Nat.le_refl _) ?_, rfl, q _ (I5.hok.fresh (Nat.le_refl _))⟩
  exact ⟨by rw [List.length_reverse]; exact hz, _, r.reverse, IsTup.new _ _⟩
/-! in data -/
theorem rpl_rev {K : PySem.W.Frag} {F : Hp} : ∀ {ds : List D} {vs : List V}, RpL K F ds vs → RpL K F ds.reverse vs.reverse
  | [], _, h => by
    have e : _ = [] := h
    subst e
    rfl
  | d :: ds, _, h => by
    obtain ⟨v, r, rfl, h1, h2⟩ := h
    rw [List.reverse_cons, List.reverse_cons]
    exact (rpl_rev h2).append ⟨v, [], rfl, h1, rfl⟩
def mRev (t : DE) : DE := fun ρ Q E => t ρ (fun d ρ1 => match d with
  | .tup xs => Q (.tup xs.reverse) ρ1
  | _ => False) E
theorem de_rev {t : DE} (he : PE X e (rV B W t)) (hK : B.K = X.K := by rfl) : PE X (.Subscript e (.Slice none none (some (.UnaryOp .USub (.Constant (.int 1) j p1) p2)) p3) pos) (rV B W (mRev t)) := by
  refine pe_imp (pe_rev he) fun σ H Q ⟨F, L, ρ, Qd, Ed, S, ht, hq, hx⟩ => ⟨F, L, ρ, _, Ed, S, ht, fun d ρ' v F' L' H' k S' s r => ?_, hx⟩
  cases d <;> first | (exact False.elim k) | skip
  rename_i ds
  obtain ⟨a, vs, ev, hv, hr⟩ := r
  refine ⟨a, vs, ev, by rw [← hK]; exact Same.tseq S'.sub hv, fun p hp => ?_⟩
  obtain ⟨g, sm⟩ := grow_upd (o := .tup vs.reverse) S'.sub hp
  exact hq (.tup ds.reverse) ρ' _ _ L' _ k (S'.grow g sm) (s.trans g.stp) ⟨p, _, rfl, SqT.of upd_same, (rpl_rev hr).mono g.f⟩
end
end DL
/-! The data layer: any(..) of a tuple of whole numbers. -/
namespace DL
open PySem PySem.Spec PyProof.Rows L2
theorem truth_ints {prog : Program} {w : World} {A : Around} {ns : List Int} {its : List Value} (e : IntsAre its ns) :
    TruthOf prog w A (fun i v => its.toArray[i]? = some v) (fun i => (ns.map fun x => x != 0).getD i false) := fun i v s Q E hv hq => by
  have hv' : its[i]? = some v := by simpa using hv
  obtain ⟨n, t, rfl, hn⟩ : ∃ n t, v = Value.int n t ∧ ns[i]? = some n := by
    clear hq hv
    induction e generalizing i with
    | nil => simp at hv'
    | cons n t _ ih =>
      cases i with
      | zero =>
        simp at hv'
        exact ⟨_, _, hv'.symm, rfl⟩
      | succ i => exact ih _ (by simpa using hv')
  have hg : (ns.map fun x => x != 0).getD i false = (n != 0) := by
    rw [List.getD_eq_getElem?_getD, List.getElem?_map, hn]
    rfl
  have hq' : Q ((ns.map fun x => x != 0).getD i false) s := hq
  rw [hg] at hq'
  exact PyProof.Rows.truthy_int hq'
def rAnyT (K : PySem.W.Frag) : List V → Hp → VK → Prop := fun vs H Q => ∃ (a : Addr) (ns : List Int), vs = [V.ref a] ∧ SqT K H a (ns.map V.int) ∧ Q (.bl (ns.any fun x => x != 0)) H
theorem cr_anyT {X : Cx} (hc : X.calm = true) : CallR X (.builtin "any") (rAnyT X.K) := by
  intro pins s σ H vs us Q I r h
  obtain ⟨a, ns, rfl, hs, q⟩ := h
  obtain ⟨its, rv, ht, _⟩ := I.tuple hs
  rw [Vals.ref1 r]
  have hi := intsAre_of rv
  have hl : s.heap.IsTuple a its.toArray := ht
  have hlt : a < s.heap.objs.size := by obtain ⟨_, e, _⟩ := hl; exact Heap.lt_size e
  refine call_any_walk (wpAny_pyIter_tuple hl ?_)
  refine ⟨_, _, _, _, _, _, _, rfl, Walks.tuple (A := X.A.in1) (I.ok.hd hc) _ a (Nat.ne_of_lt hlt) its.toArray, ⟨⟨_, Heap.get?_push_size _ rfl, rfl, rfl⟩, hl.push _⟩, truth_ints hi, fun h' tk hk => ?_⟩
  refine ⟨.bl _, H, I.kept fun b o eo => hk b o (fun hmem => ?_) (Heap.get?_push_of_some _ eo), ?_, q⟩
  · rcases List.mem_cons.mp hmem with e1 | hmem
    · exact absurd (e1 ▸ Heap.lt_size eo) (Nat.lt_irrefl _)
    · cases hmem
  · show Value.bool _ = Value.bool _
    have e1 : its.toArray.size = (ns.map fun x => x != 0).length := by
      rw [List.size_toArray, List.length_map]
      have := rv.length
      rw [List.length_map] at this
      omega
    rw [e1, L2.any_range, List.any_map]
    rfl
def gAnyI : D → Option Cell
  | .tup ds => (numsD ds).map fun ns => .val (.bl (ns.any fun x => x != 0))
  | _ => none
abbrev fAnyI : DOpN := n1 gAnyI
theorem fAnyI_ok {K : PySem.W.Frag} : OpN K (rAnyT K) fAnyI := by
  refine n1_ok fun F H d v c Q sb h e q => ?_
  cases d <;> first | (cases e; done) | skip
  rename_i ds
  obtain ⟨a, vs, ev, hq, hr⟩ := RpV.tup_ sb h
  have e2 : (numsD ds).map (fun ns => Cell.val (.bl (ns.any fun x => x != 0))) = some c := e
  cases en : numsD ds with
  | none => rw [en] at e2; cases e2
  | some ns =>
    rw [en] at e2
    cases e2
    have := ints_eq en
    subst this
    have e3 := hr.to_ints
    subst e3
    exact ⟨a, ns, by rw [ev], hq, fin_val sb q rfl⟩
end DL
/-! Several except clauses, with and without a name (the steps of the library's two theorems of one kind each, joined). -/
namespace L2
open PySem PySem.Spec PyProof.Rows
abbrev ClT := Addr → Value → Option Addr → TS
/-- the ends behind a clause whose name is gone -/
def goneD (D : Ends) (i : Nat) : Ends where
  nx := fun τ G => D.nx (τ.set i none) G
  rt := D.rt
  bk := fun τ G => D.bk (τ.set i none) G
  ct := fun τ G => D.ct (τ.set i none) G
/-- what a clause's suite is told -/
def hA : Option Nat → TS → Addr → Ends → St → Hp → Prop
  | none, t, _, D, τ, G => t D τ G
  | some i, t, x, D, τ, G => t (goneD D i) (τ.set i (some (.ref x))) G
/-- what the clauses wish of an exception, one behind the other -/
def wA (K : PySem.W.Frag) (W0 : WX) (D : Ends) : List (Value × Option Nat × ClT) → WX
  | [] => W0
  | (c, oi, t) :: rest => fun k dd τ G => ∃ yes, PySem.W.exmOne K k c = some yes ∧ (yes = true → ∀ x, G x = none → hA oi (t x k dd) x D τ G) ∧ (yes = false → wA K W0 D rest k dd τ G)
/-- a suite's proof, for each exception that may come -/
def SuiteOk (X : Cx) (sts : List Stmt) (t : ClT) : Prop :=
  ∀ (x : Addr) (ob : Obj) (k : Value) (dd : Option Addr) (more : List (Addr × Obj)), Zc k dd ob → (∃ fv, ob.data = .fields fv) → PSs (X.suite x ((x, ob) :: more)) sts (t x k dd)
inductive HdsA (X : Cx) : List ExceptHandler → List (Value × Option Nat × ClT) → Prop
  | nil : HdsA X [] []
  | only {y : Str} {c : Value} {t : ClT} {st : Stmt} {sts : List Stmt} {q1 q2 : Pos} {hs : List ExceptHandler} {cl : List (Value × Option Nat × ClT)} (hc : Names X y c) (ok : SuiteOk X (st :: sts) t) (rest : HdsA X hs cl) :
      HdsA X (.ExceptHandler (some (.Name y q1)) none (st :: sts) q2 :: hs) ((c, none, t) :: cl)
  | named {y z : Str} {c : Value} {i : Nat} {t : ClT} {st : Stmt} {sts : List Stmt} {q1 q2 : Pos} {hs : List ExceptHandler} {cl : List (Value × Option Nat × ClT)} (hc : Names X y c) (hi : X.N[i]? = some z) (hz : X.env.kindOf z = some .local) (ok : SuiteOk X (st :: sts) t) (rest : HdsA X hs cl) :
      HdsA X (.ExceptHandler (some (.Name y q1)) (some z) (st :: sts) q2 :: hs) ((c, some i, t) :: cl)
section
variable {X : Cx} {bd : List Stmt} {h0 : ExceptHandler} {hs : List ExceptHandler} {cl : List (Value × Option Nat × ClT)} {pos : Pos} {tb : WX → TS} {W0 : WX}
/-- a flow out of a context of the same slots -/
theorem sp_map {Y : Cx} {p1 p2 : List (Addr × Obj)} {D : Ends} {s : Shared} (m : ∀ τ G, Inv Y p1 τ G s → Inv X p2 τ G s) : ∀ {f : Flow}, SP Y p1 D f s → SP X p2 D f s
  | .next, ⟨τ, G, J, q⟩ => ⟨τ, G, m τ G J, q⟩
  | .brk, ⟨τ, G, J, q⟩ => ⟨τ, G, m τ G J, q⟩
  | .cont, ⟨τ, G, J, q⟩ => ⟨τ, G, m τ G J, q⟩
  | .ret _, ⟨u, τ, G, J, r, q⟩ => ⟨u, τ, G, m τ G J, r, q⟩
/-- the same, out of a clause with a name -/
theorem sp_gone {Y : Cx} {p1 p2 : List (Addr × Obj)} {D : Ends} {i : Nat} {s : Shared} {z : Str} {q2 : Pos} (m : ∀ τ G, Inv Y p1 τ G s → Inv X p2 τ G s) (hN : X.N.Nodup) (hi : X.N[i]? = some z) (hz : X.env.kindOf z = some .local) :
    ∀ {f : Flow}, SP Y p1 (goneD D i) f s → wpAny (model X.prog X.w) X.A (do bindName X.env z .none; unbindBehindTheSuite X.env z q2) (fun _ s2 => SP X p2 D f s2) X.xe s
  | .next, ⟨τ, G, J, q⟩ => gone_ok (m τ G J) hN hi hz fun _ J2 => ⟨_, G, J2, q⟩
  | .brk, ⟨τ, G, J, q⟩ => gone_ok (m τ G J) hN hi hz fun _ J2 => ⟨_, G, J2, q⟩
  | .cont, ⟨τ, G, J, q⟩ => gone_ok (m τ G J) hN hi hz fun _ J2 => ⟨_, G, J2, q⟩
  | .ret _, ⟨u, τ, G, J, r, q⟩ => gone_ok (m τ G J) hN hi hz fun _ J2 => ⟨u, _, G, J2, r, q⟩
theorem ps_try_manyA (e1 : X.stack = X.env :: X.outer) (e2 : X.env.frame = some X.env.locals) (hN : X.N.Nodup) (tk : Takes X W0)
    (hb : ∀ (W : WX) (more : List (Addr × Obj)) (xe : Value → Shared → Prop), Takes (X.tr more xe) W → PassesOwn (model X.prog X.w) X.A X.env xe → PSs (X.tr more xe) bd (tb W))
    (hh : HdsA X (h0 :: hs) cl) : PS X (.Try bd (h0 :: hs) [] [] pos) (fun D τ G => tb (wA X.K W0 D cl) D τ G) := by
  constructor
  intro K0 s τ G D I given
  have ok := I.ok
  have frs0 : X.A.frames = some (X.env :: X.outer) := ok.frames.trans (congrArg some e1)
  let XE : Value → Shared → Prop := fun v u1 => wpAny (model X.prog X.w) X.A (noteFrame v X.env) (fun _ u2 => wpAny (model X.prog X.w) X.A (setFlight v none) (fun _ u3 =>
    wpAny (model X.prog X.w) X.A (handleBy v X.env (h0 :: hs)) (SP X K0 D) X.xe u3) X.xe u2) X.xe u1
  have hcat : Takes (X.tr (X.pn ++ K0) XE) (wA X.K W0 D cl) := by
    intro v s' caught
    obtain ⟨x, Bx, sx, K1, τ1, G1, k, dd, rfl, J0, nb, up, sky, gx, os, ag, wish⟩ := caught
    have J : Inv X K0 τ1 G1 sx := J0.ofTry ok
    show wpAny (model X.prog X.w) X.A (noteFrame (.ref x) X.env) _ _ _
    refine Sky.land Zc.steady frs0 e2 (e1 ▸ sky) fun hp fl upp => ?_
    have there : ∀ {hq : Heap} {ob : Obj} {fv : Array Value}, hq.FunFrames Bx (X.env :: X.outer) → hq.get? x = some ob → ob.data = .fields fv → x ∉ frs (X.env :: X.outer) := by
      intro hq ob fv ff g1 g2 mm
      obtain ⟨_, ob', g3, no⟩ := ff.mem mm
      cases g1.symm.trans g3
      exact no _ g2
    obtain ⟨ob, fv, gob, zob, dob⟩ := fl.there
    have out := there fl.2.2.1 gob dob
    have x1 : x ≠ X.env.locals := fun q => out (List.mem_filterMap.mpr ⟨X.env, List.mem_cons_self, by rw [e2, q]⟩)
    have x2 : x ∉ X.fs := by
      intro mm
      obtain ⟨en, m1, m2⟩ := List.mem_filterMap.mp mm
      exact out (List.mem_filterMap.mpr ⟨en, List.mem_cons_of_mem _ m1, m2⟩)
    have JL : Inv X K0 τ1 G1 { s' with heap := hp } := J.landed nb fl.1 (up.trans upp) os ag
    have JS := JL.suite gob dob gx x1 x2
    have seen : PySem.W.Looks (model X.prog X.w) hp (typeOf (.ref x)) k := fun _ _ _ _ kp q => wpAny_typeOf_ref (kp _ _ gob) (by rw [zob.1]; exact q)
    have named : ∀ {y : Str} {c : Value} {q1 : Pos} {Q E : Value → Shared → Prop}, Names X y c → Q c { s' with heap := hp } →
        wpAny (model X.prog X.w) (X.A.mark (some (.ref x))) (eval (.Name y q1) X.env) Q E { s' with heap := hp } := by
      rintro y c q1 Q E ⟨n1, n2, n3 | ⟨n3, n4, n5⟩⟩ q
      · exact ld_glob (X := X.suite x ((x, ob) :: (X.pn ++ K0))) JS n1 n3 q n2
      · exact ld_blt (X := X.suite x ((x, ob) :: (X.pn ++ K0))) JS n1 n3 n4 q n5 n2
    have walk : ∀ {hl : List ExceptHandler} {ll : List (Value × Option Nat × ClT)}, HdsA X hl ll → wA X.K W0 D ll k dd τ1 G1 →
        wpAny (model X.prog X.w) X.A (handleBy (.ref x) X.env hl) (SP X K0 D) X.xe { s' with heap := hp } := by
      intro hl ll hk
      induction hk with
      | nil =>
        intro w
        refine wpAny_handleBy_nil ?_
        have fl0 := fl
        obtain ⟨_, _, _, _, _, T, _, _, g1, _, g2, g3, _⟩ := fl0
        unfold PySem.passOn
        refine wpAny_bind (wpAny_field g1 g2 g3 ?_)
        rw [if_neg (by simp : ¬ ((Value.ref T == Value.none) = true))]
        have on : wpAny (model X.prog X.w) X.A (setFlight (.ref x) X.env.frame) (fun _ u => wpAny (model X.prog X.w) X.A (throw (.ref x) : Sem Flow) (SP X K0 D) X.xe u) X.xe { s' with heap := hp } := by
          rw [e2]
          refine HandSPX.setFlight_upZ fl fun h4 sky4 up4 => wpAny_throw (tk _ _ ?_)
          exact ⟨x, Bx, sx, K0, τ1, G1, k, dd, rfl, J, nb, (up.trans upp).trans up4, .inr (.inr (e1.symm ▸ sky4)), gx, os, ag, w⟩
        first
          | exact wpAny_bind (wpAny_pure (wpAny_bind on))
          | exact wpAny_bind on
      | only hc sok rest ih =>
        intro w
        obtain ⟨yes, w1, w2, w3⟩ := w
        refine wpAny_handleBy_cons (codeAny_handlers_test ?_) (fun q => by cases q)
        refine named hc ((PySem.W.exm_one (M := model X.prog X.w) JL.kIn seen w1).here ?_)
        cases yes with
        | false => exact ih (w3 rfl)
        | true =>
          refine codeAny_handlers_suite (HandSPX.lands_againZ fl fun h4 fl4 up4 => ?_)
          obtain ⟨ob4, fv4, g4, z4, d4⟩ := fl4.there
          have JM : Inv X K0 τ1 G1 { s' with heap := h4 } := J.landed nb fl4.1 ((up.trans upp).trans up4) os ag
          have J4 := JM.suite g4 d4 gx x1 x2
          exact wpAny_mono ((sok x ob4 k dd (X.pn ++ K0) z4 ⟨_, d4⟩).run [] _ _ G1 _ J4 (w2 rfl x gx)) (fun _ _ q => sp_map (fun _ _ J5 => J5.unsuite ok) q) fun _ _ q => q.elim
      | named hc hi hz sok rest ih =>
        intro w
        obtain ⟨yes, w1, w2, w3⟩ := w
        refine wpAny_handleBy_cons (codeAny_handlers_test ?_) (fun q => by cases q)
        refine named hc ((PySem.W.exm_one (M := model X.prog X.w) JL.kIn seen w1).here ?_)
        cases yes with
        | false => exact ih (w3 rfl)
        | true =>
          refine codeAny_handlers_suite_as (HandSPX.lands_againZ fl fun h4 fl4 up4 => ?_)
          obtain ⟨ob4, fv4, g4, z4, d4⟩ := fl4.there
          have JM : Inv X K0 τ1 G1 { s' with heap := h4 } := J.landed nb fl4.1 ((up.trans upp).trans up4) os ag
          have J4 := JM.suite g4 d4 gx x1 x2
          refine store_ok (X := X.suite x ((x, ob4) :: (X.pn ++ K0))) (v := .ref x) J4 hN hi (.inl hz) rfl (fun s5 J5 => ?_) (.inr hz)
          exact wpAny_mono ((sok x ob4 k dd (X.pn ++ K0) z4 ⟨_, d4⟩).run [] s5 _ G1 _ J5 (w2 rfl x gx)) (fun _ _ q => sp_gone (fun _ _ J6 => J6.unsuite ok) hN hi hz q) fun _ _ q => q.elim
    exact walk hh wish
  have hbody := (hb (wA X.K W0 D cl) (X.pn ++ K0) XE hcat PassesOwn.looking).run [] s τ G D (I.toTry _) given
  refine wpAny_Try_except (wpAny_mono hbody (fun f u q => ?_) fun _ _ q => q)
  have q2 : SP X K0 D f u := sp_map (fun _ _ J5 => J5.ofTry ok) q
  cases f with
  | next => exact wpAny_execs_nil q2
  | brk => exact q2
  | cont => exact q2
  | ret _ => exact q2
end
end L2
/-! The data layer: try, with clauses that return a text and the error's field. -/
namespace DL
open PySem PySem.Spec PyProof.Rows L2
/-- a clause: its class, its name's slot and the field that is told, the text -/
abbrev Cl := Str × Option (Nat × Str) × Str
def tryGo (und : Str → Str → Option Bool) : List Cl → Str → List (Str × D) → En → (D → Prop) → Prop → Prop
  | [], _, _, _, _, out => out
  | (cn, o, tag) :: rest, c, fs, ρ, R, out => match und c cn with
    | some true => (match o with
      | none => R (.tup [.str tag, .non])
      | some (i, f) => i < ρ.length ∧ c = cn ∧ ∃ d, fs.lookup f = some d ∧ R (.tup [.str tag, d]))
    | some false => tryGo und rest c fs ρ R out
    | none => False
def mTry (und : Str → Str → Option Bool) (cls : List Cl) (t : DS) : DS := fun Dd ρ => t { Dd with ex := fun c fs ρ1 => tryGo und cls c fs ρ1 (fun d => Dd.rt (.val d) ρ1) (Dd.ex c fs ρ1) } ρ
def clT (K : PySem.W.Frag) : Cl → ClT
  | (_, none, tag) => fun _ _ _ => tRet (tTup (tCons (tC (.str tag)) (tCons (tC .non) tNil)))
  | (cn, some (i, f), tag) => fun x k dd => tRet (tTup (tCons (tC (.str tag)) (tCons (tXf x k dd (He.ga K cn) f (tVar i)) tNil)))
abbrev clL (K : PySem.W.Frag) (cls : List Cl) : List (Value × Option Nat × ClT) := cls.map fun cl => (.ref (He.ga K cl.1), cl.2.1.map (·.1), clT K cl)
theorem lookup_rp {K : PySem.W.Frag} {F : Hp} {f : Str} {d : D} : ∀ {fs : List (Str × D)} {fv : List (Str × V)}, fv.map (·.1) = fs.map (·.1) → RpL K F (fs.map (·.2)) (fv.map (·.2)) → fs.lookup f = some d → ∃ v, fv.lookup f = some v ∧ Rp K F d v
  | [], _, _, _, h => by cases h
  | (y, e) :: fs, [], h, _, _ => by cases h
  | (y, e) :: fs, (z, u) :: fv, h, r, l => by
    rw [List.map_cons, List.map_cons] at h
    injection h with h1 h2
    have h1' : z = y := h1
    subst h1'
    obtain ⟨v, vs, e1, e2, e3⟩ := r
    rw [List.map_cons] at e1
    injection e1 with e4 e5
    rw [List.lookup_cons] at l ⊢
    cases hy : f == z with
    | true =>
      rw [hy] at l
      cases l
      exact ⟨u, rfl, by have e6 : u = v := e4; rw [e6]; exact e2⟩
    | false =>
      rw [hy] at l
      exact lookup_rp h2 (e5 ▸ e3) l
section
variable {B : Bd} {W : WX} {F F' : Hp} {L' : La} {H' : Hp} {σ' : L2.St} {ρ' : En} {Dd : DEnds} {D : Ends}
theorem wA_of {und : Str → Str → Option Bool} {K : PySem.W.Frag} (hK : B.K = K) (hund : ∀ c cn b, und c cn = some b → PySem.W.exmOne K (.ref (He.ga K c)) (.ref (He.ga K cn)) = some b)
    (o : EOk B W F Dd D) (S : SR B F' L' σ' H' ρ') (sm : Same F F') {c : Str} {fs : List (Str × DL.D)} {k : Value} {dd : Option Addr} (r : ExcR B.K F' H' c fs k dd) :
    ∀ cls : List Cl, tryGo und cls c fs ρ' (fun d => Dd.rt (.val d) ρ') (Dd.ex c fs ρ') → wA K W D (clL K cls) k dd σ' H'
  | [], q => o.ex c fs ρ' k dd σ' F' L' H' q S sm r
  | (cn, oi, tag) :: rest, q => by
    have ek : k = .ref (He.ga B.K c) := r.1
    unfold tryGo at q
    cases hu : und c cn with
    | none => rw [hu] at q; exact q.elim
    | some b =>
      have hx := hund c cn b hu
      rw [hu] at q
      refine ⟨b, by rw [ek, hK]; exact hx, fun eb x hxn => ?_, fun eb => ?_⟩
      · subst eb
        have tell : ∀ (d : DL.D) (v : V), Dd.rt (.val (.tup [.str tag, d])) ρ' → Rp B.K F' d v → ([V.str tag, v].length ≤ sizeLine ∧ ∀ p, H' p = none → D.rt (.ref p) (upd H' p (.tup [.str tag, v]))) := by
          intro d v q2 rv
          refine ⟨by rw [sizeLine_eq]; exact Nat.le_of_ble_eq_true rfl, fun p hp => ?_⟩
          obtain ⟨g, s⟩ := grow_upd (o := .tup [.str tag, v]) S.sub hp
          exact o.rt _ ρ' _ _ _ L' _ q2 (S.grow g s) (sm.trans g.f) ⟨p, _, rfl, SqT.of upd_same, ⟨_, _, rfl, rfl, _, _, rfl, rv.mono g.f, rfl⟩⟩
        cases oi with
        | none => exact tell .non .non q rfl
        | some w =>
          obtain ⟨i, f⟩ := w
          obtain ⟨hi, hc, d, hl, q2⟩ := q
          subst hc
          rcases r.2 with ⟨e1, _⟩ | ⟨da, fv, e1, e2, e3, e4⟩
          · rw [e1] at hl
            cases hl
          · obtain ⟨v, hv, rv⟩ := lookup_rp e3 e4 hl
            refine ⟨.ref x, ?_, rfl, by rw [ek, hK], da, fv, v, e1, e2, hv, tell d v q2 rv⟩
            rw [S.len] at hi
            rw [List.getElem?_set_self hi]
      · subst eb
        exact wA_of hK hund o S sm r rest q
end
section
variable {X : Cx} {B : Bd} {W : WX} {pos : Pos} {bd : List Stmt} {h0 : ExceptHandler} {hs : List ExceptHandler} {t : DS}
theorem ds_try {und : Str → Str → Option Bool} {cls : List Cl} (e1 : X.stack = X.env :: X.outer) (e2 : X.env.frame = some X.env.locals) (hN : X.N.Nodup) (tk : Takes X W) (hund : ∀ c cn b, und c cn = some b → PySem.W.exmOne X.K (.ref (He.ga X.K c)) (.ref (He.ga X.K cn)) = some b)
    (hb : ∀ (W' : WX) (more : List (Addr × Obj)) (xe : Value → Shared → Prop), Takes (X.tr more xe) W' → PassesOwn (model X.prog X.w) X.A X.env xe → PSs (X.tr more xe) bd (rS B W' t))
    (hh : HdsA X (h0 :: hs) (clL X.K cls)) (hK : B.K = X.K := by rfl) : PS X (.Try bd (h0 :: hs) [] [] pos) (rS B W (mTry und cls t)) :=
  ps_imp (ps_try_manyA (tb := fun W' => rS B W' t) e1 e2 hN tk hb hh) fun D σ H ⟨F, L, ρ, Dd, S, q, o⟩ =>
    ⟨F, L, ρ, _, S, q, ⟨o.nx, o.rt, o.bk, o.ct, fun c fs ρ' k dd σ' F' L' H' e S' s' r => wA_of hK hund o S' s' r cls e⟩⟩
theorem nm_of {y : Str} {c : Value} (hm : X.mg y = some c) (hg : Gl X y := by rfl) (hd : (y == ("__debug__" : Str)) = false := by decide) : Names X y c := ⟨hg, hd, .inl hm⟩
theorem cl_nil : HdsA X [] (clL X.K []) := .nil
theorem cl_only {y tag : Str} {p1 p2 p3 p4 q1 q2 : Pos} {j1 j2 j3 : Nat} {hds : List ExceptHandler} {cls : List Cl} (hc : Names X y (.ref (He.ga X.K y))) (rest : HdsA X hds (clL X.K cls)) :
    HdsA X (.ExceptHandler (some (.Name y q1)) none [.Return (some (.Tuple [.Constant (.str tag) j1 p1, .Constant .none j2 p2] j3 p3)) p4] q2 :: hds) (clL X.K ((y, none, tag) :: cls)) :=
  .only hc (fun x ob k dd more hz hf => pss_one (ps_ret (pe_tup (pa_cons pe_str (pa_cons pe_non pa_nil))))) rest
theorem cl_named {y z f tag : Str} {i : Nat} {p1 p2 p3 p4 p5 q1 q2 : Pos} {j1 j3 : Nat} {hds : List ExceptHandler} {cls : List Cl} (hc : Names X y (.ref (He.ga X.K y))) (T : XfC X.K (He.ga X.K y)) (hno : PySem.W.findIn X.K (.ref (He.ga X.K y)) f = some none) (rest : HdsA X hds (clL X.K cls))
    (hi : X.N[i]? = some z := by rfl) (hz : X.env.kindOf z = some .local := by rfl) (hzd : (z == ("__debug__" : Str)) = false := by decide) (hzc : (z == ("__classdict__" : Str)) = false := by decide) (hv : Vis X.env.scope z := by exact Or.inl rfl) (hb : attributeBase (.Name z p5) f X.env (eval (.Name z p5) X.env) = eval (.Name z p5) X.env := by rfl) :
    HdsA X (.ExceptHandler (some (.Name y q1)) (some z) [.Return (some (.Tuple [.Constant (.str tag) j1 p1, .Attribute (.Name z p5) f p2] j3 p3)) p4] q2 :: hds) (clL X.K ((y, some (i, f), tag) :: cls)) :=
  .named hc hi hz (fun x ob k dd more hzc2 hf => pss_one (ps_ret (pe_tup (pa_cons pe_str (pa_cons (pe_xf T hno hzc2 hf (pe_var hi hv hzd hzc) hb) pa_nil))))) rest
end
/-! which class stands under which -/
def undT (tbl : List ((Str × Str) × Bool)) (c cn : Str) : Option Bool := (tbl.find? fun p => p.1 == (c, cn)).map (·.2)
def undB (tbl : List ((Str × Str) × Bool)) (K : PySem.W.Frag) : Bool := tbl.all fun p => decide (PySem.W.exmOne K (.ref (He.ga K p.1.1)) (.ref (He.ga K p.1.2)) = some p.2)
theorem undB_ok {tbl : List ((Str × Str) × Bool)} {K : PySem.W.Frag} (h : undB tbl K = true) : ∀ c cn b, undT tbl c cn = some b → PySem.W.exmOne K (.ref (He.ga K c)) (.ref (He.ga K cn)) = some b := by
  intro c cn b e
  unfold undT at e
  obtain ⟨p, hp, rfl⟩ := Option.map_eq_some_iff.mp e
  have hm := List.mem_of_find?_eq_some hp
  have he := List.find?_some hp
  have h2 := List.all_eq_true.mp h p hm
  have e2 : p.1 = (c, cn) := eq_of_beq he
  have h3 := of_decide_eq_true h2
  rw [e2] at h3
  exact h3
end DL
/-! The data layer: membership. -/
namespace DL
open PySem PySem.Spec PyProof.Rows L2
/-- flat data as a value -/
def flatD : D → Option V
  | .non => some .non
  | .bl b => some (.bl b)
  | .int i => some (.int i)
  | .str x => some (.str x)
  | _ => none
def flatsD : List D → Option (List V)
  | [] => some []
  | d :: ds => match flatD d, flatsD ds with
    | some v, some vs => some (v :: vs)
    | _, _ => none
theorem flatD_ok {K : PySem.W.Frag} {F : Hp} : ∀ {d : D} {u v : V}, Rp K F d u → flatD d = some v → u = v ∧ flatV v = true
  | .non, _, _, h, e => by cases (show _ = V.non from h); cases e; exact ⟨rfl, rfl⟩
  | .bl _, _, _, h, e => by cases (show _ = V.bl _ from h); cases e; exact ⟨rfl, rfl⟩
  | .int _, _, _, h, e => by cases (show _ = V.int _ from h); cases e; exact ⟨rfl, rfl⟩
  | .str _, _, _, h, e => by cases (show _ = V.str _ from h); cases e; exact ⟨rfl, rfl⟩
  | .tup _, _, _, _, e => by cases e
  | .lst _, _, _, _, e => by cases e
  | .fix _, _, _, _, e => by cases e
  | .dic _ _, _, _, _, e => by cases e
  | .ty _, _, _, _, e => by cases e
theorem flatV_ok {K : PySem.W.Frag} {F H : Hp} : ∀ {d : D} {u v : V}, RpV K F H d u → flatD d = some v → u = v ∧ flatV v = true
  | .non, _, _, h, e => flatD_ok (F := F) (K := K) (d := .non) h e
  | .bl _, _, _, h, e => flatD_ok (F := F) (K := K) (d := .bl _) h e
  | .int _, _, _, h, e => flatD_ok (F := F) (K := K) (d := .int _) h e
  | .str _, _, _, h, e => flatD_ok (F := F) (K := K) (d := .str _) h e
  | .tup _, _, _, _, e => by cases e
  | .lst _, _, _, _, e => by cases e
  | .fix _, _, _, _, e => by cases e
  | .dic _ _, _, _, _, e => by cases e
  | .ty _, _, _, _, e => by cases e
theorem flatsD_ok {K : PySem.W.Frag} {F : Hp} : ∀ {ds : List D} {us vs : List V}, RpL K F ds us → flatsD ds = some vs → us = vs ∧ vs.all flatV = true
  | [], us, vs, h, e => by
    cases (show us = [] from h)
    cases e
    exact ⟨rfl, rfl⟩
  | d :: ds, us, vs, ⟨u, r, eu, h1, h2⟩, e => by
    subst eu
    have e' : (match flatD d, flatsD ds with | some v, some vs => some (v :: vs) | _, _ => none) = some vs := e
    split at e'
    · rename_i v ws e1 e2
      cases e'
      obtain ⟨rfl, q1⟩ := flatD_ok h1 e1
      obtain ⟨rfl, q2⟩ := flatsD_ok h2 e2
      exact ⟨rfl, by rw [List.all_cons, q1, q2]; rfl⟩
    · cases e'
/-- x in y: y a tuple of flat data; a list of whatever may be compared -/
def fInN (neg : Bool) : DOp2
  | x, .tup ds => match flatD x, flatsD ds with
    | some v, some vs => some (.val (.bl (if neg then !inV v vs else inV v vs)))
    | _, _ => none
  | x, .lst ds => if eqOk x = true ∧ eqOk (.lst ds) = true then some (.val (.bl (if neg then !((toPyL ds).any fun z => PyData.eqv z (toPy x)) else ((toPyL ds).any fun z => PyData.eqv z (toPy x))))) else none
  | _, _ => none
abbrev fIn : DOp2 := fInN false
abbrev fNin : DOp2 := fInN true
def rInA (K : PySem.W.Frag) : R2 := fun x y H Q => rIn K false x y H Q ∨ rInD K x y H Q
def rNinA (K : PySem.W.Frag) : R2 := fun x y H Q => rIn K true x y H Q ∨ rNotInD K x y H Q
theorem units65 {k : Nat} {A : Around} (r : Room k A) : A.units + 65 < cLine := by
  have := r.un
  omega
theorem op_inA {X : Cx} (hu : X.A.units + 65 < cLine) : OpR X (compareOp .In) (rInA X.K) := OpR.or op_in_seq (op_inD hu)
theorem op_ninA {X : Cx} (hu : X.A.units + 65 < cLine) : OpR X (compareOp .NotIn) (rNinA X.K) := OpR.or op_notIn_seq (op_notInD hu)
theorem inN_tup {K : PySem.W.Frag} {F H : Hp} {x : D} {ds : List D} {v1 v2 : V} {neg : Bool} {c : Cell} {Q : VK} (sb : Same F H) (h1 : RpV K F H x v1) (h2 : RpV K F H (.tup ds) v2) (e : fInN neg x (.tup ds) = some c)
    (q : ∀ v F' H', Grow F H F' H' → Same F' H' → NewR K H c v F' H' → Q v H') : rIn K neg v1 v2 H Q := by
  have e' : (match flatD x, flatsD ds with | some v, some vs => some (Cell.val (.bl (if neg then !inV v vs else inV v vs))) | _, _ => none) = some c := by cases x <;> exact e
  split at e'
  · rename_i v vs a1 a2
    cases e'
    obtain ⟨a, us, rfl, q1, r1⟩ := RpV.tup_ sb h2
    obtain ⟨rfl, f1⟩ := flatV_ok h1 a1
    obtain ⟨rfl, f2⟩ := flatsD_ok r1 a2
    exact ⟨a, _, rfl, .inr q1, f1, f2, fin_val sb q rfl⟩
  · cases e'
theorem fIn_ok {K : PySem.W.Frag} : Op2 K (rInA K) fIn := by
  intro F H d1 d2 v1 v2 c Q sb h1 h2 e q
  cases d2 <;> first | (cases d1 <;> cases e; done) | skip
  · exact .inl (inN_tup sb h1 h2 e q)
  · rename_i ds
    have e' : (if eqOk d1 = true ∧ eqOk (.lst ds) = true then some (Cell.val (.bl ((toPyL ds).any fun z => PyData.eqv z (toPy d1)))) else none) = some c := by cases d1 <;> exact e
    split at e'
    · rename_i hc
      cases e'
      exact .inr ⟨toPy d1, toPyL ds, RpV.dp sb (shaped_ hc.1) h1, RpV.dp (d := .lst ds) sb (shaped_ hc.2) h2, hc.1, hc.2, fin_val sb q rfl⟩
    · cases e'
theorem fNin_ok {K : PySem.W.Frag} : Op2 K (rNinA K) fNin := by
  intro F H d1 d2 v1 v2 c Q sb h1 h2 e q
  cases d2 <;> first | (cases d1 <;> cases e; done) | skip
  · exact .inl (inN_tup sb h1 h2 e q)
  · rename_i ds
    have e' : (if eqOk d1 = true ∧ eqOk (.lst ds) = true then some (Cell.val (.bl (!((toPyL ds).any fun z => PyData.eqv z (toPy d1))))) else none) = some c := by cases d1 <;> exact e
    split at e'
    · rename_i hc
      cases e'
      exact .inr ⟨toPy d1, toPyL ds, RpV.dp sb (shaped_ hc.1) h1, RpV.dp (d := .lst ds) sb (shaped_ hc.2) h2, hc.1, hc.2, fin_val sb q rfl⟩
    · cases e'
end DL
/-! law k03: mirrors of its defs, their derivations (printed by a program of mine). -/
namespace Lk03
open PySem PySem.Spec PyProof.Rows L2 DL
abbrev top (i : Nat) : Stmt := PySem.Challenge.pw_packtags_k03_whole_products_and_inverses.main.body.getD i (.Pass ⟨0, 0, 0, 0⟩)
/-! ### mirrors -/
@[irreducible] def m_law_pool_1 : DS := mAsg (.nm 3) (vl (frz (mOp2 fMod (.e (frz (mOpN fInt [.e (frz (mOp2 fAdd (.e (frz (mOp2 fAdd (.e (frz (mOp2 fMul (.e (mVar 3)) (.e (mK (.int 45227)))))) (.e (frz (mOp2 fMod (.e (frz (mOpN fInt [.e (mVar 4)]))) (.e (mK (.int 2147483587))))))))) (.e (mK (.int 57)))))]))) (.e (mK (.int 2147483647))))))
@[irreducible] def m_law_pool_2 : DS := mRet (mLst [frz (mIf (mOrT (asT (mOp2 fLt (.e (mVar 2)) (.e (mK (.int 0))))) (asT (mOp2 fGe (.e (mVar 2)) (.e (frz (mOp2 fPow (.e (mK (.int 10))) (.e (mK (.int 15))))))))) (mOpN fAbs [.e (mVar 2)]) (vl (mK (.int 0)))), mVar 3, mK (.int 0)])
@[irreducible] def m_law_pool_3 : DS := mSeq (mAsg (.nm 3) (vl (frz (mOp2 fMod (.e (frz (mOpN fInt [.e (frz (mOp2 fAdd (.e (frz (mOp2 fAdd (.e (frz (mOp2 fMul (.e (mVar 3)) (.e (mK (.int 71)))))) (.e (frz (mOp2 fMul (.e (frz (mOp2 fMod (.e (frz (mOpN fInt [.e (mVar 2)]))) (.e (mK (.int 2147483587)))))) (.e (mK (.int 28107))))))))) (.e (mK (.int 11)))))]))) (.e (mK (.int 2147483647))))))) (m_law_pool_2)
@[irreducible] def m_law_pool_4 : DS := mSeq (mFor (iSq (frz (mSl (.e (mVar 0)) none (some (mK (.int 12)))))) (.nm 4) (m_law_pool_1)) (m_law_pool_3)
@[irreducible] def m_law_pool_5 : DS := mSeq (mAsg (.nm 3) (vl (frz (mOp2 fAdd (.e (mK (.int 70569))) (.e (frz (mOp2 fMul (.e (mK (.int 9351))) (.e (mVar 1))))))))) (m_law_pool_4)
def m_law_pool : DS := mSeq (mAsg (.nm 2) (vl (frz (mIf (asT (mOp2 fLt (.e (mVar 1)) (.e (frz (mOpN fLen [.e (mVar 0)]))))) (mOpN fInt [.e (frz (mOp2 fIx (.e (mVar 0)) (.e (mVar 1))))]) (mOp2 fAdd (.e (frz (mOp2 fMul (.e (mK (.int 5869))) (.e (mVar 1))))) (.e (mK (.int 687)))))))) (m_law_pool_5)
@[irreducible] def w_law_pool : DSp := wDef 3 m_law_pool
def m_law_below_iv_1 : DS := mRet (mOp2 fMod (.e (frz (mOpN fInt [.e (frz (mOp2 fDiv (.e (frz (mOp2 fIx (.s 0) (.e (mK (.int 1)))))) (.e (mK (.int 359)))))]))) (.e (mVar 1)))
def m_law_below_iv_2 : DS := mSeq (mAsg (.sub 0 (mK (.int 1))) (vl (frz (mOp2 fMod (.e (frz (mOpN fInt [.e (frz (mOp2 fAdd (.e (frz (mOp2 fMul (.e (mVar 3)) (.e (frz (mOp2 fAdd (.e (frz (mOp2 fMod (.e (frz (mOpN fInt [.e (mVar 3)]))) (.e (mK (.int 3989)))))) (.e (mK (.int 14369))))))))) (.e (frz (mOp2 fIx (.s 0) (.e (mK (.int 2))))))))]))) (.e (mK (.int 2147483563))))))) (m_law_below_iv_1)
def m_law_below_iv_3 : DS := mSeq (mAsg (.nm 3) (vl (frz (mOp2 fMod (.e (frz (mOpN fInt [.e (frz (mOp2 fAdd (.e (frz (mOp2 fAdd (.e (frz (mOp2 fMul (.e (frz (mOp2 fIx (.s 0) (.e (mK (.int 1)))))) (.e (mK (.int 33301)))))) (.e (frz (mOp2 fMul (.e (mK (.int 4283))) (.e (frz (mOp2 fIx (.s 0) (.e (mK (.int 2)))))))))))) (.e (mK (.int 71)))))]))) (.e (mK (.int 2147483563))))))) (m_law_below_iv_2)
def m_law_below_iv_4 : DS := mSeq (mAsg (.sub 0 (mK (.int 2))) (vl (frz (mOp2 fAdd (.e (frz (mOp2 fIx (.s 0) (.e (mK (.int 2)))))) (.e (mK (.int 1))))))) (m_law_below_iv_3)
def m_law_below_iv : DS := mSeq (mIfS (asT (mOp2 fGt (.e (frz (mOp2 fIx (.s 0) (.e (mK (.int 0)))))) (.e (mK (.int 0))))) (mSeq (mAsg (.tp [.sub 0 (mK (.int 0)), .nm 2]) (vl (frz (mOpN fDivmod [.e (frz (mOp2 fIx (.s 0) (.e (mK (.int 0))))), .e (mVar 1)])))) (mRet (vl (mVar 2)))) (mNext)) (m_law_below_iv_4)
@[irreducible] def w_law_below_iv : DSp := wDef 2 m_law_below_iv
def m_law_one_iv : DS := mRet (mOp2 fIx (.e (mVar 1)) (.e (frz (mCall [.s 0, .e (frz (mOpN fLen [.e (mVar 1)]))] w_law_below_iv))))
@[irreducible] def w_law_one_iv : DSp := wDef 0 m_law_one_iv
def m_law_one_ii : DS := mRet (mOp2 fIx (.s 1) (.e (frz (mCall [.s 0, .e (frz (mOpN fLen [.s 1]))] w_law_below_iv))))
@[irreducible] def w_law_one_ii : DSp := wDef 0 m_law_one_ii
@[irreducible] def m_law_grid_iv_1 : DS := mSeq (mIfS (mAndT (asT (mOp2 fNe (.s 3) (.e (frz (mLst []))))) (asT (mOp2 fEq (.e (frz (mCall [.s 0, .e (mK (.int 7))] w_law_below_iv))) (.e (mK (.int 0)))))) (mAsg (.nm 5) (vl (frz (mOpN fTuple [.e (frz (mLc (iZp2 (frz (mCall [.s 0, .s 3] w_law_one_ii)) (frz (mCall [.s 0, .s 3] w_law_one_ii))) (.tp [.nm 7, .nm 8]) (mYes) (frz (mOp2 fAdd (.e (mVar 7)) (.e (mVar 8)))) [7, 8]))])))) (mNext)) (mApp 3 (mVar 5))
@[irreducible] def m_law_grid_iv_2 : DS := mSeq (mAsg (.nm 5) (vl (frz (mOpN fTuple [.e (frz (mLc (iRg1 (mVar 1)) (.nm 6) (mYes) (frz (mCall [.s 0, .e (mTup [mK (.int 0), frz (mOp2 fSub (.e (frz (mCall [.s 0, .e (frz (mOp2 fAdd (.e (frz (mOp2 fMul (.e (mK (.int 2))) (.e (mVar 2))))) (.e (mK (.int 1)))))] w_law_below_iv))) (.e (mVar 2)))])] w_law_one_iv)) [6]))])))) (m_law_grid_iv_1)
@[irreducible] def m_law_grid_iv_3 : DS := mSeq (mFor (iRg1 (mVar 1)) (.nm 4) (m_law_grid_iv_2)) (mRet (mOpN fTuple [.e (mStill 3)]))
def m_law_grid_iv : DS := mSeq (mPar [.nm 2, .nm 3] [vl (frz (mCall [.s 0, .e (mTup [mK (.int 1), mK (.int 2), mK (.int 9), frz (mOp2 fPow (.e (mK (.int 10))) (.e (mK (.int 20))))])] w_law_one_iv)), mLst []]) (m_law_grid_iv_3)
@[irreducible] def w_law_grid_iv : DSp := wDef 7 m_law_grid_iv
def m_is_whole : DS := mRet (mAndV (.e (frz (mOpN fIsi [.e (mVar 0), .e (mK (.ty "int"))]))) (vl (mNotV (.e (frz (mOpN fIsi [.e (mVar 0), .e (mK (.ty "bool"))]))))))
@[irreducible] def w_is_whole : DSp := wDef 0 m_is_whole
def m_is_tuple_of : DS := mRet (mAndV (.e (frz (mOpN fIsi [.e (mVar 0), .e (mK (.ty "tuple"))]))) (mOp2 fEq (.e (frz (mOpN fLen [.e (mVar 0)]))) (.e (mVar 1))))
@[irreducible] def w_is_tuple_of : DSp := wDef 0 m_is_tuple_of
def m_are_wholes : DS := mRet (mAndV (.e (frz (mCall [.e (mVar 0), .e (mVar 1)] w_is_tuple_of))) (mOpN fAll [.e (frz (mLc (iSq (mVar 0)) (.nm 2) (mYes) (frz (mCall [.e (mVar 2)] w_is_whole)) [2]))]))
@[irreducible] def w_are_wholes : DSp := wDef 1 m_are_wholes
def m_wrong_in_grid_1 : DS := mRet (mSl (.e (frz (mLc (iEn (mVar 0)) (.tp [.nm 1, .nm 2]) (mNot (mTru (.e (frz (mCall [.e (mVar 2), .e (frz (mOpN fLen [.e (mVar 0)]))] w_are_wholes))))) (mVar 1) [1, 2]))) none (some (mK (.int 1))))
def m_wrong_in_grid : DS := mSeq (mIfS (mOrT (mNot (mTru (.e (frz (mOpN fIsi [.e (mVar 0), .e (mK (.ty "tuple"))]))))) (mNot (asT (mChain fLe fLe (.e (mK (.int 1))) (.e (frz (mOpN fLen [.e (mVar 0)]))) (.e (mK (.int 6))))))) (mRet (mLst [mK .non])) (mNext)) (m_wrong_in_grid_1)
@[irreducible] def w_wrong_in_grid : DSp := wDef 2 m_wrong_in_grid
def m_check_grid : DS := mFor (iSq (frz (mCall [.e (mVar 0)] w_wrong_in_grid))) (.nm 1) (mRaise "InvalidGrid" "index" (mVar 1))
@[irreducible] def w_check_grid : DSp := wDef 1 m_check_grid
def m_check_other_size : DS := mIfS (mOrT (mNot (mTru (.e (frz (mOpN fIsi [.e (mVar 1), .e (mK (.ty "tuple"))]))))) (asT (mOp2 fNe (.e (frz (mOpN fLen [.e (mVar 1)]))) (.e (frz (mOpN fLen [.e (mVar 0)])))))) (mRaise "InvalidGrid" "index" (mK .non)) (mNext)
@[irreducible] def w_check_other_size : DSp := wDef 0 m_check_other_size
def m_check_like_grid_1 : DS := mDrop (mCall [.e (mVar 1)] w_check_grid)
def m_check_like_grid : DS := mSeq (mDrop (mCall [.e (mVar 0), .e (mVar 1)] w_check_other_size)) (m_check_like_grid_1)
@[irreducible] def w_check_like_grid : DSp := wDef 0 m_check_like_grid
def m_led_by : DS := mRet (mOpN fTuple [.e (frz (mLc (iRg1 (frz (mOpN fLen [.e (frz (mOp2 fIx (.e (mVar 1)) (.e (mK (.int 0)))))]))) (.nm 2) (mYes) (frz (mOpN fSum [.e (frz (mLc (iZp2 (mVar 0) (mVar 1)) (.tp [.nm 3, .nm 4]) (mYes) (frz (mOp2 fMul (.e (mVar 3)) (.e (frz (mOp2 fIx (.e (mVar 4)) (.e (mVar 2))))))) [3, 4]))])) [2]))])
@[irreducible] def w_led_by : DSp := wDef 3 m_led_by
def m_times_by : DS := mRet (mOpN fTuple [.e (frz (mLc (iSq (mVar 0)) (.nm 2) (mYes) (frz (mCall [.e (mVar 2), .e (mVar 1)] w_led_by)) [2]))])
@[irreducible] def w_times_by : DSp := wDef 1 m_times_by
def m_times_1 : DS := mRet (mCall [.e (mVar 0), .e (mVar 1)] w_times_by)
def m_times_2 : DS := mSeq (mDrop (mCall [.e (mVar 0), .e (mVar 1)] w_check_like_grid)) (m_times_1)
def m_times : DS := mSeq (mDrop (mCall [.e (mVar 0)] w_check_grid)) (m_times_2)
@[irreducible] def w_times : DSp := wDef 0 m_times
def m_law_same_1 (w : DSp) : DS := mRet (mOpN fAll [.e (frz (mLc (iZp2 (mVar 0) (mVar 1)) (.tp [.nm 2, .nm 3]) (mYes) (frz (mCall [.e (mVar 2), .e (mVar 3)] (w))) [2, 3]))])
def m_law_same_2 (w : DSp) : DS := mSeq (mIfS (mOrT (mNot (mTru (.e (frz (mOpN fIsi [.e (mVar 0), .e (mK (.ty "tuple"))]))))) (asT (mOp2 fNe (.e (frz (mOpN fLen [.e (mVar 0)]))) (.e (frz (mOpN fLen [.e (mVar 1)])))))) (mRet (vl (mK (.bl false)))) (mNext)) (m_law_same_1 w)
def m_law_same_3 (w : DSp) : DS := mSeq (mIfS (mTru (.e (frz (mOpN fIsi [.e (mVar 1), .e (mK (.ty "str"))])))) (mRet (mAndV (.e (frz (mOpN fIsi [.e (mVar 0), .e (mK (.ty "str"))]))) (mOp2 fEq (.e (mVar 0)) (.e (mVar 1))))) (mNext)) (m_law_same_2 w)
def m_law_same_4 (w : DSp) : DS := mSeq (mIfS (mTru (.e (frz (mOpN fIsi [.e (mVar 1), .e (mK (.ty "int"))])))) (mRet (mAndV (.e (frz (mOpN fIsi [.e (mVar 0), .e (mK (.ty "int"))]))) (mAndV (.e (mNotV (.e (frz (mOpN fIsi [.e (mVar 0), .e (mK (.ty "bool"))]))))) (mOp2 fEq (.e (mVar 0)) (.e (mVar 1)))))) (mNext)) (m_law_same_3 w)
def m_law_same_5 (w : DSp) : DS := mSeq (mIfS (mTru (.e (frz (mOpN fIsi [.e (mVar 1), .e (mK (.ty "bool"))])))) (mRet (mAndV (.e (frz (mOpN fIsi [.e (mVar 0), .e (mK (.ty "bool"))]))) (mOp2 fEq (.e (mVar 0)) (.e (mVar 1))))) (mNext)) (m_law_same_4 w)
def m_law_same (w : DSp) : DS := mSeq (mIfS (asT (mOp2 fIsN (.e (mVar 1)) (.e (mK .non)))) (mRet (mOp2 fIsN (.e (mVar 0)) (.e (mK .non)))) (mNext)) (m_law_same_5 w)
def w_law_same : Nat → DSp
  | 0 => fun _ _ _ => False
  | r + 1 => wDef 2 (m_law_same (w_law_same r))
@[irreducible] def v_law_same : DSp := w_law_same 8
def m_law_product : DS := mRet (mOpN fTuple [.e (frz (mLc (iSq (mVar 0)) (.nm 2) (mYes) (frz (mOpN fTuple [.e (frz (mLc (iRg1 (frz (mOpN fLen [.e (mVar 0)]))) (.nm 3) (mYes) (frz (mOpN fSum [.e (frz (mLc (iRg1 (frz (mOpN fLen [.e (mVar 0)]))) (.nm 4) (mYes) (frz (mOp2 fMul (.e (frz (mOp2 fIx (.e (mVar 2)) (.e (mVar 4))))) (.e (frz (mOp2 fIx (.e (frz (mOp2 fIx (.e (mVar 1)) (.e (mVar 4))))) (.e (mVar 3))))))) [4]))])) [3]))])) [2]))])
@[irreducible] def w_law_product : DSp := wDef 3 m_law_product
def m_line_with : DS := mRet (mSl (.e (frz (mLc (iRg2 (mVar 1) (frz (mOpN fLen [.e (mVar 0)]))) (.nm 2) (asT (mOp2 fNe (.e (frz (mOp2 fIx (.e (frz (mOp2 fIx (.e (mVar 0)) (.e (mVar 2))))) (.e (mVar 1))))) (.e (mK (.int 0))))) (mVar 2) [2]))) none (some (mK (.int 1))))
@[irreducible] def w_line_with : DSp := wDef 1 m_line_with
@[irreducible] def m_swapped_1 : DS := mSeq (mPar [.sub 3 (mVar 1), .sub 3 (mVar 2)] [vl (frz (mOp2 fIx (.e (mVar 0)) (.e (mVar 2)))), vl (frz (mOp2 fIx (.e (mVar 0)) (.e (mVar 1))))]) (mRet (mMove 3))
def m_swapped : DS := mSeq (mAsg (.nm 3) (mOpN fList [.e (mVar 0)])) (m_swapped_1)
@[irreducible] def w_swapped : DSp := wDef 1 m_swapped
@[irreducible] def m_cleared_1 : DS := mApp 4 (frz (mLc (iRg1 (frz (mOpN fLen [.e (mVar 5)]))) (.nm 6) (mYes) (frz (mOp2 fDiv (.e (frz (mOp2 fSub (.e (frz (mOp2 fMul (.e (frz (mOp2 fIx (.e (mVar 3)) (.e (mVar 1))))) (.e (frz (mOp2 fIx (.e (mVar 5)) (.e (mVar 6)))))))) (.e (frz (mOp2 fMul (.e (frz (mOp2 fIx (.e (mVar 5)) (.e (mVar 1))))) (.e (frz (mOp2 fIx (.e (mVar 3)) (.e (mVar 6))))))))))) (.e (mVar 2)))) [6]))
@[irreducible] def m_cleared_2 : DS := mSeq (mFor (iSq (frz (mSl (.e (mVar 0)) (some (frz (mOp2 fAdd (.e (mVar 1)) (.e (mK (.int 1)))))) none))) (.nm 5) (m_cleared_1)) (mRet (mMove 4))
def m_cleared : DS := mSeq (mPar [.nm 3, .nm 4] [vl (frz (mOp2 fIx (.e (mVar 0)) (.e (mVar 1)))), mSl (.e (mVar 0)) none (some (frz (mOp2 fAdd (.e (mVar 1)) (.e (mK (.int 1))))))]) (m_cleared_2)
@[irreducible] def w_cleared : DSp := wDef 4 m_cleared
@[irreducible] def m_determinant_by_1 : DS := mAsg (.nm 3) (vl (frz (mOp2 fIx (.e (frz (mOp2 fIx (.e (mVar 1)) (.e (mVar 4))))) (.e (mVar 4)))))
@[irreducible] def m_determinant_by_2 : DS := mSeq (mAsg (.nm 1) (vl (frz (mCall [.e (mVar 1), .e (mVar 4), .e (mVar 3)] w_cleared)))) (m_determinant_by_1)
@[irreducible] def m_determinant_by_3 : DS := mSeq (mIfS (asT (mOp2 fNe (.e (frz (mOp2 fIx (.e (mVar 5)) (.e (mK (.int 0)))))) (.e (mVar 4)))) (mPar [.nm 1, .nm 2] [vl (frz (mCall [.e (mVar 1), .e (mVar 4), .e (frz (mOp2 fIx (.e (mVar 5)) (.e (mK (.int 0)))))] w_swapped)), vl (frz (mOp1 fNeg (.e (mVar 2))))]) (mNext)) (m_determinant_by_2)
@[irreducible] def m_determinant_by_4 : DS := mSeq (mIfS (asT (mOp2 fEq (.e (mVar 5)) (.e (frz (mLst []))))) (mRet (vl (mK (.int 0)))) (mNext)) (m_determinant_by_3)
@[irreducible] def m_determinant_by_5 : DS := mSeq (mAsg (.nm 5) (vl (frz (mCall [.e (mVar 1), .e (mVar 4)] w_line_with)))) (m_determinant_by_4)
@[irreducible] def m_determinant_by_6 : DS := mRet (mOp2 fMul (.e (mVar 2)) (.e (mVar 3)))
@[irreducible] def m_determinant_by_7 : DS := mSeq (mFor (iRg1 (frz (mOpN fLen [.e (mVar 0)]))) (.nm 4) (m_determinant_by_5)) (m_determinant_by_6)
def m_determinant_by : DS := mSeq (mPar [.nm 1, .nm 2, .nm 3] [vl (frz (mLc (iSq (mVar 0)) (.nm 6) (mYes) (frz (mOpN fList [.e (mVar 6)])) [6])), vl (mK (.int 1)), vl (mK (.int 1))]) (m_determinant_by_7)
@[irreducible] def w_determinant_by : DSp := wDef 6 m_determinant_by
def m_without_1 : DS := mRet (mLc (iSq (mVar 3)) (.nm 4) (mYes) (frz (mOp2 fAdd (.e (frz (mSl (.e (mVar 4)) none (some (mVar 2))))) (.e (frz (mSl (.e (mVar 4)) (some (frz (mOp2 fAdd (.e (mVar 2)) (.e (mK (.int 1)))))) none))))) [4])
def m_without : DS := mSeq (mAsg (.nm 3) (vl (frz (mOp2 fAdd (.e (frz (mSl (.e (mVar 0)) none (some (mVar 1))))) (.e (frz (mSl (.e (mVar 0)) (some (frz (mOp2 fAdd (.e (mVar 1)) (.e (mK (.int 1)))))) none))))))) (m_without_1)
@[irreducible] def w_without : DSp := wDef 2 m_without
@[irreducible] def m_minor_sign_1 : DS := mRet (mOp2 fMul (.e (mVar 3)) (.e (frz (mCall [.e (frz (mCall [.e (mVar 0), .e (mVar 1), .e (mVar 2)] w_without))] w_determinant_by))))
def m_minor_sign : DS := mSeq (mAsg (.nm 3) (vl (frz (mIf (asT (mOp2 fEq (.e (frz (mOp2 fMod (.e (frz (mOpN fInt [.e (frz (mOp2 fAdd (.e (mVar 1)) (.e (mVar 2))))]))) (.e (mK (.int 2)))))) (.e (mK (.int 0))))) (vl (mK (.int 1))) (mOp1 fNeg (.e (mK (.int 1)))))))) (m_minor_sign_1)
@[irreducible] def w_minor_sign : DSp := wDef 1 m_minor_sign
@[irreducible] def m_fraction_1 : DS := mRet (vl (mTup [frz (mOp2 fDiv (.e (mVar 0)) (.e (mVar 3))), frz (mOp2 fDiv (.e (mVar 1)) (.e (mVar 3)))]))
@[irreducible] def m_fraction_2 : DS := mSeq (mAsg (.nm 3) (vl (frz (mOp2 fMul (.e (frz (mOpN fGcd [.e (mVar 0), .e (mVar 1)]))) (.e (mVar 2)))))) (m_fraction_1)
def m_fraction : DS := mSeq (mAsg (.nm 2) (vl (frz (mIf (asT (mOp2 fGt (.e (mVar 1)) (.e (mK (.int 0))))) (vl (mK (.int 1))) (mOp1 fNeg (.e (mK (.int 1)))))))) (m_fraction_2)
@[irreducible] def w_fraction : DSp := wDef 2 m_fraction
@[irreducible] def m_inverse_by_1 : DS := mApp 3 (frz (mOpN fTuple [.e (frz (mLc (iRg1 (mVar 2)) (.nm 5) (mYes) (frz (mCall [.e (frz (mCall [.e (mVar 0), .e (mVar 5), .e (mVar 4)] w_minor_sign)), .e (mVar 1)] w_fraction)) [5]))]))
@[irreducible] def m_inverse_by_2 : DS := mSeq (mFor (iRg1 (mVar 2)) (.nm 4) (m_inverse_by_1)) (mRet (mOpN fTuple [.e (mStill 3)]))
@[irreducible] def m_inverse_by_3 : DS := mSeq (mIfS (asT (mOp2 fEq (.e (mVar 1)) (.e (mK (.int 0))))) (mRet (vl (mK .non))) (mNext)) (mSeq (mAsg (.nm 3) (mLst [])) (m_inverse_by_2))
def m_inverse_by : DS := mSeq (mPar [.nm 1, .nm 2] [vl (frz (mCall [.e (mVar 0)] w_determinant_by)), vl (frz (mOpN fLen [.e (mVar 0)]))]) (m_inverse_by_3)
@[irreducible] def w_inverse_by : DSp := wDef 5 m_inverse_by
def m_inverse : DS := mSeq (mDrop (mCall [.e (mVar 0)] w_check_grid)) (mRet (mCall [.e (mVar 0)] w_inverse_by))
@[irreducible] def w_inverse : DSp := wDef 0 m_inverse
@[irreducible] def m_law_ratio_1 : DS := mPar [.nm 2, .nm 3] [vl (mVar 3), vl (frz (mOp2 fMod (.e (frz (mOpN fInt [.e (mVar 2)]))) (.e (mVar 3))))]
@[irreducible] def m_law_ratio_2 : DS := mRet (mIf (asT (mOp2 fGt (.e (mVar 1)) (.e (mK (.int 0))))) (vl (mTup [frz (mOp2 fDiv (.e (mVar 0)) (.e (mVar 2))), frz (mOp2 fDiv (.e (mVar 1)) (.e (mVar 2)))])) (vl (mTup [frz (mOp2 fSub (.e (mK (.int 0))) (.e (frz (mOp2 fDiv (.e (mVar 0)) (.e (mVar 2)))))), frz (mOp2 fSub (.e (mK (.int 0))) (.e (frz (mOp2 fDiv (.e (mVar 1)) (.e (mVar 2))))))])))
@[irreducible] def m_law_ratio_3 : DS := mSeq (mWhile (asT (mOp2 fGt (.e (mVar 3)) (.e (mK (.int 0))))) (m_law_ratio_1)) (m_law_ratio_2)
def m_law_ratio : DS := mSeq (mPar [.nm 2, .nm 3] [vl (frz (mOpN fAbs [.e (mVar 0)])), vl (frz (mOpN fAbs [.e (mVar 1)]))]) (m_law_ratio_3)
@[irreducible] def w_law_ratio : DSp := wDef 2 m_law_ratio
def m_law_times : DS := mRet (mCall [.e (frz (mOp2 fMul (.e (frz (mOp2 fIx (.e (mVar 0)) (.e (mK (.int 0)))))) (.e (frz (mOp2 fIx (.e (mVar 1)) (.e (mK (.int 0)))))))), .e (frz (mOp2 fMul (.e (frz (mOp2 fIx (.e (mVar 0)) (.e (mK (.int 1)))))) (.e (frz (mOp2 fIx (.e (mVar 1)) (.e (mK (.int 1))))))))] w_law_ratio)
@[irreducible] def w_law_times : DSp := wDef 0 m_law_times
def m_law_plus : DS := mRet (mCall [.e (frz (mOp2 fAdd (.e (frz (mOp2 fMul (.e (frz (mOp2 fIx (.e (mVar 0)) (.e (mK (.int 0)))))) (.e (frz (mOp2 fIx (.e (mVar 1)) (.e (mK (.int 1))))))))) (.e (frz (mOp2 fMul (.e (frz (mOp2 fIx (.e (mVar 1)) (.e (mK (.int 0)))))) (.e (frz (mOp2 fIx (.e (mVar 0)) (.e (mK (.int 1))))))))))), .e (frz (mOp2 fMul (.e (frz (mOp2 fIx (.e (mVar 0)) (.e (mK (.int 1)))))) (.e (frz (mOp2 fIx (.e (mVar 1)) (.e (mK (.int 1))))))))] w_law_ratio)
@[irreducible] def w_law_plus : DSp := wDef 0 m_law_plus
@[irreducible] def m_law_is_inverse_1 : DS := mIfS (mOrT (mNot (mTru (.e (frz (mOpN fIsi [.e (mVar 4), .e (mK (.ty "tuple"))]))))) (mOrT (asT (mOp2 fNe (.e (frz (mOpN fLen [.e (mVar 4)]))) (.e (mK (.int 2))))) (mOrT (asT (mOp2 fLt (.e (frz (mOp2 fIx (.e (mVar 4)) (.e (mK (.int 1)))))) (.e (mK (.int 1))))) (asT (mOp2 fNe (.e (frz (mCall [.e (frz (mOp2 fIx (.e (mVar 4)) (.e (mK (.int 0))))), .e (frz (mOp2 fIx (.e (mVar 4)) (.e (mK (.int 1)))))] w_law_ratio))) (.e (mVar 4))))))) (mRet (vl (mK (.bl false)))) (mNext)
@[irreducible] def m_law_is_inverse_2 : DS := mAsg (.nm 8) (vl (frz (mCall [.e (mVar 8), .e (frz (mCall [.e (mTup [frz (mOp2 fIx (.e (frz (mOp2 fIx (.e (mVar 0)) (.e (mVar 5))))) (.e (mVar 9))), mK (.int 1)]), .e (frz (mOp2 fIx (.e (frz (mOp2 fIx (.e (mVar 1)) (.e (mVar 9))))) (.e (mVar 6))))] w_law_times))] w_law_plus)))
@[irreducible] def m_law_is_inverse_3 : DS := mSeq (mAsg (.nm 7) (vl (frz (mCall [.e (mVar 7), .e (frz (mCall [.e (frz (mOp2 fIx (.e (frz (mOp2 fIx (.e (mVar 1)) (.e (mVar 5))))) (.e (mVar 9)))), .e (mTup [frz (mOp2 fIx (.e (frz (mOp2 fIx (.e (mVar 0)) (.e (mVar 9))))) (.e (mVar 6))), mK (.int 1)])] w_law_times))] w_law_plus)))) (m_law_is_inverse_2)
@[irreducible] def m_law_is_inverse_4 : DS := mIfS (mOrT (asT (mOp2 fNe (.e (mVar 7)) (.e (mTup [frz (mOpN fInt [.e (frz (mOp2 fEq (.e (mVar 5)) (.e (mVar 6))))]), mK (.int 1)])))) (asT (mOp2 fNe (.e (mVar 8)) (.e (mVar 7))))) (mRet (vl (mK (.bl false)))) (mNext)
@[irreducible] def m_law_is_inverse_5 : DS := mSeq (mFor (iRg1 (mVar 2)) (.nm 9) (m_law_is_inverse_3)) (m_law_is_inverse_4)
@[irreducible] def m_law_is_inverse_6 : DS := mSeq (mPar [.nm 7, .nm 8] [vl (mTup [mK (.int 0), mK (.int 1)]), vl (mTup [mK (.int 0), mK (.int 1)])]) (m_law_is_inverse_5)
@[irreducible] def m_law_is_inverse_7 : DS := mSeq (mFor (iRg1 (mVar 2)) (.nm 5) (mFor (iRg1 (mVar 2)) (.nm 6) (m_law_is_inverse_6))) (mRet (vl (mK (.bl true))))
@[irreducible] def m_law_is_inverse_8 : DS := mSeq (mFor (iSq (mVar 1)) (.nm 3) (mFor (iSq (mVar 3)) (.nm 4) (m_law_is_inverse_1))) (m_law_is_inverse_7)
@[irreducible] def m_law_is_inverse_9 : DS := mSeq (mIfS (mOrT (mNot (mTru (.e (frz (mOpN fIsi [.e (mVar 1), .e (mK (.ty "tuple"))]))))) (mOrT (asT (mOp2 fNe (.e (frz (mOpN fLen [.e (mVar 1)]))) (.e (mVar 2)))) (mNot (mTru (.e (frz (mOpN fAll [.e (frz (mLc (iSq (mVar 1)) (.nm 3) (mYes) (frz (mAndV (.e (frz (mOpN fIsi [.e (mVar 3), .e (mK (.ty "tuple"))]))) (mOp2 fEq (.e (frz (mOpN fLen [.e (mVar 3)]))) (.e (mVar 2))))) [3]))]))))))) (mRet (vl (mK (.bl false)))) (mNext)) (m_law_is_inverse_8)
def m_law_is_inverse : DS := mSeq (mAsg (.nm 2) (vl (frz (mOpN fLen [.e (mVar 0)])))) (m_law_is_inverse_9)
@[irreducible] def w_law_is_inverse : DSp := wDef 8 m_law_is_inverse
def m_determinant_1 : DS := mRet (mCall [.e (mVar 0)] w_determinant_by)
def m_determinant : DS := mSeq (mDrop (mCall [.e (mVar 0)] w_check_grid)) (m_determinant_1)
@[irreducible] def w_determinant : DSp := wDef 0 m_determinant
@[irreducible] def x_law_right_i_1 : DE := mTup [frz (mOp1 fNeg (.e (mK (.int 1))))]
@[irreducible] def x_law_right_i_2 : DE := mTup [x_law_right_i_1]
@[irreducible] def x_law_right_i_3 : DE := mTup [frz (mOp1 fNeg (.e (mK (.int 1)))), mK (.int 1)]
@[irreducible] def x_law_right_i_4 : DE := mTup [x_law_right_i_3]
@[irreducible] def x_law_right_i_5 : DE := mTup [x_law_right_i_4]
@[irreducible] def x_law_right_i_6 : DE := mTup [mK (.int 1), mK (.int 2)]
@[irreducible] def x_law_right_i_7 : DE := mTup [mK (.int 2), mK (.int 4)]
@[irreducible] def x_law_right_i_8 : DE := mTup [x_law_right_i_6, x_law_right_i_7]
@[irreducible] def m_law_right_i_1 : DS := mIfS (mOrT (asT (mOp2 fNe (.e (frz (mOp2 fIsN (.e (mVar 7)) (.e (mK .non))))) (.e (frz (mOp2 fEq (.e (frz (mCall [.e (mVar 3)] w_determinant))) (.e (mK (.int 0)))))))) (mAndT (asT (mOp2 fNotN (.e (mVar 7)) (.e (mK .non)))) (mNot (mTru (.e (frz (mCall [.e (mVar 3), .e (mVar 7)] w_law_is_inverse))))))) (mRet (vl (mK (.bl false)))) (mNext)
@[irreducible] def m_law_right_i_2 : DS := mSeq (mAsg (.nm 7) (vl (frz (mIf (asT (mOp2 fEq (.e (mVar 1)) (.e (mK (.int 1))))) (mCallK [.e (mVar 3)] [0] w_inverse) (mCall [.e (mVar 3)] w_inverse))))) (m_law_right_i_1)
@[irreducible] def m_law_right_i_3 : DS := mSeq (mIfS (mOrT (mNot (mTru (.e (frz (mCall [.e (mVar 6), .e (frz (mCall [.e (mVar 3), .e (mVar 4)] w_law_product))] v_law_same))))) (mNot (mTru (.e (frz (mCall [.e (frz (mCall [.e (mVar 6), .e (mVar 5)] w_times)), .e (frz (mCall [.e (mVar 3), .e (frz (mCall [.e (mVar 4), .e (mVar 5)] w_times))] w_times))] v_law_same)))))) (mRet (vl (mK (.bl false)))) (mNext)) (m_law_right_i_2)
@[irreducible] def m_law_right_i_4 : DS := mSeq (mAsg (.nm 6) (vl (frz (mIf (asT (mOp2 fEq (.e (mVar 1)) (.e (mK (.int 1))))) (mCallK [.e (mVar 4), .e (mVar 3)] [1, 0] w_times) (mCall [.e (mVar 3), .e (mVar 4)] w_times))))) (m_law_right_i_3)
@[irreducible] def m_law_right_i_5 : DS := mSeq (mPar [.nm 3, .nm 4, .nm 5] [vl (frz (mCall [.s 0, .e (mVar 2)] w_law_grid_iv)), vl (frz (mCall [.s 0, .e (mVar 2)] w_law_grid_iv)), vl (frz (mCall [.s 0, .e (mVar 2)] w_law_grid_iv))]) (m_law_right_i_4)
@[irreducible] def m_law_right_i_6 : DS := mSeq (mAsg (.nm 2) (vl (frz (mOp2 fAdd (.e (mK (.int 1))) (.e (frz (mOp2 fMod (.e (frz (mOpN fInt [.e (mVar 1)]))) (.e (mK (.int 6)))))))))) (m_law_right_i_5)
@[irreducible] def m_law_right_i_7 : DS := mRet (mAndV (.e (frz (mOp2 fIsN (.e (frz (mCall [.e (x_law_right_i_8)] w_inverse))) (.e (mK .non))))) (mCall [.e (frz (mCall [.e (x_law_right_i_2)] w_inverse)), .e (x_law_right_i_5)] v_law_same))
def m_law_right_i : DS := mSeq (mFor (iRg1 (mK (.int 18))) (.nm 1) (m_law_right_i_6)) (m_law_right_i_7)
@[irreducible] def w_law_right_i : DSp := wDef 7 m_law_right_i
def m_law : DS := mRet (mOpN fAll [.e (frz (mLc (iRg1 (frz (mOpN fMax [.e (mK (.int 1)), .e (frz (mOpN fMin [.e (frz (mOpN fLen [.e (mVar 0)])), .e (mK (.int 2))]))]))) (.nm 1) (mYes) (frz (mCall [.t (mCall [.e (mVar 0), .e (mVar 1)] w_law_pool)] w_law_right_i)) [1]))])
@[irreducible] def w_law : DSp := wDef 1 m_law
/-! ### the head -/
def d_law_pool : He.DefD := ⟨("_law_pool", none), "_law_pool", "_law_pool", defArgs (top 29), defBody (top 29), defScope (top 29), [], []⟩
def d_law_below : He.DefD := ⟨("_law_below", none), "_law_below", "_law_below", defArgs (top 30), defBody (top 30), defScope (top 30), [], []⟩
def d_law_one : He.DefD := ⟨("_law_one", none), "_law_one", "_law_one", defArgs (top 31), defBody (top 31), defScope (top 31), [], []⟩
def d_law_grid : He.DefD := ⟨("_law_grid", none), "_law_grid", "_law_grid", defArgs (top 36), defBody (top 36), defScope (top 36), [], []⟩
def d_is_whole : He.DefD := ⟨("is_whole", none), "is_whole", "is_whole", defArgs (top 5), defBody (top 5), defScope (top 5), [], []⟩
def d_is_tuple_of : He.DefD := ⟨("is_tuple_of", none), "is_tuple_of", "is_tuple_of", defArgs (top 6), defBody (top 6), defScope (top 6), [], []⟩
def d_are_wholes : He.DefD := ⟨("are_wholes", none), "are_wholes", "are_wholes", defArgs (top 7), defBody (top 7), defScope (top 7), [], []⟩
def d_wrong_in_grid : He.DefD := ⟨("wrong_in_grid", none), "wrong_in_grid", "wrong_in_grid", defArgs (top 21), defBody (top 21), defScope (top 21), [], []⟩
def d_check_grid : He.DefD := ⟨("check_grid", none), "check_grid", "check_grid", defArgs (top 22), defBody (top 22), defScope (top 22), [], []⟩
def d_check_other_size : He.DefD := ⟨("check_other_size", none), "check_other_size", "check_other_size", defArgs (top 24), defBody (top 24), defScope (top 24), [], []⟩
def d_check_like_grid : He.DefD := ⟨("check_like_grid", none), "check_like_grid", "check_like_grid", defArgs (top 23), defBody (top 23), defScope (top 23), [], []⟩
def d_led_by : He.DefD := ⟨("led_by", none), "led_by", "led_by", defArgs (top 14), defBody (top 14), defScope (top 14), [], []⟩
def d_times_by : He.DefD := ⟨("times_by", none), "times_by", "times_by", defArgs (top 15), defBody (top 15), defScope (top 15), [], []⟩
def d_times : He.DefD := ⟨("times", none), "times", "times", defArgs (top 26), defBody (top 26), defScope (top 26), [], []⟩
def d_law_same : He.DefD := ⟨("_law_same", none), "_law_same", "_law_same", defArgs (top 35), defBody (top 35), defScope (top 35), [], []⟩
def d_law_product : He.DefD := ⟨("_law_product", none), "_law_product", "_law_product", defArgs (top 37), defBody (top 37), defScope (top 37), [], []⟩
def d_line_with : He.DefD := ⟨("line_with", none), "line_with", "line_with", defArgs (top 10), defBody (top 10), defScope (top 10), [], []⟩
def d_swapped : He.DefD := ⟨("swapped", none), "swapped", "swapped", defArgs (top 11), defBody (top 11), defScope (top 11), [], []⟩
def d_cleared : He.DefD := ⟨("cleared", none), "cleared", "cleared", defArgs (top 12), defBody (top 12), defScope (top 12), [], []⟩
def d_determinant_by : He.DefD := ⟨("determinant_by", none), "determinant_by", "determinant_by", defArgs (top 13), defBody (top 13), defScope (top 13), [], []⟩
def d_without : He.DefD := ⟨("without", none), "without", "without", defArgs (top 16), defBody (top 16), defScope (top 16), [], []⟩
def d_minor_sign : He.DefD := ⟨("minor_sign", none), "minor_sign", "minor_sign", defArgs (top 17), defBody (top 17), defScope (top 17), [], []⟩
def d_fraction : He.DefD := ⟨("fraction", none), "fraction", "fraction", defArgs (top 8), defBody (top 8), defScope (top 8), [], []⟩
def d_inverse_by : He.DefD := ⟨("inverse_by", none), "inverse_by", "inverse_by", defArgs (top 18), defBody (top 18), defScope (top 18), [], []⟩
def d_inverse : He.DefD := ⟨("inverse", none), "inverse", "inverse", defArgs (top 27), defBody (top 27), defScope (top 27), [], []⟩
def d_law_ratio : He.DefD := ⟨("_law_ratio", none), "_law_ratio", "_law_ratio", defArgs (top 32), defBody (top 32), defScope (top 32), [], []⟩
def d_law_times : He.DefD := ⟨("_law_times", none), "_law_times", "_law_times", defArgs (top 34), defBody (top 34), defScope (top 34), [], []⟩
def d_law_plus : He.DefD := ⟨("_law_plus", none), "_law_plus", "_law_plus", defArgs (top 33), defBody (top 33), defScope (top 33), [], []⟩
def d_law_is_inverse : He.DefD := ⟨("_law_is_inverse", none), "_law_is_inverse", "_law_is_inverse", defArgs (top 38), defBody (top 38), defScope (top 38), [], []⟩
def d_determinant : He.DefD := ⟨("determinant", none), "determinant", "determinant", defArgs (top 25), defBody (top 25), defScope (top 25), [], []⟩
def d_law_right : He.DefD := ⟨("_law_right", none), "_law_right", "_law_right", defArgs (top 39), defBody (top 39), defScope (top 39), [], []⟩
def d_law : He.DefD := ⟨("law", none), "law", "law", defArgs (top 40), defBody (top 40), defScope (top 40), [], []⟩
def d_InvalidGrid : He.DefD := ⟨("InvalidGrid", some "__init__"), "__init__", "InvalidGrid.__init__", defArgs (inClass (top 3) 0), defBody (inClass (top 3) 0), defScope (inClass (top 3) 0), [], []⟩
def fn : List He.DefD := [d_law_pool, d_law_below, d_law_one, d_law_grid, d_is_whole, d_is_tuple_of, d_are_wholes, d_wrong_in_grid, d_check_grid, d_check_other_size, d_check_like_grid, d_led_by, d_times_by, d_times, d_law_same, d_law_product, d_line_with, d_swapped, d_cleared, d_determinant_by, d_without, d_minor_sign, d_fraction, d_inverse_by, d_inverse, d_law_ratio, d_law_times, d_law_plus, d_law_is_inverse, d_determinant, d_law_right, d_law, d_InvalidGrid]
def fa : List He.Fa := [.free "len", .free "min", .free "max", .free "range", .free "int", .free "abs", .free "divmod", .free "tuple", .free "zip", .int "MOST_ROWS" 6, .free "isinstance", .free "enumerate", .free "bool", .free "all", .glo "InvalidGrid", .free "sum", .free "str", .free "list", .glo "_law_pool", .glo "_law_below", .glo "_law_one", .glo "_law_grid", .glo "is_whole", .glo "is_tuple_of", .glo "are_wholes", .glo "wrong_in_grid", .glo "check_grid", .glo "check_other_size", .glo "check_like_grid", .glo "led_by", .glo "times_by", .glo "times", .glo "_law_same", .glo "_law_product", .glo "line_with", .glo "swapped", .glo "cleared", .glo "determinant_by", .glo "without", .glo "minor_sign", .glo "fraction", .glo "inverse_by", .glo "inverse", .glo "_law_ratio", .glo "_law_times", .glo "_law_plus", .glo "_law_is_inverse", .glo "determinant", .glo "_law_right", .glo "law"]
def exs : List (PySem.W.Frag → Bool) := [fun K => oexB K "InvalidGrid", fun K => noatB K "InvalidGrid" "index", bltB "gcd" "math.gcd"]
abbrev ZZ (K : PySem.W.Frag) (mg : Str → Option Value) (base : Heap) : Prop := Zx fa fn (exAll exs) K mg base
section
variable {P : Program} {w : World} {K : PySem.W.Frag} {mg : Str → Option Value} {base : Heap}
theorem f_len (Z : ZZ K mg base) : mg "len" = none := Z.free 0
theorem f_min (Z : ZZ K mg base) : mg "min" = none := Z.free 1
theorem f_max (Z : ZZ K mg base) : mg "max" = none := Z.free 2
theorem f_range (Z : ZZ K mg base) : mg "range" = none := Z.free 3
theorem f_int (Z : ZZ K mg base) : mg "int" = none := Z.free 4
theorem f_abs (Z : ZZ K mg base) : mg "abs" = none := Z.free 5
theorem f_divmod (Z : ZZ K mg base) : mg "divmod" = none := Z.free 6
theorem f_tuple (Z : ZZ K mg base) : mg "tuple" = none := Z.free 7
theorem f_zip (Z : ZZ K mg base) : mg "zip" = none := Z.free 8
theorem c_MOST_ROWS (Z : ZZ K mg base) : ∃ t, mg "MOST_ROWS" = some (.int 6 t) := Z.int 9
theorem f_isinstance (Z : ZZ K mg base) : mg "isinstance" = none := Z.free 10
theorem f_enumerate (Z : ZZ K mg base) : mg "enumerate" = none := Z.free 11
theorem f_bool (Z : ZZ K mg base) : mg "bool" = none := Z.free 12
theorem f_all (Z : ZZ K mg base) : mg "all" = none := Z.free 13
theorem g_InvalidGrid (Z : ZZ K mg base) : mg "InvalidGrid" = some (.ref (He.ga K "InvalidGrid")) := Z.glo 14
theorem f_sum (Z : ZZ K mg base) : mg "sum" = none := Z.free 15
theorem f_str (Z : ZZ K mg base) : mg "str" = none := Z.free 16
theorem f_list (Z : ZZ K mg base) : mg "list" = none := Z.free 17
theorem g__law_pool (Z : ZZ K mg base) : mg "_law_pool" = some (.ref (He.ga K "_law_pool")) := Z.glo 18
theorem g__law_below (Z : ZZ K mg base) : mg "_law_below" = some (.ref (He.ga K "_law_below")) := Z.glo 19
theorem g__law_one (Z : ZZ K mg base) : mg "_law_one" = some (.ref (He.ga K "_law_one")) := Z.glo 20
theorem g__law_grid (Z : ZZ K mg base) : mg "_law_grid" = some (.ref (He.ga K "_law_grid")) := Z.glo 21
theorem g_is_whole (Z : ZZ K mg base) : mg "is_whole" = some (.ref (He.ga K "is_whole")) := Z.glo 22
theorem g_is_tuple_of (Z : ZZ K mg base) : mg "is_tuple_of" = some (.ref (He.ga K "is_tuple_of")) := Z.glo 23
theorem g_are_wholes (Z : ZZ K mg base) : mg "are_wholes" = some (.ref (He.ga K "are_wholes")) := Z.glo 24
theorem g_wrong_in_grid (Z : ZZ K mg base) : mg "wrong_in_grid" = some (.ref (He.ga K "wrong_in_grid")) := Z.glo 25
theorem g_check_grid (Z : ZZ K mg base) : mg "check_grid" = some (.ref (He.ga K "check_grid")) := Z.glo 26
theorem g_check_other_size (Z : ZZ K mg base) : mg "check_other_size" = some (.ref (He.ga K "check_other_size")) := Z.glo 27
theorem g_check_like_grid (Z : ZZ K mg base) : mg "check_like_grid" = some (.ref (He.ga K "check_like_grid")) := Z.glo 28
theorem g_led_by (Z : ZZ K mg base) : mg "led_by" = some (.ref (He.ga K "led_by")) := Z.glo 29
theorem g_times_by (Z : ZZ K mg base) : mg "times_by" = some (.ref (He.ga K "times_by")) := Z.glo 30
theorem g_times (Z : ZZ K mg base) : mg "times" = some (.ref (He.ga K "times")) := Z.glo 31
theorem g__law_same (Z : ZZ K mg base) : mg "_law_same" = some (.ref (He.ga K "_law_same")) := Z.glo 32
theorem g__law_product (Z : ZZ K mg base) : mg "_law_product" = some (.ref (He.ga K "_law_product")) := Z.glo 33
theorem g_line_with (Z : ZZ K mg base) : mg "line_with" = some (.ref (He.ga K "line_with")) := Z.glo 34
theorem g_swapped (Z : ZZ K mg base) : mg "swapped" = some (.ref (He.ga K "swapped")) := Z.glo 35
theorem g_cleared (Z : ZZ K mg base) : mg "cleared" = some (.ref (He.ga K "cleared")) := Z.glo 36
theorem g_determinant_by (Z : ZZ K mg base) : mg "determinant_by" = some (.ref (He.ga K "determinant_by")) := Z.glo 37
theorem g_without (Z : ZZ K mg base) : mg "without" = some (.ref (He.ga K "without")) := Z.glo 38
theorem g_minor_sign (Z : ZZ K mg base) : mg "minor_sign" = some (.ref (He.ga K "minor_sign")) := Z.glo 39
theorem g_fraction (Z : ZZ K mg base) : mg "fraction" = some (.ref (He.ga K "fraction")) := Z.glo 40
theorem g_inverse_by (Z : ZZ K mg base) : mg "inverse_by" = some (.ref (He.ga K "inverse_by")) := Z.glo 41
theorem g_inverse (Z : ZZ K mg base) : mg "inverse" = some (.ref (He.ga K "inverse")) := Z.glo 42
theorem g__law_ratio (Z : ZZ K mg base) : mg "_law_ratio" = some (.ref (He.ga K "_law_ratio")) := Z.glo 43
theorem g__law_times (Z : ZZ K mg base) : mg "_law_times" = some (.ref (He.ga K "_law_times")) := Z.glo 44
theorem g__law_plus (Z : ZZ K mg base) : mg "_law_plus" = some (.ref (He.ga K "_law_plus")) := Z.glo 45
theorem g__law_is_inverse (Z : ZZ K mg base) : mg "_law_is_inverse" = some (.ref (He.ga K "_law_is_inverse")) := Z.glo 46
theorem g_determinant (Z : ZZ K mg base) : mg "determinant" = some (.ref (He.ga K "determinant")) := Z.glo 47
theorem g__law_right (Z : ZZ K mg base) : mg "_law_right" = some (.ref (He.ga K "_law_right")) := Z.glo 48
theorem g_law (Z : ZZ K mg base) : mg "law" = some (.ref (He.ga K "law")) := Z.glo 49
theorem o_InvalidGrid (Z : ZZ K mg base) : Oex K "InvalidGrid" "index" := oex_ok (exAll_at Z.c.2 0 rfl) (exAll_at Z.c.2 1 rfl)
theorem gcd (Z : ZZ K mg base) : mg "gcd" = some (.builtin "math.gcd") := bltB_ok Z.x Z.g (exAll_at Z.c.2 2 rfl)
theorem ini_InvalidGrid (Z : ZZ K mg base) : ∃ fd, FnOk P w K mg base (L2.CX P w) 1 (He.ma K (He.ga K "InvalidGrid") "__init__") fd ["self", "index"] (spIni (He.ga K "InvalidGrid") "index") ∧ Binds K fd ["self", "index"] [] := by
  obtain ⟨fd, F⟩ := Z.def_ 32 (d := d_InvalidGrid)
  exact ⟨fd, ini_ok F (o_InvalidGrid Z) ⟨rfl, rfl, rfl, by decide +kernel, rfl, by decide +kernel, by decide +kernel⟩ rfl rfl rfl rfl, FunD.bindsN F fun _ _ _ _ _ _ us hl => match us, hl with | [_, _], _ => rfl⟩
theorem sc_law_pool : FnScope ["script", "lap", "cell", "stirred", "each"] ["script", "lap"] (defScope (top 29)) := ⟨rfl, rfl, rfl, by decide +kernel, rfl, by decide +kernel, by decide +kernel⟩
theorem sc_law_below : FnScope ["pool", "many", "figure", "stirred"] ["pool", "many"] (defScope (top 30)) := ⟨rfl, rfl, rfl, by decide +kernel, rfl, by decide +kernel, by decide +kernel⟩
theorem sc_law_one : FnScope ["pool", "some"] ["pool", "some"] (defScope (top 31)) := ⟨rfl, rfl, rfl, by decide +kernel, rfl, by decide +kernel, by decide +kernel⟩
theorem sc_law_grid : FnScope ["pool", "many", "wide", "rows", "lap", "row", "spot", "x", "y"] ["pool", "many"] (defScope (top 36)) := ⟨rfl, rfl, rfl, by decide +kernel, rfl, by decide +kernel, by decide +kernel⟩
theorem sc_is_whole : FnScope ["value"] ["value"] (defScope (top 5)) := ⟨rfl, rfl, rfl, by decide +kernel, rfl, by decide +kernel, by decide +kernel⟩
theorem sc_is_tuple_of : FnScope ["value", "many"] ["value", "many"] (defScope (top 6)) := ⟨rfl, rfl, rfl, by decide +kernel, rfl, by decide +kernel, by decide +kernel⟩
theorem sc_are_wholes : FnScope ["value", "many", "each"] ["value", "many"] (defScope (top 7)) := ⟨rfl, rfl, rfl, by decide +kernel, rfl, by decide +kernel, by decide +kernel⟩
theorem sc_wrong_in_grid : FnScope ["value", "index", "row"] ["value"] (defScope (top 21)) := ⟨rfl, rfl, rfl, by decide +kernel, rfl, by decide +kernel, by decide +kernel⟩
theorem sc_check_grid : FnScope ["value", "index"] ["value"] (defScope (top 22)) := ⟨rfl, rfl, rfl, by decide +kernel, rfl, by decide +kernel, by decide +kernel⟩
theorem sc_check_other_size : FnScope ["rows", "value"] ["rows", "value"] (defScope (top 24)) := ⟨rfl, rfl, rfl, by decide +kernel, rfl, by decide +kernel, by decide +kernel⟩
theorem sc_check_like_grid : FnScope ["rows", "value"] ["rows", "value"] (defScope (top 23)) := ⟨rfl, rfl, rfl, by decide +kernel, rfl, by decide +kernel, by decide +kernel⟩
theorem sc_led_by : FnScope ["row", "rows", "at", "number", "other"] ["row", "rows"] (defScope (top 14)) := ⟨rfl, rfl, rfl, by decide +kernel, rfl, by decide +kernel, by decide +kernel⟩
theorem sc_times_by : FnScope ["rows", "others", "row"] ["rows", "others"] (defScope (top 15)) := ⟨rfl, rfl, rfl, by decide +kernel, rfl, by decide +kernel, by decide +kernel⟩
theorem sc_times : FnScope ["rows", "others"] ["rows", "others"] (defScope (top 26)) := ⟨rfl, rfl, rfl, by decide +kernel, rfl, by decide +kernel, by decide +kernel⟩
theorem kb_times_others_rows {f : Addr} {fd : FuncData} (F : FunD K "times" "times" (defArgs (top 26)) (defBody (top 26)) (defScope (top 26)) [] [] f fd) : BindsK fd ["rows", "others"] ["others", "rows"] [1, 0] := bindsK_of F fun _ _ _ _ _ _ ws hl => match ws, hl with | [_, _], _ => rfl
theorem sc_law_same : FnScope ["told", "due", "x", "y"] ["told", "due"] (defScope (top 35)) := ⟨rfl, rfl, rfl, by decide +kernel, rfl, by decide +kernel, by decide +kernel⟩
theorem sc_law_product : FnScope ["rows", "others", "row", "j", "k"] ["rows", "others"] (defScope (top 37)) := ⟨rfl, rfl, rfl, by decide +kernel, rfl, by decide +kernel, by decide +kernel⟩
theorem sc_line_with : FnScope ["table", "step", "line"] ["table", "step"] (defScope (top 10)) := ⟨rfl, rfl, rfl, by decide +kernel, rfl, by decide +kernel, by decide +kernel⟩
theorem sc_swapped : FnScope ["table", "one", "two", "found"] ["table", "one", "two"] (defScope (top 11)) := ⟨rfl, rfl, rfl, by decide +kernel, rfl, by decide +kernel, by decide +kernel⟩
theorem sc_cleared : FnScope ["table", "step", "under", "head", "found", "line", "at"] ["table", "step", "under"] (defScope (top 12)) := ⟨rfl, rfl, rfl, by decide +kernel, rfl, by decide +kernel, by decide +kernel⟩
theorem sc_determinant_by : FnScope ["rows", "table", "sign", "under", "step", "lines", "row"] ["rows"] (defScope (top 13)) := ⟨rfl, rfl, rfl, by decide +kernel, rfl, by decide +kernel, by decide +kernel⟩
theorem sc_without : FnScope ["rows", "line", "place", "left", "row"] ["rows", "line", "place"] (defScope (top 16)) := ⟨rfl, rfl, rfl, by decide +kernel, rfl, by decide +kernel, by decide +kernel⟩
theorem sc_minor_sign : FnScope ["rows", "line", "place", "sign"] ["rows", "line", "place"] (defScope (top 17)) := ⟨rfl, rfl, rfl, by decide +kernel, rfl, by decide +kernel, by decide +kernel⟩
theorem sc_fraction : FnScope ["number", "under", "sign", "part"] ["number", "under"] (defScope (top 8)) := ⟨rfl, rfl, rfl, by decide +kernel, rfl, by decide +kernel, by decide +kernel⟩
theorem sc_inverse_by : FnScope ["rows", "whole", "many", "found", "line", "place"] ["rows"] (defScope (top 18)) := ⟨rfl, rfl, rfl, by decide +kernel, rfl, by decide +kernel, by decide +kernel⟩
theorem sc_inverse : FnScope ["rows"] ["rows"] (defScope (top 27)) := ⟨rfl, rfl, rfl, by decide +kernel, rfl, by decide +kernel, by decide +kernel⟩
theorem kb_inverse_rows {f : Addr} {fd : FuncData} (F : FunD K "inverse" "inverse" (defArgs (top 27)) (defBody (top 27)) (defScope (top 27)) [] [] f fd) : BindsK fd ["rows"] ["rows"] [0] := bindsK_of F fun _ _ _ _ _ _ ws hl => match ws, hl with | [_], _ => rfl
theorem sc_law_ratio : FnScope ["top", "low", "one", "two"] ["top", "low"] (defScope (top 32)) := ⟨rfl, rfl, rfl, by decide +kernel, rfl, by decide +kernel, by decide +kernel⟩
theorem sc_law_times : FnScope ["one", "two"] ["one", "two"] (defScope (top 34)) := ⟨rfl, rfl, rfl, by decide +kernel, rfl, by decide +kernel, by decide +kernel⟩
theorem sc_law_plus : FnScope ["one", "two"] ["one", "two"] (defScope (top 33)) := ⟨rfl, rfl, rfl, by decide +kernel, rfl, by decide +kernel, by decide +kernel⟩
theorem sc_law_is_inverse : FnScope ["rows", "thing", "many", "row", "each", "i", "j", "one", "two", "k"] ["rows", "thing"] (defScope (top 38)) := ⟨rfl, rfl, rfl, by decide +kernel, rfl, by decide +kernel, by decide +kernel⟩
theorem sc_determinant : FnScope ["rows"] ["rows"] (defScope (top 25)) := ⟨rfl, rfl, rfl, by decide +kernel, rfl, by decide +kernel, by decide +kernel⟩
theorem sc_law_right : FnScope ["pool", "lap", "many", "rows", "others", "third", "told", "back"] ["pool"] (defScope (top 39)) := ⟨rfl, rfl, rfl, by decide +kernel, rfl, by decide +kernel, by decide +kernel⟩
theorem sc_law : FnScope ["script", "lap"] ["script"] (defScope (top 40)) := ⟨rfl, rfl, rfl, by decide +kernel, rfl, by decide +kernel, by decide +kernel⟩
theorem ok_law_pool (Z : ZZ K mg base) : ∃ fd, DefOk P w K mg base 2 "_law_pool" (top 29) fd ["script", "lap"] 2 [] w_law_pool := by
  obtain ⟨fd, F⟩ := Z.def_ 0 (d := d_law_pool)
  rw [w_law_pool]
  refine ⟨fd, F, def_ok (k := 1) 2 [] F sc_law_pool rfl fun cdv A outer s H F0 E ad hr tk => ?_, Z.glo 18, FunD.bindsN F fun _ _ _ _ _ _ us hl => match us, hl with | [_, _], _ => rfl⟩
  have nd := sc_law_pool.nd
  exact (dss_cons (ds_set 2 (dc_val (de_frz (dc_if (dt_cmp op_lt fLt_ok (dx_e (de_var 1)) (dx_e (de_frz (dc_callB call_len fLen_ok (f_len Z) (da_cons (dx_e (de_var 0)) da_nil))))) (dc_callTy call_int1 fInt_ok (f_int Z) (da_cons (dx_e (de_frz (dc_ix ix_seq fIx_ok (dx_e (de_var 0)) (dx_e (de_var 1))))) da_nil)) (dc_bin op_addD fAdd_ok (dx_e (de_frz (dc_bin op_mulD fMul_ok (dx_e de_int) (dx_e (de_var 1))))) (dx_e de_int))))) nd) (pss_eq (m_law_pool_5.eq_1) (dss_cons (ds_set 3 (dc_val (de_frz (dc_bin op_addD fAdd_ok (dx_e de_int) (dx_e (de_frz (dc_bin op_mulD fMul_ok (dx_e de_int) (dx_e (de_var 1)))))))) nd) (pss_eq (m_law_pool_4.eq_1) (dss_cons (ds_for (passes_of rfl) rfl (di_sq (de_frz (dc_slice (dx_e (de_var 0)) do_none (do_some de_int)))) (dg_nm 4 nd) (pss_eq (m_law_pool_1.eq_1) (dss_one (ds_set 3 (dc_val (de_frz (dc_bin op_modN fMod_ok (dx_e (de_frz (dc_callTy call_int1 fInt_ok (f_int Z) (da_cons (dx_e (de_frz (dc_bin op_addD fAdd_ok (dx_e (de_frz (dc_bin op_addD fAdd_ok (dx_e (de_frz (dc_bin op_mulD fMul_ok (dx_e (de_var 3)) (dx_e de_int)))) (dx_e (de_frz (dc_bin op_modN fMod_ok (dx_e (de_frz (dc_callTy call_int1 fInt_ok (f_int Z) (da_cons (dx_e (de_var 4)) da_nil)))) (dx_e de_int))))))) (dx_e de_int)))) da_nil)))) (dx_e de_int)))) nd)))) (pss_eq (m_law_pool_3.eq_1) (dss_cons (ds_set 3 (dc_val (de_frz (dc_bin op_modN fMod_ok (dx_e (de_frz (dc_callTy call_int1 fInt_ok (f_int Z) (da_cons (dx_e (de_frz (dc_bin op_addD fAdd_ok (dx_e (de_frz (dc_bin op_addD fAdd_ok (dx_e (de_frz (dc_bin op_mulD fMul_ok (dx_e (de_var 3)) (dx_e de_int)))) (dx_e (de_frz (dc_bin op_mulD fMul_ok (dx_e (de_frz (dc_bin op_modN fMod_ok (dx_e (de_frz (dc_callTy call_int1 fInt_ok (f_int Z) (da_cons (dx_e (de_var 2)) da_nil)))) (dx_e de_int)))) (dx_e de_int))))))) (dx_e de_int)))) da_nil)))) (dx_e de_int)))) nd) (pss_eq (m_law_pool_2.eq_1) (dss_one (ds_ret (dc_lst (ddc (de_frz (dc_if (dt_w (dw_or (dt_cmp op_lt fLt_ok (dx_e (de_var 2)) (dx_e de_int)) (dw_or1 (dt_cmp op_ge fGe_ok (dx_e (de_var 2)) (dx_e (de_frz (dc_bin op_pow fPow_ok (dx_e de_int) (dx_e de_int)))))))) (dc_callB call_abs fAbs_ok (f_abs Z) (da_cons (dx_e (de_var 2)) da_nil)) (dc_val de_int))) (ddc (de_var 3) (ddc de_int ddn))))))))))))))
theorem ok_law_below_iv (Z : ZZ K mg base) : ∃ fd, DefOk P w K mg base 2 "_law_below" (top 30) fd ["pool", "many"] 2 [0] w_law_below_iv := by
  obtain ⟨fd, F⟩ := Z.def_ 1 (d := d_law_below)
  rw [w_law_below_iv]
  refine ⟨fd, F, def_ok (k := 1) 2 [0] F sc_law_below rfl fun cdv A outer s H F0 E ad hr tk => ?_, Z.glo 19, FunD.bindsN F fun _ _ _ _ _ _ us hl => match us, hl with | [_, _], _ => rfl⟩
  have nd := sc_law_below.nd
  exact (dss_cons (ds_if (dt_cmp op_gt fGt_ok (dx_e (de_frz (dc_ix ix_seq fIx_ok (dx_s 0) (dx_e de_int)))) (dx_e de_int)) (dss_cons (ds_asg (dc_val (de_frz (dc_callB call_divmodW fDivmod_ok (f_divmod Z) (da_cons (dx_e (de_frz (dc_ix ix_seq fIx_ok (dx_s 0) (dx_e de_int)))) (da_cons (dx_e (de_var 1)) da_nil))))) (dg_tp rfl (dgs_cons (dg_sub 0 de_int) (dgs_cons (dg_nm 2 nd) dgs_nil)))) (dss_one (ds_ret (dc_val (de_var 2))))) dss_nil) (dss_cons (ds_asg (dc_val (de_frz (dc_bin op_addD fAdd_ok (dx_e (de_frz (dc_ix ix_seq fIx_ok (dx_s 0) (dx_e de_int)))) (dx_e de_int)))) (dg_sub 0 de_int)) (dss_cons (ds_set 3 (dc_val (de_frz (dc_bin op_modN fMod_ok (dx_e (de_frz (dc_callTy call_int1 fInt_ok (f_int Z) (da_cons (dx_e (de_frz (dc_bin op_addD fAdd_ok (dx_e (de_frz (dc_bin op_addD fAdd_ok (dx_e (de_frz (dc_bin op_mulD fMul_ok (dx_e (de_frz (dc_ix ix_seq fIx_ok (dx_s 0) (dx_e de_int)))) (dx_e de_int)))) (dx_e (de_frz (dc_bin op_mulD fMul_ok (dx_e de_int) (dx_e (de_frz (dc_ix ix_seq fIx_ok (dx_s 0) (dx_e de_int)))))))))) (dx_e de_int)))) da_nil)))) (dx_e de_int)))) nd) (dss_cons (ds_asg (dc_val (de_frz (dc_bin op_modN fMod_ok (dx_e (de_frz (dc_callTy call_int1 fInt_ok (f_int Z) (da_cons (dx_e (de_frz (dc_bin op_addD fAdd_ok (dx_e (de_frz (dc_bin op_mulD fMul_ok (dx_e (de_var 3)) (dx_e (de_frz (dc_bin op_addD fAdd_ok (dx_e (de_frz (dc_bin op_modN fMod_ok (dx_e (de_frz (dc_callTy call_int1 fInt_ok (f_int Z) (da_cons (dx_e (de_var 3)) da_nil)))) (dx_e de_int)))) (dx_e de_int))))))) (dx_e (de_frz (dc_ix ix_seq fIx_ok (dx_s 0) (dx_e de_int))))))) da_nil)))) (dx_e de_int)))) (dg_sub 0 de_int)) (dss_one (ds_ret (dc_bin op_modN fMod_ok (dx_e (de_frz (dc_callTy call_int1 fInt_ok (f_int Z) (da_cons (dx_e (de_frz (dc_bin op_fdivD fDiv_ok (dx_e (de_frz (dc_ix ix_seq fIx_ok (dx_s 0) (dx_e de_int)))) (dx_e de_int)))) da_nil)))) (dx_e (de_var 1)))))))))
theorem ok_law_one_iv (Z : ZZ K mg base) : ∃ fd, DefOk P w K mg base 3 "_law_one" (top 31) fd ["pool", "some"] 2 [0] w_law_one_iv := by
  obtain ⟨_, D_law_below_iv⟩ := ok_law_below_iv (P := P) (w := w) Z
  obtain ⟨fd, F⟩ := Z.def_ 2 (d := d_law_one)
  rw [w_law_one_iv]
  refine ⟨fd, F, def_ok (k := 2) 2 [0] F sc_law_one rfl fun cdv A outer s H F0 E ad hr tk => ?_, Z.glo 20, FunD.bindsN F fun _ _ _ _ _ _ us hl => match us, hl with | [_, _], _ => rfl⟩
  have nd := sc_law_one.nd
  exact (dss_one (ds_ret (dc_ix ix_seq fIx_ok (dx_e (de_var 1)) (dx_e (de_frz (dc_callD D_law_below_iv hr (by decide) tk (dkc (dk_s 0) (dkc (dk_e (de_frz (dc_callB call_len fLen_ok (f_len Z) (da_cons (dx_e (de_var 1)) da_nil)))) dkn))))))))
theorem ok_law_one_ii (Z : ZZ K mg base) : ∃ fd, DefOk P w K mg base 3 "_law_one" (top 31) fd ["pool", "some"] 2 [0, 1] w_law_one_ii := by
  obtain ⟨_, D_law_below_iv⟩ := ok_law_below_iv (P := P) (w := w) Z
  obtain ⟨fd, F⟩ := Z.def_ 2 (d := d_law_one)
  rw [w_law_one_ii]
  refine ⟨fd, F, def_ok (k := 2) 2 [0, 1] F sc_law_one rfl fun cdv A outer s H F0 E ad hr tk => ?_, Z.glo 20, FunD.bindsN F fun _ _ _ _ _ _ us hl => match us, hl with | [_, _], _ => rfl⟩
  have nd := sc_law_one.nd
  exact (dss_one (ds_ret (dc_ix ix_seq fIx_ok (dx_s 1) (dx_e (de_frz (dc_callD D_law_below_iv hr (by decide) tk (dkc (dk_s 0) (dkc (dk_e (de_frz (dc_callB call_len fLen_ok (f_len Z) (da_cons (dx_s 1) da_nil)))) dkn))))))))
theorem ok_law_grid_iv (Z : ZZ K mg base) : ∃ fd, DefOk P w K mg base 4 "_law_grid" (top 36) fd ["pool", "many"] 2 [0] w_law_grid_iv := by
  obtain ⟨_, D_law_one_iv⟩ := ok_law_one_iv (P := P) (w := w) Z
  obtain ⟨_, D_law_below_iv⟩ := ok_law_below_iv (P := P) (w := w) Z
  obtain ⟨_, D_law_one_ii⟩ := ok_law_one_ii (P := P) (w := w) Z
  obtain ⟨fd, F⟩ := Z.def_ 3 (d := d_law_grid)
  rw [w_law_grid_iv]
  refine ⟨fd, F, def_ok (k := 3) 2 [0] F sc_law_grid rfl fun cdv A outer s H F0 E ad hr tk => ?_, Z.glo 21, FunD.bindsN F fun _ _ _ _ _ _ us hl => match us, hl with | [_, _], _ => rfl⟩
  have nd := sc_law_grid.nd
  exact (dss_cons (ds_parT (n := 2) rfl (dcs_cons (dc_val (de_frz (dc_callD D_law_one_iv hr (by decide) tk (dkc (dk_s 0) (dkc (dk_e (de_tup (ddc de_int (ddc de_int (ddc de_int (ddc (de_frz (dc_bin op_pow fPow_ok (dx_e de_int) (dx_e de_int))) ddn)))))) dkn))))) (dcs_cons (dc_lst ddn) dcs_nil)) (dgs_cons (dg_nm 2 nd) (dgs_cons (dg_nm 3 nd) dgs_nil))) (pss_eq (m_law_grid_iv_3.eq_1) (dss_cons (ds_for (passes_of rfl) rfl (di_rg1 (f_range Z) (de_var 1)) (dg_nm 4 nd) (pss_eq (m_law_grid_iv_2.eq_1) (dss_cons (ds_set 5 (dc_val (de_frz (dc_callTy call_tuple_of fTuple_ok (f_tuple Z) (da_cons (dx_e (de_frz (dc_lc [("spot", 6)] rfl nd (di_rg1 (f_range Z) (de_var 1)) (fun _ _ _ _ _ => (dp_nm 6 nd)) (fun _ _ _ _ _ => dts_nil) (fun _ _ _ _ _ => (de_frz (dc_callD D_law_one_iv hr (by decide) takes0 (dkc (dk_s 0) (dkc (dk_e (de_tup (ddc de_int (ddc (de_frz (dc_bin op_sub fSub_ok (dx_e (de_frz (dc_callD D_law_below_iv hr (by decide) takes0 (dkc (dk_s 0) (dkc (dk_e (de_frz (dc_bin op_addD fAdd_ok (dx_e (de_frz (dc_bin op_mulD fMul_ok (dx_e de_int) (dx_e (de_var 2))))) (dx_e de_int)))) dkn))))) (dx_e (de_var 2)))) ddn)))) dkn)))))))) da_nil)))) nd) (pss_eq (m_law_grid_iv_1.eq_1) (dss_cons (ds_if (dt_w (dw_and (dt_cmp (op_neD hr.units) fNe_ok (dx_s 3) (dx_e (de_frz (dc_lst ddn)))) (dw_and1 (dt_cmp (op_eqD hr.units) fEq_ok (dx_e (de_frz (dc_callD D_law_below_iv hr (by decide) tk (dkc (dk_s 0) (dkc (dk_e de_int) dkn))))) (dx_e de_int))))) (dss_one (ds_set 5 (dc_val (de_frz (dc_callTy call_tuple_of fTuple_ok (f_tuple Z) (da_cons (dx_e (de_frz (dc_lc [("x", 7), ("y", 8)] rfl nd (di_zp2 (f_zip Z) (de_frz (dc_callD D_law_one_ii hr (by decide) tk (dkc (dk_s 0) (dkc (dk_s 3) dkn)))) (de_frz (dc_callD D_law_one_ii hr (by decide) tk (dkc (dk_s 0) (dkc (dk_s 3) dkn))))) (fun _ _ _ _ _ => (dp_tp rfl (dps_cons (dp_nm 7 nd) (dps_cons (dp_nm 8 nd) dps_nil)))) (fun _ _ _ _ _ => dts_nil) (fun _ _ _ _ _ => (de_frz (dc_bin op_addD fAdd_ok (dx_e (de_var 7)) (dx_e (de_var 8)))))))) da_nil)))) nd)) dss_nil) (dss_one (ds_appB 3 (de_var 5)))))))) (dss_one (ds_ret (dc_callTy call_tuple_of fTuple_ok (f_tuple Z) (da_cons (dx_e (de_still 3)) da_nil)))))))
theorem ok_is_whole (Z : ZZ K mg base) : ∃ fd, DefOk P w K mg base 2 "is_whole" (top 5) fd ["value"] 1 [] w_is_whole := by
  obtain ⟨fd, F⟩ := Z.def_ 4 (d := d_is_whole)
  rw [w_is_whole]
  refine ⟨fd, F, def_ok (k := 1) 1 [] F sc_is_whole rfl fun cdv A outer s H F0 E ad hr tk => ?_, Z.glo 22, FunD.bindsN F fun _ _ _ _ _ _ us hl => match us, hl with | [_], _ => rfl⟩
  have nd := sc_is_whole.nd
  exact (dss_one (ds_ret (dc_and (dx_e (de_frz (dc_callB cr_isi fIsi_ok (f_isinstance Z) (da_cons (dx_e (de_var 0)) (da_cons (dx_e (de_ty (f_int Z))) da_nil))))) (dc_one (dc_val (de_not (dx_e (de_frz (dc_callB cr_isi fIsi_ok (f_isinstance Z) (da_cons (dx_e (de_var 0)) (da_cons (dx_e (de_ty (f_bool Z))) da_nil)))))))))))
theorem ok_is_tuple_of (Z : ZZ K mg base) : ∃ fd, DefOk P w K mg base 2 "is_tuple_of" (top 6) fd ["value", "many"] 2 [] w_is_tuple_of := by
  obtain ⟨fd, F⟩ := Z.def_ 5 (d := d_is_tuple_of)
  rw [w_is_tuple_of]
  refine ⟨fd, F, def_ok (k := 1) 2 [] F sc_is_tuple_of rfl fun cdv A outer s H F0 E ad hr tk => ?_, Z.glo 23, FunD.bindsN F fun _ _ _ _ _ _ us hl => match us, hl with | [_, _], _ => rfl⟩
  have nd := sc_is_tuple_of.nd
  exact (dss_one (ds_ret (dc_and (dx_e (de_frz (dc_callB cr_isi fIsi_ok (f_isinstance Z) (da_cons (dx_e (de_var 0)) (da_cons (dx_e (de_ty (f_tuple Z))) da_nil))))) (dc_one (dc_cmp (op_eqD hr.units) fEq_ok (dx_e (de_frz (dc_callB call_len fLen_ok (f_len Z) (da_cons (dx_e (de_var 0)) da_nil)))) (dx_e (de_var 1)))))))
theorem ok_are_wholes (Z : ZZ K mg base) : ∃ fd, DefOk P w K mg base 3 "are_wholes" (top 7) fd ["value", "many"] 2 [] w_are_wholes := by
  obtain ⟨_, D_is_whole⟩ := ok_is_whole (P := P) (w := w) Z
  obtain ⟨_, D_is_tuple_of⟩ := ok_is_tuple_of (P := P) (w := w) Z
  obtain ⟨fd, F⟩ := Z.def_ 6 (d := d_are_wholes)
  rw [w_are_wholes]
  refine ⟨fd, F, def_ok (k := 2) 2 [] F sc_are_wholes rfl fun cdv A outer s H F0 E ad hr tk => ?_, Z.glo 24, FunD.bindsN F fun _ _ _ _ _ _ us hl => match us, hl with | [_, _], _ => rfl⟩
  have nd := sc_are_wholes.nd
  exact (dss_one (ds_ret (dc_and (dx_e (de_frz (dc_callD D_is_tuple_of hr (by decide) tk (dkc (dk_e (de_var 0)) (dkc (dk_e (de_var 1)) dkn))))) (dc_one (dc_callB (cr_all rfl) fAll_ok (f_all Z) (da_cons (dx_e (de_frz (dc_lc [("each", 2)] rfl nd (di_sq (de_var 0)) (fun _ _ _ _ _ => (dp_nm 2 nd)) (fun _ _ _ _ _ => dts_nil) (fun _ _ _ _ _ => (de_frz (dc_callD D_is_whole hr (by decide) takes0 (dkc (dk_e (de_var 2)) dkn))))))) da_nil))))))
theorem ok_wrong_in_grid (Z : ZZ K mg base) : ∃ fd, DefOk P w K mg base 4 "wrong_in_grid" (top 21) fd ["value"] 1 [] w_wrong_in_grid := by
  obtain ⟨_, D_are_wholes⟩ := ok_are_wholes (P := P) (w := w) Z
  obtain ⟨fd, F⟩ := Z.def_ 7 (d := d_wrong_in_grid)
  rw [w_wrong_in_grid]
  refine ⟨fd, F, def_ok (k := 3) 1 [] F sc_wrong_in_grid rfl fun cdv A outer s H F0 E ad hr tk => ?_, Z.glo 25, FunD.bindsN F fun _ _ _ _ _ _ us hl => match us, hl with | [_], _ => rfl⟩
  have nd := sc_wrong_in_grid.nd
  exact (dss_cons (ds_if (dt_w (dw_or (dt_not (dt_tru (dx_e (de_frz (dc_callB cr_isi fIsi_ok (f_isinstance Z) (da_cons (dx_e (de_var 0)) (da_cons (dx_e (de_ty (f_tuple Z))) da_nil))))))) (dw_or1 (dt_not (dt_chain op_le op_le fLe_ok fLe_ok (dx_e de_int) (dx_e (de_frz (dc_callB call_len fLen_ok (f_len Z) (da_cons (dx_e (de_var 0)) da_nil)))) (dx_e (de_int' (c_MOST_ROWS Z)))))))) (dss_one (ds_ret (dc_lst (ddc de_non ddn)))) dss_nil) (dss_one (ds_ret (dc_slice (dx_e (de_frz (dc_lc [("index", 1), ("row", 2)] rfl nd (di_en (f_enumerate Z) (de_var 0)) (fun _ _ _ _ _ => (dp_tp rfl (dps_cons (dp_nm 1 nd) (dps_cons (dp_nm 2 nd) dps_nil)))) (fun _ _ _ _ _ => (dts_one (dt_not (dt_tru (dx_e (de_frz (dc_callD D_are_wholes hr (by decide) takes0 (dkc (dk_e (de_var 2)) (dkc (dk_e (de_frz (dc_callB call_len fLen_ok (f_len Z) (da_cons (dx_e (de_var 0)) da_nil)))) dkn))))))))) (fun _ _ _ _ _ => (de_var 1))))) do_none (do_some de_int)))))
theorem ok_check_grid (Z : ZZ K mg base) : ∃ fd, DefOk P w K mg base 5 "check_grid" (top 22) fd ["value"] 1 [] w_check_grid := by
  obtain ⟨_, D_wrong_in_grid⟩ := ok_wrong_in_grid (P := P) (w := w) Z
  obtain ⟨_, F_InvalidGrid, b_InvalidGrid⟩ := ini_InvalidGrid (P := P) (w := w) Z
  obtain ⟨fd, F⟩ := Z.def_ 8 (d := d_check_grid)
  rw [w_check_grid]
  refine ⟨fd, F, def_ok (k := 4) 1 [] F sc_check_grid rfl fun cdv A outer s H F0 E ad hr tk => ?_, Z.glo 26, FunD.bindsN F fun _ _ _ _ _ _ us hl => match us, hl with | [_], _ => rfl⟩
  have nd := sc_check_grid.nd
  exact (dss_one (ds_for (passes_of rfl) rfl (di_sq (de_frz (dc_callD D_wrong_in_grid hr (by decide) tk (dkc (dk_e (de_var 0)) dkn)))) (dg_nm 1 nd) (dss_one (ds_raise rfl tk (o_InvalidGrid Z) F_InvalidGrid b_InvalidGrid (hr.mono (by decide)) (g_InvalidGrid Z) (de_var 1)))))
theorem ok_check_other_size (Z : ZZ K mg base) : ∃ fd, DefOk P w K mg base 3 "check_other_size" (top 24) fd ["rows", "value"] 2 [] w_check_other_size := by
  obtain ⟨_, F_InvalidGrid, b_InvalidGrid⟩ := ini_InvalidGrid (P := P) (w := w) Z
  obtain ⟨fd, F⟩ := Z.def_ 9 (d := d_check_other_size)
  rw [w_check_other_size]
  refine ⟨fd, F, def_ok (k := 2) 2 [] F sc_check_other_size rfl fun cdv A outer s H F0 E ad hr tk => ?_, Z.glo 27, FunD.bindsN F fun _ _ _ _ _ _ us hl => match us, hl with | [_, _], _ => rfl⟩
  have nd := sc_check_other_size.nd
  exact (dss_one (ds_if (dt_w (dw_or (dt_not (dt_tru (dx_e (de_frz (dc_callB cr_isi fIsi_ok (f_isinstance Z) (da_cons (dx_e (de_var 1)) (da_cons (dx_e (de_ty (f_tuple Z))) da_nil))))))) (dw_or1 (dt_cmp (op_neD hr.units) fNe_ok (dx_e (de_frz (dc_callB call_len fLen_ok (f_len Z) (da_cons (dx_e (de_var 1)) da_nil)))) (dx_e (de_frz (dc_callB call_len fLen_ok (f_len Z) (da_cons (dx_e (de_var 0)) da_nil)))))))) (dss_one (ds_raise rfl tk (o_InvalidGrid Z) F_InvalidGrid b_InvalidGrid (hr.mono (by decide)) (g_InvalidGrid Z) de_non)) dss_nil))
theorem ok_check_like_grid (Z : ZZ K mg base) : ∃ fd, DefOk P w K mg base 6 "check_like_grid" (top 23) fd ["rows", "value"] 2 [] w_check_like_grid := by
  obtain ⟨_, D_check_other_size⟩ := ok_check_other_size (P := P) (w := w) Z
  obtain ⟨_, D_check_grid⟩ := ok_check_grid (P := P) (w := w) Z
  obtain ⟨fd, F⟩ := Z.def_ 10 (d := d_check_like_grid)
  rw [w_check_like_grid]
  refine ⟨fd, F, def_ok (k := 5) 2 [] F sc_check_like_grid rfl fun cdv A outer s H F0 E ad hr tk => ?_, Z.glo 28, FunD.bindsN F fun _ _ _ _ _ _ us hl => match us, hl with | [_, _], _ => rfl⟩
  have nd := sc_check_like_grid.nd
  exact (dss_cons (ds_expr (dc_callD D_check_other_size hr (by decide) tk (dkc (dk_e (de_var 0)) (dkc (dk_e (de_var 1)) dkn)))) (dss_one (ds_expr (dc_callD D_check_grid hr (by decide) tk (dkc (dk_e (de_var 1)) dkn)))))
theorem ok_led_by (Z : ZZ K mg base) : ∃ fd, DefOk P w K mg base 2 "led_by" (top 14) fd ["row", "rows"] 2 [] w_led_by := by
  obtain ⟨fd, F⟩ := Z.def_ 11 (d := d_led_by)
  rw [w_led_by]
  refine ⟨fd, F, def_ok (k := 1) 2 [] F sc_led_by rfl fun cdv A outer s H F0 E ad hr tk => ?_, Z.glo 29, FunD.bindsN F fun _ _ _ _ _ _ us hl => match us, hl with | [_, _], _ => rfl⟩
  have nd := sc_led_by.nd
  exact (dss_one (ds_ret (dc_callTy call_tuple_of fTuple_ok (f_tuple Z) (da_cons (dx_e (de_frz (dc_lc [("at", 2)] rfl nd (di_rg1 (f_range Z) (de_frz (dc_callB call_len fLen_ok (f_len Z) (da_cons (dx_e (de_frz (dc_ix ix_seq fIx_ok (dx_e (de_var 1)) (dx_e de_int)))) da_nil)))) (fun _ _ _ _ _ => (dp_nm 2 nd)) (fun _ _ _ _ _ => dts_nil) (fun _ _ _ _ _ => (de_frz (dc_callB (cr_sum rfl) fSum_ok (f_sum Z) (da_cons (dx_e (de_frz (dc_lc [("number", 3), ("other", 4)] rfl nd (di_zp2 (f_zip Z) (de_var 0) (de_var 1)) (fun _ _ _ _ _ => (dp_tp rfl (dps_cons (dp_nm 3 nd) (dps_cons (dp_nm 4 nd) dps_nil)))) (fun _ _ _ _ _ => dts_nil) (fun _ _ _ _ _ => (de_frz (dc_bin op_mulD fMul_ok (dx_e (de_var 3)) (dx_e (de_frz (dc_ix ix_seq fIx_ok (dx_e (de_var 4)) (dx_e (de_var 2))))))))))) da_nil))))))) da_nil))))
theorem ok_times_by (Z : ZZ K mg base) : ∃ fd, DefOk P w K mg base 3 "times_by" (top 15) fd ["rows", "others"] 2 [] w_times_by := by
  obtain ⟨_, D_led_by⟩ := ok_led_by (P := P) (w := w) Z
  obtain ⟨fd, F⟩ := Z.def_ 12 (d := d_times_by)
  rw [w_times_by]
  refine ⟨fd, F, def_ok (k := 2) 2 [] F sc_times_by rfl fun cdv A outer s H F0 E ad hr tk => ?_, Z.glo 30, FunD.bindsN F fun _ _ _ _ _ _ us hl => match us, hl with | [_, _], _ => rfl⟩
  have nd := sc_times_by.nd
  exact (dss_one (ds_ret (dc_callTy call_tuple_of fTuple_ok (f_tuple Z) (da_cons (dx_e (de_frz (dc_lc [("row", 2)] rfl nd (di_sq (de_var 0)) (fun _ _ _ _ _ => (dp_nm 2 nd)) (fun _ _ _ _ _ => dts_nil) (fun _ _ _ _ _ => (de_frz (dc_callD D_led_by hr (by decide) takes0 (dkc (dk_e (de_var 2)) (dkc (dk_e (de_var 1)) dkn)))))))) da_nil))))
theorem ok_times (Z : ZZ K mg base) : ∃ fd, DefOk P w K mg base 7 "times" (top 26) fd ["rows", "others"] 2 [] w_times := by
  obtain ⟨_, D_check_grid⟩ := ok_check_grid (P := P) (w := w) Z
  obtain ⟨_, D_check_like_grid⟩ := ok_check_like_grid (P := P) (w := w) Z
  obtain ⟨_, D_times_by⟩ := ok_times_by (P := P) (w := w) Z
  obtain ⟨fd, F⟩ := Z.def_ 13 (d := d_times)
  rw [w_times]
  refine ⟨fd, F, def_ok (k := 6) 2 [] F sc_times rfl fun cdv A outer s H F0 E ad hr tk => ?_, Z.glo 31, FunD.bindsN F fun _ _ _ _ _ _ us hl => match us, hl with | [_, _], _ => rfl⟩
  have nd := sc_times.nd
  exact (dss_cons (ds_expr (dc_callD D_check_grid hr (by decide) tk (dkc (dk_e (de_var 0)) dkn))) (dss_cons (ds_expr (dc_callD D_check_like_grid hr (by decide) tk (dkc (dk_e (de_var 0)) (dkc (dk_e (de_var 1)) dkn)))) (dss_one (ds_ret (dc_callD D_times_by hr (by decide) tk (dkc (dk_e (de_var 0)) (dkc (dk_e (de_var 1)) dkn)))))))
theorem ok_law_same (Z : ZZ K mg base) : ∀ r : Nat, ∃ fd, DefOk P w K mg base (2 + r) "_law_same" (top 35) fd ["told", "due"] 2 [] (w_law_same r)
  | 0 => by
    obtain ⟨fd, F⟩ := Z.def_ 14 (d := d_law_same)
    exact ⟨fd, F, ⟨fun vs H Q E h => by rw [spD_len _ _ _ _ h]; rfl, fun A outer s H args us vs Q E _ _ _ _ ⟨_, _, _, _, _, _, _, _, z, _⟩ => False.elim z⟩, Z.glo 32, FunD.bindsN F fun _ _ _ _ _ _ us hl => match us, hl with | [_, _], _ => rfl⟩
  | r + 1 => by
    obtain ⟨_, Dself⟩ := ok_law_same Z r
    obtain ⟨fd, F⟩ := Z.def_ 14 (d := d_law_same)
    refine ⟨fd, F, def_ok (k := 2 + r) 2 [] F sc_law_same rfl fun cdv A outer s H F0 E ad hr tk => ?_, Z.glo 32, FunD.bindsN F fun _ _ _ _ _ _ us hl => match us, hl with | [_, _], _ => rfl⟩
    have nd := sc_law_same.nd
    exact (dss_cons (ds_if (dt_cmp op_isN fIsN_ok (dx_e (de_var 1)) (dx_e de_non)) (dss_one (ds_ret (dc_cmp op_isN fIsN_ok (dx_e (de_var 0)) (dx_e de_non)))) dss_nil) (dss_cons (ds_if (dt_tru (dx_e (de_frz (dc_callB cr_isi fIsi_ok (f_isinstance Z) (da_cons (dx_e (de_var 1)) (da_cons (dx_e (de_ty (f_bool Z))) da_nil)))))) (dss_one (ds_ret (dc_and (dx_e (de_frz (dc_callB cr_isi fIsi_ok (f_isinstance Z) (da_cons (dx_e (de_var 0)) (da_cons (dx_e (de_ty (f_bool Z))) da_nil))))) (dc_one (dc_cmp (op_eqD hr.units) fEq_ok (dx_e (de_var 0)) (dx_e (de_var 1))))))) dss_nil) (dss_cons (ds_if (dt_tru (dx_e (de_frz (dc_callB cr_isi fIsi_ok (f_isinstance Z) (da_cons (dx_e (de_var 1)) (da_cons (dx_e (de_ty (f_int Z))) da_nil)))))) (dss_one (ds_ret (dc_and (dx_e (de_frz (dc_callB cr_isi fIsi_ok (f_isinstance Z) (da_cons (dx_e (de_var 0)) (da_cons (dx_e (de_ty (f_int Z))) da_nil))))) (dc_and (dx_e (de_not (dx_e (de_frz (dc_callB cr_isi fIsi_ok (f_isinstance Z) (da_cons (dx_e (de_var 0)) (da_cons (dx_e (de_ty (f_bool Z))) da_nil))))))) (dc_one (dc_cmp (op_eqD hr.units) fEq_ok (dx_e (de_var 0)) (dx_e (de_var 1)))))))) dss_nil) (dss_cons (ds_if (dt_tru (dx_e (de_frz (dc_callB cr_isi fIsi_ok (f_isinstance Z) (da_cons (dx_e (de_var 1)) (da_cons (dx_e (de_ty (f_str Z))) da_nil)))))) (dss_one (ds_ret (dc_and (dx_e (de_frz (dc_callB cr_isi fIsi_ok (f_isinstance Z) (da_cons (dx_e (de_var 0)) (da_cons (dx_e (de_ty (f_str Z))) da_nil))))) (dc_one (dc_cmp (op_eqD hr.units) fEq_ok (dx_e (de_var 0)) (dx_e (de_var 1))))))) dss_nil) (dss_cons (ds_if (dt_w (dw_or (dt_not (dt_tru (dx_e (de_frz (dc_callB cr_isi fIsi_ok (f_isinstance Z) (da_cons (dx_e (de_var 0)) (da_cons (dx_e (de_ty (f_tuple Z))) da_nil))))))) (dw_or1 (dt_cmp (op_neD hr.units) fNe_ok (dx_e (de_frz (dc_callB call_len fLen_ok (f_len Z) (da_cons (dx_e (de_var 0)) da_nil)))) (dx_e (de_frz (dc_callB call_len fLen_ok (f_len Z) (da_cons (dx_e (de_var 1)) da_nil)))))))) (dss_one (ds_ret (dc_val de_bl))) dss_nil) (dss_one (ds_ret (dc_callB (cr_all rfl) fAll_ok (f_all Z) (da_cons (dx_e (de_frz (dc_lc [("x", 2), ("y", 3)] rfl nd (di_zp2 (f_zip Z) (de_var 0) (de_var 1)) (fun _ _ _ _ _ => (dp_tp rfl (dps_cons (dp_nm 2 nd) (dps_cons (dp_nm 3 nd) dps_nil)))) (fun _ _ _ _ _ => dts_nil) (fun _ _ _ _ _ => (de_frz (dc_callD Dself hr (by omega) takes0 (dkc (dk_e (de_var 2)) (dkc (dk_e (de_var 3)) dkn)))))))) da_nil)))))))))
theorem okv_law_same (Z : ZZ K mg base) : ∃ fd, DefOk P w K mg base 10 "_law_same" (top 35) fd ["told", "due"] 2 [] v_law_same := by
  rw [v_law_same]
  exact ok_law_same Z 8
theorem ok_law_product (Z : ZZ K mg base) : ∃ fd, DefOk P w K mg base 2 "_law_product" (top 37) fd ["rows", "others"] 2 [] w_law_product := by
  obtain ⟨fd, F⟩ := Z.def_ 15 (d := d_law_product)
  rw [w_law_product]
  refine ⟨fd, F, def_ok (k := 1) 2 [] F sc_law_product rfl fun cdv A outer s H F0 E ad hr tk => ?_, Z.glo 33, FunD.bindsN F fun _ _ _ _ _ _ us hl => match us, hl with | [_, _], _ => rfl⟩
  have nd := sc_law_product.nd
  exact (dss_one (ds_ret (dc_callTy call_tuple_of fTuple_ok (f_tuple Z) (da_cons (dx_e (de_frz (dc_lc [("row", 2)] rfl nd (di_sq (de_var 0)) (fun _ _ _ _ _ => (dp_nm 2 nd)) (fun _ _ _ _ _ => dts_nil) (fun _ _ _ _ _ => (de_frz (dc_callTy call_tuple_of fTuple_ok (f_tuple Z) (da_cons (dx_e (de_frz (dc_lc [("j", 3)] rfl nd (di_rg1 (f_range Z) (de_frz (dc_callB call_len fLen_ok (f_len Z) (da_cons (dx_e (de_var 0)) da_nil)))) (fun _ _ _ _ _ => (dp_nm 3 nd)) (fun _ _ _ _ _ => dts_nil) (fun _ _ _ _ _ => (de_frz (dc_callB (cr_sum rfl) fSum_ok (f_sum Z) (da_cons (dx_e (de_frz (dc_lc [("k", 4)] rfl nd (di_rg1 (f_range Z) (de_frz (dc_callB call_len fLen_ok (f_len Z) (da_cons (dx_e (de_var 0)) da_nil)))) (fun _ _ _ _ _ => (dp_nm 4 nd)) (fun _ _ _ _ _ => dts_nil) (fun _ _ _ _ _ => (de_frz (dc_bin op_mulD fMul_ok (dx_e (de_frz (dc_ix ix_seq fIx_ok (dx_e (de_var 2)) (dx_e (de_var 4))))) (dx_e (de_frz (dc_ix ix_seq fIx_ok (dx_e (de_frz (dc_ix ix_seq fIx_ok (dx_e (de_var 1)) (dx_e (de_var 4))))) (dx_e (de_var 3))))))))))) da_nil))))))) da_nil))))))) da_nil))))
theorem ok_line_with (Z : ZZ K mg base) : ∃ fd, DefOk P w K mg base 2 "line_with" (top 10) fd ["table", "step"] 2 [] w_line_with := by
  obtain ⟨fd, F⟩ := Z.def_ 16 (d := d_line_with)
  rw [w_line_with]
  refine ⟨fd, F, def_ok (k := 1) 2 [] F sc_line_with rfl fun cdv A outer s H F0 E ad hr tk => ?_, Z.glo 34, FunD.bindsN F fun _ _ _ _ _ _ us hl => match us, hl with | [_, _], _ => rfl⟩
  have nd := sc_line_with.nd
  exact (dss_one (ds_ret (dc_slice (dx_e (de_frz (dc_lc [("line", 2)] rfl nd (di_rg2 (f_range Z) (de_var 1) (de_frz (dc_callB call_len fLen_ok (f_len Z) (da_cons (dx_e (de_var 0)) da_nil)))) (fun _ _ _ _ _ => (dp_nm 2 nd)) (fun _ _ _ _ _ => (dts_one (dt_cmp (op_neD hr.units) fNe_ok (dx_e (de_frz (dc_ix ix_seq fIx_ok (dx_e (de_frz (dc_ix ix_seq fIx_ok (dx_e (de_var 0)) (dx_e (de_var 2))))) (dx_e (de_var 1))))) (dx_e de_int)))) (fun _ _ _ _ _ => (de_var 2))))) do_none (do_some de_int))))
theorem ok_swapped (Z : ZZ K mg base) : ∃ fd, DefOk P w K mg base 2 "swapped" (top 11) fd ["table", "one", "two"] 3 [] w_swapped := by
  obtain ⟨fd, F⟩ := Z.def_ 17 (d := d_swapped)
  rw [w_swapped]
  refine ⟨fd, F, def_ok (k := 1) 3 [] F sc_swapped rfl fun cdv A outer s H F0 E ad hr tk => ?_, Z.glo 35, FunD.bindsN F fun _ _ _ _ _ _ us hl => match us, hl with | [_, _, _], _ => rfl⟩
  have nd := sc_swapped.nd
  exact (dss_cons (ds_set 3 (dc_callTy call_list_of fList_ok (f_list Z) (da_cons (dx_e (de_var 0)) da_nil)) nd) (pss_eq (m_swapped_1.eq_1) (dss_cons (ds_parT (n := 2) rfl (dcs_cons (dc_val (de_frz (dc_ix ix_seq fIx_ok (dx_e (de_var 0)) (dx_e (de_var 2))))) (dcs_cons (dc_val (de_frz (dc_ix ix_seq fIx_ok (dx_e (de_var 0)) (dx_e (de_var 1))))) dcs_nil)) (dgs_cons (dg_sub 3 (de_var 1)) (dgs_cons (dg_sub 3 (de_var 2)) dgs_nil))) (dss_one (ds_ret (dc_move 3))))))
theorem ok_cleared (Z : ZZ K mg base) : ∃ fd, DefOk P w K mg base 2 "cleared" (top 12) fd ["table", "step", "under"] 3 [] w_cleared := by
  obtain ⟨fd, F⟩ := Z.def_ 18 (d := d_cleared)
  rw [w_cleared]
  refine ⟨fd, F, def_ok (k := 1) 3 [] F sc_cleared rfl fun cdv A outer s H F0 E ad hr tk => ?_, Z.glo 36, FunD.bindsN F fun _ _ _ _ _ _ us hl => match us, hl with | [_, _, _], _ => rfl⟩
  have nd := sc_cleared.nd
  exact (dss_cons (ds_parT (n := 2) rfl (dcs_cons (dc_val (de_frz (dc_ix ix_seq fIx_ok (dx_e (de_var 0)) (dx_e (de_var 1))))) (dcs_cons (dc_slice (dx_e (de_var 0)) do_none (do_some (de_frz (dc_bin op_addD fAdd_ok (dx_e (de_var 1)) (dx_e de_int))))) dcs_nil)) (dgs_cons (dg_nm 3 nd) (dgs_cons (dg_nm 4 nd) dgs_nil))) (pss_eq (m_cleared_2.eq_1) (dss_cons (ds_for (passes_of rfl) rfl (di_sq (de_frz (dc_slice (dx_e (de_var 0)) (do_some (de_frz (dc_bin op_addD fAdd_ok (dx_e (de_var 1)) (dx_e de_int)))) do_none))) (dg_nm 5 nd) (pss_eq (m_cleared_1.eq_1) (dss_one (ds_appB 4 (de_frz (dc_lc [("at", 6)] rfl nd (di_rg1 (f_range Z) (de_frz (dc_callB call_len fLen_ok (f_len Z) (da_cons (dx_e (de_var 5)) da_nil)))) (fun _ _ _ _ _ => (dp_nm 6 nd)) (fun _ _ _ _ _ => dts_nil) (fun _ _ _ _ _ => (de_frz (dc_bin op_fdivD fDiv_ok (dx_e (de_frz (dc_bin op_sub fSub_ok (dx_e (de_frz (dc_bin op_mulD fMul_ok (dx_e (de_frz (dc_ix ix_seq fIx_ok (dx_e (de_var 3)) (dx_e (de_var 1))))) (dx_e (de_frz (dc_ix ix_seq fIx_ok (dx_e (de_var 5)) (dx_e (de_var 6)))))))) (dx_e (de_frz (dc_bin op_mulD fMul_ok (dx_e (de_frz (dc_ix ix_seq fIx_ok (dx_e (de_var 5)) (dx_e (de_var 1))))) (dx_e (de_frz (dc_ix ix_seq fIx_ok (dx_e (de_var 3)) (dx_e (de_var 6))))))))))) (dx_e (de_var 2))))))))))) (dss_one (ds_ret (dc_move 4))))))
theorem ok_determinant_by (Z : ZZ K mg base) : ∃ fd, DefOk P w K mg base 3 "determinant_by" (top 13) fd ["rows"] 1 [] w_determinant_by := by
  obtain ⟨_, D_line_with⟩ := ok_line_with (P := P) (w := w) Z
  obtain ⟨_, D_swapped⟩ := ok_swapped (P := P) (w := w) Z
  obtain ⟨_, D_cleared⟩ := ok_cleared (P := P) (w := w) Z
  obtain ⟨fd, F⟩ := Z.def_ 19 (d := d_determinant_by)
  rw [w_determinant_by]
  refine ⟨fd, F, def_ok (k := 2) 1 [] F sc_determinant_by rfl fun cdv A outer s H F0 E ad hr tk => ?_, Z.glo 37, FunD.bindsN F fun _ _ _ _ _ _ us hl => match us, hl with | [_], _ => rfl⟩
  have nd := sc_determinant_by.nd
  exact (dss_cons (ds_par3 1 2 3 rfl nd (dcs_cons (dc_val (de_frz (dc_lc [("row", 6)] rfl nd (di_sq (de_var 0)) (fun _ _ _ _ _ => (dp_nm 6 nd)) (fun _ _ _ _ _ => dts_nil) (fun _ _ _ _ _ => (de_frz (dc_callTy call_list_of fList_ok (f_list Z) (da_cons (dx_e (de_var 6)) da_nil))))))) (dcs_cons (dc_val de_int) (dcs_cons (dc_val de_int) dcs_nil)))) (pss_eq (m_determinant_by_7.eq_1) (dss_cons (ds_for (passes_of rfl) rfl (di_rg1 (f_range Z) (de_frz (dc_callB call_len fLen_ok (f_len Z) (da_cons (dx_e (de_var 0)) da_nil)))) (dg_nm 4 nd) (pss_eq (m_determinant_by_5.eq_1) (dss_cons (ds_set 5 (dc_val (de_frz (dc_callD D_line_with hr (by decide) tk (dkc (dk_e (de_var 1)) (dkc (dk_e (de_var 4)) dkn))))) nd) (pss_eq (m_determinant_by_4.eq_1) (dss_cons (ds_if (dt_cmp (op_eqD hr.units) fEq_ok (dx_e (de_var 5)) (dx_e (de_frz (dc_lst ddn)))) (dss_one (ds_ret (dc_val de_int))) dss_nil) (pss_eq (m_determinant_by_3.eq_1) (dss_cons (ds_if (dt_cmp (op_neD hr.units) fNe_ok (dx_e (de_frz (dc_ix ix_seq fIx_ok (dx_e (de_var 5)) (dx_e de_int)))) (dx_e (de_var 4))) (dss_one (ds_par2 1 2 rfl nd (dcs_cons (dc_val (de_frz (dc_callD D_swapped hr (by decide) tk (dkc (dk_e (de_var 1)) (dkc (dk_e (de_var 4)) (dkc (dk_e (de_frz (dc_ix ix_seq fIx_ok (dx_e (de_var 5)) (dx_e de_int)))) dkn)))))) (dcs_cons (dc_val (de_frz (dc_un un_neg fNeg_ok (dx_e (de_var 2))))) dcs_nil)))) dss_nil) (pss_eq (m_determinant_by_2.eq_1) (dss_cons (ds_set 1 (dc_val (de_frz (dc_callD D_cleared hr (by decide) tk (dkc (dk_e (de_var 1)) (dkc (dk_e (de_var 4)) (dkc (dk_e (de_var 3)) dkn)))))) nd) (pss_eq (m_determinant_by_1.eq_1) (dss_one (ds_set 3 (dc_val (de_frz (dc_ix ix_seq fIx_ok (dx_e (de_frz (dc_ix ix_seq fIx_ok (dx_e (de_var 1)) (dx_e (de_var 4))))) (dx_e (de_var 4))))) nd)))))))))))) (pss_eq (m_determinant_by_6.eq_1) (dss_one (ds_ret (dc_bin op_mulD fMul_ok (dx_e (de_var 2)) (dx_e (de_var 3)))))))))
theorem ok_without (Z : ZZ K mg base) : ∃ fd, DefOk P w K mg base 2 "without" (top 16) fd ["rows", "line", "place"] 3 [] w_without := by
  obtain ⟨fd, F⟩ := Z.def_ 20 (d := d_without)
  rw [w_without]
  refine ⟨fd, F, def_ok (k := 1) 3 [] F sc_without rfl fun cdv A outer s H F0 E ad hr tk => ?_, Z.glo 38, FunD.bindsN F fun _ _ _ _ _ _ us hl => match us, hl with | [_, _, _], _ => rfl⟩
  have nd := sc_without.nd
  exact (dss_cons (ds_set 3 (dc_val (de_frz (dc_bin op_addD fAdd_ok (dx_e (de_frz (dc_slice (dx_e (de_var 0)) do_none (do_some (de_var 1))))) (dx_e (de_frz (dc_slice (dx_e (de_var 0)) (do_some (de_frz (dc_bin op_addD fAdd_ok (dx_e (de_var 1)) (dx_e de_int)))) do_none)))))) nd) (dss_one (ds_ret (dc_lc [("row", 4)] rfl nd (di_sq (de_var 3)) (fun _ _ _ _ _ => (dp_nm 4 nd)) (fun _ _ _ _ _ => dts_nil) (fun _ _ _ _ _ => (de_frz (dc_bin op_addD fAdd_ok (dx_e (de_frz (dc_slice (dx_e (de_var 4)) do_none (do_some (de_var 2))))) (dx_e (de_frz (dc_slice (dx_e (de_var 4)) (do_some (de_frz (dc_bin op_addD fAdd_ok (dx_e (de_var 2)) (dx_e de_int)))) do_none))))))))))
theorem ok_minor_sign (Z : ZZ K mg base) : ∃ fd, DefOk P w K mg base 4 "minor_sign" (top 17) fd ["rows", "line", "place"] 3 [] w_minor_sign := by
  obtain ⟨_, D_without⟩ := ok_without (P := P) (w := w) Z
  obtain ⟨_, D_determinant_by⟩ := ok_determinant_by (P := P) (w := w) Z
  obtain ⟨fd, F⟩ := Z.def_ 21 (d := d_minor_sign)
  rw [w_minor_sign]
  refine ⟨fd, F, def_ok (k := 3) 3 [] F sc_minor_sign rfl fun cdv A outer s H F0 E ad hr tk => ?_, Z.glo 39, FunD.bindsN F fun _ _ _ _ _ _ us hl => match us, hl with | [_, _, _], _ => rfl⟩
  have nd := sc_minor_sign.nd
  exact (dss_cons (ds_set 3 (dc_val (de_frz (dc_if (dt_cmp (op_eqD hr.units) fEq_ok (dx_e (de_frz (dc_bin op_modN fMod_ok (dx_e (de_frz (dc_callTy call_int1 fInt_ok (f_int Z) (da_cons (dx_e (de_frz (dc_bin op_addD fAdd_ok (dx_e (de_var 1)) (dx_e (de_var 2))))) da_nil)))) (dx_e de_int)))) (dx_e de_int)) (dc_val de_int) (dc_un un_neg fNeg_ok (dx_e de_int))))) nd) (pss_eq (m_minor_sign_1.eq_1) (dss_one (ds_ret (dc_bin op_mulD fMul_ok (dx_e (de_var 3)) (dx_e (de_frz (dc_callD D_determinant_by hr (by decide) tk (dkc (dk_e (de_frz (dc_callD D_without hr (by decide) tk (dkc (dk_e (de_var 0)) (dkc (dk_e (de_var 1)) (dkc (dk_e (de_var 2)) dkn)))))) dkn)))))))))
theorem ok_fraction (Z : ZZ K mg base) : ∃ fd, DefOk P w K mg base 2 "fraction" (top 8) fd ["number", "under"] 2 [] w_fraction := by
  obtain ⟨fd, F⟩ := Z.def_ 22 (d := d_fraction)
  rw [w_fraction]
  refine ⟨fd, F, def_ok (k := 1) 2 [] F sc_fraction rfl fun cdv A outer s H F0 E ad hr tk => ?_, Z.glo 40, FunD.bindsN F fun _ _ _ _ _ _ us hl => match us, hl with | [_, _], _ => rfl⟩
  have nd := sc_fraction.nd
  exact (dss_cons (ds_set 2 (dc_val (de_frz (dc_if (dt_cmp op_gt fGt_ok (dx_e (de_var 1)) (dx_e de_int)) (dc_val de_int) (dc_un un_neg fNeg_ok (dx_e de_int))))) nd) (pss_eq (m_fraction_2.eq_1) (dss_cons (ds_set 3 (dc_val (de_frz (dc_bin op_mulD fMul_ok (dx_e (de_frz (dc_callF cr_gcd fGcd_ok (gcd Z) (da_cons (dx_e (de_var 0)) (da_cons (dx_e (de_var 1)) da_nil))))) (dx_e (de_var 2))))) nd) (pss_eq (m_fraction_1.eq_1) (dss_one (ds_ret (dc_val (de_tup (ddc (de_frz (dc_bin op_fdivD fDiv_ok (dx_e (de_var 0)) (dx_e (de_var 3)))) (ddc (de_frz (dc_bin op_fdivD fDiv_ok (dx_e (de_var 1)) (dx_e (de_var 3)))) ddn))))))))))
theorem ok_inverse_by (Z : ZZ K mg base) : ∃ fd, DefOk P w K mg base 5 "inverse_by" (top 18) fd ["rows"] 1 [] w_inverse_by := by
  obtain ⟨_, D_determinant_by⟩ := ok_determinant_by (P := P) (w := w) Z
  obtain ⟨_, D_minor_sign⟩ := ok_minor_sign (P := P) (w := w) Z
  obtain ⟨_, D_fraction⟩ := ok_fraction (P := P) (w := w) Z
  obtain ⟨fd, F⟩ := Z.def_ 23 (d := d_inverse_by)
  rw [w_inverse_by]
  refine ⟨fd, F, def_ok (k := 4) 1 [] F sc_inverse_by rfl fun cdv A outer s H F0 E ad hr tk => ?_, Z.glo 41, FunD.bindsN F fun _ _ _ _ _ _ us hl => match us, hl with | [_], _ => rfl⟩
  have nd := sc_inverse_by.nd
  exact (dss_cons (ds_parT (n := 2) rfl (dcs_cons (dc_val (de_frz (dc_callD D_determinant_by hr (by decide) tk (dkc (dk_e (de_var 0)) dkn)))) (dcs_cons (dc_val (de_frz (dc_callB call_len fLen_ok (f_len Z) (da_cons (dx_e (de_var 0)) da_nil)))) dcs_nil)) (dgs_cons (dg_nm 1 nd) (dgs_cons (dg_nm 2 nd) dgs_nil))) (pss_eq (m_inverse_by_3.eq_1) (dss_cons (ds_if (dt_cmp (op_eqD hr.units) fEq_ok (dx_e (de_var 1)) (dx_e de_int)) (dss_one (ds_ret (dc_val de_non))) dss_nil) (dss_cons (ds_set 3 (dc_lst ddn) nd) (pss_eq (m_inverse_by_2.eq_1) (dss_cons (ds_for (passes_of rfl) rfl (di_rg1 (f_range Z) (de_var 2)) (dg_nm 4 nd) (pss_eq (m_inverse_by_1.eq_1) (dss_one (ds_appB 3 (de_frz (dc_callTy call_tuple_of fTuple_ok (f_tuple Z) (da_cons (dx_e (de_frz (dc_lc [("place", 5)] rfl nd (di_rg1 (f_range Z) (de_var 2)) (fun _ _ _ _ _ => (dp_nm 5 nd)) (fun _ _ _ _ _ => dts_nil) (fun _ _ _ _ _ => (de_frz (dc_callD D_fraction hr (by decide) takes0 (dkc (dk_e (de_frz (dc_callD D_minor_sign hr (by decide) takes0 (dkc (dk_e (de_var 0)) (dkc (dk_e (de_var 5)) (dkc (dk_e (de_var 4)) dkn)))))) (dkc (dk_e (de_var 1)) dkn)))))))) da_nil))))))) (dss_one (ds_ret (dc_callTy call_tuple_of fTuple_ok (f_tuple Z) (da_cons (dx_e (de_still 3)) da_nil))))))))))
theorem ok_inverse (Z : ZZ K mg base) : ∃ fd, DefOk P w K mg base 6 "inverse" (top 27) fd ["rows"] 1 [] w_inverse := by
  obtain ⟨_, D_check_grid⟩ := ok_check_grid (P := P) (w := w) Z
  obtain ⟨_, D_inverse_by⟩ := ok_inverse_by (P := P) (w := w) Z
  obtain ⟨fd, F⟩ := Z.def_ 24 (d := d_inverse)
  rw [w_inverse]
  refine ⟨fd, F, def_ok (k := 5) 1 [] F sc_inverse rfl fun cdv A outer s H F0 E ad hr tk => ?_, Z.glo 42, FunD.bindsN F fun _ _ _ _ _ _ us hl => match us, hl with | [_], _ => rfl⟩
  have nd := sc_inverse.nd
  exact (dss_cons (ds_expr (dc_callD D_check_grid hr (by decide) tk (dkc (dk_e (de_var 0)) dkn))) (dss_one (ds_ret (dc_callD D_inverse_by hr (by decide) tk (dkc (dk_e (de_var 0)) dkn)))))
theorem ok_law_ratio (Z : ZZ K mg base) : ∃ fd, DefOk P w K mg base 2 "_law_ratio" (top 32) fd ["top", "low"] 2 [] w_law_ratio := by
  obtain ⟨fd, F⟩ := Z.def_ 25 (d := d_law_ratio)
  rw [w_law_ratio]
  refine ⟨fd, F, def_ok (k := 1) 2 [] F sc_law_ratio rfl fun cdv A outer s H F0 E ad hr tk => ?_, Z.glo 43, FunD.bindsN F fun _ _ _ _ _ _ us hl => match us, hl with | [_, _], _ => rfl⟩
  have nd := sc_law_ratio.nd
  exact (dss_cons (ds_par2 2 3 rfl nd (dcs_cons (dc_val (de_frz (dc_callB call_abs fAbs_ok (f_abs Z) (da_cons (dx_e (de_var 0)) da_nil)))) (dcs_cons (dc_val (de_frz (dc_callB call_abs fAbs_ok (f_abs Z) (da_cons (dx_e (de_var 1)) da_nil)))) dcs_nil))) (pss_eq (m_law_ratio_3.eq_1) (dss_cons (ds_while (passes_of rfl) (dt_cmp op_gt fGt_ok (dx_e (de_var 3)) (dx_e de_int)) (pss_eq (m_law_ratio_1.eq_1) (dss_one (ds_par2 2 3 rfl nd (dcs_cons (dc_val (de_var 3)) (dcs_cons (dc_val (de_frz (dc_bin op_modN fMod_ok (dx_e (de_frz (dc_callTy call_int1 fInt_ok (f_int Z) (da_cons (dx_e (de_var 2)) da_nil)))) (dx_e (de_var 3))))) dcs_nil)))))) (pss_eq (m_law_ratio_2.eq_1) (dss_one (ds_ret (dc_if (dt_cmp op_gt fGt_ok (dx_e (de_var 1)) (dx_e de_int)) (dc_val (de_tup (ddc (de_frz (dc_bin op_fdivD fDiv_ok (dx_e (de_var 0)) (dx_e (de_var 2)))) (ddc (de_frz (dc_bin op_fdivD fDiv_ok (dx_e (de_var 1)) (dx_e (de_var 2)))) ddn)))) (dc_val (de_tup (ddc (de_frz (dc_bin op_sub fSub_ok (dx_e de_int) (dx_e (de_frz (dc_bin op_fdivD fDiv_ok (dx_e (de_var 0)) (dx_e (de_var 2))))))) (ddc (de_frz (dc_bin op_sub fSub_ok (dx_e de_int) (dx_e (de_frz (dc_bin op_fdivD fDiv_ok (dx_e (de_var 1)) (dx_e (de_var 2))))))) ddn)))))))))))
theorem ok_law_times (Z : ZZ K mg base) : ∃ fd, DefOk P w K mg base 3 "_law_times" (top 34) fd ["one", "two"] 2 [] w_law_times := by
  obtain ⟨_, D_law_ratio⟩ := ok_law_ratio (P := P) (w := w) Z
  obtain ⟨fd, F⟩ := Z.def_ 26 (d := d_law_times)
  rw [w_law_times]
  refine ⟨fd, F, def_ok (k := 2) 2 [] F sc_law_times rfl fun cdv A outer s H F0 E ad hr tk => ?_, Z.glo 44, FunD.bindsN F fun _ _ _ _ _ _ us hl => match us, hl with | [_, _], _ => rfl⟩
  have nd := sc_law_times.nd
  exact (dss_one (ds_ret (dc_callD D_law_ratio hr (by decide) tk (dkc (dk_e (de_frz (dc_bin op_mulD fMul_ok (dx_e (de_frz (dc_ix ix_seq fIx_ok (dx_e (de_var 0)) (dx_e de_int)))) (dx_e (de_frz (dc_ix ix_seq fIx_ok (dx_e (de_var 1)) (dx_e de_int))))))) (dkc (dk_e (de_frz (dc_bin op_mulD fMul_ok (dx_e (de_frz (dc_ix ix_seq fIx_ok (dx_e (de_var 0)) (dx_e de_int)))) (dx_e (de_frz (dc_ix ix_seq fIx_ok (dx_e (de_var 1)) (dx_e de_int))))))) dkn)))))
theorem ok_law_plus (Z : ZZ K mg base) : ∃ fd, DefOk P w K mg base 3 "_law_plus" (top 33) fd ["one", "two"] 2 [] w_law_plus := by
  obtain ⟨_, D_law_ratio⟩ := ok_law_ratio (P := P) (w := w) Z
  obtain ⟨fd, F⟩ := Z.def_ 27 (d := d_law_plus)
  rw [w_law_plus]
  refine ⟨fd, F, def_ok (k := 2) 2 [] F sc_law_plus rfl fun cdv A outer s H F0 E ad hr tk => ?_, Z.glo 45, FunD.bindsN F fun _ _ _ _ _ _ us hl => match us, hl with | [_, _], _ => rfl⟩
  have nd := sc_law_plus.nd
  exact (dss_one (ds_ret (dc_callD D_law_ratio hr (by decide) tk (dkc (dk_e (de_frz (dc_bin op_addD fAdd_ok (dx_e (de_frz (dc_bin op_mulD fMul_ok (dx_e (de_frz (dc_ix ix_seq fIx_ok (dx_e (de_var 0)) (dx_e de_int)))) (dx_e (de_frz (dc_ix ix_seq fIx_ok (dx_e (de_var 1)) (dx_e de_int))))))) (dx_e (de_frz (dc_bin op_mulD fMul_ok (dx_e (de_frz (dc_ix ix_seq fIx_ok (dx_e (de_var 1)) (dx_e de_int)))) (dx_e (de_frz (dc_ix ix_seq fIx_ok (dx_e (de_var 0)) (dx_e de_int)))))))))) (dkc (dk_e (de_frz (dc_bin op_mulD fMul_ok (dx_e (de_frz (dc_ix ix_seq fIx_ok (dx_e (de_var 0)) (dx_e de_int)))) (dx_e (de_frz (dc_ix ix_seq fIx_ok (dx_e (de_var 1)) (dx_e de_int))))))) dkn)))))
theorem ok_law_is_inverse (Z : ZZ K mg base) : ∃ fd, DefOk P w K mg base 4 "_law_is_inverse" (top 38) fd ["rows", "thing"] 2 [] w_law_is_inverse := by
  obtain ⟨_, D_law_ratio⟩ := ok_law_ratio (P := P) (w := w) Z
  obtain ⟨_, D_law_times⟩ := ok_law_times (P := P) (w := w) Z
  obtain ⟨_, D_law_plus⟩ := ok_law_plus (P := P) (w := w) Z
  obtain ⟨fd, F⟩ := Z.def_ 28 (d := d_law_is_inverse)
  rw [w_law_is_inverse]
  refine ⟨fd, F, def_ok (k := 3) 2 [] F sc_law_is_inverse rfl fun cdv A outer s H F0 E ad hr tk => ?_, Z.glo 46, FunD.bindsN F fun _ _ _ _ _ _ us hl => match us, hl with | [_, _], _ => rfl⟩
  have nd := sc_law_is_inverse.nd
  exact (dss_cons (ds_set 2 (dc_val (de_frz (dc_callB call_len fLen_ok (f_len Z) (da_cons (dx_e (de_var 0)) da_nil)))) nd) (pss_eq (m_law_is_inverse_9.eq_1) (dss_cons (ds_if (dt_w (dw_or (dt_not (dt_tru (dx_e (de_frz (dc_callB cr_isi fIsi_ok (f_isinstance Z) (da_cons (dx_e (de_var 1)) (da_cons (dx_e (de_ty (f_tuple Z))) da_nil))))))) (dw_or (dt_cmp (op_neD hr.units) fNe_ok (dx_e (de_frz (dc_callB call_len fLen_ok (f_len Z) (da_cons (dx_e (de_var 1)) da_nil)))) (dx_e (de_var 2))) (dw_or1 (dt_not (dt_tru (dx_e (de_frz (dc_callB (cr_all rfl) fAll_ok (f_all Z) (da_cons (dx_e (de_frz (dc_lc [("row", 3)] rfl nd (di_sq (de_var 1)) (fun _ _ _ _ _ => (dp_nm 3 nd)) (fun _ _ _ _ _ => dts_nil) (fun _ _ _ _ _ => (de_frz (dc_and (dx_e (de_frz (dc_callB cr_isi fIsi_ok (f_isinstance Z) (da_cons (dx_e (de_var 3)) (da_cons (dx_e (de_ty (f_tuple Z))) da_nil))))) (dc_one (dc_cmp (op_eqD hr.units) fEq_ok (dx_e (de_frz (dc_callB call_len fLen_ok (f_len Z) (da_cons (dx_e (de_var 3)) da_nil)))) (dx_e (de_var 2)))))))))) da_nil)))))))))) (dss_one (ds_ret (dc_val de_bl))) dss_nil) (pss_eq (m_law_is_inverse_8.eq_1) (dss_cons (ds_for (passes_of rfl) rfl (di_sq (de_var 1)) (dg_nm 3 nd) (dss_one (ds_for (passes_of rfl) rfl (di_sq (de_var 3)) (dg_nm 4 nd) (pss_eq (m_law_is_inverse_1.eq_1) (dss_one (ds_if (dt_w (dw_or (dt_not (dt_tru (dx_e (de_frz (dc_callB cr_isi fIsi_ok (f_isinstance Z) (da_cons (dx_e (de_var 4)) (da_cons (dx_e (de_ty (f_tuple Z))) da_nil))))))) (dw_or (dt_cmp (op_neD hr.units) fNe_ok (dx_e (de_frz (dc_callB call_len fLen_ok (f_len Z) (da_cons (dx_e (de_var 4)) da_nil)))) (dx_e de_int)) (dw_or (dt_cmp op_lt fLt_ok (dx_e (de_frz (dc_ix ix_seq fIx_ok (dx_e (de_var 4)) (dx_e de_int)))) (dx_e de_int)) (dw_or1 (dt_cmp (op_neD hr.units) fNe_ok (dx_e (de_frz (dc_callD D_law_ratio hr (by decide) tk (dkc (dk_e (de_frz (dc_ix ix_seq fIx_ok (dx_e (de_var 4)) (dx_e de_int)))) (dkc (dk_e (de_frz (dc_ix ix_seq fIx_ok (dx_e (de_var 4)) (dx_e de_int)))) dkn))))) (dx_e (de_var 4)))))))) (dss_one (ds_ret (dc_val de_bl))) dss_nil)))))) (pss_eq (m_law_is_inverse_7.eq_1) (dss_cons (ds_for (passes_of rfl) rfl (di_rg1 (f_range Z) (de_var 2)) (dg_nm 5 nd) (dss_one (ds_for (passes_of rfl) rfl (di_rg1 (f_range Z) (de_var 2)) (dg_nm 6 nd) (pss_eq (m_law_is_inverse_6.eq_1) (dss_cons (ds_parT (n := 2) rfl (dcs_cons (dc_val (de_tup (ddc de_int (ddc de_int ddn)))) (dcs_cons (dc_val (de_tup (ddc de_int (ddc de_int ddn)))) dcs_nil)) (dgs_cons (dg_nm 7 nd) (dgs_cons (dg_nm 8 nd) dgs_nil))) (pss_eq (m_law_is_inverse_5.eq_1) (dss_cons (ds_for (passes_of rfl) rfl (di_rg1 (f_range Z) (de_var 2)) (dg_nm 9 nd) (pss_eq (m_law_is_inverse_3.eq_1) (dss_cons (ds_set 7 (dc_val (de_frz (dc_callD D_law_plus hr (by decide) tk (dkc (dk_e (de_var 7)) (dkc (dk_e (de_frz (dc_callD D_law_times hr (by decide) tk (dkc (dk_e (de_frz (dc_ix ix_seq fIx_ok (dx_e (de_frz (dc_ix ix_seq fIx_ok (dx_e (de_var 1)) (dx_e (de_var 5))))) (dx_e (de_var 9))))) (dkc (dk_e (de_tup (ddc (de_frz (dc_ix ix_seq fIx_ok (dx_e (de_frz (dc_ix ix_seq fIx_ok (dx_e (de_var 0)) (dx_e (de_var 9))))) (dx_e (de_var 6)))) (ddc de_int ddn)))) dkn))))) dkn))))) nd) (pss_eq (m_law_is_inverse_2.eq_1) (dss_one (ds_set 8 (dc_val (de_frz (dc_callD D_law_plus hr (by decide) tk (dkc (dk_e (de_var 8)) (dkc (dk_e (de_frz (dc_callD D_law_times hr (by decide) tk (dkc (dk_e (de_tup (ddc (de_frz (dc_ix ix_seq fIx_ok (dx_e (de_frz (dc_ix ix_seq fIx_ok (dx_e (de_var 0)) (dx_e (de_var 5))))) (dx_e (de_var 9)))) (ddc de_int ddn)))) (dkc (dk_e (de_frz (dc_ix ix_seq fIx_ok (dx_e (de_frz (dc_ix ix_seq fIx_ok (dx_e (de_var 1)) (dx_e (de_var 9))))) (dx_e (de_var 6))))) dkn))))) dkn))))) nd)))))) (pss_eq (m_law_is_inverse_4.eq_1) (dss_one (ds_if (dt_w (dw_or (dt_cmp (op_neD hr.units) fNe_ok (dx_e (de_var 7)) (dx_e (de_tup (ddc (de_frz (dc_callTy call_int1 fInt_ok (f_int Z) (da_cons (dx_e (de_frz (dc_cmp (op_eqD hr.units) fEq_ok (dx_e (de_var 5)) (dx_e (de_var 6))))) da_nil))) (ddc de_int ddn))))) (dw_or1 (dt_cmp (op_neD hr.units) fNe_ok (dx_e (de_var 8)) (dx_e (de_var 7)))))) (dss_one (ds_ret (dc_val de_bl))) dss_nil)))))))))) (dss_one (ds_ret (dc_val de_bl))))))))))
theorem ok_determinant (Z : ZZ K mg base) : ∃ fd, DefOk P w K mg base 6 "determinant" (top 25) fd ["rows"] 1 [] w_determinant := by
  obtain ⟨_, D_check_grid⟩ := ok_check_grid (P := P) (w := w) Z
  obtain ⟨_, D_determinant_by⟩ := ok_determinant_by (P := P) (w := w) Z
  obtain ⟨fd, F⟩ := Z.def_ 29 (d := d_determinant)
  rw [w_determinant]
  refine ⟨fd, F, def_ok (k := 5) 1 [] F sc_determinant rfl fun cdv A outer s H F0 E ad hr tk => ?_, Z.glo 47, FunD.bindsN F fun _ _ _ _ _ _ us hl => match us, hl with | [_], _ => rfl⟩
  have nd := sc_determinant.nd
  exact (dss_cons (ds_expr (dc_callD D_check_grid hr (by decide) tk (dkc (dk_e (de_var 0)) dkn))) (dss_one (ds_ret (dc_callD D_determinant_by hr (by decide) tk (dkc (dk_e (de_var 0)) dkn)))))
theorem ok_law_right_i (Z : ZZ K mg base) : ∃ fd, DefOk P w K mg base 11 "_law_right" (top 39) fd ["pool"] 1 [0] w_law_right_i := by
  obtain ⟨_, D_law_grid_iv⟩ := ok_law_grid_iv (P := P) (w := w) Z
  obtain ⟨_, D_times⟩ := ok_times (P := P) (w := w) Z
  obtain ⟨_, D_law_same⟩ := okv_law_same (P := P) (w := w) Z
  obtain ⟨_, D_law_product⟩ := ok_law_product (P := P) (w := w) Z
  obtain ⟨_, D_inverse⟩ := ok_inverse (P := P) (w := w) Z
  obtain ⟨_, D_law_is_inverse⟩ := ok_law_is_inverse (P := P) (w := w) Z
  obtain ⟨_, D_determinant⟩ := ok_determinant (P := P) (w := w) Z
  obtain ⟨fd, F⟩ := Z.def_ 30 (d := d_law_right)
  rw [w_law_right_i]
  refine ⟨fd, F, def_ok (k := 10) 1 [0] F sc_law_right rfl fun cdv A outer s H F0 E ad hr tk => ?_, Z.glo 48, FunD.bindsN F fun _ _ _ _ _ _ us hl => match us, hl with | [_], _ => rfl⟩
  have nd := sc_law_right.nd
  exact (dss_cons (ds_for (passes_of rfl) rfl (di_rg1 (f_range Z) de_int) (dg_nm 1 nd) (pss_eq (m_law_right_i_6.eq_1) (dss_cons (ds_set 2 (dc_val (de_frz (dc_bin op_addD fAdd_ok (dx_e de_int) (dx_e (de_frz (dc_bin op_modN fMod_ok (dx_e (de_frz (dc_callTy call_int1 fInt_ok (f_int Z) (da_cons (dx_e (de_var 1)) da_nil)))) (dx_e de_int))))))) nd) (pss_eq (m_law_right_i_5.eq_1) (dss_cons (ds_par3 3 4 5 rfl nd (dcs_cons (dc_val (de_frz (dc_callD D_law_grid_iv hr (by decide) tk (dkc (dk_s 0) (dkc (dk_e (de_var 2)) dkn))))) (dcs_cons (dc_val (de_frz (dc_callD D_law_grid_iv hr (by decide) tk (dkc (dk_s 0) (dkc (dk_e (de_var 2)) dkn))))) (dcs_cons (dc_val (de_frz (dc_callD D_law_grid_iv hr (by decide) tk (dkc (dk_s 0) (dkc (dk_e (de_var 2)) dkn))))) dcs_nil)))) (pss_eq (m_law_right_i_4.eq_1) (dss_cons (ds_set 6 (dc_val (de_frz (dc_if (dt_cmp (op_eqD hr.units) fEq_ok (dx_e (de_var 1)) (dx_e de_int)) (dc_callKD D_times (kb_times_others_rows D_times.fun_) hr (by decide) tk (dkkc (dk_e (de_var 4)) (dkkc (dk_e (de_var 3)) dkkn))) (dc_callD D_times hr (by decide) tk (dkc (dk_e (de_var 3)) (dkc (dk_e (de_var 4)) dkn)))))) nd) (pss_eq (m_law_right_i_3.eq_1) (dss_cons (ds_if (dt_w (dw_or (dt_not (dt_tru (dx_e (de_frz (dc_callD D_law_same hr (by decide) tk (dkc (dk_e (de_var 6)) (dkc (dk_e (de_frz (dc_callD D_law_product hr (by decide) tk (dkc (dk_e (de_var 3)) (dkc (dk_e (de_var 4)) dkn))))) dkn))))))) (dw_or1 (dt_not (dt_tru (dx_e (de_frz (dc_callD D_law_same hr (by decide) tk (dkc (dk_e (de_frz (dc_callD D_times hr (by decide) tk (dkc (dk_e (de_var 6)) (dkc (dk_e (de_var 5)) dkn))))) (dkc (dk_e (de_frz (dc_callD D_times hr (by decide) tk (dkc (dk_e (de_var 3)) (dkc (dk_e (de_frz (dc_callD D_times hr (by decide) tk (dkc (dk_e (de_var 4)) (dkc (dk_e (de_var 5)) dkn))))) dkn))))) dkn)))))))))) (dss_one (ds_ret (dc_val de_bl))) dss_nil) (pss_eq (m_law_right_i_2.eq_1) (dss_cons (ds_set 7 (dc_val (de_frz (dc_if (dt_cmp (op_eqD hr.units) fEq_ok (dx_e (de_var 1)) (dx_e de_int)) (dc_callKD D_inverse (kb_inverse_rows D_inverse.fun_) hr (by decide) tk (dkkc (dk_e (de_var 3)) dkkn)) (dc_callD D_inverse hr (by decide) tk (dkc (dk_e (de_var 3)) dkn))))) nd) (pss_eq (m_law_right_i_1.eq_1) (dss_one (ds_if (dt_w (dw_or (dt_cmp (op_neD hr.units) fNe_ok (dx_e (de_frz (dc_cmp op_isN fIsN_ok (dx_e (de_var 7)) (dx_e de_non)))) (dx_e (de_frz (dc_cmp (op_eqD hr.units) fEq_ok (dx_e (de_frz (dc_callD D_determinant hr (by decide) tk (dkc (dk_e (de_var 3)) dkn)))) (dx_e de_int))))) (dw_or1 (dt_w (dw_and (dt_cmp op_notN fNotN_ok (dx_e (de_var 7)) (dx_e de_non)) (dw_and1 (dt_not (dt_tru (dx_e (de_frz (dc_callD D_law_is_inverse hr (by decide) tk (dkc (dk_e (de_var 3)) (dkc (dk_e (de_var 7)) dkn))))))))))))) (dss_one (ds_ret (dc_val de_bl))) dss_nil)))))))))))))) (pss_eq (m_law_right_i_7.eq_1) (dss_one (ds_ret (dc_and (dx_e (de_frz (dc_cmp op_isN fIsN_ok (dx_e (de_frz (dc_callD D_inverse hr (by decide) tk (dkc (dk_e (de_eq (x_law_right_i_8.eq_1) (de_tup (ddc (de_eq (x_law_right_i_6.eq_1) (de_tup (ddc de_int (ddc de_int ddn)))) (ddc (de_eq (x_law_right_i_7.eq_1) (de_tup (ddc de_int (ddc de_int ddn)))) ddn))))) dkn)))) (dx_e de_non)))) (dc_one (dc_callD D_law_same hr (by decide) tk (dkc (dk_e (de_frz (dc_callD D_inverse hr (by decide) tk (dkc (dk_e (de_eq (x_law_right_i_2.eq_1) (de_tup (ddc (de_eq (x_law_right_i_1.eq_1) (de_tup (ddc (de_frz (dc_un un_neg fNeg_ok (dx_e de_int))) ddn))) ddn)))) dkn)))) (dkc (dk_e (de_eq (x_law_right_i_5.eq_1) (de_tup (ddc (de_eq (x_law_right_i_4.eq_1) (de_tup (ddc (de_eq (x_law_right_i_3.eq_1) (de_tup (ddc (de_frz (dc_un un_neg fNeg_ok (dx_e de_int))) (ddc de_int ddn)))) ddn))) ddn)))) dkn)))))))))
theorem ok_law (Z : ZZ K mg base) : ∃ fd, DefOk P w K mg base 12 "law" (top 40) fd ["script"] 1 [] w_law := by
  obtain ⟨_, D_law_pool⟩ := ok_law_pool (P := P) (w := w) Z
  obtain ⟨_, D_law_right_i⟩ := ok_law_right_i (P := P) (w := w) Z
  obtain ⟨fd, F⟩ := Z.def_ 31 (d := d_law)
  rw [w_law]
  refine ⟨fd, F, def_ok (k := 11) 1 [] F sc_law rfl fun cdv A outer s H F0 E ad hr tk => ?_, Z.glo 49, FunD.bindsN F fun _ _ _ _ _ _ us hl => match us, hl with | [_], _ => rfl⟩
  have nd := sc_law.nd
  exact (dss_one (ds_ret (dc_callB (cr_all rfl) fAll_ok (f_all Z) (da_cons (dx_e (de_frz (dc_lc [("lap", 1)] rfl nd (di_rg1 (f_range Z) (de_frz (dc_callB (cr_maxD rfl) fMax_ok (f_max Z) (da_cons (dx_e de_int) (da_cons (dx_e (de_frz (dc_callB (cr_minD rfl) fMin_ok (f_min Z) (da_cons (dx_e (de_frz (dc_callB call_len fLen_ok (f_len Z) (da_cons (dx_e (de_var 0)) da_nil)))) (da_cons (dx_e de_int) da_nil))))) da_nil))))) (fun _ _ _ _ _ => (dp_nm 1 nd)) (fun _ _ _ _ _ => dts_nil) (fun _ _ _ _ _ => (de_frz (dc_callD D_law_right_i hr (by decide) takes0 (dkc (dk_t (dc_callD D_law_pool hr (by decide) takes0 (dkc (dk_e (de_var 0)) (dkc (dk_e (de_var 1)) dkn)))) dkn))))))) da_nil))))
end
end Lk03
/-! The plain side: how mirrors are read. -/
namespace DL
open PySem PySem.Spec PyProof.Rows L2
/-- a def that changes nothing and tells r -/
def Ret (w : DSp) (cs : List Cell) (r : D) : Prop := ∀ Qd Ed, (∀ o, Qd (.val r) o) → w cs Qd Ed
/-- .. tells a new list -/
def RetO (w : DSp) (cs : List Cell) (r : List D) : Prop := ∀ Qd Ed, (∀ o, Qd (.own r) o) → w cs Qd Ed
/-- one turn of a comprehension -/
def stp (p : Pt) (tt : DT) (te : DE) (vs : List Nat) (d : D) (ρ : En) (Kt : D → En → Prop) (Kf : En → Prop) : Prop :=
  ptGo p d ρ fun ρ1 => tt ρ1 (fun b ρ2 => if b = true then te ρ2 (fun x ρ3 => Kt x (wipeE ρ3 vs)) noX else Kf (wipeE ρ2 vs)) noX
theorem lcGo_cons {p : Pt} {tt : DT} {te : DE} {vs : List Nat} {d : D} {ds acc : List D} {ρ : En} {Q : List D → En → Prop}
    (h : stp p tt te vs d ρ (fun x ρ' => acc.length < sizeLine ∧ lcGo p tt te vs ds (acc ++ [x]) ρ' Q) fun ρ' => lcGo p tt te vs ds acc ρ' Q) : lcGo p tt te vs (d :: ds) acc ρ Q := h
/-- each item by itself, the names as they were -/
theorem lcGo_enc {α : Type} {p : Pt} {tt : DT} {te : DE} {vs : List Nat} (e g : α → D) {ρ : En} {Q : List D → En → Prop} : ∀ (zs : List α) (acc : List D), (∀ z ∈ zs, ∀ Kt Kf, Kt (g z) ρ → stp p tt te vs (e z) ρ Kt Kf) → acc.length + zs.length ≤ sizeLine →
    Q (acc ++ zs.map g) ρ → lcGo p tt te vs (zs.map e) acc ρ Q
  | [], acc, _, _, q => by
    rw [List.map_nil, List.append_nil] at q
    exact q
  | z :: zs, acc, h, hl, q => by
    refine lcGo_cons (h z List.mem_cons_self _ _ ⟨?_, ?_⟩)
    · rw [List.length_cons] at hl; omega
    · refine lcGo_enc e g zs _ (fun y hy => h y (List.mem_cons_of_mem _ hy)) ?_ ?_
      · rw [List.length_append, List.length_cons, List.length_nil]; rw [List.length_cons] at hl; omega
      · rw [List.append_assoc]; exact q
/-- .. with a test: some items are left out -/
theorem lcGo_fil {α : Type} {p : Pt} {tt : DT} {te : DE} {vs : List Nat} (e : α → D) (g : α → Option D) {ρ : En} {Q : List D → En → Prop} : ∀ (zs : List α) (acc : List D), (∀ z ∈ zs, ∀ Kt Kf, (∀ x, g z = some x → Kt x ρ) → (g z = none → Kf ρ) → stp p tt te vs (e z) ρ Kt Kf) → acc.length + zs.length ≤ sizeLine →
    Q (acc ++ zs.filterMap g) ρ → lcGo p tt te vs (zs.map e) acc ρ Q
  | [], acc, _, _, q => by
    rw [List.filterMap_nil, List.append_nil] at q
    exact q
  | z :: zs, acc, h, hl, q => by
    rw [List.length_cons] at hl
    refine lcGo_cons (h z List.mem_cons_self _ _ (fun x hx => ⟨by omega, ?_⟩) (fun hx => ?_))
    · refine lcGo_fil e g zs _ (fun y hy => h y (List.mem_cons_of_mem _ hy)) ?_ ?_
      · rw [List.length_append, List.length_cons, List.length_nil]; omega
      · rw [List.filterMap_cons, hx] at q
        rw [List.append_assoc]; exact q
    · refine lcGo_fil e g zs _ (fun y hy => h y (List.mem_cons_of_mem _ hy)) (by omega) ?_
      rw [List.filterMap_cons, hx] at q
      exact q
/-- .. with a state: I what is true behind some items -/
theorem lcGo_inv {p : Pt} {tt : DT} {te : DE} {vs : List Nat} {Q : List D → En → Prop} (I : List D → En → Prop) : ∀ (items acc : List D) (ρ : En), acc.length + items.length ≤ sizeLine →
    (∀ d ∈ items, ∀ acc' ρ', acc'.length < acc.length + items.length → I acc' ρ' → ∀ Kt Kf, (∀ x ρ'', I (acc' ++ [x]) ρ'' → Kt x ρ'') → stp p tt te vs d ρ' Kt Kf) → I acc ρ → (∀ acc' ρ', acc'.length = acc.length + items.length → I acc' ρ' → Q acc' ρ') → lcGo p tt te vs items acc ρ Q
  | [], acc, ρ, _, _, i, q => q acc ρ rfl i
  | d :: ds, acc, ρ, hl, h, i, q => by
    rw [List.length_cons] at hl
    refine lcGo_cons (h d List.mem_cons_self acc ρ (by rw [List.length_cons]; omega) i _ _ fun x ρ' i' => ⟨by omega, ?_⟩)
    refine lcGo_inv I ds _ ρ' ?_ (fun y hy acc' ρ'' hl' => h y (List.mem_cons_of_mem _ hy) acc' ρ'' ?_) i' fun acc' ρ'' hl' i'' => q acc' ρ'' ?_ i''
    · rw [List.length_append, List.length_cons, List.length_nil]; omega
    · rw [List.length_append, List.length_cons, List.length_nil] at hl'; rw [List.length_cons]; omega
    · rw [hl', List.length_append, List.length_cons, List.length_cons, List.length_nil]; omega
theorem lcGo_ix {p : Pt} {tt : DT} {te : DE} {vs : List Nat} {Q : List D → En → Prop} (I : List D → En → Prop) : ∀ (items acc : List D) (ρ : En), acc.length + items.length ≤ sizeLine →
    (∀ (i : Nat) d, items[i]? = some d → ∀ acc' ρ', acc'.length = acc.length + i → I acc' ρ' → ∀ Kt Kf, (∀ x ρ'', I (acc' ++ [x]) ρ'' → Kt x ρ'') → stp p tt te vs d ρ' Kt Kf) → I acc ρ → (∀ acc' ρ', acc'.length = acc.length + items.length → I acc' ρ' → Q acc' ρ') → lcGo p tt te vs items acc ρ Q
  | [], acc, ρ, _, _, i, q => q acc ρ rfl i
  | d :: ds, acc, ρ, hl, h, i, q => by
    rw [List.length_cons] at hl
    refine lcGo_cons (h 0 d rfl acc ρ rfl i _ _ fun x ρ' i' => ⟨by omega, ?_⟩)
    refine lcGo_ix I ds _ ρ' ?_ (fun j y hy acc' ρ'' hl' => h (j + 1) y (by simpa using hy) acc' ρ'' ?_) i' fun acc' ρ'' hl' i'' => q acc' ρ'' ?_ i''
    · rw [List.length_append, List.length_cons, List.length_nil]; omega
    · rw [List.length_append, List.length_cons, List.length_nil] at hl'; omega
    · rw [hl', List.length_append, List.length_cons, List.length_cons, List.length_nil]; omega
/-- for: I what is true ahead of the items that are left -/
theorem forGo_ind {tg : Tg} {tb : DS} {D : DEnds} (I : List DL.D → En → Prop) (done : ∀ ρ, I [] ρ → D.nx ρ) (step : ∀ d ds ρ, I (d :: ds) ρ → ∀ N : En → Prop, (∀ ρ', I ds ρ' → N ρ') → tgGo tg (.val d) ρ (fun ρ1 => tb { D with nx := N, ct := N, bk := D.nx } ρ1) D.ex) :
    ∀ items ρ, I items ρ → forGo tg tb items D ρ
  | [], ρ, i => done ρ i
  | d :: ds, ρ, i => step d ds ρ i _ fun ρ' i' => forGo_ind I done step ds ρ' i'
/-! ### data of whole numbers -/
abbrev ti (xs : List Int) : D := .tup (xs.map D.int)
abbrev tt (xss : List (List Int)) : D := .tup (xss.map ti)
theorem zipD2_map {α β : Type} (f : α → D) (g : β → D) : ∀ (xs : List α) (ys : List β), zipD2 (xs.map f) (ys.map g) = (xs.zip ys).map fun p => D.tup [f p.1, g p.2]
  | [], _ => by simp [zipD2]
  | _ :: _, [] => by simp [zipD2]
  | x :: xs, y :: ys => by
    have := zipD2_map f g xs ys
    simp only [zipD2] at this
    simp [zipD2, this]
theorem zipD3_map {α β γ : Type} (f : α → D) (g : β → D) (h : γ → D) : ∀ (xs : List α) (ys : List β) (zs : List γ), zipD3 (xs.map f) (ys.map g) (zs.map h) = (xs.zip (ys.zip zs)).map fun p => D.tup [f p.1, g p.2.1, h p.2.2]
  | [], _, _ => by simp [zipD3]
  | _ :: _, [], _ => by simp [zipD3]
  | _ :: _, _ :: _, [] => by simp [zipD3]
  | x :: xs, y :: ys, z :: zs => by
    have := zipD3_map f g h xs ys zs
    simp [zipD3, this]
theorem enumD_map {α : Type} (f : α → D) (xs : List α) : enumD (xs.map f) = xs.zipIdx.map fun p => D.tup [.int (p.2 : Nat), f p.1] := by
  unfold enumD
  rw [List.zipIdx_map, List.map_map]
  rfl
theorem all_true {ds : List D} (h : ∀ d ∈ ds, d = .bl true) : gAll (.lst ds) = some (.val (.bl true)) := by
  have e : ds = (ds.map fun _ => true).map D.bl := by
    rw [List.map_map]
    conv => lhs; rw [← List.map_id ds]
    exact List.map_congr_left fun d hd => h d hd
  have : gAll (.lst ds) = (bls ds).map fun ns => Cell.val (.bl (ns.all id)) := rfl
  rw [this, e, bls_map]
  simp
theorem all_map_true {α : Type} (zs : List α) : gAll (.lst ([] ++ zs.map fun _ => D.bl true)) = some (.val (.bl true)) := all_true fun d hd => by
  rw [List.nil_append] at hd
  obtain ⟨z, _, e⟩ := List.mem_map.mp hd
  exact e.symm
theorem gAll_bls (bs : List Bool) : gAll (.lst (bs.map D.bl)) = some (.val (.bl (bs.all id))) := by
  have : gAll (.lst (bs.map D.bl)) = (bls (bs.map D.bl)).map fun ns => Cell.val (.bl (ns.all id)) := rfl
  rw [this, bls_map]
  rfl
theorem gSum_ints (ns : List Int) : gSum (.lst (ns.map D.int)) = some (.val (.int ns.sum)) := by
  have : gSum (.lst (ns.map D.int)) = (numsD (ns.map D.int)).map fun ms => Cell.val (.int ms.sum) := rfl
  rw [this, ints_map]
  rfl
theorem mulB_ok {i j : Int} {a b : Nat} (hi : i.natAbs < 2 ^ a) (hj : j.natAbs < 2 ^ b) (h : a + b ≤ 134217728) : CMulB i j = true := by
  unfold CMulB
  have h1 := PyProof.Rows.intBits_le hi
  have h2 := PyProof.Rows.intBits_le hj
  exact decide_eq_true (by omega)
theorem fMul_int {i j : Int} (h : CMulB i j = true) : fMul (.int i) (.int j) = some (.val (.int (i * j))) := by
  show (if CMulB i j = true then _ else _) = _
  rw [if_pos h]
theorem ixN_nat {n k : Nat} (h : k < n) : ixN n (k : Int) = some k := by
  unfold ixN
  rw [if_pos (by omega), if_pos (by omega), Int.toNat_natCast]
theorem atI_nat {α : Type} {xs : List α} {k : Nat} (h : k < xs.length) : atI xs (k : Int) = some xs[k] := by
  unfold atI
  rw [ixN_nat h]
  exact List.getElem?_eq_getElem h
/-! ### the pool of draws: [what is told, a stir, a count] -/
structure Pool (k : Nat) (ds : List D) : Prop where
  ex : ∃ a s n : Int, ds = [.int a, .int s, .int n] ∧ 0 ≤ a ∧ (0 ≤ s ∧ s < 2147483648) ∧ (0 ≤ n ∧ n ≤ k)
theorem Pool.mono {j k : Nat} {ds : List D} (p : Pool j ds) (h : j ≤ k) : Pool k ds := by
  obtain ⟨a, s, n, e, h1, h2, h3, h4⟩ := p.ex
  exact ⟨a, s, n, e, h1, h2, h3, by omega⟩
theorem abs_lt {i : Int} {k : Nat} (h0 : 0 ≤ i) (h : i < 2 ^ k) : i.natAbs < 2 ^ k := by
  have : (i.natAbs : Int) = i := by omega
  have h2 : (i.natAbs : Int) < ((2 ^ k : Nat) : Int) := by
    rw [this]
    simpa using h
  exact_mod_cast h2
theorem noPy {i j : Int} {k : Nat} (h : j.natAbs < 2 ^ k) (hk : k ≤ 9000) : Builtin.divisionGoesByPylong i j = false := by
  unfold Builtin.divisionGoesByPylong
  simp only
  have key : (if (j == 0) = true then 0 else j.natAbs.log2 / 30 + 1) ≤ 300 := by
    split
    · omega
    · rename_i hj
      have h0 : j.natAbs ≠ 0 := by
        have : j ≠ 0 := by simpa using hj
        omega
      have := (Nat.log2_lt h0).mpr h
      omega
  rw [show decide ((if (j == 0) = true then 0 else j.natAbs.log2 / 30 + 1) > 300) = false from decide_eq_false (by omega)]
  rfl
theorem divB_ok {i j : Int} {k : Nat} (h0 : j ≠ 0) (h : j.natAbs < 2 ^ k) (hk : k ≤ 9000) : CDivB i j = true := by
  unfold CDivB
  rw [noPy h hk, decide_eq_true h0]
  rfl
theorem fDiv_int {i j : Int} (h : CDivB i j = true) : fDiv (.int i) (.int j) = some (.val (.int (i.fdiv j))) := by
  show (if CDivB i j = true then _ else _) = _
  rw [if_pos h]
theorem fMod_int {i j : Int} (h : 0 < j) : fMod (.int i) (.int j) = some (.val (.int (i % j))) := by
  show (if decide (j ≠ 0) = true then some (Cell.val (.int (i.fmod j))) else none) = _
  rw [if_pos (decide_eq_true (by omega)), Int.fmod_eq_emod_of_nonneg i (by omega)]
theorem eqD_int (i j : Int) : eqD (.int i) (.int j) = decide (i = j) := by
  show PyData.eqv (.int i) (.int j) = _
  simp only [PyData.eqv]
  rw [Bool.eq_iff_iff]
  simp
theorem fEq_int (i j : Int) : fEq (.int i) (.int j) = some (.val (.bl (decide (i = j)))) := by
  rw [← eqD_int]
  exact if_pos ⟨rfl, rfl⟩
theorem fNe_int (i j : Int) : fNe (.int i) (.int j) = some (.val (.bl (!decide (i = j)))) := by
  rw [← eqD_int]
  exact if_pos ⟨rfl, rfl⟩
theorem fDivmod_int {i j : Int} (h : 0 < j) (h2 : Builtin.divisionGoesByPylong i j = false) : fDivmod [.int i, .int j] = some (.val (.tup [.int (i / j), .int (i % j)])) := if_pos ⟨h, h2⟩
theorem fAdd_tup {xs ys : List D} (h : xs.length + ys.length ≤ sizeLine) : fAdd (.tup xs) (.tup ys) = some (.val (.tup (xs ++ ys))) := if_pos h
theorem fAdd_lst {xs ys : List D} (h : xs.length + ys.length ≤ sizeLine) : fAdd (.lst xs) (.lst ys) = some (.own (xs ++ ys)) := if_pos h
theorem fIx_tup {xs : List D} {k : Nat} {d : D} (h : xs[k]? = some d) : fIx (.tup xs) (.int (k : Nat)) = some (.val d) := by
  have hk := (List.getElem?_eq_some_iff.mp h).1
  show (atI xs (k : Int)).map Cell.val = _
  rw [atI_nat hk]
  rw [List.getElem?_eq_getElem hk] at h
  cases h
  rfl
theorem fIx_lst {xs : List D} {k : Nat} {d : D} (h : xs[k]? = some d) : fIx (.lst xs) (.int (k : Nat)) = some (.val d) := fIx_tup h
theorem fIx_fix {xs : List D} {k : Nat} {d : D} (h : xs[k]? = some d) : fIx (.fix xs) (.int (k : Nat)) = some (.val d) := fIx_tup h
/-! comparisons whose answer is known -/
theorem fLe_t {a b : Int} (h : a ≤ b) : fLe (.int a) (.int b) = some (.val (.bl true)) := by
  show some (Cell.val (.bl (decide (a ≤ b)))) = _
  rw [decide_eq_true h]
theorem fLe_f {a b : Int} (h : ¬ a ≤ b) : fLe (.int a) (.int b) = some (.val (.bl false)) := by
  show some (Cell.val (.bl (decide (a ≤ b)))) = _
  rw [decide_eq_false h]
theorem fLt_t {a b : Int} (h : a < b) : fLt (.int a) (.int b) = some (.val (.bl true)) := by
  show some (Cell.val (.bl (decide (a < b)))) = _
  rw [decide_eq_true h]
theorem fLt_f {a b : Int} (h : ¬ a < b) : fLt (.int a) (.int b) = some (.val (.bl false)) := by
  show some (Cell.val (.bl (decide (a < b)))) = _
  rw [decide_eq_false h]
theorem fGe_t {a b : Int} (h : b ≤ a) : fGe (.int a) (.int b) = some (.val (.bl true)) := by
  show some (Cell.val (.bl (decide (b ≤ a)))) = _
  rw [decide_eq_true h]
theorem fGe_f {a b : Int} (h : ¬ b ≤ a) : fGe (.int a) (.int b) = some (.val (.bl false)) := by
  show some (Cell.val (.bl (decide (b ≤ a)))) = _
  rw [decide_eq_false h]
theorem fGt_t {a b : Int} (h : b < a) : fGt (.int a) (.int b) = some (.val (.bl true)) := by
  show some (Cell.val (.bl (decide (b < a)))) = _
  rw [decide_eq_true h]
theorem fGt_f {a b : Int} (h : ¬ b < a) : fGt (.int a) (.int b) = some (.val (.bl false)) := by
  show some (Cell.val (.bl (decide (b < a)))) = _
  rw [decide_eq_false h]
theorem fEq_t {a b : Int} (h : a = b) : fEq (.int a) (.int b) = some (.val (.bl true)) := by
  rw [fEq_int, decide_eq_true h]
theorem fEq_f {a b : Int} (h : a ≠ b) : fEq (.int a) (.int b) = some (.val (.bl false)) := by
  rw [fEq_int, decide_eq_false h]
theorem zipWith_zip {α β γ : Type} (f : α → β → γ) : ∀ (a : List α) (b : List β), List.zipWith f a b = (a.zip b).map fun p => f p.1 p.2
  | [], _ => by simp
  | _ :: _, [] => by simp
  | x :: a, y :: b => by simp [zipWith_zip f a b]
/-- for, over coded items: I by the place -/
theorem forGo_ix {α : Type} {tg : Tg} {tb : DS} {D : DEnds} (e : α → DL.D) (I : Nat → En → Prop) (zs : List α) : ∀ (i : Nat) ρ, i ≤ zs.length → (∀ ρ, I zs.length ρ → D.nx ρ) → (∀ (i : Nat) z ρ, zs[i]? = some z → I i ρ → ∀ N : En → Prop, (∀ ρ', I (i + 1) ρ' → N ρ') → tgGo tg (.val (e z)) ρ (fun ρ1 => tb { D with nx := N, ct := N, bk := D.nx } ρ1) D.ex) →
    I i ρ → forGo tg tb ((zs.drop i).map e) D ρ := by
  intro i ρ hi done step h
  refine forGo_ind (fun ds ρ => ∃ j, j ≤ zs.length ∧ ds = (zs.drop j).map e ∧ I j ρ) ?_ ?_ _ _ ⟨i, hi, rfl, h⟩
  · rintro ρ ⟨j, hj, ed, h⟩
    have : zs.length ≤ j := by
      have := congrArg List.length ed
      rw [List.length_map, List.length_drop, List.length_nil] at this
      omega
    have ej : j = zs.length := by omega
    subst ej
    exact done ρ h
  · rintro d ds ρ ⟨j, hj, ed, h⟩ N hN
    have hlt : j < zs.length := by
      have := congrArg List.length ed
      rw [List.length_map, List.length_drop, List.length_cons] at this
      omega
    rw [List.drop_eq_getElem_cons hlt, List.map_cons] at ed
    injection ed with e1 e2
    subst e1
    exact step j zs[j] ρ (List.getElem?_eq_getElem hlt) h N fun ρ' h' => hN ρ' ⟨j + 1, hlt, e2, h'⟩
theorem fIx_tup0 {xs : List D} {k : Nat} {d : D} (h : xs[k]? = some d) : fIx (.tup xs) (.int (0 + (k : Nat))) = some (.val d) := by
  rw [Int.zero_add]
  exact fIx_tup h
theorem fIx_lst0 {xs : List D} {k : Nat} {d : D} (h : xs[k]? = some d) : fIx (.lst xs) (.int (0 + (k : Nat))) = some (.val d) := fIx_tup0 h
/-- data of numbers, tuples, lists, not deeper than that -/
def Sm : Nat → D → Prop
  | 0, _ => False
  | _ + 1, .int _ => True
  | n + 1, .tup ds => ds.length < 1000000 ∧ ∀ d ∈ ds, Sm n d
  | n + 1, .lst ds => ds.length < 1000000 ∧ ∀ d ∈ ds, Sm n d
  | _ + 1, _ => False
theorem Sm.ti (n : Nat) {xs : List Int} (h : xs.length < 1000000) : Sm (n + 2) (ti xs) := by
  refine ⟨by rw [List.length_map]; exact h, fun d hd => ?_⟩
  obtain ⟨x, _, rfl⟩ := List.mem_map.mp hd
  trivial
theorem Sm.tt (n : Nat) {xs : List (List Int)} (h : xs.length < 1000000) (h2 : ∀ x ∈ xs, x.length < 1000000) : Sm (n + 3) (tt xs) := by
  refine ⟨by rw [List.length_map]; exact h, fun d hd => ?_⟩
  obtain ⟨x, hx, rfl⟩ := List.mem_map.mp hd
  exact Sm.ti n (h2 x hx)
theorem big_line {n : Nat} (h : n < 1000000) : n ≤ sizeLine := by
  rw [sizeLine_eq]
  omega
/-! rows of whole numbers by == -/
theorem toPyL_ints : ∀ xs : List Int, toPyL (xs.map D.int) = xs.map PyData.int
  | [] => rfl
  | x :: xs => by
    rw [List.map_cons, List.map_cons, ← toPyL_ints xs]
    rfl
theorem lay_ints : ∀ xs : List Int, PyData.canLayAll0 (xs.map PyData.int) = true
  | [] => rfl
  | x :: xs => by
    show (PyData.canLay0 (.int x) && PyData.canLayAll0 (xs.map PyData.int)) = true
    rw [lay_ints xs]
    rfl
theorem eqvAll_ints : ∀ xs ys : List Int, PyData.eqvAll (xs.map PyData.int) (ys.map PyData.int) = decide (xs = ys)
  | [], [] => rfl
  | [], _ :: _ => rfl
  | _ :: _, [] => rfl
  | x :: xs, y :: ys => by
    show (PyData.eqv (.int x) (.int y) && PyData.eqvAll (xs.map PyData.int) (ys.map PyData.int)) = _
    rw [eqvAll_ints xs ys, show PyData.eqv (.int x) (.int y) = decide (x = y) from eqD_int x y]
    rw [Bool.eq_iff_iff]
    simp
theorem depth_ints : ∀ xs : List Int, PyData.depthAll (xs.map PyData.int) = 0
  | [] => rfl
  | x :: xs => by
    show max (PyData.depth (.int x)) (PyData.depthAll (xs.map PyData.int)) = 0
    rw [depth_ints xs]
    rfl
theorem eqOk_ti (xs : List Int) : eqOk (ti xs) = true := by
  show (PyData.canLayAll0 (toPyL (xs.map D.int)) && decide (PyData.depthAll (toPyL (xs.map D.int)) + 1 ≤ 64)) = true
  rw [toPyL_ints, lay_ints, depth_ints]
  rfl
theorem eqD_ti (xs ys : List Int) : eqD (ti xs) (ti ys) = decide (xs = ys) := by
  show PyData.eqvAll (toPyL (xs.map D.int)) (toPyL (ys.map D.int)) = _
  rw [toPyL_ints, toPyL_ints, eqvAll_ints]
theorem fNe_ti (xs ys : List Int) : fNe (ti xs) (ti ys) = some (.val (.bl (!decide (xs = ys)))) := by
  rw [← eqD_ti]
  exact if_pos ⟨eqOk_ti xs, eqOk_ti ys⟩
theorem fEq_ti (xs ys : List Int) : fEq (ti xs) (ti ys) = some (.val (.bl (decide (xs = ys)))) := by
  rw [← eqD_ti]
  exact if_pos ⟨eqOk_ti xs, eqOk_ti ys⟩
end DL
namespace Lk03
open PySem PySem.Spec PyProof.Rows L2 DL
theorem fm_lo (z : Int) : 0 ≤ z.fmod 2147483563 := by rw [Int.fmod_eq_emod_of_nonneg z (by decide)]; exact Int.emod_nonneg z (by decide)
theorem fm_hi (z : Int) : z.fmod 2147483563 < 2147483563 := by rw [Int.fmod_eq_emod_of_nonneg z (by decide)]; exact Int.emod_lt_of_pos z (by decide)
theorem s_below {k : Nat} {many : Int} {ds : List D} (hp : Pool k ds) (hk : k < 2 ^ 60) (hm : 1 ≤ many) (hm2 : many.natAbs < 2 ^ 9000) {Qd : Cell → Outs → Prop} {Ed : Str → List (Str × D) → Outs → Prop}
    (h : ∀ r (o : Outs), 0 ≤ r → r < many → Pool (k + 1) (o 0) → Qd (.val (.int r)) o) : w_law_below_iv [.own ds, .val (.int many)] Qd Ed := by
  obtain ⟨a, s, n, rfl, ha, ⟨hs0, hs1⟩, hn0, hn1⟩ := hp.ex
  unfold w_law_below_iv
  conv => whnf
  repeat (refine ⟨_, rfl, ?_⟩; conv => whnf)
  by_cases h0 : 0 < a
  · rw [decide_eq_true h0]
    conv => whnf
    repeat (refine ⟨_, rfl, ?_⟩; conv => whnf)
    refine ⟨_, fDivmod_int (by omega) (noPy hm2 (by omega)), ?_⟩
    conv => whnf
    refine ⟨rfl, ?_⟩
    conv => whnf
    repeat (refine ⟨_, rfl, ?_⟩; conv => whnf)
    exact h _ _ (Int.emod_nonneg _ (by omega)) (Int.emod_lt_of_pos _ (by omega)) ⟨_, _, _, rfl, Int.ediv_nonneg ha (by omega), ⟨hs0, hs1⟩, hn0, by omega⟩
  · rw [decide_eq_false h0]
    conv => whnf
    repeat (refine ⟨_, rfl, ?_⟩; conv => whnf)
    have e1 : fMul (.int s) (.int 33301) = some (.val (.int (s * 33301))) := fMul_int (mulB_ok (a := 31) (b := 16) (abs_lt hs0 (by omega)) (by decide) (by decide))
    refine ⟨_, e1, ?_⟩
    conv => whnf
    repeat (refine ⟨_, rfl, ?_⟩; conv => whnf)
    have e2 : fMul (.int 4283) (.int (n + 1)) = some (.val (.int (4283 * (n + 1)))) := fMul_int (mulB_ok (a := 16) (b := 62) (by decide) (abs_lt (by omega) (by omega)) (by decide))
    refine ⟨_, e2, ?_⟩
    conv => whnf
    repeat (refine ⟨_, rfl, ?_⟩; conv => whnf)
    generalize s * 33301 + 4283 * (n + 1) + 71 = z
    have h1 := fm_lo z
    have h2 := fm_hi z
    obtain ⟨t, et⟩ : ∃ t, t = z.fmod 2147483563 := ⟨_, rfl⟩
    rw [← et] at h1 h2
    have h3 : 0 ≤ t.fmod 3989 + 14369 := by
      rw [Int.fmod_eq_emod_of_nonneg t (by decide)]
      have := Int.emod_nonneg t (b := 3989) (by decide)
      omega
    have h4 : t.fmod 3989 + 14369 < 2 ^ 16 := by
      rw [Int.fmod_eq_emod_of_nonneg t (by decide)]
      have := Int.emod_lt_of_pos t (b := 3989) (by decide)
      omega
    have e3 : fMul (.int t) (.int (t.fmod 3989 + 14369)) = some (.val (.int (t * (t.fmod 3989 + 14369)))) := fMul_int (mulB_ok (a := 31) (b := 16) (abs_lt h1 (by omega)) (abs_lt h3 h4) (by decide))
    rw [et] at e3
    refine ⟨_, e3, ?_⟩
    conv => whnf
    repeat (refine ⟨_, rfl, ?_⟩; conv => whnf)
    rw [← et]
    generalize t * (t.fmod 3989 + 14369) + (n + 1) = z2
    have h5 := fm_lo z2
    have h6 := fm_hi z2
    refine ⟨_, fDiv_int (i := z2.fmod 2147483563) (j := 359) (divB_ok (k := 9) (by decide) (by decide) (by decide)), ?_⟩
    conv => whnf
    repeat (refine ⟨_, rfl, ?_⟩; conv => whnf)
    refine ⟨_, fMod_int (i := (z2.fmod 2147483563).fdiv 359) (j := many) (by omega), ?_⟩
    exact h _ _ (Int.emod_nonneg _ (by omega)) (Int.emod_lt_of_pos _ (by omega)) ⟨a, z2.fmod 2147483563, n + 1, rfl, ha, ⟨h5, by omega⟩, by omega, by omega⟩
theorem many_pow {m : Int} (h0 : 0 ≤ m) (h : m < 2 ^ 60) : m.natAbs < 2 ^ 9000 := Nat.lt_of_lt_of_le (abs_lt h0 h) (Nat.pow_le_pow_right (by decide) (by decide))
/-- some[below(len(some))] -/
theorem s_one {k : Nat} {ds ths : List D} (hp : Pool k ds) (hk : k < 2 ^ 60) (hne : 1 ≤ ths.length) (hl : ths.length < 2 ^ 30) {Qd : Cell → Outs → Prop} {Ed : Str → List (Str × D) → Outs → Prop}
    (h : ∀ d (o : Outs), d ∈ ths → Pool (k + 1) (o 0) → Qd (.val d) o) : w_law_one_iv [.own ds, .val (.tup ths)] Qd Ed := by
  unfold w_law_one_iv m_law_one_iv
  conv => whnf
  repeat (refine ⟨_, rfl, ?_⟩; conv => whnf)
  refine s_below hp hk (by omega) (many_pow (by omega) (by omega)) fun r o h0 h1 hp' => ?_
  conv => whnf
  obtain ⟨j, rfl⟩ := Int.eq_ofNat_of_zero_le h0
  have hj : j < ths.length := by omega
  refine ⟨_, fIx_tup (List.getElem?_eq_getElem hj), ?_⟩
  exact h _ _ (List.getElem_mem hj) hp'
theorem s_one2 {k : Nat} {ds ths : List D} (hp : Pool k ds) (hk : k < 2 ^ 60) (hne : 1 ≤ ths.length) (hl : ths.length < 2 ^ 30) {Qd : Cell → Outs → Prop} {Ed : Str → List (Str × D) → Outs → Prop}
    (h : ∀ d (o : Outs), d ∈ ths → Pool (k + 1) (o 0) → o 1 = ths → Qd (.val d) o) : w_law_one_ii [.own ds, .own ths] Qd Ed := by
  unfold w_law_one_ii m_law_one_ii
  conv => whnf
  repeat (refine ⟨_, rfl, ?_⟩; conv => whnf)
  refine s_below hp hk (by omega) (many_pow (by omega) (by omega)) fun r o h0 h1 hp' => ?_
  conv => whnf
  obtain ⟨j, rfl⟩ := Int.eq_ofNat_of_zero_le h0
  have hj : j < ths.length := by omega
  refine ⟨_, fIx_lst (List.getElem?_eq_getElem hj), ?_⟩
  exact h _ _ (List.getElem_mem hj) hp' rfl
theorem fn_lo (z : Int) : 0 ≤ z.fmod 2147483647 := by rw [Int.fmod_eq_emod_of_nonneg z (by decide)]; exact Int.emod_nonneg z (by decide)
theorem fn_hi (z : Int) : z.fmod 2147483647 < 2147483647 := by rw [Int.fmod_eq_emod_of_nonneg z (by decide)]; exact Int.emod_lt_of_pos z (by decide)
theorem s_pool1 {c0 c1 c2 : Option Cell} {s i : Int} (hs : 0 ≤ s ∧ s < 2147483648) {Dd : DEnds} (hD : ∀ t : Int, 0 ≤ t ∧ t < 2147483648 → Dd.nx [c0, c1, c2, some (.val (.int t)), some (.val (.int i))]) :
    m_law_pool_1 Dd [c0, c1, c2, some (.val (.int s)), some (.val (.int i))] := by
  unfold m_law_pool_1
  conv => whnf
  have e1 : fMul (.int s) (.int 45227) = some (.val (.int (s * 45227))) := fMul_int (mulB_ok (a := 31) (b := 16) (abs_lt hs.1 (by omega)) (by decide) (by decide))
  refine ⟨_, e1, ?_⟩
  conv => whnf
  repeat (refine ⟨_, rfl, ?_⟩; conv => whnf)
  refine hD _ ⟨fn_lo _, ?_⟩
  have := fn_hi (s * 45227 + i.fmod 2147483587 + 57)
  exact Int.lt_trans this (by decide)
theorem s_pool5 (ns : List Int) (lap : Nat) (hlap : lap < 64) (hl : ns.length ≤ 63) (own : Int) {Dd : DEnds} (hD : ∀ ds ρ, Pool 0 ds → Dd.rt (.own ds) ρ) :
    m_law_pool_5 Dd [some (.val (.fix (ns.map D.int))), some (.val (.int (lap : Nat))), some (.val (.int own)), none, none] := by
  have em : fMul (.int 9351) (.int (lap : Nat)) = some (.val (.int (9351 * (lap : Nat)))) := fMul_int (mulB_ok (a := 16) (b := 62) (by decide) (abs_lt (by omega) (by omega)) (by decide))
  unfold m_law_pool_5
  conv => whnf
  refine ⟨_, em, ?_⟩
  conv => whnf
  repeat (refine ⟨_, rfl, ?_⟩; conv => whnf)
  have hin : ∀ d ∈ DL.cutD (ns.map D.int) none (some 12), ∃ i, d = D.int i := fun d hd => by
    have := List.mem_of_mem_drop (List.mem_of_mem_take hd)
    obtain ⟨i, _, e⟩ := List.mem_map.mp this
    exact ⟨i, e.symm⟩
  unfold m_law_pool_4
  conv => whnf
  repeat (refine ⟨_, rfl, ?_⟩; conv => whnf)
  generalize DL.cutD (ns.map D.int) none (some 12) = items at *
  refine forGo_ind (fun ds ρ => (∃ s c4, ρ = [some (.val (.fix (ns.map D.int))), some (.val (.int (lap : Nat))), some (.val (.int own)), some (.val (.int s)), c4] ∧ (0 ≤ s ∧ s < 2147483648)) ∧ ∀ d ∈ ds, ∃ i, d = D.int i) ?_ ?_ items _ ⟨⟨_, _, rfl, by omega, by omega⟩, hin⟩
  · rintro ρ ⟨⟨s, c4, rfl, h0, h1⟩, _⟩
    unfold m_law_pool_3
    conv => whnf
    have e1 : fMul (.int s) (.int 71) = some (.val (.int (s * 71))) := fMul_int (mulB_ok (a := 31) (b := 16) (abs_lt h0 (by omega)) (by decide) (by decide))
    refine ⟨_, e1, ?_⟩
    conv => whnf
    repeat (refine ⟨_, rfl, ?_⟩; conv => whnf)
    have h3 : 0 ≤ own.fmod 2147483587 := by rw [Int.fmod_eq_emod_of_nonneg own (by decide)]; exact Int.emod_nonneg own (by decide)
    have h4 : own.fmod 2147483587 < 2 ^ 31 := by
      rw [Int.fmod_eq_emod_of_nonneg own (by decide)]
      have := Int.emod_lt_of_pos own (b := 2147483587) (by decide)
      omega
    have e2 : fMul (.int (own.fmod 2147483587)) (.int 28107) = some (.val (.int (own.fmod 2147483587 * 28107))) := fMul_int (mulB_ok (a := 31) (b := 16) (abs_lt h3 h4) (by decide) (by decide))
    refine ⟨_, e2, ?_⟩
    conv => whnf
    repeat (refine ⟨_, rfl, ?_⟩; conv => whnf)
    generalize s * 71 + own.fmod 2147483587 * 28107 + 11 = z
    have h5 := fn_lo z
    have h6 := fn_hi z
    obtain ⟨t, et⟩ : ∃ t, t = z.fmod 2147483647 := ⟨_, rfl⟩
    rw [← et] at h5 h6
    have fin : ∀ a : Int, 0 ≤ a → ∀ ρ, Dd.rt (.own [.int a, .int (z.fmod 2147483647), .int 0]) ρ := fun a ha ρ => hD _ ρ ⟨a, t, 0, by rw [et], ha, ⟨h5, by omega⟩, by omega, by omega⟩
    show m_law_pool_2 Dd [some (.val (.fix (ns.map D.int))), some (.val (.int (lap : Nat))), some (.val (.int own)), some (.val (.int (z.fmod 2147483647))), c4]
    unfold m_law_pool_2
    conv => whnf
    repeat (refine ⟨_, rfl, ?_⟩; conv => whnf)
    by_cases n0 : own < 0
    · rw [decide_eq_true n0]
      conv => whnf
      repeat (refine ⟨_, rfl, ?_⟩; conv => whnf)
      refine ⟨small64 (by simp), ?_⟩
      exact fin (if own < 0 then -own else own) (by rw [if_pos n0]; omega) _
    · rw [decide_eq_false n0]
      conv => whnf
      repeat (refine ⟨_, rfl, ?_⟩; conv => whnf)
      by_cases n1 : 10 ^ 15 ≤ own
      · rw [show decide ((10 : Int) ^ Int.toNat 15 ≤ own) = true from decide_eq_true n1]
        conv => whnf
        repeat (refine ⟨_, rfl, ?_⟩; conv => whnf)
        refine ⟨small64 (by simp), ?_⟩
        exact fin (if own < 0 then -own else own) (by rw [if_neg n0]; omega) _
      · rw [show decide ((10 : Int) ^ Int.toNat 15 ≤ own) = false from decide_eq_false n1]
        conv => whnf
        repeat (refine ⟨_, rfl, ?_⟩; conv => whnf)
        refine ⟨small64 (by simp), ?_⟩
        exact fin 0 (by omega) _
  · rintro d ds ρ ⟨⟨s, c4, rfl, h0, h1⟩, hi⟩ N hN
    obtain ⟨i, rfl⟩ := hi d List.mem_cons_self
    conv => whnf
    refine s_pool1 ⟨h0, h1⟩ fun t ht => hN _ ⟨⟨t, _, rfl, ht⟩, fun d hd => hi d (List.mem_cons_of_mem _ hd)⟩
theorem s_pool (ns : List Int) (lap : Nat) (hlap : lap < 64) (hl : ns.length ≤ 63) {Qd : Cell → Outs → Prop} {Ed : Str → List (Str × D) → Outs → Prop}
    (h : ∀ ds o, Pool 0 ds → Qd (.own ds) o) : w_law_pool [.val (.fix (ns.map D.int)), .val (.int (lap : Nat))] Qd Ed := by
  unfold w_law_pool m_law_pool
  conv => whnf
  repeat (refine ⟨_, rfl, ?_⟩; conv => whnf)
  by_cases h0 : lap < ns.length
  · have e0 : decide (((lap : Nat) : Int) < (((ns.map D.int).length : Nat) : Int)) = true := decide_eq_true (by rw [List.length_map]; omega)
    rw [e0]
    conv => whnf
    refine ⟨_, fIx_fix (d := .int ns[lap]) (by rw [List.getElem?_map, List.getElem?_eq_getElem h0]; rfl), ?_⟩
    conv => whnf
    repeat (refine ⟨_, rfl, ?_⟩; conv => whnf)
    refine s_pool5 ns lap hlap hl ns[lap] ?_
    exact fun ds ρ hp => h ds _ hp
  · have e0 : decide (((lap : Nat) : Int) < (((ns.map D.int).length : Nat) : Int)) = false := decide_eq_false (by rw [List.length_map]; omega)
    rw [e0]
    conv => whnf
    have em : fMul (.int 5869) (.int (lap : Nat)) = some (.val (.int (5869 * (lap : Nat)))) := fMul_int (mulB_ok (a := 16) (b := 62) (by decide) (abs_lt (by omega) (by omega)) (by decide))
    refine ⟨_, em, ?_⟩
    conv => whnf
    repeat (refine ⟨_, rfl, ?_⟩; conv => whnf)
    refine s_pool5 ns lap hlap hl _ ?_
    exact fun ds ρ hp => h ds _ hp
end Lk03
namespace Det
open Lean.Grind
variable {R : Type} [CommRing R]
def sumTo : Nat → (Nat → R) → R
  | 0, _ => 0
  | n + 1, f => sumTo n f + f n
theorem sum_congr {n : Nat} {f g : Nat → R} (h : ∀ i, i < n → f i = g i) : sumTo n f = sumTo n g := by
  induction n with
  | zero => rfl
  | succ n ih =>
    unfold sumTo
    rw [ih fun i hi => h i (by omega), h n (by omega)]
theorem sum_zero {n : Nat} {f : Nat → R} (h : ∀ i, i < n → f i = 0) : sumTo n f = 0 := by
  induction n with
  | zero => rfl
  | succ n ih =>
    unfold sumTo
    rw [ih fun i hi => h i (by omega), h n (by omega)]
    grind
theorem sum_lin (a b : R) (n : Nat) (f g : Nat → R) : sumTo n (fun i => a * f i + b * g i) = a * sumTo n f + b * sumTo n g := by
  induction n with
  | zero => unfold sumTo; grind
  | succ n ih =>
    unfold sumTo
    rw [ih]
    grind
theorem sum_mul (a : R) (n : Nat) (f : Nat → R) : sumTo n (fun i => a * f i) = a * sumTo n f := by
  induction n with
  | zero => unfold sumTo; grind
  | succ n ih =>
    unfold sumTo
    rw [ih]
    grind
theorem sum_swap (n m : Nat) (f : Nat → Nat → R) : sumTo n (fun i => sumTo m fun j => f i j) = sumTo m (fun j => sumTo n fun i => f i j) := by
  induction n with
  | zero => exact (sum_zero (fun _ _ => rfl)).symm
  | succ n ih =>
    show sumTo n _ + sumTo m _ = sumTo m _
    rw [ih]
    have := sum_lin (1 : R) 1 m (fun j => sumTo n fun i => f i j) (fun j => f n j)
    have e : (fun j => sumTo (n + 1) fun i => f i j) = fun j => 1 * sumTo n (fun i => f i j) + 1 * f n j := by
      funext j
      show sumTo n _ + f n j = _
      grind
    rw [e, this]
    grind
/-- one term taken out -/
theorem sum_one {n c : Nat} (hc : c < n) (f : Nat → R) (h : ∀ i, i < n → i ≠ c → f i = 0) : sumTo n f = f c := by
  induction n with
  | zero => omega
  | succ n ih =>
    show sumTo n f + f n = f c
    by_cases hn : n = c
    · subst hn
      rw [sum_zero fun i hi => h i (by omega) (by omega)]
      grind
    · rw [ih (by omega) fun i hi hne => h i (by omega) hne, h n (by omega) hn]
      grind
theorem sum_two {n c d : Nat} (hc : c < n) (hd : d < n) (hcd : c < d) (f : Nat → R) (h : ∀ i, i < n → i ≠ c → i ≠ d → f i = 0) : sumTo n f = f c + f d := by
  induction n with
  | zero => omega
  | succ n ih =>
    show sumTo n f + f n = _
    by_cases hn : n = d
    · subst hn
      rw [sum_one hcd f fun i hi hne => h i (by omega) hne (by omega)]
    · rw [ih (by omega) (by omega) fun i hi h1 h2 => h i (by omega) h1 h2, h n (by omega) (by omega) hn]
      grind
def sk (j k : Nat) : Nat := if k < j then k else k + 1
def mn (M : Nat → Nat → R) (j : Nat) : Nat → Nat → R := fun i k => M (i + 1) (sk j k)
def sg (j : Nat) : R := if j % 2 = 0 then 1 else -1
/-- Laplace along the first row -/
def det : Nat → (Nat → Nat → R) → R
  | 0, _ => 1
  | n + 1, M => sumTo (n + 1) fun j => sg j * (M 0 j * det n (mn M j))
theorem det_congr : ∀ {n : Nat} {M N : Nat → Nat → R}, (∀ i j, i < n → j < n → M i j = N i j) → det n M = det n N
  | 0, _, _, _ => rfl
  | n + 1, M, N, h => by
    unfold det
    refine sum_congr fun j hj => ?_
    rw [h 0 j (by omega) hj, det_congr (n := n) (M := mn M j) (N := mn N j) fun i k hi hk => ?_]
    exact h (i + 1) (sk j k) (by omega) (by unfold sk; split <;> omega)
def setC (M : Nat → Nat → R) (c : Nat) (u : Nat → R) : Nat → Nat → R := fun i k => if k = c then u i else M i k
/-- the place of column c behind the column j that is left out -/
def un (j c : Nat) : Nat := if c < j then c else c - 1
theorem mn_setC_ne {M : Nat → Nat → R} {c j : Nat} (u : Nat → R) (h : j ≠ c) : mn (setC M c u) j = setC (mn M j) (un j c) fun i => u (i + 1) := by
  funext i k
  unfold mn setC sk un
  by_cases h1 : k < j <;> by_cases h2 : c < j <;> simp only [h1, h2, if_true, if_false]
  · have e1 : ¬ k = c := by omega
    have e2 : ¬ k = c - 1 := by omega
    simp [e1, e2]
  · have e1 : ¬ k + 1 = c := by omega
    have e2 : ¬ k = c := by omega
    simp [e1, e2]
  · by_cases h3 : k + 1 = c
    · have : k = c - 1 := by omega
      rw [if_pos h3, if_pos this]
    · have : ¬ k = c - 1 := by omega
      simp [h3, this]
theorem mn_setC_eq {M : Nat → Nat → R} {c : Nat} (u : Nat → R) : mn (setC M c u) c = mn M c := by
  funext i k
  unfold mn setC sk
  split
  · have : ¬ k = c := by omega
    simp [this]
  · have : ¬ k + 1 = c := by omega
    simp [this]
theorem det_lin (a b : R) : ∀ {n c : Nat} (M : Nat → Nat → R) (u v : Nat → R), c < n → det n (setC M c fun i => a * u i + b * v i) = a * det n (setC M c u) + b * det n (setC M c v)
  | 0, _, _, _, _, h => by omega
  | n + 1, c, M, u, v, h => by
    unfold det
    rw [← sum_lin]
    refine sum_congr fun j hj => ?_
    by_cases hjc : j = c
    · subst hjc
      rw [mn_setC_eq, mn_setC_eq, mn_setC_eq]
      simp only [setC, if_true]
      grind
    · have hc2 : un j c < n := by unfold un; split <;> omega
      rw [mn_setC_ne _ hjc, mn_setC_ne _ hjc, mn_setC_ne _ hjc, det_lin a b (mn M j) _ _ hc2]
      simp only [setC, if_neg hjc]
      grind
/-- two like columns beside one another -/
theorem det_like : ∀ {n c : Nat} (M : Nat → Nat → R), c + 1 < n → (∀ i, i < n → M i c = M i (c + 1)) → det n M = 0
  | 0, _, _, h, _ => by omega
  | n + 1, c, M, h, e => by
    unfold det
    have hsame : det n (mn M c) = det n (mn M (c + 1)) := by
      refine det_congr fun i k hi hk => ?_
      unfold mn sk
      by_cases h1 : k < c
      · rw [if_pos h1, if_pos (by omega)]
      · by_cases h2 : k = c
        · subst h2
          rw [if_neg (by omega), if_pos (by omega)]
          exact (e (i + 1) (by omega)).symm
        · rw [if_neg h1, if_neg (by omega)]
    rw [sum_two (c := c) (d := c + 1) (by omega) (by omega) (by omega) _ fun j hj h1 h2 => ?_]
    · rw [e 0 (by omega), hsame]
      have : (sg (c + 1) : R) = - sg c := by
        unfold sg
        by_cases hc : c % 2 = 0
        · rw [if_pos hc, if_neg (by omega)]
        · rw [if_neg hc, if_pos (by omega)]
          grind
      rw [this]
      grind
    · have hn : un j c + 1 < n := by unfold un; split <;> omega
      rw [det_like (mn M j) hn fun i hi => ?_]
      · grind
      · have h3 := e (i + 1) (by omega)
        unfold mn sk un
        by_cases h4 : c < j
        · rw [if_pos h4, if_pos h4, if_pos (by omega)]
          exact h3
        · rw [if_neg h4, if_neg (by omega), if_neg (by omega)]
          rw [show c - 1 + 1 = c by omega]
          exact h3
theorem sum_first (n : Nat) (f : Nat → R) : sumTo (n + 1) f = f 0 + sumTo n fun i => f (i + 1) := by
  induction n with
  | zero =>
    unfold sumTo sumTo
    grind
  | succ n ih =>
    show sumTo (n + 1) f + f (n + 1) = f 0 + (sumTo n _ + f (n + 1))
    rw [ih]
    grind
theorem sg_succ (j : Nat) : (sg (j + 1) : R) = - sg j := by
  unfold sg
  by_cases hc : j % 2 = 0
  · rw [if_pos hc, if_neg (by omega)]
  · rw [if_neg hc, if_pos (by omega)]
    grind
theorem sk_zero (k : Nat) : sk 0 k = k + 1 := by unfold sk; rw [if_neg (by omega)]
theorem sk_s0 (j : Nat) : sk (j + 1) 0 = 0 := by unfold sk; rw [if_pos (by omega)]
theorem sk_ss (j k : Nat) : sk (j + 1) (k + 1) = sk j k + 1 := by unfold sk; split <;> split <;> omega
/-- .. along the first column -/
theorem det_col : ∀ (n : Nat) (M : Nat → Nat → R), det (n + 1) M = sumTo (n + 1) fun i => sg i * (M i 0 * det n (fun a b => M (sk i a) (b + 1)))
  | 0, M => by
    unfold det sumTo sumTo det
    rfl
  | n + 1, M => by
    show sumTo (n + 2) _ = _
    rw [sum_first, sum_first (n := n + 1) (f := fun i => sg i * (M i 0 * det (n + 1) (fun a b => M (sk i a) (b + 1))))]
    have e0 : mn M 0 = fun a b => M (sk 0 a) (b + 1) := by
      funext a b
      unfold mn
      rw [sk_zero, sk_zero]
    rw [e0]
    congr 1
    have l : (fun j => sg (j + 1) * (M 0 (j + 1) * det (n + 1) (mn M (j + 1)))) = fun j => sumTo (n + 1) fun i => sg (j + 1) * (M 0 (j + 1) * (sg i * (M (i + 1) 0 * det n (fun a b => M (sk i a + 1) (sk j b + 1))))) := by
      funext j
      rw [det_col n (mn M (j + 1))]
      have : ∀ i, mn M (j + 1) i 0 = M (i + 1) 0 := fun i => by unfold mn; rw [sk_s0]
      have e2 : ∀ i, (fun a b => mn M (j + 1) (sk i a) (b + 1)) = fun a b => M (sk i a + 1) (sk j b + 1) := fun i => by
        funext a b
        unfold mn
        rw [sk_ss]
      rw [← sum_mul, ← sum_mul]
      refine sum_congr fun i hi => ?_
      rw [this, e2]
    have r : (fun i => sg (i + 1) * (M (i + 1) 0 * det (n + 1) (fun a b => M (sk (i + 1) a) (b + 1)))) = fun i => sumTo (n + 1) fun j => sg (j + 1) * (M 0 (j + 1) * (sg i * (M (i + 1) 0 * det n (fun a b => M (sk i a + 1) (sk j b + 1))))) := by
      funext i
      show sg (i + 1) * (M (i + 1) 0 * sumTo (n + 1) _) = _
      rw [← sum_mul, ← sum_mul]
      refine sum_congr fun j hj => ?_
      have e2 : (mn (fun a b => M (sk (i + 1) a) (b + 1)) j) = fun a b => M (sk i a + 1) (sk j b + 1) := by
        funext a b
        show M (sk (i + 1) (a + 1)) (sk j b + 1) = _
        rw [sk_ss]
      rw [e2]
      show sg (i + 1) * (M (i + 1) 0 * (sg j * (M (sk (i + 1) 0) (j + 1) * _))) = _
      rw [sk_s0, sg_succ, sg_succ]
      grind
    rw [l, r]
    exact sum_swap _ _ _
/-- turned over -/
theorem det_turn : ∀ (n : Nat) (M : Nat → Nat → R), det n (fun i j => M j i) = det n M
  | 0, _ => rfl
  | n + 1, M => by
    rw [det_col n M]
    show sumTo (n + 1) _ = _
    refine sum_congr fun j hj => ?_
    have e : mn (fun i j => M j i) j = fun a b => (fun a b => M (sk j a) (b + 1)) b a := rfl
    rw [e, det_turn n (fun a b => M (sk j a) (b + 1))]
/-! ### what is linear and alternating in columns -/
structure Alt (n : Nat) (F : (Nat → Nat → R) → R) : Prop where
  congr : ∀ M N, (∀ i j, i < n → j < n → M i j = N i j) → F M = F N
  lin : ∀ (a b : R) M c u v, c < n → F (setC M c fun i => a * u i + b * v i) = a * F (setC M c u) + b * F (setC M c v)
  like : ∀ M c, c + 1 < n → (∀ i, i < n → M i c = M i (c + 1)) → F M = 0
theorem det_alt (n : Nat) : Alt n (det (R := R) n) := ⟨fun _ _ h => det_congr h, fun a b M _ u v h => det_lin a b M u v h, fun M _ h e => det_like M h e⟩
theorem setC_setC {M : Nat → Nat → R} {c : Nat} {u v : Nat → R} : setC (setC M c u) c v = setC M c v := by
  funext i k
  unfold setC
  by_cases h : k = c
  · rw [if_pos h, if_pos h]
  · rw [if_neg h, if_neg h, if_neg h]
theorem setC_comm {M : Nat → Nat → R} {c d : Nat} {u v : Nat → R} (h : c ≠ d) : setC (setC M c u) d v = setC (setC M d v) c u := by
  funext i k
  unfold setC
  by_cases h1 : k = c <;> by_cases h2 : k = d
  · omega
  · rw [if_neg h2, if_pos h1, if_pos h1]
  · rw [if_pos h2, if_neg h1, if_pos h2]
  · rw [if_neg h2, if_neg h1, if_neg h1, if_neg h2]
theorem setC_self {M : Nat → Nat → R} {c : Nat} : setC M c (fun i => M i c) = M := by
  funext i k
  unfold setC
  by_cases h : k = c
  · rw [if_pos h, h]
  · rw [if_neg h]
section
variable {n : Nat} {F : (Nat → Nat → R) → R}
/-- a sum at two columns that are told like -/
theorem Alt.two (A : Alt n F) {c d : Nat} (hc : c < n) (hd : d < n) (hcd : c ≠ d) (z : ∀ M w, F (setC (setC M c w) d w) = 0) (M : Nat → Nat → R) (u v : Nat → R) :
    F (setC (setC M c v) d u) = - F (setC (setC M c u) d v) := by
  have h := z M fun i => 1 * u i + 1 * v i
  rw [A.lin 1 1 _ d u v hd] at h
  rw [setC_comm (u := fun i => 1 * u i + 1 * v i) (v := u) hcd, setC_comm (u := fun i => 1 * u i + 1 * v i) (v := v) hcd, A.lin 1 1 _ c u v hc, A.lin 1 1 _ c u v hc] at h
  rw [← setC_comm (u := u) (v := u) hcd, ← setC_comm (u := v) (v := u) hcd, ← setC_comm (u := u) (v := v) hcd, ← setC_comm (u := v) (v := v) hcd, z M u, z M v] at h
  grind
theorem Alt.adj (A : Alt n F) {c : Nat} (hc : c + 1 < n) (M : Nat → Nat → R) (w : Nat → R) : F (setC (setC M c w) (c + 1) w) = 0 :=
  A.like _ c hc fun i _ => by
    unfold setC
    rw [if_neg (by omega), if_pos rfl, if_pos rfl]
theorem Alt.eq (A : Alt n F) : ∀ (k c : Nat), c + k + 1 < n → ∀ (M : Nat → Nat → R) (w : Nat → R), F (setC (setC M c w) (c + k + 1) w) = 0
  | 0, c, h, M, w => A.adj h M w
  | k + 1, c, h, M, w => by
    have sw := A.two (c := c + k + 1) (d := c + (k + 1) + 1) (by omega) (by omega) (by omega) (fun M w => A.adj (c := c + k + 1) (by omega) M w)
    have e : setC (setC M c w) (c + (k + 1) + 1) w = setC (setC (setC M c w) (c + k + 1) fun i => M i (c + k + 1)) (c + (k + 1) + 1) w := by
      have e2 : (setC (setC M c w) (c + k + 1) fun i => M i (c + k + 1)) = setC M c w := by
        funext i j
        unfold setC
        by_cases hj : j = c + k + 1
        · rw [if_pos hj, if_neg (by omega), hj]
        · rw [if_neg hj]
      rw [e2]
    rw [e, sw (setC M c w) w fun i => M i (c + k + 1)]
    have := A.eq k c (by omega) (setC M (c + (k + 1) + 1) fun i => M i (c + k + 1)) w
    rw [setC_comm (c := c + (k + 1) + 1) (d := c) (by omega), setC_comm (c := c + (k + 1) + 1) (d := c + k + 1) (by omega)] at this
    rw [this]
    grind
/-- two like columns, wherever they stand -/
theorem Alt.same (A : Alt n F) {c d : Nat} (hc : c < n) (hd : d < n) (hcd : c ≠ d) (M : Nat → Nat → R) (w : Nat → R) : F (setC (setC M c w) d w) = 0 := by
  rcases Nat.lt_or_gt_of_ne hcd with h | h
  · have := A.eq (d - c - 1) c (by omega) M w
    rwa [show c + (d - c - 1) + 1 = d by omega] at this
  · rw [setC_comm hcd]
    have := A.eq (c - d - 1) d (by omega) M w
    rwa [show d + (c - d - 1) + 1 = c by omega] at this
theorem Alt.swap (A : Alt n F) {c d : Nat} (hc : c < n) (hd : d < n) (hcd : c ≠ d) (M : Nat → Nat → R) (u v : Nat → R) : F (setC (setC M c v) d u) = - F (setC (setC M c u) d v) :=
  A.two hc hd hcd (fun M w => A.same hc hd hcd M w) M u v
/-- some times another column more -/
theorem Alt.more (A : Alt n F) {c d : Nat} (hc : c < n) (hd : d < n) (hcd : c ≠ d) (a : R) (M : Nat → Nat → R) : F (setC M c fun i => M i c + a * M i d) = F M := by
  have e : (fun i => M i c + a * M i d) = fun i => 1 * M i c + a * M i d := by
    funext i
    grind
  rw [e, A.lin 1 a M c (fun i => M i c) (fun i => M i d) hc, setC_self]
  have z := A.same hc hd hcd M fun i => M i d
  have e2 : setC (setC M c fun i => M i d) d (fun i => M i d) = setC M c fun i => M i d := by
    rw [setC_comm hcd, setC_self]
  rw [e2] at z
  rw [z]
  grind
end
/-! ### there is but one of them -/
def dl (i j : Nat) : R := if i = j then 1 else 0
def idm : Nat → Nat → R := fun i j => dl i j
section
variable {n : Nat} {F : (Nat → Nat → R) → R}
theorem Alt.zero (A : Alt n F) {c : Nat} (hc : c < n) (M : Nat → Nat → R) : F (setC M c fun _ => 0) = 0 := by
  have h := A.lin 0 0 M c (fun _ => 0) (fun _ => 0) hc
  have e : (fun _ : Nat => (0 : R) * 0 + 0 * 0) = fun _ => 0 := by
    funext i
    grind
  rw [e] at h
  rw [h]
  grind
theorem Alt.sum (A : Alt n F) {c : Nat} (hc : c < n) (M : Nat → Nat → R) (a : Nat → R) (u : Nat → Nat → R) : ∀ m, F (setC M c fun r => sumTo m fun i => a i * u i r) = sumTo m fun i => a i * F (setC M c (u i))
  | 0 => A.zero hc M
  | m + 1 => by
    show F (setC M c fun r => (sumTo m fun i => a i * u i r) + a m * u m r) = (sumTo m fun i => a i * F (setC M c (u i))) + a m * F (setC M c (u m))
    have e : (fun r => (sumTo m fun i => a i * u i r) + a m * u m r) = fun r => 1 * (sumTo m fun i => a i * u i r) + a m * u m r := by
      funext r
      grind
    rw [e, A.lin 1 (a m) M c (fun r => sumTo m fun i => a i * u i r) (u m) hc, A.sum hc M a u m]
    grind
end
theorem sk_un {i r : Nat} (h : r ≠ i) : sk i (un i r) = r := by
  unfold sk un
  by_cases h1 : r < i
  · rw [if_pos h1, if_pos h1]
  · rw [if_neg h1, if_neg (by omega)]
    omega
theorem un_sk (i r : Nat) : un i (sk i r) = r := by
  unfold sk un
  by_cases h1 : r < i
  · rw [if_pos h1, if_pos h1]
  · rw [if_neg h1, if_neg (by omega)]
    omega
theorem sk_ne (i r : Nat) : sk i r ≠ i := by unfold sk; split <;> omega
/-- a grid with the i-th unit ahead -/
def ah (i : Nat) (N : Nat → Nat → R) : Nat → Nat → R := fun r c => if c = 0 then dl r i else if r = i then 0 else N (un i r) (c - 1)
theorem ah_setC {i c : Nat} {N : Nat → Nat → R} {w : Nat → R} : ah i (setC N c w) = setC (ah i N) (c + 1) fun r => if r = i then 0 else w (un i r) := by
  funext r k
  simp only [ah, setC]
  by_cases h0 : k = 0
  · rw [if_pos h0, if_neg (by omega), if_pos h0]
  · by_cases h1 : k = c + 1
    · rw [if_neg h0, if_pos h1]
      by_cases h2 : r = i
      · rw [if_pos h2, if_pos h2]
      · rw [if_neg h2, if_neg h2, if_pos (by omega)]
    · rw [if_neg h0, if_neg h1, if_neg h0]
      by_cases h2 : r = i
      · rw [if_pos h2, if_pos h2]
      · rw [if_neg h2, if_neg h2, if_neg (by omega)]
theorem ah_alt {n i : Nat} {F : (Nat → Nat → R) → R} (A : Alt (n + 1) F) (hi : i < n + 1) : Alt n fun N => F (ah i N) where
  congr := fun M N h => A.congr _ _ fun r c hr hc => by
    unfold ah
    by_cases h0 : c = 0
    · rw [if_pos h0, if_pos h0]
    · by_cases h2 : r = i
      · rw [if_neg h0, if_neg h0, if_pos h2, if_pos h2]
      · rw [if_neg h0, if_neg h0, if_neg h2, if_neg h2]
        exact h _ _ (by unfold un; split <;> omega) (by omega)
  lin := fun a b M c u v hc => by
    show F (ah i _) = a * F (ah i _) + b * F (ah i _)
    rw [ah_setC, ah_setC, ah_setC, ← A.lin a b (ah i M) (c + 1) _ _ (by omega)]
    congr 2
    funext r
    by_cases h2 : r = i
    · rw [if_pos h2, if_pos h2, if_pos h2]
      grind
    · rw [if_neg h2, if_neg h2, if_neg h2]
  like := fun M c hc h => A.like _ (c + 1) (by omega) fun r hr => by
    unfold ah
    rw [if_neg (by omega : ¬ c + 1 = 0), if_neg (by omega : ¬ c + 1 + 1 = 0)]
    by_cases h2 : r = i
    · rw [if_pos h2, if_pos h2]
    · rw [if_neg h2, if_neg h2]
      exact h _ (by unfold un; split <;> omega)
/-- units, the i-th ahead -/
def pu (i : Nat) : Nat → Nat → R := fun r c => if c = 0 then dl r i else dl r (sk i (c - 1))
theorem ah_idm (i : Nat) : ah i (idm (R := R)) = pu i := by
  funext r c
  simp only [ah, pu, idm, dl]
  by_cases h0 : c = 0
  · rw [if_pos h0, if_pos h0]
  · rw [if_neg h0, if_neg h0]
    by_cases h2 : r = i
    · rw [if_pos h2, if_neg (by rw [h2]; exact (sk_ne i _).symm)]
    · rw [if_neg h2]
      by_cases h3 : un i r = c - 1
      · rw [if_pos h3, if_pos (by rw [← h3, sk_un h2])]
      · rw [if_neg h3, if_neg fun h => h3 (by rw [h, un_sk])]
theorem pu_sg {n : Nat} {F : (Nat → Nat → R) → R} (A : Alt (n + 1) F) : ∀ i, i < n + 1 → F (pu i) = sg i * F idm
  | 0, _ => by
    have e : pu (R := R) 0 = idm := by
      funext r c
      unfold pu idm
      by_cases h0 : c = 0
      · rw [if_pos h0, h0]
      · rw [if_neg h0, sk_zero, show c - 1 + 1 = c by omega]
    rw [e]
    unfold sg
    rw [if_pos rfl]
    grind
  | i + 1, h => by
    have e1 : pu (R := R) (i + 1) = setC (setC (pu i) 0 fun r => dl r (i + 1)) (i + 1) fun r => dl r i := by
      funext r c
      simp only [setC, pu]
      by_cases h0 : c = 0
      · rw [if_pos h0, if_neg (by omega), if_pos h0]
      · by_cases h1 : c = i + 1
        · rw [if_neg h0, if_pos h1]
          have : sk (i + 1) (c - 1) = i := by unfold sk; rw [if_pos (by omega)]; omega
          rw [this]
        · rw [if_neg h0, if_neg h1, if_neg h0, if_neg h0]
          have : sk (i + 1) (c - 1) = sk i (c - 1) := by unfold sk; split <;> split <;> omega
          rw [this]
    have e2 : setC (setC (pu (R := R) i) 0 fun r => dl r i) (i + 1) (fun r => dl r (i + 1)) = pu i := by
      funext r c
      simp only [setC, pu]
      by_cases h0 : c = 0
      · rw [if_neg (by omega), if_pos h0, if_pos h0]
      · by_cases h1 : c = i + 1
        · rw [if_pos h1, if_neg h0]
          have : sk i (c - 1) = i + 1 := by unfold sk; rw [if_neg (by omega)]; omega
          rw [this]
        · rw [if_neg h1, if_neg h0]
    rw [e1, A.swap (by omega) h (by omega) (pu i) (fun r => dl r i) (fun r => dl r (i + 1)), e2, pu_sg A i (by omega), sg_succ]
    grind
/-- cleared with the unit ahead -/
def clr (B : Nat → Nat → R) (i m : Nat) : Nat → Nat → R := fun r c => if 1 ≤ c ∧ c ≤ m then B r c + (- B i c) * B r 0 else B r c
theorem clr_F {n : Nat} {F : (Nat → Nat → R) → R} (A : Alt (n + 1) F) (B : Nat → Nat → R) (i : Nat) : ∀ m, m ≤ n → F (clr B i m) = F B
  | 0, _ => by
    have : clr B i 0 = B := by
      funext r c
      unfold clr
      rw [if_neg (by omega)]
    rw [this]
  | m + 1, h => by
    have e : clr B i (m + 1) = setC (clr B i m) (m + 1) fun r => clr B i m r (m + 1) + (- B i (m + 1)) * clr B i m r 0 := by
      funext r c
      simp only [setC, clr]
      by_cases h1 : c = m + 1
      · rw [if_pos h1, if_pos (by omega), if_neg (by omega), if_neg (by omega), h1]
      · rw [if_neg h1]
        by_cases h2 : 1 ≤ c ∧ c ≤ m
        · rw [if_pos h2, if_pos (by omega)]
        · rw [if_neg h2, if_neg (by omega)]
    rw [e, A.more (by omega) (by omega) (by omega), clr_F A B i m (by omega)]
theorem uniq : ∀ (n : Nat) (F : (Nat → Nat → R) → R), Alt n F → ∀ M, F M = F idm * det n M
  | 0, F, A, M => by
    rw [A.congr M idm fun i j h => by omega]
    unfold det
    grind
  | n + 1, F, A, M => by
    have h1 : F M = sumTo (n + 1) fun i => M i 0 * F (setC M 0 fun r => dl r i) := by
      rw [← A.sum (by omega) M (fun i => M i 0) (fun i r => dl r i) (n + 1)]
      refine A.congr _ _ fun r c hr hc => ?_
      unfold setC
      by_cases h0 : c = 0
      · rw [if_pos h0]
        show M r c = sumTo (n + 1) fun i => M i 0 * dl r i
        rw [sum_one hr (fun i => M i 0 * dl r i) fun i hi hne => ?_, h0]
        · unfold dl
          rw [if_pos rfl]
          grind
        · unfold dl
          rw [if_neg (by omega)]
          grind
      · rw [if_neg h0]
    rw [h1, det_col n M, ← sum_mul]
    refine sum_congr fun i hi => ?_
    have h2 : F (setC M 0 fun r => dl r i) = F (ah i fun a b => M (sk i a) (b + 1)) := by
      rw [← clr_F A (setC M 0 fun r => dl r i) i n (Nat.le_refl _)]
      refine A.congr _ _ fun r c hr hc => ?_
      simp only [clr, ah, setC]
      by_cases h0 : c = 0
      · rw [if_neg (by omega), if_pos h0, if_pos h0]
      · rw [if_pos (by omega), if_neg h0, if_neg h0, if_neg h0, if_pos trivial]
        by_cases h3 : r = i
        · rw [if_pos h3, h3]
          unfold dl
          rw [if_pos rfl]
          grind
        · rw [if_neg h3, sk_un h3, show c - 1 + 1 = c by omega]
          unfold dl
          rw [if_neg h3]
          grind
    have h3 := uniq n (fun N => F (ah i N)) (ah_alt A hi) fun a b => M (sk i a) (b + 1)
    have h4 : F (ah i idm) = sg i * F idm := by rw [ah_idm]; exact pu_sg A i hi
    rw [h2, h3, h4]
    grind
def mul (n : Nat) (A B : Nat → Nat → R) : Nat → Nat → R := fun i j => sumTo n fun k => A i k * B k j
theorem det_mul (n : Nat) (A B : Nat → Nat → R) : det n (mul n A B) = det n A * det n B := by
  have alt : Alt n fun B => det n (mul n A B) := by
    refine ⟨fun M N h => det_congr fun i j hi hj => sum_congr fun k hk => by rw [h k j hk hj], fun a b M c u v hc => ?_, fun M c hc h => det_like _ hc fun i hi => sum_congr fun k hk => by rw [h k hk]⟩
    have e : ∀ w : Nat → R, mul n A (setC M c w) = setC (mul n A M) c fun i => sumTo n fun k => A i k * w k := fun w => by
      funext i j
      simp only [mul, setC]
      by_cases h : j = c
      · rw [if_pos h]
        exact sum_congr fun k _ => by rw [if_pos h]
      · rw [if_neg h]
        exact sum_congr fun k _ => by rw [if_neg h]
    show det n (mul n A _) = a * det n (mul n A _) + b * det n (mul n A _)
    rw [e, e, e, ← det_lin a b _ _ _ hc]
    congr 2
    funext i
    rw [← sum_lin]
    exact sum_congr fun k _ => by grind
  have h := uniq n _ alt B
  have e : det n (mul n A idm) = det n A := det_congr fun i j hi hj => by
    simp only [mul, idm]
    rw [sum_one hj _ fun k hk hne => ?_]
    · unfold dl
      rw [if_pos rfl]
      grind
    · unfold dl
      rw [if_neg hne]
      grind
  have h2 : det n (mul n A B) = det n (mul n A idm) * det n B := h
  rw [h2, e]
end Det
namespace Det
open Lean.Grind
variable {R : Type} [CommRing R]
def setR (M : Nat → Nat → R) (r : Nat) (u : Nat → R) : Nat → Nat → R := fun i k => if i = r then u k else M i k
def tr (M : Nat → Nat → R) : Nat → Nat → R := fun i j => M j i
theorem det_tr (n : Nat) (M : Nat → Nat → R) : det n (tr M) = det n M := det_turn n M
theorem tr_setR {M : Nat → Nat → R} {r : Nat} {u : Nat → R} : tr (setR M r u) = setC (tr M) r u := rfl
/-- some times another row more -/
theorem det_rmore {n c d : Nat} (hc : c < n) (hd : d < n) (hcd : c ≠ d) (a : R) (M : Nat → Nat → R) : det n (setR M c fun k => M c k + a * M d k) = det n M := by
  rw [← det_tr, tr_setR, ← det_tr n M]
  exact (det_alt n).more hc hd hcd a (tr M)
theorem det_rzero {n c : Nat} (hc : c < n) {M : Nat → Nat → R} (h : ∀ k, k < n → M c k = 0) : det n M = 0 := by
  have e : det n M = det n (setR M c fun _ => 0) := det_congr fun i j hi hj => by
    unfold setR
    by_cases h1 : i = c
    · rw [if_pos h1, h1, h j hj]
    · rw [if_neg h1]
  rw [e, ← det_tr, tr_setR]
  exact (det_alt n).zero hc (tr M)
theorem det_rlin {n c : Nat} (hc : c < n) (a b : R) (M : Nat → Nat → R) (u v : Nat → R) : det n (setR M c fun k => a * u k + b * v k) = a * det n (setR M c u) + b * det n (setR M c v) := by
  rw [← det_tr, tr_setR, ← det_tr n (setR M c u), ← det_tr n (setR M c v), tr_setR, tr_setR]
  exact (det_alt n).lin a b (tr M) c u v hc
theorem det_rswap {n c d : Nat} (hc : c < n) (hd : d < n) (hcd : c ≠ d) (M : Nat → Nat → R) : det n (setR (setR M c (M d)) d (M c)) = - det n M := by
  have h := (det_alt (R := R) n).swap hc hd hcd (tr M) (M c) (M d)
  have e : setC (setC (tr M) c (M c)) d (M d) = tr M := by
    funext i k
    simp only [setC, tr]
    by_cases h1 : k = d
    · rw [if_pos h1, h1]
    · rw [if_neg h1]
      by_cases h2 : k = c
      · rw [if_pos h2, h2]
      · rw [if_neg h2]
  rw [e, det_tr] at h
  rw [← det_tr, tr_setR, tr_setR]
  exact h
/-- rows above, so often each, added to a row -/
theorem det_rsum {n c : Nat} (hc : c < n) (lam : Nat → R) (M : Nat → Nat → R) : ∀ m, m ≤ c → det n (setR M c fun k => M c k + sumTo m fun l => lam l * M l k) = det n M
  | 0, _ => by
    have e : (setR M c fun k => M c k + sumTo 0 fun l => lam l * M l k) = M := by
      funext i k
      simp only [setR]
      by_cases h : i = c
      · rw [if_pos h, h]
        unfold sumTo
        grind
      · rw [if_neg h]
    rw [e]
  | m + 1, h => by
    have ih := det_rsum hc lam M m (by omega)
    have e : (setR M c fun k => M c k + sumTo (m + 1) fun l => lam l * M l k) = setR (setR M c fun k => M c k + sumTo m fun l => lam l * M l k) c fun k => (setR M c fun k => M c k + sumTo m fun l => lam l * M l k) c k + lam m * (setR M c fun k => M c k + sumTo m fun l => lam l * M l k) m k := by
      funext i k
      simp only [setR]
      by_cases h1 : i = c
      · rw [if_pos h1, if_pos h1, if_pos trivial, if_neg (by omega)]
        show _ + (sumTo m _ + _) = _
        grind
      · rw [if_neg h1, if_neg h1, if_neg h1]
    rw [e, det_rmore hc (by omega) (by omega), ih]
/-- the last row has a number at the end alone -/
theorem det_last : ∀ (n : Nat) (M : Nat → Nat → R), (∀ j, j < n → M n j = 0) → det (n + 1) M = M n n * det n M
  | 0, M, _ => by
    show (0 : R) + (if 0 % 2 = 0 then (1 : R) else -1) * (M 0 0 * 1) = M 0 0 * 1
    rw [if_pos rfl]
    grind
  | n + 1, M, h => by
    show sumTo (n + 1) (fun j => sg j * (M 0 j * det (n + 1) (mn M j))) + sg (n + 1) * (M 0 (n + 1) * det (n + 1) (mn M (n + 1))) = _
    have hz : det (n + 1) (mn M (n + 1)) = 0 := det_rzero (c := n) (by omega) fun k hk => by
      unfold mn sk
      rw [if_pos (by omega)]
      exact h k hk
    rw [hz]
    have e : sumTo (n + 1) (fun j => sg j * (M 0 j * det (n + 1) (mn M j))) = sumTo (n + 1) fun j => M (n + 1) (n + 1) * (sg j * (M 0 j * det n (mn M j))) := sum_congr fun j hj => by
      rw [det_last n (mn M j) fun k hk => ?_]
      · have : mn M j n n = M (n + 1) (n + 1) := by
          unfold mn sk
          rw [if_neg (by omega)]
        rw [this]
        grind
      · unfold mn
        exact h _ (by unfold sk; split <;> omega)
    rw [e, sum_mul]
    show _ = M (n + 1) (n + 1) * sumTo (n + 1) _
    grind
/-- noughts in a corner that is too wide -/
theorem det_corner : ∀ (n k : Nat) (M : Nat → Nat → R), k < n → (∀ i j, k ≤ i → i < n → j ≤ k → M i j = 0) → det n M = 0
  | 0, _, _, h, _ => by omega
  | n + 1, 0, M, _, h => by
    rw [← det_tr]
    exact det_rzero (c := 0) (by omega) fun k hk => h k 0 (by omega) hk (by omega)
  | n + 1, k + 1, M, hk, h => by
    show sumTo (n + 1) _ = 0
    refine sum_zero fun j hj => ?_
    rw [det_corner n k (mn M j) (by omega) fun i c hi hin hc => ?_]
    · grind
    · unfold mn
      exact h _ _ (by omega) (by omega) (by unfold sk; split <;> omega)
/-! ### the steps of the program, over the fractions -/
def bord {S : Type} (A : Nat → Nat → S) (k i j : Nat) : Nat → Nat → S := fun r c => A (if r = k then i else r) (if c = k then j else c)
theorem bord_val {n k i j : Nat} {A T : Nat → Nat → Rat} {m : Rat} (lam : Nat → Rat) (hT : ∀ c, c < n → T i c = m * (A i c + sumTo k fun l => lam l * A l c)) (hz : ∀ c, c < k → T i c = 0) (hm : m ≠ 0) (hd : det k A = m) (hj : j < n) (hk : k ≤ n) : det (k + 1) (bord A k i j) = T i j := by
  have e0 := det_rsum (n := k + 1) (c := k) (by omega) lam (bord A k i j) k (Nat.le_refl _)
  rw [← e0, det_last k _ fun c hc => ?_]
  · have e1 : det k (setR (bord A k i j) k fun c => bord A k i j k c + sumTo k fun l => lam l * bord A k i j l c) = det k A := det_congr fun r c hr hc => by
      simp only [setR, bord]
      rw [if_neg (by omega), if_neg (by omega), if_neg (by omega)]
    rw [e1, hd, hT j hj]
    have e2 : (setR (bord A k i j) k fun c => bord A k i j k c + sumTo k fun l => lam l * bord A k i j l c) k k = A i j + sumTo k fun l => lam l * A l j := by
      simp only [setR, bord]
      rw [if_pos trivial, if_pos trivial]
      congr 1
      exact sum_congr fun l hl => by rw [if_neg (by omega), if_pos trivial]
    rw [e2]
    grind
  · have h1 := hz c hc
    rw [hT c (by omega)] at h1
    have e2 : (setR (bord A k i j) k fun c => bord A k i j k c + sumTo k fun l => lam l * bord A k i j l c) k c = A i c + sumTo k fun l => lam l * A l c := by
      simp only [setR, bord]
      rw [if_pos trivial, if_pos trivial, if_neg (by omega)]
      congr 1
      exact sum_congr fun l hl => by rw [if_neg (by omega)]
    rw [e2]
    grind
/-- the state ahead of step k -/
structure Bs (n k : Nat) (A T : Nat → Nat → Rat) (m : Rat) : Prop where
  z : ∀ i c, k ≤ i → i < n → c < k → T i c = 0
  f : ∀ i, k ≤ i → i < n → ∃ lam : Nat → Rat, ∀ c, c < n → T i c = m * (A i c + sumTo k fun l => lam l * A l c)
  m0 : m ≠ 0
  d : det k A = m
theorem Bs.start (n : Nat) (A : Nat → Nat → Rat) : Bs n 0 A A 1 := by
  refine ⟨fun i c _ _ h => by omega, fun i _ _ => ⟨fun _ => 0, fun c _ => ?_⟩, by grind, rfl⟩
  unfold sumTo
  grind
theorem Bs.val {n k i j : Nat} {A T : Nat → Nat → Rat} {m : Rat} (h : Bs n k A T m) (hi : k ≤ i) (hin : i < n) (hj : j < n) : det (k + 1) (bord A k i j) = T i j := by
  obtain ⟨lam, hl⟩ := h.f i hi hin
  exact bord_val lam hl (fun c hc => h.z i c hi hin hc) h.m0 h.d hj (by omega)
theorem Bs.step {n k : Nat} {A T T' : Nat → Nat → Rat} {m : Rat} (h : Bs n k A T m) (hk : k < n) (hp : T k k ≠ 0) (hT : ∀ i c, k < i → i < n → c < n → T' i c * m = T k k * T i c - T i k * T k c) : Bs n (k + 1) A T' (T k k) := by
  obtain ⟨lk, hlk⟩ := h.f k (Nat.le_refl _) hk
  have hm := h.m0
  refine ⟨fun i c hi hin hc => ?_, fun i hi hin => ?_, hp, ?_⟩
  · have e := hT i c (by omega) hin (by omega)
    have : T k k * T i c - T i k * T k c = 0 := by
      by_cases hck : c = k
      · rw [hck]
        grind
      · rw [h.z i c (by omega) hin (by omega), h.z k c (by omega) hk (by omega)]
        grind
    rw [this] at e
    grind
  · obtain ⟨li, hli⟩ := h.f i (by omega) hin
    refine ⟨fun l => if l = k then - (T i k / T k k) else li l + (- (T i k / T k k)) * lk l, fun c hc => ?_⟩
    have e := hT i c (by omega) hin hc
    have e3 : (sumTo (k + 1) fun l => (if l = k then - (T i k / T k k) else li l + (- (T i k / T k k)) * lk l) * A l c) = (1 * sumTo k (fun l => li l * A l c) + (- (T i k / T k k)) * sumTo k fun l => lk l * A l c) + (- (T i k / T k k)) * A k c := by
      show sumTo k _ + (if k = k then - (T i k / T k k) else li k + (- (T i k / T k k)) * lk k) * A k c = _
      rw [if_pos rfl, ← sum_lin]
      congr 1
      refine sum_congr fun l hl => ?_
      rw [if_neg (by omega)]
      grind
    rw [e3]
    have h1 := hli c hc
    have h2 := hlk c hc
    generalize sumTo k (fun l => li l * A l c) = X at *
    generalize sumTo k (fun l => lk l * A l c) = Y at *
    have h3 : T i k / T k k * T k k = T i k := by grind
    generalize T i k / T k k = q at *
    have h4 : T' i c * m = (T k k * (A i c + X) - T i k * (A k c + Y)) * m := by
      rw [e, h1, h2]
      grind
    have h5 : T' i c = T k k * (A i c + X) - T i k * (A k c + Y) := by grind
    rw [h5]
    grind
  · rw [← h.val (Nat.le_refl _) hk hk]
    refine det_congr fun r c hr hc => ?_
    unfold bord
    by_cases h1 : r = k <;> by_cases h2 : c = k <;> simp [h1, h2]
end Det
namespace Det
abbrev ct (A : Nat → Nat → Int) : Nat → Nat → Rat := fun i j => (A i j : Rat)
theorem sum_ct (n : Nat) (f : Nat → Int) : sumTo n (fun i => ((f i : Int) : Rat)) = ((sumTo n f : Int) : Rat) := by
  induction n with
  | zero => rfl
  | succ n ih =>
    show sumTo n _ + _ = ((sumTo n f + f n : Int) : Rat)
    rw [ih, Rat.intCast_add]
theorem sg_ct (j : Nat) : (sg j : Rat) = ((sg j : Int) : Rat) := by
  unfold sg
  split <;> rfl
theorem det_ct : ∀ (n : Nat) (A : Nat → Nat → Int), det n (ct A) = ((det n A : Int) : Rat)
  | 0, _ => rfl
  | n + 1, A => by
    show sumTo (n + 1) _ = ((sumTo (n + 1) _ : Int) : Rat)
    rw [← sum_ct]
    refine sum_congr fun j hj => ?_
    have e : mn (ct A) j = ct (mn A j) := rfl
    rw [e, det_ct n (mn A j), sg_ct, Rat.intCast_mul, Rat.intCast_mul]
/-- rows exchanged -/
def sw {S : Type} (a b : Nat) (M : Nat → Nat → S) : Nat → Nat → S := fun i => M (if i = a then b else if i = b then a else i)
theorem Bs.sw {n k p : Nat} {A T : Nat → Nat → Rat} {m : Rat} (h : Bs n k A T m) (hk : k < n) (hp : k ≤ p) (hpn : p < n) : Bs n k (Det.sw k p A) (Det.sw k p T) m := by
  have lo : ∀ l, l < k → (if l = k then p else if l = p then k else l) = l := fun l hl => by rw [if_neg (by omega), if_neg (by omega)]
  have hi2 : ∀ i, k ≤ i → i < n → k ≤ (if i = k then p else if i = p then k else i) ∧ (if i = k then p else if i = p then k else i) < n := fun i h1 h2 => by split <;> (try split) <;> omega
  refine ⟨fun i c hi hin hc => h.z _ c (hi2 i hi hin).1 (hi2 i hi hin).2 hc, fun i hi hin => ?_, h.m0, ?_⟩
  · obtain ⟨lam, hl⟩ := h.f _ (hi2 i hi hin).1 (hi2 i hi hin).2
    refine ⟨lam, fun c hc => ?_⟩
    have e : (sumTo k fun l => lam l * Det.sw k p A l c) = sumTo k fun l => lam l * A l c := sum_congr fun l hl => by
      show lam l * A (if l = k then p else if l = p then k else l) c = _
      rw [lo l hl]
    rw [e]
    exact hl c hc
  · rw [← h.d]
    refine det_congr fun r c hr hc => ?_
    show A (if r = k then p else if r = p then k else r) c = A r c
    rw [lo r hr]
theorem sw_det {n a b : Nat} (ha : a < n) (hb : b < n) (hab : a ≠ b) (M : Nat → Nat → Int) : det n (Det.sw a b M) = - det n M := by
  rw [← det_rswap ha hb hab M]
  refine det_congr fun i j hi hj => ?_
  show M (if i = a then b else if i = b then a else i) j = _
  simp only [setR]
  by_cases h2 : i = a
  · subst h2
    simp [hab]
  · by_cases h1 : i = b
    · subst h1
      simp [h2]
    · simp [h1, h2]
/-- the new table -/
def nx (T : Nat → Nat → Int) (k : Nat) (m : Int) : Nat → Nat → Int := fun i c => if i ≤ k then T i c else (T k k * T i c - T i k * T k c).fdiv m
theorem Bs.int {n k : Nat} {A T : Nat → Nat → Int} {m : Int} (h : Bs n k (ct A) (ct T) (m : Rat)) (hk : k < n) (hp : T k k ≠ 0) : Bs n (k + 1) (ct A) (ct (nx T k m)) ((T k k : Int) : Rat) := by
  have hm : m ≠ 0 := fun e => h.m0 (by rw [e]; rfl)
  have hmr : (m : Rat) ≠ 0 := h.m0
  have hpr : ct T k k ≠ 0 := fun e => hp (by
    have : ((T k k : Int) : Rat) = ((0 : Int) : Rat) := e
    exact Rat.intCast_inj.mp this)
  let T' : Nat → Nat → Rat := fun i c => (ct T k k * ct T i c - ct T i k * ct T k c) / (m : Rat)
  have hs := h.step (T' := T') hk hpr fun i c _ _ _ => by
    show (ct T k k * ct T i c - ct T i k * ct T k c) / (m : Rat) * (m : Rat) = _
    grind
  refine h.step hk hpr fun i c hi hin hc => ?_
  have v := hs.val (i := i) (j := c) (by omega) hin hc
  have e1 : bord (ct A) (k + 1) i c = ct (bord A (k + 1) i c) := rfl
  rw [e1, det_ct] at v
  have e2 : T k k * T i c - T i k * T k c = det (k + 1 + 1) (bord A (k + 1) i c) * m := by
    have : ((T k k * T i c - T i k * T k c : Int) : Rat) = ((det (k + 1 + 1) (bord A (k + 1) i c) * m : Int) : Rat) := by
      rw [Rat.intCast_sub, Rat.intCast_mul, Rat.intCast_mul, Rat.intCast_mul, v]
      show _ = (ct T k k * ct T i c - ct T i k * ct T k c) / (m : Rat) * (m : Rat)
      grind
    exact Rat.intCast_inj.mp this
  show ((nx T k m i c : Int) : Rat) * (m : Rat) = ct T k k * ct T i c - ct T i k * ct T k c
  unfold nx
  rw [if_neg (by omega), e2, Int.mul_fdiv_cancel _ hm, ← Rat.intCast_mul, ← e2, Rat.intCast_sub, Rat.intCast_mul, Rat.intCast_mul]
/-- no line found -/
theorem Bs.none {n k : Nat} {A T : Nat → Nat → Rat} {m : Rat} (h : Bs n k A T m) (hk : k < n) (hz : ∀ i, k ≤ i → i < n → T i k = 0) : det n A = 0 := by
  have go : ∀ p, k + p ≤ n → det n A = 0 ∨ det n (fun i c => if k ≤ i ∧ i < k + p then T i c else A i c) ≠ 0 := by
    intro p
    induction p with
    | zero =>
      intro _
      by_cases h0 : det n A = 0
      · exact .inl h0
      · refine .inr fun hc => h0 ?_
        rw [← hc]
        refine det_congr fun i j hi hj => ?_
        rw [if_neg (by omega)]
    | succ p ih =>
      intro hp
      rcases ih (by omega) with q | q
      · exact .inl q
      · refine .inr fun hc => q ?_
        obtain ⟨lam, hl⟩ := h.f (k + p) (by omega) (by omega)
        have hr := det_rsum (n := n) (c := k + p) (by omega) lam (fun i c => if k ≤ i ∧ i < k + p then T i c else A i c) k (by omega)
        have e : det n (fun i c => if k ≤ i ∧ i < k + (p + 1) then T i c else A i c) = m * det n (setR (fun i c => if k ≤ i ∧ i < k + p then T i c else A i c) (k + p) fun c => (fun i c => if k ≤ i ∧ i < k + p then T i c else A i c) (k + p) c + sumTo k fun l => lam l * (fun i c => if k ≤ i ∧ i < k + p then T i c else A i c) l c) := by
          have l2 := det_rlin (n := n) (c := k + p) (by omega) m 0 (fun i c => if k ≤ i ∧ i < k + p then T i c else A i c) (fun c => (fun i c => if k ≤ i ∧ i < k + p then T i c else A i c) (k + p) c + sumTo k fun l => lam l * (fun i c => if k ≤ i ∧ i < k + p then T i c else A i c) l c) (fun _ => 0)
          have e3 : ∀ x y : Rat, m * x + 0 * y = m * x := fun x y => by grind
          rw [e3] at l2
          rw [← l2]
          refine det_congr fun i j hi hj => ?_
          simp only [setR]
          by_cases h1 : i = k + p
          · rw [if_pos (by omega), if_pos h1, h1, hl j hj, if_neg (by omega)]
            have e4 : (sumTo k fun l => lam l * if k ≤ l ∧ l < k + p then T l j else A l j) = sumTo k fun l => lam l * A l j := sum_congr fun l hl2 => by rw [if_neg (by omega)]
            rw [e4]
            grind
          · rw [if_neg h1]
            by_cases h2 : k ≤ i ∧ i < k + p
            · rw [if_pos h2, if_pos (by omega)]
            · rw [if_neg h2, if_neg (by omega)]
        rw [hr, hc] at e
        have hm := h.m0
        grind
  rcases go (n - k) (by omega) with q | q
  · exact q
  · refine absurd (det_corner n k _ hk fun i j hi hin hj => ?_) q
    show (if k ≤ i ∧ i < k + (n - k) then T i j else A i j) = 0
    rw [if_pos (by omega)]
    by_cases h1 : j = k
    · rw [h1]
      exact hz i hi hin
    · exact h.z i j hi hin (by omega)
end Det
/-! fractions as pairs in lowest terms -/
namespace DL
open PySem PySem.Spec PyProof.Rows L2
abbrev qD (q : Rat) : D := .tup [.int q.num, .int (q.den : Nat)]
abbrev tq (qs : List Rat) : D := .tup (qs.map qD)
theorem gcd_pos {a b : Int} (hb : b ≠ 0) : 0 < b.gcd a := Int.gcd_pos_of_ne_zero_left a hb
theorem q_num_pos {a b : Int} (hb : 0 < b) : a / (b.gcd a : Nat) = (Rat.divInt a b).num := by
  rw [Rat.num_divInt, Int.sign_eq_one_of_pos hb, Int.one_mul]
theorem q_num_neg {a b : Int} (hb : b < 0) : 0 - a / (b.gcd a : Nat) = (Rat.divInt a b).num := by
  rw [Rat.num_divInt, Int.sign_eq_neg_one_of_neg hb, Int.neg_mul, Int.one_mul, Int.neg_ediv_of_dvd (Int.gcd_dvd_right b a)]
  omega
theorem q_den_pos {a b : Int} (hb : 0 < b) : b / (b.gcd a : Nat) = ((Rat.divInt a b).den : Nat) := by
  rw [Rat.den_divInt, if_neg (by omega), Int.natCast_ediv]
  congr 1
  omega
theorem q_den_neg {a b : Int} (hb : b < 0) : 0 - b / (b.gcd a : Nat) = ((Rat.divInt a b).den : Nat) := by
  rw [Rat.den_divInt, if_neg (by omega), Int.natCast_ediv]
  have : (b.natAbs : Int) = - b := by omega
  rw [this, Int.neg_ediv_of_dvd (Int.gcd_dvd_left b a)]
  omega
/-- the size of what a fraction is of -/
theorem q_num_le {a b : Int} (hb : b ≠ 0) : (Rat.divInt a b).num.natAbs ≤ a.natAbs := by
  rw [Rat.num_divInt]
  refine Nat.le_trans (Int.natAbs_ediv_le_natAbs _ _) ?_
  rw [Int.natAbs_mul, Int.natAbs_sign_of_ne_zero hb, Nat.one_mul]
  exact Nat.le_refl _
theorem q_den_le {a b : Int} (hb : b ≠ 0) : (Rat.divInt a b).den ≤ b.natAbs := by
  rw [Rat.den_divInt, if_neg hb]
  exact Nat.div_le_self _ _
/-! lists of rows by == -/
theorem lay_rows : ∀ rows : List (List Int), PyData.canLayAll0 (toPyL (rows.map ti)) = true
  | [] => rfl
  | r :: rows => by
    show (PyData.canLayAll0 (toPyL (r.map D.int)) && PyData.canLayAll0 (toPyL (rows.map ti))) = true
    rw [lay_rows rows, toPyL_ints, lay_ints]
    rfl
theorem depth_rows : ∀ rows : List (List Int), PyData.depthAll (toPyL (rows.map ti)) ≤ 1
  | [] => by decide
  | r :: rows => by
    show max (PyData.depthAll (toPyL (r.map D.int)) + 1) (PyData.depthAll (toPyL (rows.map ti))) ≤ 1
    have := depth_rows rows
    rw [toPyL_ints, depth_ints]
    omega
theorem eqOk_rows (rows : List (List Int)) : eqOk (.lst (rows.map ti)) = true := by
  show (PyData.canLayAll0 (toPyL (rows.map ti)) && decide (PyData.depthAll (toPyL (rows.map ti)) + 1 ≤ 64)) = true
  have := depth_rows rows
  rw [lay_rows, decide_eq_true (by omega)]
  rfl
theorem fNe_rows0 (rows : List (List Int)) : fNe (.lst (rows.map ti)) (.lst []) = some (.val (.bl (!decide (rows = [])))) := by
  have e : eqD (.lst (rows.map ti)) (.lst []) = decide (rows = []) := by
    cases rows with
    | nil => rfl
    | cons r rows => rfl
  rw [← e]
  exact if_pos ⟨eqOk_rows rows, rfl⟩
/-- bits of a fraction -/
structure Qs (a d : Nat) (q : Rat) : Prop where
  n : q.num.natAbs ≤ 2 ^ a
  d : q.den ≤ 2 ^ d
theorem Qs.mono {a d a' d' : Nat} {q : Rat} (h : Qs a d q) (ha : a ≤ a') (hd : d ≤ d') : Qs a' d' q := ⟨Nat.le_trans h.n (Nat.pow_le_pow_right (by decide) ha), Nat.le_trans h.d (Nat.pow_le_pow_right (by decide) hd)⟩
theorem den_ne (q : Rat) : ((q.den : Nat) : Int) ≠ 0 := by
  have := q.den_nz
  omega
theorem q_add (p q : Rat) : Rat.divInt (p.num * q.den + q.num * p.den) (p.den * q.den) = p + q := by
  conv => rhs; rw [← Rat.num_divInt_den p, ← Rat.num_divInt_den q]
  rw [Rat.divInt_add_divInt _ _ (den_ne p) (den_ne q)]
theorem q_mul (p q : Rat) : Rat.divInt (p.num * q.num) (p.den * q.den) = p * q := by
  conv => rhs; rw [← Rat.num_divInt_den p, ← Rat.num_divInt_den q]
  rw [Rat.divInt_mul_divInt]
theorem q_mulz (p : Rat) (z : Int) : Rat.divInt (p.num * z) p.den = p * (z : Rat) := by
  rw [← q_mul]
  simp
theorem pow_mul_le {x y a b : Nat} (h : x ≤ 2 ^ a) (h2 : y ≤ 2 ^ b) : x * y ≤ 2 ^ (a + b) := by
  rw [Nat.pow_add]
  exact Nat.mul_le_mul h h2
theorem Qs.add {a d a2 d2 c : Nat} {p q : Rat} (h : Qs a d p) (h2 : Qs a2 d2 q) (h3 : a + d2 ≤ c) (h4 : a2 + d ≤ c) : Qs (c + 1) (d + d2) (p + q) := by
  have hd : ((p.den : Nat) : Int) * ((q.den : Nat) : Int) ≠ 0 := Int.mul_ne_zero (den_ne p) (den_ne q)
  rw [← q_add]
  refine ⟨Nat.le_trans (q_num_le hd) ?_, Nat.le_trans (q_den_le hd) ?_⟩
  · refine Nat.le_trans (Int.natAbs_add_le _ _) ?_
    rw [Int.natAbs_mul, Int.natAbs_mul, Int.natAbs_natCast, Int.natAbs_natCast, Nat.pow_succ, Nat.mul_two]
    exact Nat.add_le_add (Nat.le_trans (pow_mul_le h.n h2.d) (Nat.pow_le_pow_right (by decide) h3)) (Nat.le_trans (pow_mul_le h2.n h.d) (Nat.pow_le_pow_right (by decide) h4))
  · rw [Int.natAbs_mul, Int.natAbs_natCast, Int.natAbs_natCast]
    exact pow_mul_le h.d h2.d
theorem Qs.mulz {a d m : Nat} {p : Rat} {z : Int} (h : Qs a d p) (hz : z.natAbs ≤ 2 ^ m) : Qs (a + m) d (p * (z : Rat)) := by
  rw [← q_mulz]
  refine ⟨Nat.le_trans (q_num_le (den_ne p)) ?_, Nat.le_trans (q_den_le (den_ne p)) ?_⟩
  · rw [Int.natAbs_mul]
    exact pow_mul_le h.n hz
  · rw [Int.natAbs_natCast]
    exact h.d
end DL
set_option exponentiation.threshold 100000
namespace Lk03
open PySem PySem.Spec PyProof.Rows L2 DL
abbrev li (xs : List Int) : D := .lst (xs.map D.int)
abbrev ll (rs : List (List Int)) : D := .lst (rs.map li)
/-- the number at a place -/
def at2 (T : List (List Int)) (i j : Nat) : Int := (T.getD i []).getD j 0
/-- n rows of n numbers of b bits -/
structure Gr (n b : Nat) (T : List (List Int)) : Prop where
  l : T.length = n
  r : ∀ r ∈ T, r.length = n ∧ ∀ x ∈ r, x.natAbs < 2 ^ b
theorem getq {α : Type} {xs : List α} {i : Nat} (d : α) (h : i < xs.length) : xs[i]? = some (xs.getD i d) := by
  rw [List.getD_eq_getElem?_getD, List.getElem?_eq_getElem h]
  rfl
section
variable {n b : Nat} {T : List (List Int)}
theorem Gr.row (h : Gr n b T) {i : Nat} (hi : i < n) : T[i]? = some (T.getD i []) := getq [] (by rw [h.l]; exact hi)
theorem Gr.mem (h : Gr n b T) {i : Nat} (hi : i < n) : T.getD i [] ∈ T := List.mem_of_getElem? (h.row hi)
theorem Gr.rl (h : Gr n b T) {i : Nat} (hi : i < n) : (T.getD i []).length = n := (h.r _ (h.mem hi)).1
theorem Gr.en (h : Gr n b T) {i j : Nat} (hi : i < n) (hj : j < n) : (at2 T i j).natAbs < 2 ^ b :=
  (h.r _ (h.mem hi)).2 _ (List.mem_of_getElem? (getq 0 (by rw [h.rl hi]; exact hj)))
theorem Gr.mono (h : Gr n b T) {c : Nat} (hc : b ≤ c) : Gr n c T := ⟨h.l, fun r hr => ⟨(h.r r hr).1, fun x hx => Nat.lt_of_lt_of_le ((h.r r hr).2 x hx) (Nat.pow_le_pow_right (by decide) hc)⟩⟩
end
theorem ixT {T : List (List Int)} {z : Int} {i : Nat} (hz : z = (i : Nat)) (hi : i < T.length) : fIx (tt T) (.int z) = some (.val (ti (T.getD i []))) := by
  rw [hz]
  exact fIx_tup (by rw [List.getElem?_map, getq [] hi]; rfl)
theorem ixL {T : List (List Int)} {z : Int} {i : Nat} (hz : z = (i : Nat)) (hi : i < T.length) : fIx (ll T) (.int z) = some (.val (li (T.getD i []))) := by
  rw [hz]
  exact fIx_lst (by rw [List.getElem?_map, getq [] hi]; rfl)
theorem ixt {r : List Int} {z : Int} {i : Nat} (hz : z = (i : Nat)) (hi : i < r.length) : fIx (ti r) (.int z) = some (.val (.int (r.getD i 0))) := by
  rw [hz]
  exact fIx_tup (by rw [List.getElem?_map, getq 0 hi]; rfl)
theorem ixl {r : List Int} {z : Int} {i : Nat} (hz : z = (i : Nat)) (hi : i < r.length) : fIx (li r) (.int z) = some (.val (.int (r.getD i 0))) := by
  rw [hz]
  exact fIx_lst (by rw [List.getElem?_map, getq 0 hi]; rfl)
theorem cut_to {α : Type} (xs : List α) {k : Nat} (h : k ≤ xs.length) : DL.cutD xs none (some ((k : Nat) : Int)) = xs.take k := by
  unfold DL.cutD
  have e1 : HT.sIx xs.length 0 none = 0 := rfl
  have e2 : HT.sIx xs.length xs.length (some ((k : Nat) : Int)) = k := by
    unfold HT.sIx
    simp only
    split <;> omega
  rw [e1, e2]
  rfl
theorem cut_from {α : Type} (xs : List α) {k : Nat} (h : k ≤ xs.length) : DL.cutD xs (some ((k : Nat) : Int)) none = xs.drop k := by
  unfold DL.cutD
  have e1 : HT.sIx xs.length xs.length none = xs.length := rfl
  have e2 : HT.sIx xs.length 0 (some ((k : Nat) : Int)) = k := by
    unfold HT.sIx
    simp only
    split <;> omega
  rw [e1, e2]
  exact List.take_of_length_le (by rw [List.length_drop]; omega)
theorem fil_one {α β : Type} (g : α → Option β) : ∀ zs : List α, ((∀ z ∈ zs, g z = none) ∧ zs.filterMap g = []) ∨ ∃ z ∈ zs, ∃ x, g z = some x ∧ (zs.filterMap g).take 1 = [x]
  | [] => .inl ⟨by simp, rfl⟩
  | z :: zs => by
    cases hz : g z with
    | some x => exact .inr ⟨z, List.mem_cons_self, x, hz, by rw [List.filterMap_cons, hz]; rfl⟩
    | none =>
      rcases fil_one g zs with ⟨h1, h2⟩ | ⟨y, hy, x, h1, h2⟩
      · refine .inl ⟨fun y hy => ?_, by rw [List.filterMap_cons, hz]; exact h2⟩
        rcases List.mem_cons.mp hy with rfl | hy
        · exact hz
        · exact h1 y hy
      · exact .inr ⟨y, List.mem_cons_of_mem _ hy, x, h1, by rw [List.filterMap_cons, hz]; exact h2⟩
theorem s_line {n b s : Nat} {T : List (List Int)} (h : Gr n b T) (hs : s < n) (hn : n ≤ 6) {Qd : Cell → Outs → Prop} {Ed : Str → List (Str × D) → Outs → Prop}
    (k0 : (∀ i, s ≤ i → i < n → at2 T i s = 0) → ∀ o, Qd (.own []) o) (k1 : ∀ l : Nat, s ≤ l → l < n → at2 T l s ≠ 0 → ∀ o, Qd (.own [.int (l : Nat)]) o) : w_line_with [.val (ll T), .val (.int (s : Nat))] Qd Ed := by
  have hl := h.l
  unfold w_line_with m_line_with
  conv => whnf
  repeat (refine ⟨_, rfl, ?_⟩; conv => whnf)
  refine ⟨⟨by omega, by omega⟩, ⟨by rw [List.length_map]; omega, by rw [List.length_map]; omega⟩, ?_⟩
  conv => whnf
  refine ⟨rfl, ?_⟩
  refine lcGo_fil (fun i : Nat => D.int (((s : Nat) : Int) + (i : Nat))) (fun i => if at2 T (s + i) s = 0 then none else some (.int (((s : Nat) : Int) + (i : Nat)))) (List.range ((((T.map li).length : Nat) : Int) - ((s : Nat) : Int)).toNat) [] (fun i hi Kt Kf h1 h2 => ?_) (small64 (by rw [List.length_range, List.length_map, List.length_nil]; omega)) ?_
  · have hi2 : s + i < n := by
      have := List.mem_range.mp hi
      rw [List.length_map] at this
      omega
    conv => whnf
    refine ⟨_, ixL (i := s + i) (by omega) (by omega), ?_⟩
    conv => whnf
    refine ⟨_, ixl (i := s) rfl (by rw [h.rl hi2]; exact hs), ?_⟩
    conv => whnf
    refine ⟨_, fNe_int (at2 T (s + i) s) 0, ?_⟩
    by_cases h0 : at2 T (s + i) s = 0
    · rw [decide_eq_true h0]
      conv => whnf
      exact h2 (if_pos h0)
    · rw [decide_eq_false h0]
      conv => whnf
      exact h1 _ (if_neg h0)
  · conv => whnf
    repeat (refine ⟨_, rfl, ?_⟩; conv => whnf)
    have e0 : DL.cutD ([] ++ (List.range ((((T.map li).length : Nat) : Int) - ((s : Nat) : Int)).toNat).filterMap fun i => if at2 T (s + i) s = 0 then none else some (D.int (((s : Nat) : Int) + (i : Nat)))) none (some 1) = ((List.range ((((T.map li).length : Nat) : Int) - ((s : Nat) : Int)).toNat).filterMap fun i => if at2 T (s + i) s = 0 then none else some (D.int (((s : Nat) : Int) + (i : Nat)))).take 1 := by
      rw [List.nil_append]
      rcases Nat.eq_zero_or_pos ((List.range ((((T.map li).length : Nat) : Int) - ((s : Nat) : Int)).toNat).filterMap fun i => if at2 T (s + i) s = 0 then none else some (D.int (((s : Nat) : Int) + (i : Nat)))).length with h0 | h0
      · rw [List.eq_nil_of_length_eq_zero h0]
        rfl
      · exact cut_to _ h0
    rcases fil_one (fun i => if at2 T (s + i) s = 0 then none else some (D.int (((s : Nat) : Int) + (i : Nat)))) (List.range ((((T.map li).length : Nat) : Int) - ((s : Nat) : Int)).toNat) with ⟨f1, f2⟩ | ⟨i, hi, x, f1, f2⟩
    · have := k0 (fun i h1 h2 => ?_)
      · have e2 := e0.trans (congrArg (List.take 1) f2)
        rw [List.take_nil] at e2
        rw [← e2] at this
        exact this _
      · have := f1 (i - s) (List.mem_range.mpr (by rw [List.length_map]; omega))
        by_cases h0 : at2 T i s = 0
        · exact h0
        · simp only [show s + (i - s) = i by omega, if_neg h0] at this
          exact absurd this (by simp)
    · have hi2 : s + i < n := by
        have := List.mem_range.mp hi
        rw [List.length_map] at this
        omega
      by_cases h0 : at2 T (s + i) s = 0
      · simp only [if_pos h0] at f1
        exact absurd f1 (by simp)
      · simp only [if_neg h0] at f1
        have := k1 (s + i) (by omega) hi2 h0
        have e2 := e0.trans (f2.trans (congrArg (fun x => [x]) (Option.some.inj f1).symm))
        rw [show ((s + i : Nat) : Int) = ((s : Nat) : Int) + (i : Nat) by omega, ← e2] at this
        exact this _
end Lk03
set_option exponentiation.threshold 100000
namespace Lk03
open PySem PySem.Spec PyProof.Rows L2 DL
/-- rows exchanged -/
def exch (s l : Nat) (T : List (List Int)) : List (List Int) := (T.set s (T.getD l [])).set l (T.getD s [])
theorem exch_get {s l i : Nat} {T : List (List Int)} (hs : s < T.length) (hl : l < T.length) : (exch s l T).getD i [] = if i = l then T.getD s [] else if i = s then T.getD l [] else T.getD i [] := by
  unfold exch
  simp only [List.getD_eq_getElem?_getD, List.getElem?_set, List.length_set]
  by_cases h1 : i = l
  · subst h1
    rw [if_pos rfl, if_pos hl, if_pos rfl]
    rfl
  · rw [if_neg (fun e => h1 e.symm), if_neg h1]
    by_cases h2 : i = s
    · subst h2
      rw [if_pos rfl, if_pos hs, if_pos rfl]
      rfl
    · rw [if_neg (fun e => h2 e.symm), if_neg h2]
theorem exch_at {s l : Nat} {T : List (List Int)} (hs : s < T.length) (hl : l < T.length) : at2 (exch s l T) = Det.sw s l (at2 T) := by
  funext i j
  unfold at2 Det.sw
  rw [exch_get hs hl]
  by_cases h1 : i = l
  · subst h1
    by_cases h2 : i = s
    · subst h2
      simp
    · simp [h2]
  · by_cases h2 : i = s
    · subst h2
      simp [h1]
    · simp [h1, h2]
theorem exch_gr {n b s l : Nat} {T : List (List Int)} (h : Gr n b T) (hs : s < n) (hl : l < n) : Gr n b (exch s l T) := by
  refine ⟨by unfold exch; rw [List.length_set, List.length_set]; exact h.l, fun r hr => ?_⟩
  unfold exch at hr
  rcases List.mem_or_eq_of_mem_set hr with hr | rfl
  · rcases List.mem_or_eq_of_mem_set hr with hr | rfl
    · exact h.r r hr
    · exact h.r _ (h.mem hl)
  · exact h.r _ (h.mem hs)
theorem s_swap {n b s l : Nat} {T : List (List Int)} (h : Gr n b T) (hs : s < n) (hl : l < n) : RetO w_swapped [.val (ll T), .val (.int (s : Nat)), .val (.int (l : Nat))] ((exch s l T).map li) := by
  intro Qd Ed k
  have hT := h.l
  unfold w_swapped m_swapped
  conv => whnf
  repeat (refine ⟨_, rfl, ?_⟩; conv => whnf)
  show m_swapped_1 _ [some (.val (ll T)), some (.val (.int (s : Nat))), some (.val (.int (l : Nat))), some (.own (T.map li))]
  unfold m_swapped_1
  conv => whnf
  refine ⟨_, ixL (i := l) rfl (by omega), ?_⟩
  conv => whnf
  refine ⟨_, ixL (i := s) rfl (by omega), ?_⟩
  conv => whnf
  refine ⟨rfl, ?_⟩
  conv => whnf
  refine ⟨_, ixN_nat (k := s) (by rw [List.length_map]; omega), ?_⟩
  conv => whnf
  refine ⟨_, ixN_nat (k := l) (by rw [List.length_set, List.length_map]; omega), ?_⟩
  have e : (exch s l T).map li = ((T.map li).set s (li (T.getD l []))).set l (li (T.getD s [])) := by
    unfold exch
    rw [List.map_set, List.map_set]
  rw [e] at k
  exact k _
/-- a row behind a step -/
def nrow (hd : List Int) (s : Nat) (m : Int) (r : List Int) : List Int := (List.range r.length).map fun c => (hd.getD s 0 * r.getD c 0 - r.getD s 0 * hd.getD c 0).fdiv m
def clr (s : Nat) (m : Int) (T : List (List Int)) : List (List Int) := T.take (s + 1) ++ (T.drop (s + 1)).map (nrow (T.getD s []) s m)
theorem fdiv_le (a b : Int) : (a.fdiv b).natAbs ≤ a.natAbs := by
  by_cases h : 0 ≤ b
  · rw [Int.fdiv_eq_ediv_of_nonneg _ h]
    exact Int.natAbs_ediv_le_natAbs a b
  · rw [← Int.neg_fdiv_neg, Int.fdiv_eq_ediv_of_nonneg _ (by omega)]
    have := Int.natAbs_ediv_le_natAbs (-a) (-b)
    rwa [Int.natAbs_neg] at this
theorem nrow_len (hd r : List Int) (s : Nat) (m : Int) : (nrow hd s m r).length = r.length := by
  unfold nrow
  rw [List.length_map, List.length_range]
theorem nrow_get {hd r : List Int} {s c : Nat} {m : Int} (hc : c < r.length) : (nrow hd s m r).getD c 0 = (hd.getD s 0 * r.getD c 0 - r.getD s 0 * hd.getD c 0).fdiv m := by
  unfold nrow
  rw [List.getD_eq_getElem?_getD, List.getElem?_map, List.getElem?_range hc]
  rfl
theorem clr_len {n b s : Nat} {m : Int} {T : List (List Int)} (h : Gr n b T) (hs : s < n) : (clr s m T).length = n := by
  have := h.l
  unfold clr
  rw [List.length_append, List.length_map, List.length_drop, List.length_take]
  omega
theorem clr_get {n b s i : Nat} {m : Int} {T : List (List Int)} (h : Gr n b T) (hs : s < n) (hi : i < n) : (clr s m T).getD i [] = if i ≤ s then T.getD i [] else nrow (T.getD s []) s m (T.getD i []) := by
  have hl := h.l
  unfold clr
  by_cases h1 : i ≤ s
  · rw [if_pos h1, List.getD_eq_getElem?_getD, List.getElem?_append_left (by rw [List.length_take]; omega), List.getElem?_take_of_lt (by omega), List.getD_eq_getElem?_getD]
  · rw [if_neg h1, List.getD_eq_getElem?_getD, List.getElem?_append_right (by rw [List.length_take]; omega), List.length_take, List.getElem?_map, List.getElem?_drop]
    rw [show s + 1 + (i - min (s + 1) T.length) = i by omega, h.row hi]
    rfl
theorem clr_at {n b s i c : Nat} {m : Int} {T : List (List Int)} (h : Gr n b T) (hs : s < n) (hi : i < n) (hc : c < n) : at2 (clr s m T) i c = Det.nx (at2 T) s m i c := by
  unfold at2 Det.nx
  rw [clr_get h hs hi]
  by_cases h1 : i ≤ s
  · rw [if_pos h1, if_pos h1]
  · rw [if_neg h1, if_neg h1, nrow_get (by rw [h.rl hi]; exact hc)]
theorem two_pow_mul {b : Nat} {x y : Nat} (hx : x < 2 ^ b) (hy : y < 2 ^ b) : x * y < 2 ^ (2 * b) := by
  rw [show 2 * b = b + b by omega, Nat.pow_add]
  exact Nat.mul_lt_mul'' hx hy
theorem clr_gr {n b s : Nat} {m : Int} {T : List (List Int)} (h : Gr n b T) (hs : s < n) (hm : m ≠ 0) : Gr n (2 * b + 1) (clr s m T) := by
  refine ⟨clr_len h hs, fun r hr => ?_⟩
  unfold clr at hr
  rcases List.mem_append.mp hr with hr | hr
  · exact (h.mono (c := 2 * b + 1) (by omega)).r r (List.mem_of_mem_take hr)
  · obtain ⟨q, hq, rfl⟩ := List.mem_map.mp hr
    have hq2 := h.r q (List.mem_of_mem_drop hq)
    refine ⟨by rw [nrow_len]; exact hq2.1, fun x hx => ?_⟩
    unfold nrow at hx
    obtain ⟨c, hc, rfl⟩ := List.mem_map.mp hx
    have hc2 : c < n := by rw [← hq2.1]; exact List.mem_range.mp hc
    have hin : ∀ c, c < n → (q.getD c 0).natAbs < 2 ^ b := fun c hc => hq2.2 _ (List.mem_of_getElem? (getq 0 (by rw [hq2.1]; exact hc)))
    have hhd : ∀ c, c < n → ((T.getD s []).getD c 0).natAbs < 2 ^ b := fun c hc => h.en hs hc
    have m1 := two_pow_mul (hhd s hs) (hin c hc2)
    have m2 := two_pow_mul (hin s hs) (hhd c hc2)
    rw [← Int.natAbs_mul] at m1 m2
    have h3 := fdiv_le ((T.getD s []).getD s 0 * q.getD c 0 - q.getD s 0 * (T.getD s []).getD c 0) m
    rw [Nat.pow_succ]
    omega
theorem clr1 {n b s : Nat} {m : Int} {hd r : List Int} {acc : List D} {c0 : Option Cell} (hhl : hd.length = n) (hh : ∀ x ∈ hd, x.natAbs < 2 ^ b) (hrl : r.length = n) (hr : ∀ x ∈ r, x.natAbs < 2 ^ b) (hs : s < n) (hn : n ≤ 6) (hb : b ≤ 60000) (hm : m ≠ 0) (hm2 : m.natAbs < 2 ^ 9000) (ha : acc.length < 64) {Dd : DEnds}
    (k : Dd.nx [c0, some (.val (.int (s : Nat))), some (.val (.int m)), some (.val (li hd)), some (.own (acc ++ [li (nrow hd s m r)])), some (.val (li r)), none]) :
    m_cleared_1 Dd [c0, some (.val (.int (s : Nat))), some (.val (.int m)), some (.val (li hd)), some (.own acc), some (.val (li r)), none] := by
  unfold m_cleared_1
  conv => whnf
  repeat (refine ⟨_, rfl, ?_⟩; conv => whnf)
  refine ⟨⟨by rw [List.length_map]; omega, by rw [List.length_map]; omega⟩, ?_⟩
  conv => whnf
  refine ⟨rfl, ?_⟩
  have en : ∀ {q : List Int}, q.length = n → (∀ x ∈ q, x.natAbs < 2 ^ b) → ∀ c, c < n → (q.getD c 0).natAbs < 2 ^ b := fun h1 h2 c hc => h2 _ (List.mem_of_getElem? (getq 0 (by rw [h1]; exact hc)))
  refine lcGo_enc (fun i : Nat => D.int (0 + (i : Nat))) (fun c => D.int ((hd.getD s 0 * r.getD c 0 - r.getD s 0 * hd.getD c 0).fdiv m)) (List.range (((r.map D.int).length : Nat) : Int).toNat) [] (fun c hc Kt Kf hK => ?_) (small64 (by rw [List.length_range, List.length_map, List.length_nil]; omega)) ?_
  · have hc2 : c < n := by
      have := List.mem_range.mp hc
      rw [List.length_map] at this
      omega
    conv => whnf
    refine ⟨_, ixl (i := s) rfl (by omega), ?_⟩
    conv => whnf
    refine ⟨_, ixl (i := c) (by omega) (by omega), ?_⟩
    conv => whnf
    refine ⟨_, fMul_int (mulB_ok (en hhl hh s hs) (en hrl hr c hc2) (by omega)), ?_⟩
    conv => whnf
    refine ⟨_, ixl (i := s) rfl (by omega), ?_⟩
    conv => whnf
    refine ⟨_, ixl (i := c) (by omega) (by omega), ?_⟩
    conv => whnf
    refine ⟨_, fMul_int (mulB_ok (en hrl hr s hs) (en hhl hh c hc2) (by omega)), ?_⟩
    conv => whnf
    (refine ⟨_, rfl, ?_⟩; conv => whnf)
    refine ⟨_, fDiv_int (divB_ok (k := 9000) hm hm2 (by decide)), ?_⟩
    exact hK
  · conv => whnf
    refine ⟨by rw [sizeLine_eq]; omega, ?_⟩
    have e : ([] : List D) ++ (List.range (((r.map D.int).length : Nat) : Int).toNat).map (fun c => D.int ((hd.getD s 0 * r.getD c 0 - r.getD s 0 * hd.getD c 0).fdiv m)) = (nrow hd s m r).map D.int := by
      unfold nrow
      rw [List.nil_append, List.map_map, List.length_map, Int.toNat_natCast]
      rfl
    have k2 : Dd.nx [c0, some (.val (.int (s : Nat))), some (.val (.int m)), some (.val (li hd)), some (.own (acc ++ [.lst (([] : List D) ++ (List.range (((r.map D.int).length : Nat) : Int).toNat).map (fun c => D.int ((hd.getD s 0 * r.getD c 0 - r.getD s 0 * hd.getD c 0).fdiv m)))])), some (.val (li r)), none] := by
      rw [e]
      exact k
    exact k2
theorem s_clear {n b s : Nat} {m : Int} {T : List (List Int)} (h : Gr n b T) (hs : s < n) (hn : n ≤ 6) (hb : b ≤ 60000) (hm : m ≠ 0) (hm2 : m.natAbs < 2 ^ 9000) : RetO w_cleared [.val (ll T), .val (.int (s : Nat)), .val (.int m)] ((clr s m T).map li) := by
  intro Qd Ed k
  have hT := h.l
  have hlen : (T.map li).length = n := by rw [List.length_map, hT]
  unfold w_cleared m_cleared
  conv => whnf
  refine ⟨_, ixL (i := s) rfl (by omega), ?_⟩
  conv => whnf
  repeat (refine ⟨_, rfl, ?_⟩; conv => whnf)
  have e1 : DL.cutD (T.map li) none (some (((s : Nat) : Int) + 1)) = (T.take (s + 1)).map li := by
    rw [show ((s : Nat) : Int) + 1 = ((s + 1 : Nat) : Int) by omega, cut_to _ (by omega), List.map_take]
  have e2 : DL.cutD (T.map li) (some (((s : Nat) : Int) + 1)) none = (T.drop (s + 1)).map li := by
    rw [show ((s : Nat) : Int) + 1 = ((s + 1 : Nat) : Int) by omega, cut_from _ (by omega), List.map_drop]
  rw [e1]
  refine ⟨rfl, ?_⟩
  conv => whnf
  show m_cleared_2 _ [some (.val (ll T)), some (.val (.int (s : Nat))), some (.val (.int m)), some (.val (li (T.getD s []))), some (.own ((T.take (s + 1)).map li)), none, none]
  unfold m_cleared_2
  conv => whnf
  repeat (refine ⟨_, rfl, ?_⟩; conv => whnf)
  rw [e2]
  refine forGo_ix li (fun i ρ => ∃ c5, ρ = [some (.val (ll T)), some (.val (.int (s : Nat))), some (.val (.int m)), some (.val (li (T.getD s []))), some (.own ((T.take (s + 1) ++ ((T.drop (s + 1)).take i).map (nrow (T.getD s []) s m)).map li)), c5, none]) (T.drop (s + 1)) 0 _ (Nat.zero_le _) ?_ ?_ ⟨none, by simp⟩
  · rintro ρ ⟨c5, rfl⟩
    rw [List.take_length]
    conv => whnf
    have e3 : T.take (s + 1) ++ (T.drop (s + 1)).map (nrow (T.getD s []) s m) = clr s m T := rfl
    rw [e3]
    exact k _
  · rintro i r ρ hr ⟨c5, rfl⟩ N hN
    have hrm := h.r r (List.mem_of_mem_drop (List.mem_of_getElem? hr))
    have hi := List.getElem?_eq_some_iff.mp hr
    obtain ⟨hi, _⟩ := hi
    rw [List.length_drop] at hi
    conv => whnf
    refine clr1 (n := n) (b := b) (h.rl hs) (h.r _ (h.mem hs)).2 hrm.1 hrm.2 hs hn hb hm hm2 (by rw [List.length_map, List.length_append, List.length_map, List.length_take, List.length_take]; omega) ?_
    refine hN _ ⟨some (.val (li r)), ?_⟩
    have e4 : (T.drop (s + 1)).take (i + 1) = (T.drop (s + 1)).take i ++ [r] := by
      rw [List.take_add_one, hr]
      rfl
    rw [e4]
    simp only [List.map_append, List.map_cons, List.map_nil, List.append_assoc]
end Lk03
set_option exponentiation.threshold 100000
namespace Lk03
open PySem PySem.Spec PyProof.Rows L2 DL
theorem eqOk_li (xs : List Int) : eqOk (li xs) = true := by
  show (PyData.canLayAll0 (toPyL (xs.map D.int)) && decide (PyData.depthAll (toPyL (xs.map D.int)) + 1 ≤ 64)) = true
  rw [toPyL_ints, lay_ints, depth_ints]
  rfl
theorem fEq_li (xs ys : List Int) : fEq (li xs) (li ys) = some (.val (.bl (decide (xs = ys)))) := by
  have e : eqD (li xs) (li ys) = decide (xs = ys) := by
    show PyData.eqvAll (toPyL (xs.map D.int)) (toPyL (ys.map D.int)) = _
    rw [toPyL_ints, toPyL_ints, eqvAll_ints]
  rw [← e]
  exact if_pos ⟨eqOk_li xs, eqOk_li ys⟩
theorem bs_congr {n k : Nat} {A T T' : Nat → Nat → Rat} {m : Rat} (h : Det.Bs n k A T m) (e : ∀ i c, i < n → c < n → T' i c = T i c) (hk : k ≤ n) : Det.Bs n k A T' m := by
  refine ⟨fun i c h1 h2 h3 => ?_, fun i h1 h2 => ?_, h.m0, h.d⟩
  · rw [e i c h2 (by omega)]
    exact h.z i c h1 h2 h3
  · obtain ⟨lam, hl⟩ := h.f i h1 h2
    exact ⟨lam, fun c hc => by rw [e i c h2 hc]; exact hl c hc⟩
section
variable {n b s : Nat} {m : Int} {T : List (List Int)} {c0 c2 c5 : Option Cell} {Dd : DEnds}
theorem det2 (h : Gr n b T) (hs : s < n) (hn : n ≤ 6) (hb : b ≤ 9000) (hm : m ≠ 0) (hm2 : m.natAbs < 2 ^ 9000)
    (k : Dd.nx [c0, some (.val (ll (clr s m T))), c2, some (.val (.int (at2 T s s))), some (.val (.int (0 + (s : Nat)))), c5, none]) :
    m_determinant_by_2 Dd [c0, some (.val (ll T)), c2, some (.val (.int m)), some (.val (.int (0 + (s : Nat)))), c5, none] := by
  have e0 : (0 : Int) + (s : Nat) = (s : Nat) := by omega
  rw [e0]
  rw [e0] at k
  unfold m_determinant_by_2
  conv => whnf
  refine s_clear h hs hn (by omega) hm hm2 _ _ fun o => ?_
  conv => whnf
  show m_determinant_by_1 _ [c0, some (.val (ll (clr s m T))), c2, some (.val (.int m)), some (.val (.int (s : Nat))), c5, none]
  unfold m_determinant_by_1
  have e1 := clr_at (m := m) h hs hs hs
  have e2 : Det.nx (at2 T) s m s s = at2 T s s := if_pos (Nat.le_refl _)
  have hl := clr_len (m := m) h hs
  have hr : ((clr s m T).getD s []).length = n := by
    rw [clr_get h hs hs, if_pos (Nat.le_refl _)]
    exact h.rl hs
  conv => whnf
  refine ⟨_, ixL (i := s) rfl (by omega), ?_⟩
  conv => whnf
  refine ⟨_, ixl (i := s) rfl (by omega), ?_⟩
  have e3 : ((clr s m T).getD s []).getD s 0 = at2 T s s := by
    rw [← e2, ← e1]
    rfl
  rw [e3]
  exact k
theorem det3 {l : Nat} {sg : Int} (h : Gr n b T) (hs : s < n) (hn : n ≤ 6) (hb : b ≤ 9000) (hm : m ≠ 0) (hm2 : m.natAbs < 2 ^ 9000) (hl : l < n) (hsl : s ≤ l)
    (k : ∀ T' sg', (l = s ∧ T' = T ∧ sg' = sg ∨ l ≠ s ∧ T' = exch s l T ∧ sg' = -sg) → ∀ c5, Dd.nx [c0, some (.val (ll (clr s m T'))), some (.val (.int sg')), some (.val (.int (at2 T' s s))), some (.val (.int (0 + (s : Nat)))), c5, none]) :
    m_determinant_by_3 Dd [c0, some (.val (ll T)), some (.val (.int sg)), some (.val (.int m)), some (.val (.int (0 + (s : Nat)))), some (.val (li [(l : Int)])), none] := by
  have e0 : (0 : Int) + (s : Nat) = (s : Nat) := by omega
  unfold m_determinant_by_3
  conv => whnf
  (refine ⟨_, rfl, ?_⟩; conv => whnf)
  refine ⟨_, fNe_int (l : Nat) (0 + (s : Nat)), ?_⟩
  by_cases he : l = s
  · rw [decide_eq_true (show ((l : Nat) : Int) = 0 + (s : Nat) by omega)]
    conv => whnf
    exact det2 h hs hn hb hm hm2 (k T sg (.inl ⟨he, rfl, rfl⟩) _)
  · rw [decide_eq_false (show ¬ ((l : Nat) : Int) = 0 + (s : Nat) by omega)]
    conv => whnf
    (refine ⟨_, rfl, ?_⟩; conv => whnf)
    rw [e0]
    refine s_swap h hs hl _ _ fun o => ?_
    conv => whnf
    repeat (refine ⟨_, rfl, ?_⟩; conv => whnf)
    refine ⟨rfl, ?_⟩
    conv => whnf
    rw [← e0]
    exact det2 (exch_gr h hs hl) hs hn hb hm hm2 (k _ _ (.inr ⟨he, rfl, rfl⟩) _)
end
end Lk03
set_option exponentiation.threshold 100000
namespace Lk03
open PySem PySem.Spec PyProof.Rows L2 DL
def bk (k : Nat) : Nat := 251 * 2 ^ k - 1
theorem bk_succ (k : Nat) : bk (k + 1) = 2 * bk k + 1 := by
  unfold bk
  have := Nat.one_le_two_pow (n := k)
  rw [Nat.pow_succ]
  omega
theorem bk_le {k : Nat} (h : k < 6) : bk k ≤ 9000 := by
  have : 2 ^ k ≤ 2 ^ 5 := Nat.pow_le_pow_right (by decide) (by omega)
  unfold bk
  omega
/-- the state ahead of a step -/
structure St (rows : List (List Int)) (n k : Nat) (T : List (List Int)) (sg m : Int) : Prop where
  g : Gr n (bk k) T
  mb : m.natAbs < 2 ^ bk k
  s : sg = 1 ∨ sg = -1
  b : ∃ A, Det.Bs n k (Det.ct A) (Det.ct (at2 T)) (m : Rat) ∧ sg * Det.det n A = Det.det n (at2 rows)
section
variable {rows T : List (List Int)} {n k : Nat} {sg m : Int}
theorem St.start (h : Gr n 250 rows) : St rows n 0 rows 1 1 :=
  ⟨h, by show 1 < 2 ^ bk 0; exact Nat.one_lt_two_pow (by decide), .inl rfl, at2 rows, Det.Bs.start n _, by omega⟩
theorem St.m0 (h : St rows n k T sg m) : m ≠ 0 := by
  obtain ⟨A, hb, _⟩ := h.b
  exact fun e => hb.m0 (by rw [e]; rfl)
theorem St.no (h : St rows n k T sg m) (hk : k < n) (hz : ∀ i, k ≤ i → i < n → at2 T i k = 0) : Det.det n (at2 rows) = 0 := by
  obtain ⟨A, hb, e⟩ := h.b
  have := hb.none hk fun i h1 h2 => by
    show ((at2 T i k : Int) : Rat) = 0
    rw [hz i h1 h2]
    rfl
  rw [Det.det_ct] at this
  have h0 : Det.det n A = 0 := Rat.intCast_inj.mp this
  rw [← e, h0, Int.mul_zero]
theorem St.go (h : St rows n k T sg m) (hk : k < n) {l : Nat} (hkl : k ≤ l) (hl : l < n) (hz : at2 T l k ≠ 0) {T' : List (List Int)} {sg' : Int} (e : l = k ∧ T' = T ∧ sg' = sg ∨ l ≠ k ∧ T' = exch k l T ∧ sg' = -sg) : St rows n (k + 1) (clr k m T') sg' (at2 T' k k) := by
  obtain ⟨A, hb, ed⟩ := h.b
  have hm := h.m0
  have hT := h.g.l
  have main : ∀ {T' A' sg'}, Gr n (bk k) T' → (sg' = 1 ∨ sg' = -1) → Det.Bs n k (Det.ct A') (Det.ct (at2 T')) (m : Rat) → at2 T' k k ≠ 0 → sg' * Det.det n A' = Det.det n (at2 rows) → St rows n (k + 1) (clr k m T') sg' (at2 T' k k) := by
    intro T' A' sg' g s b0 p e
    have hg := clr_gr (m := m) g hk hm
    rw [← bk_succ] at hg
    refine ⟨hg, Nat.lt_of_lt_of_le (g.en hk hk) (Nat.pow_le_pow_right (by decide) (by rw [bk_succ]; omega)), s, A', ?_, e⟩
    exact bs_congr (b0.int hk p) (fun i c hi hc => by
      show ((at2 (clr k m T') i c : Int) : Rat) = _
      rw [clr_at g hk hi hc]) (by omega)
  rcases e with ⟨rfl, rfl, rfl⟩ | ⟨hne, rfl, rfl⟩
  · exact main h.g h.s hb hz ed
  · have ea : at2 (exch k l T) = Det.sw k l (at2 T) := exch_at (by omega) (by omega)
    refine main (A' := Det.sw k l A) (exch_gr h.g hk hl) (by rcases h.s with e | e <;> omega) ?_ ?_ ?_
    · rw [ea]
      exact hb.sw hk hkl hl
    · rw [ea]
      show at2 T (if k = k then l else if k = l then k else k) k ≠ 0
      rw [if_pos rfl]
      exact hz
    · rw [Det.sw_det hk hl (fun e => hne e.symm), Int.neg_mul_neg]
      exact ed
theorem St.fin (h : St rows n n T sg m) : sg * m = Det.det n (at2 rows) := by
  obtain ⟨A, hb, ed⟩ := h.b
  have := hb.d
  rw [Det.det_ct] at this
  rw [← ed, Rat.intCast_inj.mp this]
end
theorem det_by {rows : List (List Int)} {n : Nat} (h : Gr n 250 rows) (h1 : 1 ≤ n) (hn : n ≤ 6) : Ret w_determinant_by [.val (tt rows)] (.int (Det.det n (at2 rows))) := by
  intro Qd Ed kk
  have hl := h.l
  unfold w_determinant_by m_determinant_by
  conv => whnf
  refine ⟨rfl, ?_⟩
  refine lcGo_enc ti li rows [] (fun r hr Kt Kf hK => ?_) (small64 (by rw [List.length_nil]; omega)) ?_
  · conv => whnf
    repeat (refine ⟨_, rfl, ?_⟩; conv => whnf)
    exact hK
  · conv => whnf
    refine ⟨rfl, ?_⟩
    conv => whnf
    show m_determinant_by_7 _ [some (.val (tt rows)), some (.val (ll rows)), some (.val (.int 1)), some (.val (.int 1)), none, none, none]
    unfold m_determinant_by_7
    conv => whnf
    repeat (refine ⟨_, rfl, ?_⟩; conv => whnf)
    refine ⟨⟨by rw [List.length_map]; omega, by rw [List.length_map]; omega⟩, ?_⟩
    conv => whnf
    refine forGo_ix (fun i : Nat => D.int (0 + (i : Nat))) (fun k ρ => ∃ T sg m c4 c5, ρ = [some (.val (tt rows)), some (.val (ll T)), some (.val (.int sg)), some (.val (.int m)), c4, c5, none] ∧ St rows n k T sg m) (List.range (((rows.map ti).length : Nat) : Int).toNat) 0 _ (Nat.zero_le _) ?_ ?_ ⟨rows, 1, 1, none, none, rfl, St.start h⟩
    · rintro ρ ⟨T, sg, m, c4, c5, rfl, st⟩
      rw [List.length_range, List.length_map, Int.toNat_natCast, hl] at st
      show m_determinant_by_6 _ _
      unfold m_determinant_by_6
      conv => whnf
      refine ⟨_, fMul_int (mulB_ok (a := 1) (b := bk n) (by rcases st.s with e | e <;> rw [e] <;> decide) st.mb ?_), ?_⟩
      · have : bk n ≤ bk 6 := by
          unfold bk
          have : 2 ^ n ≤ 2 ^ 6 := Nat.pow_le_pow_right (by decide) hn
          omega
        have e : bk 6 = 16063 := rfl
        omega
      · rw [st.fin]
        exact kk _
    · rintro k z ρ hz ⟨T, sg, m, c4, c5, rfl, st⟩ N hN
      have hk : k < n ∧ z = k := by
        have h2 := List.getElem?_eq_some_iff.mp hz
        obtain ⟨h2, h3⟩ := h2
        rw [List.length_range, List.length_map, Int.toNat_natCast, hl] at h2
        rw [List.getElem_range] at h3
        exact ⟨h2, h3.symm⟩
      obtain ⟨hk, rfl⟩ := hk
      have hbk := bk_le (k := z) (by omega)
      conv => whnf
      have e0 : (0 : Int) + (z : Nat) = (z : Nat) := by omega
      show m_determinant_by_5 _ [some (.val (tt rows)), some (.val (ll T)), some (.val (.int sg)), some (.val (.int m)), some (.val (.int (0 + (z : Nat)))), c5, none]
      unfold m_determinant_by_5
      conv => whnf
      rw [e0]
      refine s_line st.g hk hn (fun hz0 o => ?_) (fun l hl1 hl2 hz0 o => ?_)
      · conv => whnf
        show m_determinant_by_4 _ [some (.val (tt rows)), some (.val (ll T)), some (.val (.int sg)), some (.val (.int m)), some (.val (.int (z : Nat))), some (.val (li [])), none]
        unfold m_determinant_by_4
        conv => whnf
        refine ⟨small64 (by decide), ?_⟩
        conv => whnf
        refine ⟨_, fEq_li [] [], ?_⟩
        conv => whnf
        have := kk
        rw [st.no hk hz0] at this
        exact this _
      · conv => whnf
        show m_determinant_by_4 _ [some (.val (tt rows)), some (.val (ll T)), some (.val (.int sg)), some (.val (.int m)), some (.val (.int (z : Nat))), some (.val (li [(l : Int)])), none]
        unfold m_determinant_by_4
        conv => whnf
        refine ⟨small64 (by decide), ?_⟩
        conv => whnf
        refine ⟨_, fEq_li [(l : Int)] [], ?_⟩
        rw [decide_eq_false (show ¬ [(l : Int)] = [] by simp)]
        conv => whnf
        rw [← e0]
        refine det3 st.g hk hn hbk st.m0 (Nat.lt_of_lt_of_le st.mb (Nat.pow_le_pow_right (by decide) hbk)) hl2 hl1 fun T' sg' he c5 => ?_
        exact hN _ ⟨_, _, _, _, _, rfl, st.go hk hl1 hl2 hz0 he⟩
theorem det_byL {rows : List (List Int)} {n : Nat} (h : Gr n 250 rows) (hn : n ≤ 6) : Ret w_determinant_by [.val (.lst (rows.map ti))] (.int (Det.det n (at2 rows))) := by
  intro Qd Ed kk
  have hl := h.l
  unfold w_determinant_by m_determinant_by
  conv => whnf
  refine ⟨rfl, ?_⟩
  refine lcGo_enc ti li rows [] (fun r hr Kt Kf hK => ?_) (small64 (by rw [List.length_nil]; omega)) ?_
  · conv => whnf
    repeat (refine ⟨_, rfl, ?_⟩; conv => whnf)
    exact hK
  · conv => whnf
    refine ⟨rfl, ?_⟩
    conv => whnf
    show m_determinant_by_7 _ [some (.val (.lst (rows.map ti))), some (.val (ll rows)), some (.val (.int 1)), some (.val (.int 1)), none, none, none]
    unfold m_determinant_by_7
    conv => whnf
    repeat (refine ⟨_, rfl, ?_⟩; conv => whnf)
    refine ⟨⟨by rw [List.length_map]; omega, by rw [List.length_map]; omega⟩, ?_⟩
    conv => whnf
    refine forGo_ix (fun i : Nat => D.int (0 + (i : Nat))) (fun k ρ => ∃ T sg m c4 c5, ρ = [some (.val (.lst (rows.map ti))), some (.val (ll T)), some (.val (.int sg)), some (.val (.int m)), c4, c5, none] ∧ St rows n k T sg m) (List.range (((rows.map ti).length : Nat) : Int).toNat) 0 _ (Nat.zero_le _) ?_ ?_ ⟨rows, 1, 1, none, none, rfl, St.start h⟩
    · rintro ρ ⟨T, sg, m, c4, c5, rfl, st⟩
      rw [List.length_range, List.length_map, Int.toNat_natCast, hl] at st
      show m_determinant_by_6 _ _
      unfold m_determinant_by_6
      conv => whnf
      refine ⟨_, fMul_int (mulB_ok (a := 1) (b := bk n) (by rcases st.s with e | e <;> rw [e] <;> decide) st.mb ?_), ?_⟩
      · have : bk n ≤ bk 6 := by
          unfold bk
          have : 2 ^ n ≤ 2 ^ 6 := Nat.pow_le_pow_right (by decide) hn
          omega
        have e : bk 6 = 16063 := rfl
        omega
      · rw [st.fin]
        exact kk _
    · rintro k z ρ hz ⟨T, sg, m, c4, c5, rfl, st⟩ N hN
      have hk : k < n ∧ z = k := by
        have h2 := List.getElem?_eq_some_iff.mp hz
        obtain ⟨h2, h3⟩ := h2
        rw [List.length_range, List.length_map, Int.toNat_natCast, hl] at h2
        rw [List.getElem_range] at h3
        exact ⟨h2, h3.symm⟩
      obtain ⟨hk, rfl⟩ := hk
      have hbk := bk_le (k := z) (by omega)
      conv => whnf
      have e0 : (0 : Int) + (z : Nat) = (z : Nat) := by omega
      show m_determinant_by_5 _ [some (.val (.lst (rows.map ti))), some (.val (ll T)), some (.val (.int sg)), some (.val (.int m)), some (.val (.int (0 + (z : Nat)))), c5, none]
      unfold m_determinant_by_5
      conv => whnf
      rw [e0]
      refine s_line st.g hk hn (fun hz0 o => ?_) (fun l hl1 hl2 hz0 o => ?_)
      · conv => whnf
        show m_determinant_by_4 _ [some (.val (.lst (rows.map ti))), some (.val (ll T)), some (.val (.int sg)), some (.val (.int m)), some (.val (.int (z : Nat))), some (.val (li [])), none]
        unfold m_determinant_by_4
        conv => whnf
        refine ⟨small64 (by decide), ?_⟩
        conv => whnf
        refine ⟨_, fEq_li [] [], ?_⟩
        conv => whnf
        have := kk
        rw [st.no hk hz0] at this
        exact this _
      · conv => whnf
        show m_determinant_by_4 _ [some (.val (.lst (rows.map ti))), some (.val (ll T)), some (.val (.int sg)), some (.val (.int m)), some (.val (.int (z : Nat))), some (.val (li [(l : Int)])), none]
        unfold m_determinant_by_4
        conv => whnf
        refine ⟨small64 (by decide), ?_⟩
        conv => whnf
        refine ⟨_, fEq_li [(l : Int)] [], ?_⟩
        rw [decide_eq_false (show ¬ [(l : Int)] = [] by simp)]
        conv => whnf
        rw [← e0]
        refine det3 st.g hk hn hbk st.m0 (Nat.lt_of_lt_of_le st.mb (Nat.pow_le_pow_right (by decide) hbk)) hl2 hl1 fun T' sg' he c5 => ?_
        exact hN _ ⟨_, _, _, _, _, rfl, st.go hk hl1 hl2 hz0 he⟩
end Lk03
set_option exponentiation.threshold 100000
namespace Lk03
open PySem PySem.Spec PyProof.Rows L2 DL
theorem sum_abs {n c : Nat} {f : Nat → Int} (h : ∀ i, i < n → (f i).natAbs ≤ c) : (Det.sumTo n f).natAbs ≤ n * c := by
  induction n with
  | zero => show (0 : Int).natAbs ≤ _; omega
  | succ n ih =>
    show (Det.sumTo n f + f n).natAbs ≤ _
    have h1 := ih fun i hi => h i (by omega)
    have h2 := h n (by omega)
    rw [Nat.succ_mul]
    omega
theorem det_abs {b : Nat} : ∀ {n : Nat} {M : Nat → Nat → Int}, n ≤ 8 → (∀ i j, i < n → j < n → (M i j).natAbs < 2 ^ b) → (Det.det n M).natAbs ≤ 2 ^ (n * (b + 3))
  | 0, _, _, _ => by show (1 : Int).natAbs ≤ 2 ^ (0 * (b + 3)); rw [Nat.zero_mul]; decide
  | n + 1, M, hn, h => by
    have := sum_abs (n := n + 1) (c := 2 ^ b * 2 ^ (n * (b + 3))) (f := fun j => Det.sg j * (M 0 j * Det.det n (Det.mn M j))) fun j hj => by
      have h1 := h 0 j (by omega) hj
      have h2 := det_abs (n := n) (M := Det.mn M j) (by omega) fun i k hi hk => h (i + 1) (Det.sk j k) (by omega) (by unfold Det.sk; split <;> omega)
      have e : (Det.sg j * (M 0 j * Det.det n (Det.mn M j))).natAbs = (M 0 j).natAbs * (Det.det n (Det.mn M j)).natAbs := by
        rw [Int.natAbs_mul, Int.natAbs_mul]
        have : (Det.sg j : Int).natAbs = 1 := by unfold Det.sg; split <;> rfl
        rw [this, Nat.one_mul]
      rw [e]
      exact Nat.mul_le_mul (by omega) h2
    refine Nat.le_trans this ?_
    have e2 : (n + 1) * (b + 3) = 3 + (b + n * (b + 3)) := by
      rw [Nat.succ_mul]
      omega
    rw [← Nat.pow_add, e2, Nat.pow_add 2 3]
    exact Nat.mul_le_mul_right _ (by omega)
end Lk03
set_option exponentiation.threshold 100000
namespace Lk03
open PySem PySem.Spec PyProof.Rows L2 DL
theorem s_is_whole (i : Int) : Ret w_is_whole [.val (.int i)] (.bl true) := by
  intro Qd Ed h
  unfold w_is_whole m_is_whole
  conv => whnf
  repeat (refine ⟨_, rfl, ?_⟩; conv => whnf)
  exact h _
theorem s_is_tuple_of {ds : List D} {n : Int} (hn : n = (ds.length : Nat)) : Ret w_is_tuple_of [.val (.tup ds), .val (.int n)] (.bl true) := by
  intro Qd Ed h
  unfold w_is_tuple_of m_is_tuple_of
  conv => whnf
  (refine ⟨_, rfl, ?_⟩; conv => whnf)
  (refine ⟨_, rfl, ?_⟩; conv => whnf)
  (refine ⟨_, rfl, ?_⟩; conv => whnf)
  refine ⟨_, fEq_t (a := (ds.length : Nat)) (b := n) hn.symm, ?_⟩
  exact h _
theorem s_are_wholes {xs : List Int} {n : Int} (hn : n = (xs.length : Nat)) (hl : xs.length < 64) : Ret w_are_wholes [.val (ti xs), .val (.int n)] (.bl true) := by
  intro Qd Ed h
  unfold w_are_wholes m_are_wholes
  conv => whnf
  refine s_is_tuple_of (by rw [List.length_map]; exact hn) _ _ fun o => ?_
  conv => whnf
  repeat (refine ⟨_, rfl, ?_⟩; conv => whnf)
  refine ⟨rfl, ?_⟩
  refine lcGo_enc D.int (fun _ => D.bl true) xs [] (fun z _ Kt Kf hK => ?_) (small64 (by simpa using hl)) ?_
  · conv => whnf
    refine s_is_whole z _ _ fun o => ?_
    exact hK
  · conv => whnf
    refine ⟨_, all_map_true _, ?_⟩
    exact h _
section
variable {n b : Nat} {rows others : List (List Int)}
theorem fil_none {α β : Type} (zs : List α) : zs.filterMap (fun _ => (none : Option β)) = [] := by
  induction zs with
  | nil => rfl
  | cons z zs ih => rw [List.filterMap_cons]; exact ih
theorem s_wrong (h : Gr n b rows) (h1 : 1 ≤ n) (hn : n ≤ 6) : RetO w_wrong_in_grid [.val (tt rows)] [] := by
  intro Qd Ed k
  have hl := h.l
  have hlen : (rows.map ti).length = n := by rw [List.length_map, hl]
  unfold w_wrong_in_grid m_wrong_in_grid
  conv => whnf
  (refine ⟨_, rfl, ?_⟩; conv => whnf)
  (refine ⟨_, rfl, ?_⟩; conv => whnf)
  (refine ⟨_, rfl, ?_⟩; conv => whnf)
  refine ⟨_, fLe_t (a := 1) (b := ((rows.map ti).length : Nat)) (by omega), ?_⟩
  conv => whnf
  refine ⟨_, fLe_t (a := ((rows.map ti).length : Nat)) (b := 6) (by omega), ?_⟩
  conv => whnf
  rw [enumD_map]
  refine ⟨rfl, ?_⟩
  refine lcGo_fil (fun p : List Int × Nat => D.tup [.int (p.2 : Nat), ti p.1]) (fun _ => none) rows.zipIdx [] (fun p hp Kt Kf _ hK => ?_) (small64 (by rw [List.length_zipIdx, List.length_nil]; omega)) ?_
  · have hm : p.1 ∈ rows := by
      obtain ⟨q, i⟩ := p
      exact List.fst_mem_of_mem_zipIdx hp
    conv => whnf
    refine ⟨rfl, ?_⟩
    conv => whnf
    (refine ⟨_, rfl, ?_⟩; conv => whnf)
    refine s_are_wholes (by rw [hlen, (h.r _ hm).1]) (by rw [(h.r _ hm).1]; omega) _ _ fun o => ?_
    conv => whnf
    (refine ⟨_, rfl, ?_⟩; conv => whnf)
    exact hK rfl
  · rw [fil_none]
    conv => whnf
    repeat (refine ⟨_, rfl, ?_⟩; conv => whnf)
    exact k _
theorem s_check (h : Gr n b rows) (h1 : 1 ≤ n) (hn : n ≤ 6) : Ret w_check_grid [.val (tt rows)] .non := by
  intro Qd Ed k
  unfold w_check_grid m_check_grid
  conv => whnf
  refine s_wrong h h1 hn _ _ fun o => ?_
  conv => whnf
  exact k _
theorem s_det (h : Gr n 250 rows) (h1 : 1 ≤ n) (hn : n ≤ 6) : Ret w_determinant [.val (tt rows)] (.int (Det.det n (at2 rows))) := by
  intro Qd Ed k
  unfold w_determinant m_determinant
  conv => whnf
  refine s_check h h1 hn _ _ fun o => ?_
  conv => whnf
  refine det_by h h1 hn _ _ fun o => ?_
  conv => whnf
  exact k _
/-- the product, by rows -/
def led (n : Nat) (r : List Int) (others : List (List Int)) : List Int := (List.range n).map fun c => ((r.zip others).map fun p => p.1 * p.2.getD c 0).sum
def mulR (n : Nat) (rows others : List (List Int)) : List (List Int) := rows.map fun r => led n r others
theorem s_led {r : List Int} (hrl : r.length = n) (hr : ∀ x ∈ r, x.natAbs < 2 ^ b) (h : Gr n b others) (h1 : 1 ≤ n) (hn : n ≤ 6) (hb : b ≤ 60000) : Ret w_led_by [.val (ti r), .val (tt others)] (ti (led n r others)) := by
  intro Qd Ed k
  have hl := h.l
  unfold w_led_by m_led_by
  have r0 := h.rl (i := 0) (by omega)
  have r1 : ((others.getD 0 []).map D.int).length = n := by rw [List.length_map, r0]
  conv => whnf
  refine ⟨_, ixT (i := 0) rfl (by omega), ?_⟩
  conv => whnf
  (refine ⟨_, rfl, ?_⟩; conv => whnf)
  refine ⟨⟨by omega, by omega⟩, ?_⟩
  conv => whnf
  refine ⟨rfl, ?_⟩
  refine lcGo_enc (fun i : Nat => D.int (0 + (i : Nat))) (fun c => D.int (((r.zip others).map fun p => p.1 * p.2.getD c 0).sum)) (List.range ((((others.getD 0 []).map D.int).length : Nat) : Int).toNat) [] (fun c hc Kt Kf hK => ?_) (small64 (by rw [List.length_range, List.length_nil]; omega)) ?_
  · have hc2 : c < n := by
      have := List.mem_range.mp hc
      omega
    conv => whnf
    rw [zipD2_map]
    refine ⟨rfl, ?_⟩
    refine lcGo_enc (fun p : Int × List Int => D.tup [D.int p.1, ti p.2]) (fun p => D.int (p.1 * p.2.getD c 0)) (r.zip others) [] (fun p hp Kt2 Kf2 hK2 => ?_) (small64 (by rw [List.length_zip]; simp only [List.length_nil]; omega)) ?_
    · have h2 := h.r p.2 (List.of_mem_zip hp).2
      have h3 := hr p.1 (List.of_mem_zip hp).1
      conv => whnf
      refine ⟨rfl, ?_⟩
      conv => whnf
      refine ⟨_, ixt (i := c) (by omega) (by omega), ?_⟩
      conv => whnf
      refine ⟨_, fMul_int (mulB_ok h3 (h2.2 _ (List.mem_of_getElem? (getq 0 (by omega)))) (by omega)), ?_⟩
      exact hK2
    · have e : ([] : List D) ++ (r.zip others).map (fun p => D.int (p.1 * p.2.getD c 0)) = ((r.zip others).map fun p => p.1 * p.2.getD c 0).map D.int := by
        rw [List.nil_append, List.map_map]
        rfl
      rw [e]
      conv => whnf
      refine ⟨_, gSum_ints _, ?_⟩
      exact hK
  · have e : ([] : List D) ++ (List.range ((((others.getD 0 []).map D.int).length : Nat) : Int).toNat).map (fun c => D.int (((r.zip others).map fun p => p.1 * p.2.getD c 0).sum)) = (led n r others).map D.int := by
      rw [List.nil_append, led, List.map_map, r1, Int.toNat_natCast]
      rfl
    rw [e]
    conv => whnf
    repeat (refine ⟨_, rfl, ?_⟩; conv => whnf)
    exact k _
theorem s_times (h : Gr n b rows) (h2 : Gr n b others) (h1 : 1 ≤ n) (hn : n ≤ 6) (hb : b ≤ 60000) : Ret w_times [.val (tt rows), .val (tt others)] (tt (mulR n rows others)) := by
  intro Qd Ed k
  have hl := h.l
  have hl2 := h2.l
  unfold w_times m_times
  conv => whnf
  refine s_check h h1 hn _ _ fun o => ?_
  conv => whnf
  have like : Ret w_check_like_grid [.val (tt rows), .val (tt others)] .non := by
    intro Qd Ed k
    unfold w_check_like_grid m_check_like_grid
    conv => whnf
    have oth : Ret w_check_other_size [.val (tt rows), .val (tt others)] .non := by
      intro Qd Ed k
      unfold w_check_other_size m_check_other_size
      conv => whnf
      (refine ⟨_, rfl, ?_⟩; conv => whnf)
      (refine ⟨_, rfl, ?_⟩; conv => whnf)
      (refine ⟨_, rfl, ?_⟩; conv => whnf)
      (refine ⟨_, rfl, ?_⟩; conv => whnf)
      refine ⟨_, fNe_int ((others.map ti).length : Nat) ((rows.map ti).length : Nat), ?_⟩
      rw [decide_eq_true (by rw [List.length_map, List.length_map, hl, hl2])]
      conv => whnf
      exact k _
    refine oth _ _ fun o => ?_
    conv => whnf
    refine s_check h2 h1 hn _ _ fun o => ?_
    conv => whnf
    exact k _
  refine like _ _ fun o => ?_
  conv => whnf
  have by_ : Ret w_times_by [.val (tt rows), .val (tt others)] (tt (mulR n rows others)) := by
    intro Qd Ed k
    unfold w_times_by m_times_by
    conv => whnf
    refine ⟨rfl, ?_⟩
    refine lcGo_enc ti (fun r => ti (led n r others)) rows [] (fun r hr Kt Kf hK => ?_) (small64 (by rw [List.length_nil]; omega)) ?_
    · conv => whnf
      refine s_led (h.r r hr).1 (h.r r hr).2 h2 h1 hn hb _ _ fun o => ?_
      exact hK
    · have e : ([] : List D) ++ rows.map (fun r => ti (led n r others)) = (mulR n rows others).map ti := by
        rw [List.nil_append, mulR, List.map_map]
        rfl
      rw [e]
      conv => whnf
      repeat (refine ⟨_, rfl, ?_⟩; conv => whnf)
      exact k _
  refine by_ _ _ fun o => ?_
  conv => whnf
  exact k _
end
end Lk03
set_option exponentiation.threshold 100000
namespace Lk03
open PySem PySem.Spec PyProof.Rows L2 DL
theorem le2k {a b k : Nat} (h : a ≤ b) (hb : b < 2 ^ k) : a < 2 ^ k := Nat.lt_of_le_of_lt h hb
theorem s_eu1 {ca cb : Option Cell} {Dd : DEnds} {x y : Nat} (h0 : 0 < y) (q : Dd.nx [ca, cb, some (.val (.int (y : Nat))), some (.val (.int (x % y : Nat)))]) : m_law_ratio_1 Dd [ca, cb, some (.val (.int (x : Nat))), some (.val (.int (y : Nat)))] := by
  unfold m_law_ratio_1
  conv => whnf
  repeat (refine ⟨_, rfl, ?_⟩; conv => whnf)
  refine ⟨_, fMod_int (i := ((x : Nat) : Int)) (j := ((y : Nat) : Int)) (by omega), ?_⟩
  conv => whnf
  refine ⟨rfl, ?_⟩
  conv => whnf
  exact q
theorem s_euclid {ca cb : Option Cell} {Dd : DEnds} : ∀ (n x y : Nat), y < n → Dd.nx [ca, cb, some (.val (.int (Nat.gcd x y : Nat))), some (.val (.int (0 : Nat)))] →
    whGo (asT (mOp2 fGt (.e (mVar 3)) (.e (mK (.int 0))))) m_law_ratio_1 n Dd [ca, cb, some (.val (.int (x : Nat))), some (.val (.int (y : Nat)))] := by
  intro n
  induction n generalizing Dd with
  | zero => intro x y h; omega
  | succ n ih =>
    intro x y h q
    rw [whGo]
    conv => whnf
    repeat (refine ⟨_, rfl, ?_⟩; conv => whnf)
    by_cases h0 : 0 < y
    · rw [show decide ((0 : Int) < ((y : Nat) : Int)) = true from decide_eq_true (by omega)]
      conv => whnf
      refine s_eu1 h0 ?_
      refine ih y (x % y) (by have := Nat.mod_lt x h0; omega) ?_
      show Dd.nx _
      rw [Nat.gcd_comm x y, Nat.gcd_rec y x, Nat.gcd_comm (x % y) y] at q
      exact q
    · have : y = 0 := by omega
      subst this
      rw [show decide ((0 : Int) < (((0 : Nat) : Nat) : Int)) = false from rfl]
      conv => whnf
      rw [Nat.gcd_zero_right] at q
      exact q
theorem s_ratio {a b : Int} (hb : b ≠ 0) (hbs : b.natAbs < 2 ^ 8000) : Ret w_law_ratio [.val (.int a), .val (.int b)] (qD (Rat.divInt a b)) := by
  intro Qd Ed h
  unfold w_law_ratio m_law_ratio
  conv => whnf
  repeat (refine ⟨_, rfl, ?_⟩; conv => whnf)
  unfold m_law_ratio_3
  have ea : (if a < 0 then -a else a) = (a.natAbs : Int) := by split <;> omega
  have eb : (if b < 0 then -b else b) = (b.natAbs : Int) := by split <;> omega
  rw [ea, eb]
  conv => whnf
  refine ⟨rfl, ?_⟩
  conv => whnf
  refine ⟨b.natAbs + 1, s_euclid _ a.natAbs b.natAbs (by omega) ?_⟩
  have eg : Nat.gcd a.natAbs b.natAbs = b.gcd a := Nat.gcd_comm _ _
  rw [eg]
  have hg := gcd_pos (a := a) hb
  have hgs : ((b.gcd a : Nat) : Int).natAbs < 2 ^ 8000 := le2k (by
    have := Nat.le_of_dvd (by omega : 0 < b.natAbs) (Nat.gcd_dvd_left b.natAbs a.natAbs)
    exact this) hbs
  have ed : ∀ i : Int, fDiv (.int i) (.int ((b.gcd a : Nat) : Int)) = some (.val (.int (i / ((b.gcd a : Nat) : Int)))) := fun i => by
    rw [fDiv_int (divB_ok (by omega) hgs (by decide)), Int.fdiv_eq_ediv_of_nonneg _ (by omega)]
  unfold m_law_ratio_2
  conv => whnf
  repeat (refine ⟨_, rfl, ?_⟩; conv => whnf)
  by_cases n0 : 0 < b
  · rw [decide_eq_true n0]
    conv => whnf
    refine ⟨_, ed a, ?_⟩
    conv => whnf
    refine ⟨_, ed b, ?_⟩
    conv => whnf
    have := h
    rw [qD, ← q_num_pos n0, ← q_den_pos n0] at this
    exact ⟨small64 (by simp), this _⟩
  · rw [decide_eq_false n0]
    conv => whnf
    refine ⟨_, ed a, ?_⟩
    conv => whnf
    repeat (refine ⟨_, rfl, ?_⟩; conv => whnf)
    refine ⟨_, ed b, ?_⟩
    conv => whnf
    repeat (refine ⟨_, rfl, ?_⟩; conv => whnf)
    have := h
    rw [qD, ← q_num_neg (by omega), ← q_den_neg (by omega)] at this
    exact ⟨small64 (by simp), this _⟩
theorem s_fraction {a b : Int} (hb : b ≠ 0) (hbs : b.natAbs < 2 ^ 8000) : Ret w_fraction [.val (.int a), .val (.int b)] (qD (Rat.divInt a b)) := by
  intro Qd Ed h
  unfold w_fraction m_fraction
  conv => whnf
  repeat (refine ⟨_, rfl, ?_⟩; conv => whnf)
  have hg := gcd_pos (a := a) hb
  have eg : Nat.gcd a.natAbs b.natAbs = b.gcd a := Nat.gcd_comm _ _
  have hgs : ((b.gcd a : Nat) : Int).natAbs < 2 ^ 8000 := le2k (by
    have := Nat.le_of_dvd (by omega : 0 < b.natAbs) (Nat.gcd_dvd_left b.natAbs a.natAbs)
    exact this) hbs
  have hgs2 : (-((b.gcd a : Nat) : Int)).natAbs < 2 ^ 8000 := by rw [Int.natAbs_neg]; exact hgs
  by_cases n0 : 0 < b
  · rw [decide_eq_true n0]
    conv => whnf
    unfold m_fraction_2
    conv => whnf
    repeat (refine ⟨_, rfl, ?_⟩; conv => whnf)
    rw [eg]
    refine ⟨_, fMul_int (mulB_ok (a := 8000) (b := 1) hgs (by decide) (by decide)), ?_⟩
    rw [Int.mul_one]
    conv => whnf
    unfold m_fraction_1
    conv => whnf
    have ed : ∀ i : Int, fDiv (.int i) (.int ((b.gcd a : Nat) : Int)) = some (.val (.int (i / ((b.gcd a : Nat) : Int)))) := fun i => by
      rw [fDiv_int (divB_ok (by omega) hgs (by decide)), Int.fdiv_eq_ediv_of_nonneg _ (by omega)]
    refine ⟨_, ed a, ?_⟩
    conv => whnf
    refine ⟨_, ed b, ?_⟩
    conv => whnf
    have := h
    rw [qD, ← q_num_pos n0, ← q_den_pos n0] at this
    exact ⟨small64 (by simp), this _⟩
  · rw [decide_eq_false n0]
    conv => whnf
    repeat (refine ⟨_, rfl, ?_⟩; conv => whnf)
    unfold m_fraction_2
    conv => whnf
    repeat (refine ⟨_, rfl, ?_⟩; conv => whnf)
    rw [eg]
    refine ⟨_, fMul_int (i := ((b.gcd a : Nat) : Int)) (j := -1) (mulB_ok (a := 8000) (b := 1) hgs (by decide) (by decide)), ?_⟩
    rw [show ((b.gcd a : Nat) : Int) * -1 = -((b.gcd a : Nat) : Int) by omega]
    conv => whnf
    unfold m_fraction_1
    conv => whnf
    have ed : ∀ i : Int, ((b.gcd a : Nat) : Int) ∣ i → fDiv (.int i) (.int (-((b.gcd a : Nat) : Int))) = some (.val (.int (0 - i / ((b.gcd a : Nat) : Int)))) := fun i hi => by
      rw [fDiv_int (divB_ok (by omega) hgs2 (by decide)), Int.fdiv_eq_ediv_of_dvd (Int.neg_dvd.mpr hi), Int.ediv_neg]
      congr 3
      omega
    refine ⟨_, ed a (Int.gcd_dvd_right b a), ?_⟩
    conv => whnf
    refine ⟨_, ed b (Int.gcd_dvd_left b a), ?_⟩
    conv => whnf
    have := h
    rw [qD, ← q_num_neg (by omega), ← q_den_neg (by omega)] at this
    exact ⟨small64 (by simp), this _⟩
end Lk03
set_option exponentiation.threshold 100000
namespace Lk03
open PySem PySem.Spec PyProof.Rows L2 DL
theorem lt_of_le_pow {x a b : Nat} (h : x ≤ 2 ^ a) (hab : a < b) : x < 2 ^ b := Nat.lt_of_le_of_lt h (Nat.pow_lt_pow_right (by decide) hab)
theorem mul_le {x y : Int} {a b : Nat} (hx : x.natAbs ≤ 2 ^ a) (hy : y.natAbs ≤ 2 ^ b) (h : a + b ≤ 100000) : fMul (.int x) (.int y) = some (.val (.int (x * y))) :=
  fMul_int (mulB_ok (a := a + 1) (b := b + 1) (lt_of_le_pow hx (by omega)) (lt_of_le_pow hy (by omega)) (by omega))
theorem den_abs {d : Nat} {q : Rat} (h : q.den ≤ 2 ^ d) : ((q.den : Nat) : Int).natAbs ≤ 2 ^ d := by rw [Int.natAbs_natCast]; exact h
theorem den2_ne (p q : Rat) : ((p.den : Nat) : Int) * ((q.den : Nat) : Int) ≠ 0 := Int.mul_ne_zero (den_ne p) (den_ne q)
theorem den2_lt {p q : Rat} {d d2 : Nat} (h : p.den ≤ 2 ^ d) (h2 : q.den ≤ 2 ^ d2) (h3 : d + d2 < 8000) : (((p.den : Nat) : Int) * ((q.den : Nat) : Int)).natAbs < 2 ^ 8000 := by
  rw [Int.natAbs_mul, Int.natAbs_natCast, Int.natAbs_natCast]
  exact lt_of_le_pow (pow_mul_le h h2) h3
theorem s_plus {p q : Rat} {a d a2 d2 : Nat} (hp : Qs a d p) (hq : Qs a2 d2 q) (h1 : d + d2 < 8000) (h2 : a + d2 ≤ 90000) (h3 : a2 + d ≤ 90000) : Ret w_law_plus [.val (qD p), .val (qD q)] (qD (p + q)) := by
  intro Qd Ed h
  unfold w_law_plus m_law_plus
  conv => whnf
  repeat (refine ⟨_, rfl, ?_⟩; conv => whnf)
  refine ⟨_, mul_le hp.n (den_abs hq.d) (by omega), ?_⟩
  conv => whnf
  repeat (refine ⟨_, rfl, ?_⟩; conv => whnf)
  refine ⟨_, mul_le hq.n (den_abs hp.d) (by omega), ?_⟩
  conv => whnf
  repeat (refine ⟨_, rfl, ?_⟩; conv => whnf)
  refine ⟨_, mul_le (den_abs hp.d) (den_abs hq.d) (by omega), ?_⟩
  conv => whnf
  refine s_ratio (den2_ne p q) (den2_lt hp.d hq.d h1) _ _ fun o => ?_
  conv => whnf
  rw [q_add]
  exact h _
theorem s_qtimes {p q : Rat} {a d a2 d2 : Nat} (hp : Qs a d p) (hq : Qs a2 d2 q) (h1 : d + d2 < 8000) (h2 : a + a2 ≤ 90000) : Ret w_law_times [.val (qD p), .val (qD q)] (qD (p * q)) := by
  intro Qd Ed h
  unfold w_law_times m_law_times
  conv => whnf
  repeat (refine ⟨_, rfl, ?_⟩; conv => whnf)
  refine ⟨_, mul_le hp.n hq.n (by omega), ?_⟩
  conv => whnf
  repeat (refine ⟨_, rfl, ?_⟩; conv => whnf)
  refine ⟨_, mul_le (den_abs hp.d) (den_abs hq.d) (by omega), ?_⟩
  conv => whnf
  refine s_ratio (den2_ne p q) (den2_lt hp.d hq.d h1) _ _ fun o => ?_
  conv => whnf
  rw [q_mul]
  exact h _
end Lk03
namespace Det
open Lean.Grind
variable {R : Type} [CommRing R]
/-! minors at any place: columns with the k-th ahead -/
def pic (k c : Nat) : Nat := if c = 0 then k else sk k (c - 1)
def tac (k c : Nat) : Nat := if c = k then 0 else un k c + 1
theorem tac_pic (k c : Nat) : tac k (pic k c) = c := by
  unfold tac pic
  by_cases h : c = 0
  · rw [if_pos h, if_pos rfl, h]
  · rw [if_neg h, if_neg (sk_ne k _), un_sk]
    omega
theorem pic_tac (k c : Nat) : pic k (tac k c) = c := by
  unfold tac pic
  by_cases h : c = k
  · rw [if_pos h, if_pos rfl, h]
  · rw [if_neg h, if_neg (by omega), Nat.add_sub_cancel, sk_un h]
theorem tac_lt {k c n : Nat} (hk : k < n + 1) (hc : c < n + 1) : tac k c < n + 1 := by
  unfold tac un
  split
  · omega
  · split <;> omega
theorem pic_lt {k c n : Nat} (hk : k < n + 1) (hc : c < n + 1) : pic k c < n + 1 := by
  unfold pic sk
  split
  · omega
  · split <;> omega
def fr (k : Nat) (M : Nat → Nat → R) : Nat → Nat → R := fun r c => M r (pic k c)
theorem fr_setC {k c : Nat} {M : Nat → Nat → R} {u : Nat → R} : fr k (setC M c u) = setC (fr k M) (tac k c) u := by
  funext r d
  unfold fr setC
  by_cases h : pic k d = c
  · rw [if_pos h, if_pos (by rw [← h, tac_pic])]
  · rw [if_neg h, if_neg fun e => h (by rw [e, pic_tac])]
theorem fr_alt {n k : Nat} (hk : k < n + 1) : Alt (n + 1) fun M => det (n + 1) (fr (R := R) k M) where
  congr := fun M N h => det_congr fun i j hi hj => h _ _ hi (pic_lt hk hj)
  lin := fun a b M c u v hc => by
    show det (n + 1) (fr k _) = a * det (n + 1) (fr k _) + b * det (n + 1) (fr k _)
    rw [fr_setC, fr_setC, fr_setC]
    exact det_lin a b _ _ _ (tac_lt hk hc)
  like := fun M c hc h => by
    show det (n + 1) (fr k M) = 0
    have hne : tac k c ≠ tac k (c + 1) := fun e => by
      have := congrArg (pic k) e
      rw [pic_tac, pic_tac] at this
      omega
    rw [← (det_alt (n + 1)).same (tac_lt hk (by omega : c < n + 1)) (tac_lt hk hc) hne (fr k M) fun i => M i c]
    refine det_congr fun i j hi hj => ?_
    unfold setC
    by_cases h1 : j = tac k (c + 1)
    · rw [if_pos h1]
      unfold fr
      rw [h1, pic_tac]
      exact (h i hi).symm
    · rw [if_neg h1]
      by_cases h2 : j = tac k c
      · rw [if_pos h2]
        unfold fr
        rw [h2, pic_tac]
      · rw [if_neg h2]
theorem fr_idm (k : Nat) : fr k (idm (R := R)) = pu k := by
  funext r c
  unfold fr pu idm pic
  split <;> rfl
theorem idm_det : ∀ n, det n (idm : Nat → Nat → R) = 1
  | 0 => rfl
  | n + 1 => by
    rw [det_last n idm fun j hj => by unfold idm dl; rw [if_neg (by omega)], idm_det n]
    unfold idm dl
    rw [if_pos rfl]
    grind
theorem det_front {n k : Nat} (hk : k < n + 1) (M : Nat → Nat → R) : det (n + 1) (fr k M) = sg k * det (n + 1) M := by
  have := uniq (n + 1) _ (fr_alt hk) M
  rw [this, fr_idm, pu_sg (det_alt (n + 1)) k hk, idm_det]
  grind
theorem sg_sg (k : Nat) : (sg k : R) * sg k = 1 := by
  unfold sg
  split <;> grind
/-- what stands across, with its sign -/
def adj (n : Nat) (M : Nat → Nat → R) (k i : Nat) : R := sg k * (sg i * det n fun a b => M (sk i a) (sk k b))
theorem adj_eq {n k : Nat} (hk : k < n + 1) (M : Nat → Nat → R) : sumTo (n + 1) (fun i => adj n M k i * M i k) = det (n + 1) M := by
  have h := det_front hk M
  have h2 := det_col n (fr k M)
  have e : (fun i => adj n M k i * M i k) = fun i => sg k * (sg i * (fr k M i 0 * det n fun a b => fr k M (sk i a) (b + 1))) := by
    funext i
    have e1 : fr k M i 0 = M i k := rfl
    have e2 : (fun a b => fr k M (sk i a) (b + 1)) = fun a b => M (sk i a) (sk k b) := by
      funext a b
      show M (sk i a) (pic k (b + 1)) = _
      unfold pic
      rw [if_neg (by omega), Nat.add_sub_cancel]
    rw [e1, e2]
    unfold adj
    grind
  rw [e, sum_mul, ← h2, h]
  have := sg_sg (R := R) k
  grind
theorem adj_left {n k j : Nat} (hk : k < n + 1) (hj : j < n + 1) (M : Nat → Nat → R) : sumTo (n + 1) (fun i => adj n M k i * M i j) = if k = j then det (n + 1) M else 0 := by
  by_cases h : k = j
  · subst h
    rw [if_pos rfl]
    exact adj_eq hk M
  · rw [if_neg h]
    have e := adj_eq hk (setC M k fun i => M i j)
    have e1 : det (n + 1) (setC M k fun i => M i j) = 0 := by
      rw [← (det_alt (n + 1)).same hk hj h M fun i => M i j]
      refine det_congr fun a b ha hb => ?_
      unfold setC
      by_cases h1 : b = j
      · rw [if_pos h1, if_neg (by omega), h1]
      · rw [if_neg h1]
    rw [e1] at e
    rw [← e]
    refine sum_congr fun i hi => ?_
    have e2 : adj n (setC M k fun i => M i j) k i = adj n M k i := by
      unfold adj
      congr 3
      funext a b
      unfold setC
      rw [if_neg (sk_ne k b)]
    rw [e2]
    unfold setC
    rw [if_pos rfl]
theorem adj_tr {n k i : Nat} (M : Nat → Nat → R) : adj n (fun a b => M b a) i k = adj n M k i := by
  unfold adj
  have e : (det n fun a b => M (sk i b) (sk k a)) = det n fun a b => M (sk i a) (sk k b) := det_turn n fun a b => M (sk i a) (sk k b)
  rw [e]
  grind
theorem adj_right {n i j : Nat} (hi : i < n + 1) (hj : j < n + 1) (M : Nat → Nat → R) : sumTo (n + 1) (fun k => M i k * adj n M k j) = if i = j then det (n + 1) M else 0 := by
  have h := adj_left hj hi fun a b => M b a
  rw [det_turn (n + 1) M] at h
  have e : (fun k => M i k * adj n M k j) = fun k => adj n (fun a b => M b a) j k * M i k := by
    funext k
    rw [adj_tr]
    grind
  rw [e, h]
  by_cases q : i = j
  · rw [if_pos q, if_pos q.symm]
  · rw [if_neg q, if_neg fun z => q z.symm]
end Det
set_option exponentiation.threshold 100000
namespace Lk03
open PySem PySem.Spec PyProof.Rows L2 DL
/-- without a line and a place -/
def wo (l p : Nat) (rows : List (List Int)) : List (List Int) := (rows.take l ++ rows.drop (l + 1)).map fun r => r.take p ++ r.drop (p + 1)
theorem tdget {α : Type} (d : α) {xs : List α} {l k : Nat} (hl : l < xs.length) (hk : k + 1 < xs.length + 0) : (xs.take l ++ xs.drop (l + 1)).getD k d = xs.getD (Det.sk l k) d := by
  unfold Det.sk
  rw [List.getD_eq_getElem?_getD, List.getD_eq_getElem?_getD]
  by_cases h1 : k < l
  · rw [if_pos h1, List.getElem?_append_left (by rw [List.length_take]; omega), List.getElem?_take_of_lt h1]
  · rw [if_neg h1, List.getElem?_append_right (by rw [List.length_take]; omega), List.length_take, List.getElem?_drop]
    congr 2
    omega
section
variable {n b : Nat} {rows : List (List Int)}
theorem wo_gr {l p : Nat} (h : Gr (n + 1) b rows) (hl : l < n + 1) (hp : p < n + 1) : Gr n b (wo l p rows) := by
  have hr := h.l
  refine ⟨by unfold wo; rw [List.length_map, List.length_append, List.length_take, List.length_drop]; omega, fun r hr => ?_⟩
  unfold wo at hr
  obtain ⟨q, hq, rfl⟩ := List.mem_map.mp hr
  have hq2 : q ∈ rows := by
    rcases List.mem_append.mp hq with z | z
    · exact List.mem_of_mem_take z
    · exact List.mem_of_mem_drop z
  have h1 := h.r q hq2
  refine ⟨by rw [List.length_append, List.length_take, List.length_drop]; omega, fun x hx => ?_⟩
  rcases List.mem_append.mp hx with hx | hx
  · exact h1.2 x (List.mem_of_mem_take hx)
  · exact h1.2 x (List.mem_of_mem_drop hx)
theorem wo_at {l p i k : Nat} (h : Gr (n + 1) b rows) (hl : l < n + 1) (hp : p < n + 1) (hi : i < n) (hk : k < n) : at2 (wo l p rows) i k = at2 rows (Det.sk l i) (Det.sk p k) := by
  have hr := h.l
  have hs : Det.sk l i < n + 1 := by unfold Det.sk; split <;> omega
  show ((wo l p rows).getD i []).getD k 0 = (rows.getD (Det.sk l i) []).getD (Det.sk p k) 0
  have e1 : (wo l p rows).getD i [] = (rows.getD (Det.sk l i) []).take p ++ (rows.getD (Det.sk l i) []).drop (p + 1) := by
    unfold wo
    rw [← tdget [] (xs := rows) (l := l) (k := i) (by omega) (by omega)]
    rw [List.getD_eq_getElem?_getD (l := List.map _ _), List.getElem?_map, getq [] (by rw [List.length_append, List.length_take, List.length_drop]; omega)]
    rfl
  rw [e1]
  exact tdget 0 (by rw [h.rl hs]; exact hp) (by rw [h.rl hs]; omega)
theorem s_without {l p : Nat} (h : Gr (n + 1) b rows) (hn : n < 6) (hl : l < n + 1) (hp : p < n + 1) : RetO w_without [.val (tt rows), .val (.int (l : Nat)), .val (.int (p : Nat))] ((wo l p rows).map ti) := by
  intro Qd Ed k
  have hr := h.l
  have cutL : ∀ {α : Type} (f : α → D) (xs : List α) (q : Nat), q < xs.length → DL.cutD (xs.map f) none (some ((q : Nat) : Int)) = (xs.take q).map f := fun f xs q hq => by
    rw [List.map_take]
    exact cut_to _ (by rw [List.length_map]; omega)
  have cutR : ∀ {α : Type} (f : α → D) (xs : List α) (q : Nat), q < xs.length → DL.cutD (xs.map f) (some (((q : Nat) : Int) + 1)) none = (xs.drop (q + 1)).map f := fun f xs q hq => by
    rw [List.map_drop]
    exact cut_from (k := q + 1) _ (by rw [List.length_map]; omega)
  unfold w_without m_without
  conv => whnf
  repeat (refine ⟨_, rfl, ?_⟩; conv => whnf)
  rw [cutL ti rows l (by omega), cutR ti rows l (by omega)]
  refine ⟨_, fAdd_tup (small64 (by rw [List.length_map, List.length_map, List.length_take, List.length_drop]; omega)), ?_⟩
  rw [← List.map_append]
  conv => whnf
  show m_without_1 _ [some (.val (tt rows)), some (.val (.int (l : Nat))), some (.val (.int (p : Nat))), some (.val (tt (rows.take l ++ rows.drop (l + 1)))), none]
  unfold m_without_1
  conv => whnf
  refine ⟨rfl, ?_⟩
  refine lcGo_enc ti (fun r => ti (r.take p ++ r.drop (p + 1))) (rows.take l ++ rows.drop (l + 1)) [] (fun r hr2 Kt Kf hK => ?_) (small64 (by rw [List.length_nil, List.length_append, List.length_take, List.length_drop]; omega)) ?_
  · have hrm : r ∈ rows := by
      rcases List.mem_append.mp hr2 with z | z
      · exact List.mem_of_mem_take z
      · exact List.mem_of_mem_drop z
    have hrl := (h.r r hrm).1
    conv => whnf
    repeat (refine ⟨_, rfl, ?_⟩; conv => whnf)
    rw [cutL D.int r p (by omega), cutR D.int r p (by omega)]
    refine ⟨_, fAdd_tup (small64 (by rw [List.length_map, List.length_map, List.length_take, List.length_drop]; omega)), ?_⟩
    rw [← List.map_append]
    exact hK
  · have e : ([] : List D) ++ (rows.take l ++ rows.drop (l + 1)).map (fun r => ti (r.take p ++ r.drop (p + 1))) = (wo l p rows).map ti := by
      unfold wo
      rw [List.nil_append, List.map_map]
      rfl
    rw [e]
    conv => whnf
    exact k _
theorem det_sm {b : Nat} {M : List (List Int)} (h : Gr n b M) (hn : n ≤ 6) (hb : b ≤ 300) : (Det.det n (at2 M)).natAbs < 2 ^ 2000 := by
  have := det_abs (b := b) (n := n) (M := at2 M) (by omega) fun i k hi hk => h.en hi hk
  refine Nat.lt_of_le_of_lt this (Nat.pow_lt_pow_right (by decide) ?_)
  have : n * (b + 3) ≤ 6 * 303 := Nat.mul_le_mul (by omega) (by omega)
  omega
theorem sg_two (i k : Nat) (x : Int) : Det.sg k * (Det.sg i * x) = if (i + k) % 2 = 0 then x else - x := by
  unfold Det.sg
  split <;> split <;> split <;> omega
theorem s_minor {l p : Nat} (h : Gr (n + 1) b rows) (hn : n < 6) (hb : b ≤ 250) (hl : l < n + 1) (hp : p < n + 1) : Ret w_minor_sign [.val (tt rows), .val (.int (l : Nat)), .val (.int (p : Nat))] (.int (Det.adj n (at2 rows) p l)) := by
  intro Qd Ed k
  have hw := wo_gr h hl hp
  have ed : Det.det n (at2 (wo l p rows)) = Det.det n fun a c => at2 rows (Det.sk l a) (Det.sk p c) := Det.det_congr fun i k hi hk => wo_at h hl hp hi hk
  unfold Det.adj at k
  rw [← ed, sg_two] at k
  have hsm := det_sm hw (by omega) (by omega)
  unfold w_minor_sign m_minor_sign
  conv => whnf
  (refine ⟨_, rfl, ?_⟩; conv => whnf)
  (refine ⟨_, rfl, ?_⟩; conv => whnf)
  refine ⟨_, fMod_int (i := (l : Nat) + (p : Nat)) (j := 2) (by decide), ?_⟩
  conv => whnf
  refine ⟨_, fEq_int (((l : Nat) + (p : Nat) : Int) % 2) 0, ?_⟩
  by_cases q : (l + p) % 2 = 0
  · rw [decide_eq_true (show ((l : Nat) + (p : Nat) : Int) % 2 = 0 by omega)]
    conv => whnf
    show m_minor_sign_1 _ [some (.val (tt rows)), some (.val (.int (l : Nat))), some (.val (.int (p : Nat))), some (.val (.int 1))]
    unfold m_minor_sign_1
    conv => whnf
    refine s_without h hn hl hp _ _ fun o => ?_
    conv => whnf
    refine det_byL (hw.mono hb) (by omega) _ _ fun o => ?_
    conv => whnf
    refine ⟨_, fMul_int (mulB_ok (a := 1) (b := 2000) (by decide) hsm (by decide)), ?_⟩
    rw [if_pos q] at k
    rw [Int.one_mul]
    exact k _
  · rw [decide_eq_false (show ¬ ((l : Nat) + (p : Nat) : Int) % 2 = 0 by omega)]
    conv => whnf
    repeat (refine ⟨_, rfl, ?_⟩; conv => whnf)
    show m_minor_sign_1 _ [some (.val (tt rows)), some (.val (.int (l : Nat))), some (.val (.int (p : Nat))), some (.val (.int (-1)))]
    unfold m_minor_sign_1
    conv => whnf
    refine s_without h hn hl hp _ _ fun o => ?_
    conv => whnf
    refine det_byL (hw.mono hb) (by omega) _ _ fun o => ?_
    conv => whnf
    refine ⟨_, fMul_int (i := -1) (mulB_ok (a := 1) (b := 2000) (by decide) hsm (by decide)), ?_⟩
    rw [if_neg q] at k
    rw [Int.neg_one_mul]
    exact k _
end
end Lk03
set_option exponentiation.threshold 100000
namespace Lk03
open PySem PySem.Spec PyProof.Rows L2 DL
theorem pow30 {x : Int} (h : x.natAbs ≤ 64 * 10 ^ 20) : x.natAbs < 2 ^ 75 := Nat.lt_of_le_of_lt h (by decide)
theorem pow9000 {x : Int} (h : x.natAbs < 2 ^ 75) : x.natAbs < 2 ^ 9000 := Nat.lt_of_lt_of_le h (Nat.pow_le_pow_right (by decide) (by decide))
def Mx (i : Nat) : Nat := 2 ^ i * 10 ^ 20
theorem Mx_succ (i : Nat) : Mx (i + 1) = 2 * Mx i := by
  unfold Mx
  rw [Nat.pow_succ, Nat.mul_comm (2 ^ i) 2, Nat.mul_assoc]
theorem Mx_le {i : Nat} (h : i ≤ 6) : Mx i ≤ 64 * 10 ^ 20 := Nat.mul_le_mul_right _ (Nat.le_trans (Nat.pow_le_pow_right (by decide) h) (by decide))
/-- rows so far -/
def Rs (n i : Nat) (rows : List (List Int)) : Prop := rows.length = i ∧ ∀ r ∈ rows, r.length = n ∧ ∀ x ∈ r, x.natAbs ≤ Mx i
section
variable {k n i : Nat} {p : List D} {wide : Int} {rows : List (List Int)} {c4 c5 c6 c7 c8 : Option Cell} {Dd : DEnds}
theorem three_le {x : Int} (h : x.natAbs ≤ 10 ^ 20) (i : Nat) : x.natAbs ≤ Mx i := by
  unfold Mx
  have : 1 ≤ 2 ^ i := Nat.one_le_pow _ _ (by decide)
  exact Nat.le_trans h (Nat.le_mul_of_pos_left _ this)
theorem gr1 (hp : Pool k p) (hk : k < 2 ^ 40) (hn : n ≤ 6) (hi : i < n) (hr : Rs n i rows) {xs : List Int} (hx : xs.length = n ∧ ∀ x ∈ xs, x.natAbs ≤ 10 ^ 20)
    (h : ∀ p' rows' c5, Pool (k + 3) p' → Rs n (i + 1) rows' → Dd.nx [some (.own p'), some (.val (.int (n : Nat))), some (.val (.int wide)), some (.own (rows'.map ti)), c4, c5, none, none, none]) :
    m_law_grid_iv_1 Dd [some (.own p), some (.val (.int (n : Nat))), some (.val (.int wide)), some (.own (rows.map ti)), c4, some (.val (ti xs)), none, none, none] := by
  have hl := hr.1
  have fin : ∀ (ys : List Int), ys.length = n → (∀ y ∈ ys, y.natAbs ≤ Mx (i + 1)) → Rs n (i + 1) (rows ++ [ys]) := by
    intro ys h1 h2
    refine ⟨by rw [List.length_append, hl]; rfl, fun r hr2 => ?_⟩
    rcases List.mem_append.mp hr2 with hr2 | hr2
    · have := hr.2 r hr2
      refine ⟨this.1, fun x hx => ?_⟩
      have h3 := this.2 x hx
      rw [Mx_succ]
      omega
    · rw [List.mem_singleton.mp hr2]
      exact ⟨h1, h2⟩
  have last : ∀ p' ys, Pool (k + 3) p' → ys.length = n → (∀ y ∈ ys, y.natAbs ≤ Mx (i + 1)) → mApp 3 (mVar 5) Dd [some (.own p'), some (.val (.int (n : Nat))), some (.val (.int wide)), some (.own (rows.map ti)), c4, some (.val (ti ys)), none, none, none] := by
    intro p' ys hp' h1 h2
    conv => whnf
    refine ⟨by rw [sizeLine_eq, List.length_map]; omega, ?_⟩
    have := h p' (rows ++ [ys]) (some (.val (ti ys))) hp' (fin ys h1 h2)
    rw [List.map_append] at this
    exact this
  unfold m_law_grid_iv_1
  conv => whnf
  refine ⟨small64 (by decide), ?_⟩
  conv => whnf
  refine ⟨_, fNe_rows0 rows, ?_⟩
  by_cases h0 : rows = []
  · rw [decide_eq_true h0]
    conv => whnf
    exact last p xs (hp.mono (by omega)) hx.1 fun y hy => three_le (hx.2 y hy) _
  · rw [decide_eq_false h0]
    have hr1 : 1 ≤ rows.length := by
      cases rows with
      | nil => exact absurd rfl h0
      | cons r rs => simp
    conv => whnf
    refine s_below hp (by omega) (by omega) (by decide) fun a o a0 a1 hp1 => ?_
    conv => whnf
    refine ⟨_, fEq_int a 0, ?_⟩
    by_cases ha : a = 0
    · rw [decide_eq_true ha]
      conv => whnf
      refine s_one2 hp1 (by omega) (by rw [List.length_map]; exact hr1) (by rw [List.length_map]; omega) fun d1 o1 hd1 hp2 e1 => ?_
      obtain ⟨r1, hr1m, rfl⟩ := List.mem_map.mp hd1
      conv => whnf
      rw [e1]
      refine s_one2 hp2 (by omega) (by rw [List.length_map]; exact hr1) (by rw [List.length_map]; omega) fun d2 o2 hd2 hp3 e2 => ?_
      obtain ⟨r2, hr2m, rfl⟩ := List.mem_map.mp hd2
      have q1 := hr.2 r1 hr1m
      have q2 := hr.2 r2 hr2m
      conv => whnf
      rw [zipD2_map]
      refine ⟨rfl, ?_⟩
      refine lcGo_enc (fun p : Int × Int => D.tup [D.int p.1, D.int p.2]) (fun p => D.int (p.1 + p.2)) (r1.zip r2) [] (fun p hp Kt2 Kf2 hK2 => ?_) (small64 (by rw [List.length_zip]; simp only [List.length_nil]; omega)) ?_
      · conv => whnf
        refine ⟨rfl, ?_⟩
        conv => whnf
        repeat (refine ⟨_, rfl, ?_⟩; conv => whnf)
        exact hK2
      · have e : ([] : List D) ++ (r1.zip r2).map (fun p : Int × Int => D.int (p.1 + p.2)) = ((r1.zip r2).map fun p => p.1 + p.2).map D.int := by
          rw [List.nil_append, List.map_map]
          rfl
        rw [e]
        have f := last (o2 0) ((r1.zip r2).map fun p => p.1 + p.2) hp3 (by rw [List.length_map, List.length_zip, q1.1, q2.1, Nat.min_self]) (fun y hy => by
          obtain ⟨q, hq, rfl⟩ := List.mem_map.mp hy
          have m1 := q1.2 _ (List.of_mem_zip hq).1
          have m2 := q2.2 _ (List.of_mem_zip hq).2
          rw [Mx_succ]
          omega)
        conv => whnf
        repeat (refine ⟨_, rfl, ?_⟩; conv => whnf)
        rw [← e2] at f
        exact f
    · rw [decide_eq_false ha]
      conv => whnf
      exact last _ xs (hp1.mono (by omega)) hx.1 fun y hy => three_le (hx.2 y hy) _
end
end Lk03
set_option exponentiation.threshold 100000
namespace Lk03
open PySem PySem.Spec PyProof.Rows L2 DL
section
variable {k n i : Nat} {p : List D} {wide : Int} {rows : List (List Int)} {c4 c5 c6 c7 c8 : Option Cell} {Dd : DEnds}
theorem gr2 (hp : Pool k p) (hk : k < 2 ^ 39) (hn : n ≤ 6) (hi : i < n) (hw : 1 ≤ wide ∧ wide ≤ 10 ^ 20) (hr : Rs n i rows)
    (h : ∀ p' rows' c5, Pool (k + 21) p' → Rs n (i + 1) rows' → Dd.nx [some (.own p'), some (.val (.int (n : Nat))), some (.val (.int wide)), some (.own (rows'.map ti)), c4, c5, none, none, none]) :
    m_law_grid_iv_2 Dd [some (.own p), some (.val (.int (n : Nat))), some (.val (.int wide)), some (.own (rows.map ti)), c4, c5, none, none, none] := by
  unfold m_law_grid_iv_2
  conv => whnf
  refine ⟨⟨by omega, by omega⟩, ?_⟩
  conv => whnf
  refine ⟨rfl, ?_⟩
  refine lcGo_inv (fun acc ρ => ∃ p xs c, ρ = [some (.own p), some (.val (.int (n : Nat))), some (.val (.int wide)), some (.own (rows.map ti)), c4, c5, c, none, none] ∧ acc = xs.map D.int ∧ Pool (k + 3 * acc.length) p ∧ ∀ x ∈ xs, x.natAbs ≤ 10 ^ 20) _ _ _ ?_ ?_ ⟨_, [], _, rfl, rfl, hp, by simp⟩ ?_
  · rw [rangeD_len, sizeLine_eq]
    simp only [List.length_nil]
    omega
  · rintro d hd acc ρ hl6 ⟨p, xs, c, rfl, rfl, hp2, hx⟩ Kt Kf hK
    rw [rangeD_len, List.length_nil] at hl6
    have w110 : wide.natAbs < 2 ^ 68 := Nat.lt_of_le_of_lt (show wide.natAbs ≤ 10 ^ 20 by omega) (by decide)
    have em : fMul (.int 2) (.int wide) = some (.val (.int (2 * wide))) := fMul_int (mulB_ok (a := 2) (b := 68) (by decide) w110 (by decide))
    conv => whnf
    refine ⟨_, em, ?_⟩
    conv => whnf
    repeat (refine ⟨_, rfl, ?_⟩; conv => whnf)
    refine s_below hp2 (by omega) (by omega) (pow9000 (Nat.lt_of_le_of_lt (show (2 * wide + 1).natAbs ≤ 3 * 10 ^ 20 by omega) (by decide))) fun r1 o1 h1 h2 hp3 => ?_
    conv => whnf
    repeat (refine ⟨_, rfl, ?_⟩; conv => whnf)
    refine ⟨small64 (by simp), ?_⟩
    conv => whnf
    refine s_one hp3 (by omega) (by simp) (by simp) fun m o3 hm hp5 => ?_
    have hm2 : ∃ i, m = D.int i ∧ i.natAbs ≤ 10 ^ 20 := by
      simp only [List.mem_cons, List.not_mem_nil, or_false] at hm
      rcases hm with rfl | rfl
      · exact ⟨0, rfl, by omega⟩
      · exact ⟨r1 - wide, rfl, by omega⟩
    obtain ⟨i, rfl, hi⟩ := hm2
    conv => whnf
    refine hK _ _ ⟨_, xs ++ [i], _, rfl, by rw [List.map_append]; rfl, ?_, ?_⟩
    · rw [List.length_append]
      exact hp5.mono (by simp only [List.length_cons, List.length_nil]; omega)
    · intro x hx2
      rcases List.mem_append.mp hx2 with z | z
      · exact hx x z
      · have : x = i := by simpa using z
        omega
  · rintro acc ρ hl6 ⟨p', xs, c, rfl, rfl, hp2, hx⟩
    rw [rangeD_len, List.length_nil, List.length_map] at hl6
    rw [List.length_map] at hp2
    conv => whnf
    repeat (refine ⟨_, rfl, ?_⟩; conv => whnf)
    show m_law_grid_iv_1 _ [some (.own p'), some (.val (.int (n : Nat))), some (.val (.int wide)), some (.own (rows.map ti)), c4, some (.val (ti xs)), none, none, none]
    exact gr1 hp2 (by omega) hn hi hr ⟨by omega, hx⟩ fun p2 rows2 c5 hp3 hr3 => h p2 rows2 c5 (hp3.mono (by omega)) hr3
end
theorem s_grid {k n : Nat} {p : List D} (hp : Pool k p) (hk : k < 2 ^ 38) (h1 : 1 ≤ n) (hn : n ≤ 6) {Qd : Cell → Outs → Prop} {Ed : Str → List (Str × D) → Outs → Prop}
    (h : ∀ rows (o : Outs), Gr n 75 rows → Pool (k + 127) (o 0) → Qd (.val (tt rows)) o) : w_law_grid_iv [.own p, .val (.int (n : Nat))] Qd Ed := by
  unfold w_law_grid_iv m_law_grid_iv
  conv => whnf
  repeat (refine ⟨_, rfl, ?_⟩; conv => whnf)
  refine ⟨small64 (by simp), ?_⟩
  conv => whnf
  refine s_one hp (by omega) (by simp) (by simp) fun m o hm hp2 => ?_
  have hm2 : ∃ i : Int, m = D.int i ∧ 1 ≤ i ∧ i ≤ 10 ^ 20 := by
    simp only [List.mem_cons, List.not_mem_nil, or_false] at hm
    rcases hm with rfl | rfl | rfl | rfl
    · exact ⟨1, rfl, by decide, by decide⟩
    · exact ⟨2, rfl, by decide, by decide⟩
    · exact ⟨9, rfl, by decide, by decide⟩
    · exact ⟨_, rfl, by decide, by decide⟩
  obtain ⟨w, rfl, hw⟩ := hm2
  conv => whnf
  refine ⟨small64 (by simp), ?_⟩
  conv => whnf
  refine ⟨rfl, ?_⟩
  conv => whnf
  show m_law_grid_iv_3 _ [some (.own (o 0)), some (.val (.int (n : Nat))), some (.val (.int w)), some (.own (([] : List (List Int)).map ti)), none, none, none, none, none]
  unfold m_law_grid_iv_3
  conv => whnf
  refine ⟨⟨by omega, by omega⟩, ?_⟩
  refine forGo_ix (fun i => D.int (0 + (i : Nat))) (fun i ρ => ∃ p' rows c4 c5, ρ = [some (.own p'), some (.val (.int (n : Nat))), some (.val (.int w)), some (.own (rows.map ti)), c4, c5, none, none, none] ∧ Rs n i rows ∧ Pool (k + 1 + 21 * i) p') (List.range (Int.toNat (n : Nat))) 0 _ (Nat.zero_le _) ?_ ?_ ⟨_, [], _, _, rfl, ⟨rfl, by simp⟩, hp2⟩
  · rintro ρ ⟨p', rows, c4, c5, rfl, hr, hp3⟩
    rw [List.length_range, Int.toNat_natCast] at hr hp3
    conv => whnf
    repeat (refine ⟨_, rfl, ?_⟩; conv => whnf)
    refine h rows _ ⟨hr.1, fun r hr2 => ⟨(hr.2 r hr2).1, fun x hx => pow30 (Nat.le_trans ((hr.2 r hr2).2 x hx) (Mx_le hn))⟩⟩ (hp3.mono (by omega))
  · rintro i z ρ hz ⟨p', rows, c4, c5, rfl, hr, hp3⟩ N hN
    have hi := (List.getElem?_eq_some_iff.mp hz).1
    rw [List.length_range, Int.toNat_natCast] at hi
    conv => whnf
    refine gr2 hp3 (by omega) hn hi hw hr fun p2 rows2 c5' hp4 hr4 => ?_
    exact hN _ ⟨_, rows2, _, _, rfl, hr4, hp4.mono (by omega)⟩
end Lk03
set_option exponentiation.threshold 100000
namespace Lk03
open PySem PySem.Spec PyProof.Rows L2 DL
def rowB (B : Nat → Nat → Rat) (n l : Nat) : D := .tup ((List.range n).map fun p => qD (B l p))
def BD (B : Nat → Nat → Rat) (n : Nat) : D := .tup ((List.range n).map (rowB B n))
def Bi (m : Nat) (rows : List (List Int)) (l p : Nat) : Rat := Rat.divInt (Det.adj m (at2 rows) l p) (Det.det (m + 1) (at2 rows))
section
variable {m : Nat} {rows : List (List Int)}
theorem inv1 {w : Int} {l : Nat} {acc : List D} {Dd : DEnds} (h : Gr (m + 1) 75 rows) (hm : m < 6) (hw : w = Det.det (m + 1) (at2 rows)) (hw0 : w ≠ 0) (hl : l < m + 1) (ha : acc.length < 60)
    (k : Dd.nx [some (.val (tt rows)), some (.val (.int w)), some (.val (.int ((m + 1 : Nat) : Int))), some (.own (acc ++ [rowB (Bi m rows) (m + 1) l])), some (.val (.int (0 + (l : Nat)))), none]) :
    m_inverse_by_1 Dd [some (.val (tt rows)), some (.val (.int w)), some (.val (.int ((m + 1 : Nat) : Int))), some (.own acc), some (.val (.int (0 + (l : Nat)))), none] := by
  have e0 : ∀ p : Nat, (0 : Int) + (p : Nat) = (p : Nat) := fun p => by omega
  unfold m_inverse_by_1
  conv => whnf
  refine ⟨⟨by omega, by omega⟩, ?_⟩
  conv => whnf
  refine ⟨rfl, ?_⟩
  refine lcGo_enc (fun p : Nat => D.int (0 + (p : Nat))) (fun p => qD (Bi m rows l p)) (List.range (Int.toNat ((m + 1 : Nat) : Int))) [] (fun p hp Kt Kf hK => ?_) (small64 (by rw [List.length_range, List.length_nil]; omega)) ?_
  · have hp2 : p < m + 1 := by
      have := List.mem_range.mp hp
      omega
    conv => whnf
    rw [e0 p, e0 l]
    refine s_minor h hm (by decide) hp2 hl _ _ fun o => ?_
    conv => whnf
    refine s_fraction hw0 (Nat.lt_of_lt_of_le (by rw [hw]; exact det_sm h (by omega) (by omega)) (Nat.pow_le_pow_right (by decide) (by decide))) _ _ fun o => ?_
    conv => whnf
    unfold Bi at hK
    rw [← hw, e0 l] at hK
    exact hK
  · have e : ([] : List D) ++ (List.range (Int.toNat ((m + 1 : Nat) : Int))).map (fun p => qD (Bi m rows l p)) = (List.range (m + 1)).map fun p => qD (Bi m rows l p) := by
      rw [List.nil_append]
      rfl
    rw [e]
    conv => whnf
    (refine ⟨_, rfl, ?_⟩; conv => whnf)
    refine ⟨by rw [sizeLine_eq]; omega, ?_⟩
    exact k
def invD (m : Nat) (rows : List (List Int)) : D := if Det.det (m + 1) (at2 rows) = 0 then .non else BD (Bi m rows) (m + 1)
theorem s_inv_by (h : Gr (m + 1) 75 rows) (hm : m < 6) : Ret w_inverse_by [.val (tt rows)] (invD m rows) := by
  intro Qd Ed k
  have hl := h.l
  unfold w_inverse_by m_inverse_by
  conv => whnf
  refine det_by (h.mono (by decide)) (by omega) (by omega) _ _ fun o => ?_
  conv => whnf
  (refine ⟨_, rfl, ?_⟩; conv => whnf)
  refine ⟨rfl, ?_⟩
  conv => whnf
  unfold invD at k
  obtain ⟨w, hw⟩ : ∃ w, w = Det.det (m + 1) (at2 rows) := ⟨_, rfl⟩
  rw [← hw] at k ⊢
  have el : (((rows.map ti).length : Nat) : Int) = ((m + 1 : Nat) : Int) := by rw [List.length_map, hl]
  rw [el]
  show m_inverse_by_3 _ [some (.val (tt rows)), some (.val (.int w)), some (.val (.int ((m + 1 : Nat) : Int))), none, none, none]
  unfold m_inverse_by_3
  conv => whnf
  refine ⟨_, fEq_int w 0, ?_⟩
  by_cases hw0 : w = 0
  · rw [decide_eq_true hw0]
    conv => whnf
    rw [if_pos hw0] at k
    exact k _
  · rw [decide_eq_false hw0]
    conv => whnf
    rw [if_neg hw0] at k
    refine ⟨small64 (by simp), ?_⟩
    conv => whnf
    show m_inverse_by_2 _ [some (.val (tt rows)), some (.val (.int w)), some (.val (.int ((m + 1 : Nat) : Int))), some (.own []), none, none]
    unfold m_inverse_by_2
    conv => whnf
    refine ⟨⟨by omega, by omega⟩, ?_⟩
    refine forGo_ix (fun i => D.int (0 + (i : Nat))) (fun i ρ => ∃ c4, ρ = [some (.val (tt rows)), some (.val (.int w)), some (.val (.int ((m + 1 : Nat) : Int))), some (.own ((List.range i).map (rowB (Bi m rows) (m + 1)))), c4, none]) (List.range (Int.toNat ((m + 1 : Nat) : Int))) 0 _ (Nat.zero_le _) ?_ ?_ ⟨_, rfl⟩
    · rintro ρ ⟨c4, rfl⟩
      rw [List.length_range]
      conv => whnf
      repeat (refine ⟨_, rfl, ?_⟩; conv => whnf)
      exact k _
    · rintro i z ρ hz ⟨c4, rfl⟩ N hN
      have hz2 := List.getElem?_eq_some_iff.mp hz
      obtain ⟨hi, hz3⟩ := hz2
      rw [List.getElem_range] at hz3
      subst hz3
      rw [List.length_range] at hi
      conv => whnf
      show m_inverse_by_1 _ [some (.val (tt rows)), some (.val (.int w)), some (.val (.int ((m + 1 : Nat) : Int))), some (.own ((List.range i).map (rowB (Bi m rows) (m + 1)))), some (.val (.int (0 + (i : Nat)))), none]
      refine inv1 h hm hw hw0 (by omega) (by rw [List.length_map, List.length_range]; omega) ?_
      refine hN _ ⟨some (.val (.int (0 + (i : Nat)))), ?_⟩
      rw [List.range_succ, List.map_append]
      rfl
theorem s_inv (h : Gr (m + 1) 75 rows) (hm : m < 6) : Ret w_inverse [.val (tt rows)] (invD m rows) := by
  intro Qd Ed k
  unfold w_inverse m_inverse
  conv => whnf
  refine s_check h (by omega) (by omega) _ _ fun o => ?_
  conv => whnf
  refine s_inv_by h hm _ _ fun o => ?_
  conv => whnf
  exact k _
end
end Lk03
set_option exponentiation.threshold 100000
namespace Lk03
open PySem PySem.Spec PyProof.Rows L2 DL
/-! ### the law's own look at an inverse -/
theorem q_self (q : Rat) : Rat.divInt q.num q.den = q := Rat.num_divInt_den q
theorem fNe_q (p q : Rat) : fNe (qD p) (qD q) = some (.val (.bl (!decide (p = q)))) := by
  have e : fNe (qD p) (qD q) = some (.val (.bl (!decide ([p.num, (p.den : Int)] = [q.num, (q.den : Int)])))) := fNe_ti [p.num, (p.den : Int)] [q.num, (q.den : Int)]
  rw [e]
  by_cases h : p = q
  · rw [h, decide_eq_true rfl, decide_eq_true rfl]
  · rw [decide_eq_false h, decide_eq_false fun z => h ?_]
    simp only [List.cons.injEq, and_true] at z
    have h2 : p.den = q.den := by have := z.2; omega
    exact Rat.ext z.1 h2
structure Inv (n : Nat) (rows : List (List Int)) (B : Nat → Nat → Rat) : Prop where
  s : ∀ l p, l < n → p < n → Qs 500 500 (B l p)
  one : ∀ i j, i < n → j < n → Det.sumTo n (fun l => B i l * ((at2 rows l j : Int) : Rat)) = if i = j then 1 else 0
  two : ∀ i j, i < n → j < n → Det.sumTo n (fun l => ((at2 rows i l : Int) : Rat) * B l j) = if i = j then 1 else 0
theorem qsInt {z : Int} {a : Nat} (h : z.natAbs < 2 ^ a) : Qs a 0 (z : Rat) := ⟨Nat.le_of_lt h, Nat.le_refl 1⟩
theorem mulQ {a d a2 d2 : Nat} {p q : Rat} (h : Qs a d p) (h2 : Qs a2 d2 q) : Qs (a + a2) (d + d2) (p * q) := by
  rw [← q_mul]
  refine ⟨Nat.le_trans (q_num_le (den2_ne p q)) ?_, Nat.le_trans (q_den_le (den2_ne p q)) ?_⟩
  · rw [Int.natAbs_mul]
    exact pow_mul_le h.n h2.n
  · rw [Int.natAbs_mul, Int.natAbs_natCast, Int.natAbs_natCast]
    exact pow_mul_le h.d h2.d
theorem qsSums {f : Nat → Rat} : ∀ n, (∀ i, i < n → Qs 575 500 (f i)) → Qs (1200 * n + 1) (500 * n) (Det.sumTo n f)
  | 0, _ => ⟨by show (0 : Rat).num.natAbs ≤ 2 ^ 1; decide, by show (0 : Rat).den ≤ 2 ^ 0; decide⟩
  | n + 1, h => by
    have h1 := qsSums n fun i hi => h i (by omega)
    have h2 := h n (by omega)
    exact (h1.add h2 (c := 1200 * n + 1100) (by omega) (by omega)).mono (by omega) (by omega)
section
variable {n : Nat} {rows : List (List Int)} {B : Nat → Nat → Rat} {c3 c4 : Option Cell} {Dd : DEnds}
theorem ii1 {i p : Nat} (hB : Inv n rows B) (hi : i < n) (hp : p < n)
    (k : Dd.nx [some (.val (tt rows)), some (.val (BD B n)), some (.val (.int (n : Nat))), some (.val (rowB B n i)), some (.val (qD (B i p))), none, none, none, none, none]) :
    m_law_is_inverse_1 Dd [some (.val (tt rows)), some (.val (BD B n)), some (.val (.int (n : Nat))), some (.val (rowB B n i)), some (.val (qD (B i p))), none, none, none, none, none] := by
  have hs := hB.s i p hi hp
  unfold m_law_is_inverse_1
  conv => whnf
  (refine ⟨_, rfl, ?_⟩; conv => whnf)
  (refine ⟨_, rfl, ?_⟩; conv => whnf)
  (refine ⟨_, rfl, ?_⟩; conv => whnf)
  refine ⟨_, fNe_int ((2 : Nat) : Int) 2, ?_⟩
  rw [decide_eq_true (show ((2 : Nat) : Int) = 2 by rfl)]
  conv => whnf
  refine ⟨_, fIx_tup (k := 1) (d := .int ((B i p).den : Nat)) rfl, ?_⟩
  conv => whnf
  have hd := (B i p).den_pos
  refine ⟨_, fLt_f (a := ((B i p).den : Nat)) (b := 1) (by omega), ?_⟩
  conv => whnf
  refine ⟨_, fIx_tup (k := 0) (d := .int (B i p).num) rfl, ?_⟩
  conv => whnf
  refine ⟨_, fIx_tup (k := 1) (d := .int ((B i p).den : Nat)) rfl, ?_⟩
  conv => whnf
  refine s_ratio (den_ne _) (lt_of_le_pow (den_abs hs.d) (by decide)) _ _ fun o => ?_
  conv => whnf
  rw [q_self]
  refine ⟨_, fNe_q (B i p) (B i p), ?_⟩
  rw [decide_eq_true rfl]
  conv => whnf
  exact k
def S1 (rows : List (List Int)) (B : Nat → Nat → Rat) (i j k : Nat) : Rat := Det.sumTo k fun l => B i l * ((at2 rows l j : Int) : Rat)
def S2 (rows : List (List Int)) (B : Nat → Nat → Rat) (i j k : Nat) : Rat := Det.sumTo k fun l => ((at2 rows i l : Int) : Rat) * B l j
theorem S1_s (h : Gr n 75 rows) (hB : Inv n rows B) {i j k : Nat} (hi : i < n) (hj : j < n) (hk : k ≤ n) : Qs (1200 * k + 1) (500 * k) (S1 rows B i j k) :=
  qsSums k fun l hl => (mulQ (hB.s i l hi (by omega)) (qsInt (h.en (by omega) hj))).mono (by omega) (by omega)
theorem S2_s (h : Gr n 75 rows) (hB : Inv n rows B) {i j k : Nat} (hi : i < n) (hj : j < n) (hk : k ≤ n) : Qs (1200 * k + 1) (500 * k) (S2 rows B i j k) :=
  qsSums k fun l hl => (mulQ (qsInt (h.en hi (by omega))) (hB.s l j (by omega) hj)).mono (by omega) (by omega)
theorem ixB {B : Nat → Nat → Rat} {z : Int} {n l : Nat} (hz : z = (l : Nat)) (hl : l < n) : fIx (BD B n) (.int z) = some (.val (rowB B n l)) := by
  rw [hz]
  exact fIx_tup (by rw [List.getElem?_map, List.getElem?_range hl]; rfl)
theorem ixR {B : Nat → Nat → Rat} {z : Int} {n l p : Nat} (hz : z = (p : Nat)) (hp : p < n) : fIx (rowB B n l) (.int z) = some (.val (qD (B l p))) := by
  rw [hz]
  exact fIx_tup (by rw [List.getElem?_map, List.getElem?_range hp]; rfl)
theorem ii2 {i j k : Nat} {c7 : Option Cell} (h : Gr n 75 rows) (hn : n ≤ 6) (hB : Inv n rows B) (hi : i < n) (hj : j < n) (hk : k < n)
    (kk : Dd.nx [some (.val (tt rows)), some (.val (BD B n)), some (.val (.int (n : Nat))), c3, c4, some (.val (.int (0 + (i : Nat)))), some (.val (.int (0 + (j : Nat)))), c7, some (.val (qD (S2 rows B i j (k + 1)))), some (.val (.int (0 + (k : Nat))))]) :
    m_law_is_inverse_2 Dd [some (.val (tt rows)), some (.val (BD B n)), some (.val (.int (n : Nat))), c3, c4, some (.val (.int (0 + (i : Nat)))), some (.val (.int (0 + (j : Nat)))), c7, some (.val (qD (S2 rows B i j k))), some (.val (.int (0 + (k : Nat))))] := by
  have hl := h.l
  have q1 := h.rl (i := i) hi
  unfold m_law_is_inverse_2
  conv => whnf
  refine ⟨_, ixT (i := i) (by omega) (by omega), ?_⟩
  conv => whnf
  refine ⟨_, ixt (i := k) (by omega) (by omega), ?_⟩
  conv => whnf
  refine ⟨small64 (by simp), ?_⟩
  conv => whnf
  refine ⟨_, ixB (l := k) (by omega) (by omega), ?_⟩
  conv => whnf
  refine ⟨_, ixR (p := j) (by omega) (by omega), ?_⟩
  conv => whnf
  have hz := qsInt (h.en hi hk)
  refine s_qtimes (p := ((at2 rows i k : Int) : Rat)) (q := B k j) hz (hB.s k j hk hj) (by omega) (by omega) _ _ fun o => ?_
  conv => whnf
  have hs := S2_s h hB hi hj (k := k) (by omega)
  refine s_plus hs (mulQ hz (hB.s k j hk hj)) (by omega) (by omega) (by omega) _ _ fun o => ?_
  conv => whnf
  exact kk
theorem ii3 {i j k : Nat} (h : Gr n 75 rows) (hn : n ≤ 6) (hB : Inv n rows B) (hi : i < n) (hj : j < n) (hk : k < n)
    (kk : Dd.nx [some (.val (tt rows)), some (.val (BD B n)), some (.val (.int (n : Nat))), c3, c4, some (.val (.int (0 + (i : Nat)))), some (.val (.int (0 + (j : Nat)))), some (.val (qD (S1 rows B i j (k + 1)))), some (.val (qD (S2 rows B i j (k + 1)))), some (.val (.int (0 + (k : Nat))))]) :
    m_law_is_inverse_3 Dd [some (.val (tt rows)), some (.val (BD B n)), some (.val (.int (n : Nat))), c3, c4, some (.val (.int (0 + (i : Nat)))), some (.val (.int (0 + (j : Nat)))), some (.val (qD (S1 rows B i j k))), some (.val (qD (S2 rows B i j k))), some (.val (.int (0 + (k : Nat))))] := by
  have hl := h.l
  have q1 := h.rl (i := k) hk
  unfold m_law_is_inverse_3
  conv => whnf
  refine ⟨_, ixB (l := i) (by omega) (by omega), ?_⟩
  conv => whnf
  refine ⟨_, ixR (p := k) (by omega) (by omega), ?_⟩
  conv => whnf
  refine ⟨_, ixT (i := k) (by omega) (by omega), ?_⟩
  conv => whnf
  refine ⟨_, ixt (i := j) (by omega) (by omega), ?_⟩
  conv => whnf
  refine ⟨small64 (by simp), ?_⟩
  conv => whnf
  have hz := qsInt (h.en hk hj)
  refine s_qtimes (p := B i k) (q := ((at2 rows k j : Int) : Rat)) (hB.s i k hi hk) hz (by omega) (by omega) _ _ fun o => ?_
  conv => whnf
  have hs := S1_s h hB hi hj (k := k) (by omega)
  refine s_plus hs (mulQ (hB.s i k hi hk) hz) (by omega) (by omega) (by omega) _ _ fun o => ?_
  conv => whnf
  show m_law_is_inverse_2 _ [some (.val (tt rows)), some (.val (BD B n)), some (.val (.int (n : Nat))), c3, c4, some (.val (.int (0 + (i : Nat)))), some (.val (.int (0 + (j : Nat)))), some (.val (qD (S1 rows B i j (k + 1)))), some (.val (qD (S2 rows B i j k))), some (.val (.int (0 + (k : Nat))))]
  exact ii2 h hn hB hi hj hk kk
theorem ii4 {i j : Nat} {c9 : Option Cell} (hB : Inv n rows B) (hi : i < n) (hj : j < n)
    (kk : Dd.nx [some (.val (tt rows)), some (.val (BD B n)), some (.val (.int (n : Nat))), c3, c4, some (.val (.int (0 + (i : Nat)))), some (.val (.int (0 + (j : Nat)))), some (.val (qD (S1 rows B i j n))), some (.val (qD (S2 rows B i j n))), c9]) :
    m_law_is_inverse_4 Dd [some (.val (tt rows)), some (.val (BD B n)), some (.val (.int (n : Nat))), c3, c4, some (.val (.int (0 + (i : Nat)))), some (.val (.int (0 + (j : Nat)))), some (.val (qD (S1 rows B i j n))), some (.val (qD (S2 rows B i j n))), c9] := by
  have e1 : S1 rows B i j n = if i = j then 1 else 0 := hB.one i j hi hj
  have e2 : S2 rows B i j n = if i = j then 1 else 0 := hB.two i j hi hj
  unfold m_law_is_inverse_4
  conv => whnf
  refine ⟨_, fEq_int (0 + (i : Nat)) (0 + (j : Nat)), ?_⟩
  by_cases hij : i = j
  · rw [decide_eq_true (show (0 : Int) + (i : Nat) = 0 + (j : Nat) by omega)]
    conv => whnf
    (refine ⟨_, rfl, ?_⟩; conv => whnf)
    refine ⟨small64 (by simp), ?_⟩
    conv => whnf
    refine ⟨_, fNe_q (S1 rows B i j n) 1, ?_⟩
    rw [decide_eq_true (by rw [e1, if_pos hij])]
    conv => whnf
    refine ⟨_, fNe_q (S2 rows B i j n) (S1 rows B i j n), ?_⟩
    rw [decide_eq_true (by rw [e1, e2])]
    conv => whnf
    exact kk
  · rw [decide_eq_false (show ¬ (0 : Int) + (i : Nat) = 0 + (j : Nat) by omega)]
    conv => whnf
    (refine ⟨_, rfl, ?_⟩; conv => whnf)
    refine ⟨small64 (by simp), ?_⟩
    conv => whnf
    refine ⟨_, fNe_q (S1 rows B i j n) 0, ?_⟩
    rw [decide_eq_true (by rw [e1, if_neg hij])]
    conv => whnf
    refine ⟨_, fNe_q (S2 rows B i j n) (S1 rows B i j n), ?_⟩
    rw [decide_eq_true (by rw [e1, e2])]
    conv => whnf
    exact kk
theorem rng {n i z : Nat} (hz : (List.range (Int.toNat (n : Nat)))[i]? = some z) : z = i ∧ i < n := by
  obtain ⟨h2, h3⟩ := List.getElem?_eq_some_iff.mp hz
  rw [List.getElem_range] at h3
  rw [List.length_range] at h2
  exact ⟨h3.symm, by omega⟩
theorem ii6 {i j : Nat} {c7 c8 c9 : Option Cell} (h : Gr n 75 rows) (hn : n ≤ 6) (hB : Inv n rows B) (hi : i < n) (hj : j < n)
    (kk : ∀ c7 c8 c9, Dd.nx [some (.val (tt rows)), some (.val (BD B n)), some (.val (.int (n : Nat))), c3, c4, some (.val (.int (0 + (i : Nat)))), some (.val (.int (0 + (j : Nat)))), c7, c8, c9]) :
    m_law_is_inverse_6 Dd [some (.val (tt rows)), some (.val (BD B n)), some (.val (.int (n : Nat))), c3, c4, some (.val (.int (0 + (i : Nat)))), some (.val (.int (0 + (j : Nat)))), c7, c8, c9] := by
  unfold m_law_is_inverse_6
  conv => whnf
  refine ⟨small64 (by simp), ?_⟩
  conv => whnf
  refine ⟨small64 (by simp), ?_⟩
  conv => whnf
  refine ⟨rfl, ?_⟩
  conv => whnf
  show m_law_is_inverse_5 _ [some (.val (tt rows)), some (.val (BD B n)), some (.val (.int (n : Nat))), c3, c4, some (.val (.int (0 + (i : Nat)))), some (.val (.int (0 + (j : Nat)))), some (.val (qD (S1 rows B i j 0))), some (.val (qD (S2 rows B i j 0))), c9]
  unfold m_law_is_inverse_5
  conv => whnf
  refine ⟨⟨by omega, by omega⟩, ?_⟩
  refine forGo_ix (fun i => D.int (0 + (i : Nat))) (fun k ρ => ∃ c9, ρ = [some (.val (tt rows)), some (.val (BD B n)), some (.val (.int (n : Nat))), c3, c4, some (.val (.int (0 + (i : Nat)))), some (.val (.int (0 + (j : Nat)))), some (.val (qD (S1 rows B i j k))), some (.val (qD (S2 rows B i j k))), c9]) (List.range (Int.toNat (n : Nat))) 0 _ (Nat.zero_le _) ?_ ?_ ⟨_, rfl⟩
  · rintro ρ ⟨c9, rfl⟩
    rw [List.length_range, Int.toNat_natCast]
    exact ii4 hB hi hj (kk _ _ _)
  · rintro k z ρ hz ⟨c9, rfl⟩ N hN
    obtain ⟨rfl, hk⟩ := rng hz
    conv => whnf
    show m_law_is_inverse_3 _ [some (.val (tt rows)), some (.val (BD B n)), some (.val (.int (n : Nat))), c3, c4, some (.val (.int (0 + (i : Nat)))), some (.val (.int (0 + (j : Nat)))), some (.val (qD (S1 rows B i j z))), some (.val (qD (S2 rows B i j z))), some (.val (.int (0 + (z : Nat))))]
    exact ii3 h hn hB hi hj hk (hN _ ⟨_, rfl⟩)
theorem ii7 {c5 c6 c7 c8 c9 : Option Cell} (h : Gr n 75 rows) (hn : n ≤ 6) (hB : Inv n rows B)
    (kk : ∀ ρ, Dd.rt (.val (.bl true)) ρ) :
    m_law_is_inverse_7 Dd [some (.val (tt rows)), some (.val (BD B n)), some (.val (.int (n : Nat))), c3, c4, c5, c6, c7, c8, c9] := by
  unfold m_law_is_inverse_7
  conv => whnf
  refine ⟨⟨by omega, by omega⟩, ?_⟩
  refine forGo_ix (fun i => D.int (0 + (i : Nat))) (fun i ρ => ∃ c5 c6 c7 c8 c9, ρ = [some (.val (tt rows)), some (.val (BD B n)), some (.val (.int (n : Nat))), c3, c4, c5, c6, c7, c8, c9]) (List.range (Int.toNat (n : Nat))) 0 _ (Nat.zero_le _) ?_ ?_ ⟨_, _, _, _, _, rfl⟩
  · rintro ρ ⟨c5, c6, c7, c8, c9, rfl⟩
    conv => whnf
    exact kk _
  · rintro i z ρ hz ⟨c5, c6, c7, c8, c9, rfl⟩ N hN
    obtain ⟨rfl, hi⟩ := rng hz
    conv => whnf
    refine ⟨⟨by omega, by omega⟩, ?_⟩
    refine forGo_ix (fun i => D.int (0 + (i : Nat))) (fun j ρ => ∃ c6 c7 c8 c9, ρ = [some (.val (tt rows)), some (.val (BD B n)), some (.val (.int (n : Nat))), c3, c4, some (.val (.int (0 + (z : Nat)))), c6, c7, c8, c9]) (List.range (Int.toNat (n : Nat))) 0 _ (Nat.zero_le _) ?_ ?_ ⟨_, _, _, _, rfl⟩
    · rintro ρ ⟨c6, c7, c8, c9, rfl⟩
      exact hN _ ⟨_, _, _, _, _, rfl⟩
    · rintro j z2 ρ hz2 ⟨c6, c7, c8, c9, rfl⟩ N2 hN2
      obtain ⟨rfl, hj⟩ := rng hz2
      conv => whnf
      show m_law_is_inverse_6 _ [some (.val (tt rows)), some (.val (BD B n)), some (.val (.int (n : Nat))), c3, c4, some (.val (.int (0 + (z : Nat)))), some (.val (.int (0 + (z2 : Nat)))), c7, c8, c9]
      exact ii6 h hn hB hi hj fun _ _ _ => hN2 _ ⟨_, _, _, _, rfl⟩
end
end Lk03
set_option exponentiation.threshold 100000
namespace Lk03
open PySem PySem.Spec PyProof.Rows L2 DL
/-- data of numbers, truths, tuples, not deeper than that -/
def Sb : Nat → D → Prop
  | 0, _ => False
  | _ + 1, .int _ => True
  | _ + 1, .bl _ => True
  | n + 1, .tup ds => ds.length < 1000000 ∧ ∀ d ∈ ds, Sb n d
  | _ + 1, _ => False
theorem same_int (n : Nat) (i : Int) : Ret (w_law_same (n + 1)) [.val (.int i), .val (.int i)] (.bl true) := by
  intro Qd Ed h
  show wDef 2 (m_law_same (w_law_same n)) _ _ _
  unfold m_law_same
  conv => whnf
  iterate 10 (refine ⟨_, rfl, ?_⟩; conv => whnf)
  refine ⟨_, fEq_t (a := i) (b := i) rfl, ?_⟩
  exact h _
theorem same_bl (n : Nat) (b : Bool) : Ret (w_law_same (n + 1)) [.val (.bl b), .val (.bl b)] (.bl true) := by
  intro Qd Ed h
  show wDef 2 (m_law_same (w_law_same n)) _ _ _
  unfold m_law_same
  cases b
  · conv => whnf
    repeat (refine ⟨_, rfl, ?_⟩; conv => whnf)
    exact h _
  · conv => whnf
    repeat (refine ⟨_, rfl, ?_⟩; conv => whnf)
    exact h _
theorem zip_same : ∀ ds : List D, zipD2 ds ds = ds.map fun d => D.tup [d, d]
  | [] => rfl
  | d :: ds => by
    have := zip_same ds
    unfold zipD2 at *
    rw [List.zip_cons_cons, List.map_cons, List.map_cons, this]
theorem same_seq {n : Nat} {ds : List D} (hl : ds.length < 1000000) (ih : ∀ d ∈ ds, Ret (w_law_same n) [.val d, .val d] (.bl true)) : Ret (w_law_same (n + 1)) [.val (.tup ds), .val (.tup ds)] (.bl true) := by
  intro Qd Ed h
  show wDef 2 (m_law_same (w_law_same n)) _ _ _
  unfold m_law_same
  conv => whnf
  iterate 11 (refine ⟨_, rfl, ?_⟩; conv => whnf)
  refine ⟨_, fNe_int (ds.length : Nat) (ds.length : Nat), ?_⟩
  rw [show (!decide (((ds.length : Nat) : Int) = ((ds.length : Nat) : Int))) = false by simp]
  conv => whnf
  rw [zip_same]
  refine ⟨rfl, ?_⟩
  refine lcGo_enc (fun d => D.tup [d, d]) (fun _ => D.bl true) ds [] (fun z hz Kt Kf hK => ?_) (big_line (by simpa using hl)) ?_
  · conv => whnf
    refine ⟨rfl, ?_⟩
    conv => whnf
    refine ih z hz _ _ fun o => ?_
    conv => whnf
    exact hK
  · conv => whnf
    refine ⟨_, all_map_true _, ?_⟩
    exact h _
theorem s_same : ∀ (n : Nat) (d : D), Sb n d → Ret (w_law_same n) [.val d, .val d] (.bl true)
  | 0, _, h => False.elim h
  | n + 1, d, h => by
    cases d <;> first | exact same_int n _ | exact same_bl n _ | exact False.elim h | skip
    exact same_seq h.1 fun d hd => s_same n d (h.2 d hd)
theorem same_v {d : D} (h : Sb 8 d) : Ret v_law_same [.val d, .val d] (.bl true) := by
  unfold v_law_same
  exact s_same 8 d h
end Lk03
set_option exponentiation.threshold 100000
namespace Lk03
open PySem PySem.Spec PyProof.Rows L2 DL
section
variable {n : Nat} {rows : List (List Int)} {B : Nat → Nat → Rat} {Dd : DEnds}
theorem ii8 (h : Gr n 75 rows) (hn : n ≤ 6) (hB : Inv n rows B) (kk : ∀ ρ, Dd.rt (.val (.bl true)) ρ) :
    m_law_is_inverse_8 Dd [some (.val (tt rows)), some (.val (BD B n)), some (.val (.int (n : Nat))), none, none, none, none, none, none, none] := by
  unfold m_law_is_inverse_8
  conv => whnf
  refine forGo_ix (rowB B n) (fun i ρ => ∃ c3 c4, ρ = [some (.val (tt rows)), some (.val (BD B n)), some (.val (.int (n : Nat))), c3, c4, none, none, none, none, none]) (List.range n) 0 _ (Nat.zero_le _) ?_ ?_ ⟨_, _, rfl⟩
  · rintro ρ ⟨c3, c4, rfl⟩
    exact ii7 h hn hB kk
  · rintro i z ρ hz ⟨c3, c4, rfl⟩ N hN
    obtain ⟨rfl, hi⟩ := rng (n := n) hz
    conv => whnf
    refine forGo_ix (fun p => qD (B z p)) (fun j ρ => ∃ c4, ρ = [some (.val (tt rows)), some (.val (BD B n)), some (.val (.int (n : Nat))), some (.val (rowB B n z)), c4, none, none, none, none, none]) (List.range n) 0 _ (Nat.zero_le _) ?_ ?_ ⟨_, rfl⟩
    · rintro ρ ⟨c4, rfl⟩
      exact hN _ ⟨_, _, rfl⟩
    · rintro j z2 ρ hz2 ⟨c4, rfl⟩ N2 hN2
      obtain ⟨rfl, hj⟩ := rng (n := n) hz2
      conv => whnf
      show m_law_is_inverse_1 _ [some (.val (tt rows)), some (.val (BD B n)), some (.val (.int (n : Nat))), some (.val (rowB B n z)), some (.val (qD (B z z2))), none, none, none, none, none]
      exact ii1 hB hi hj (hN2 _ ⟨_, rfl⟩)
theorem s_is_inverse (h : Gr n 75 rows) (hn : n ≤ 6) (hB : Inv n rows B) : Ret w_law_is_inverse [.val (tt rows), .val (BD B n)] (.bl true) := by
  intro Qd Ed k
  have hl := h.l
  unfold w_law_is_inverse m_law_is_inverse
  conv => whnf
  (refine ⟨_, rfl, ?_⟩; conv => whnf)
  have el : (((rows.map ti).length : Nat) : Int) = (n : Nat) := by rw [List.length_map, hl]
  rw [el]
  show m_law_is_inverse_9 _ [some (.val (tt rows)), some (.val (BD B n)), some (.val (.int (n : Nat))), none, none, none, none, none, none, none]
  unfold m_law_is_inverse_9
  have e9 : ((((List.range n).map (rowB B n)).length : Nat) : Int) = (n : Nat) := by rw [List.length_map, List.length_range]
  conv => whnf
  (refine ⟨_, rfl, ?_⟩; conv => whnf)
  (refine ⟨_, rfl, ?_⟩; conv => whnf)
  (refine ⟨_, rfl, ?_⟩; conv => whnf)
  refine ⟨_, fNe_int ((((List.range n).map (rowB B n)).length : Nat) : Int) (n : Nat), ?_⟩
  rw [decide_eq_true e9]
  conv => whnf
  refine ⟨rfl, ?_⟩
  refine lcGo_enc (rowB B n) (fun _ => D.bl true) (List.range n) [] (fun p hp Kt2 Kf2 hK2 => ?_) (small64 (by rw [List.length_range, List.length_nil]; omega)) ?_
  · conv => whnf
    (refine ⟨_, rfl, ?_⟩; conv => whnf)
    (refine ⟨_, rfl, ?_⟩; conv => whnf)
    (refine ⟨_, rfl, ?_⟩; conv => whnf)
    refine ⟨_, fEq_t (a := ((((List.range n).map fun q => qD (B p q)).length : Nat) : Int)) (b := (n : Nat)) (by rw [List.length_map, List.length_range]), ?_⟩
    exact hK2
  · conv => whnf
    refine ⟨_, all_map_true _, ?_⟩
    conv => whnf
    (refine ⟨_, rfl, ?_⟩; conv => whnf)
    exact ii8 h hn hB fun _ => k _
end
section
variable {m : Nat} {rows : List (List Int)}
theorem divInt_mul (a d : Int) : Rat.divInt a d = ((a : Int) : Rat) * ((d : Int) : Rat)⁻¹ := by
  rw [Rat.divInt_eq_div, Rat.div_def]
theorem sum_div (n : Nat) (f : Nat → Int) (d : Int) : Det.sumTo n (fun l => Rat.divInt (f l) d) = Rat.divInt (Det.sumTo n f) d := by
  rw [divInt_mul, ← Det.sum_ct, Rat.mul_comm, ← Det.sum_mul]
  refine Det.sum_congr fun i hi => ?_
  rw [divInt_mul, Rat.mul_comm]
theorem divInt_self' {d : Int} (h : d ≠ 0) : Rat.divInt d d = 1 := by
  have := Rat.divInt_mul_right (n := 1) (d := 1) (a := d) h
  rw [Int.one_mul] at this
  rw [this]
  rfl
theorem bi_inv (h : Gr (m + 1) 75 rows) (hm : m < 6) (h0 : Det.det (m + 1) (at2 rows) ≠ 0) : Inv (m + 1) rows (Bi m rows) where
  s := fun l p hl hp => by
    have hd : (Det.det (m + 1) (at2 rows)).natAbs ≤ 2 ^ 500 := by
      have := det_abs (b := 75) (n := m + 1) (M := at2 rows) (by omega) fun i k hi hk => h.en hi hk
      refine Nat.le_trans this (Nat.pow_le_pow_right (by decide) ?_)
      have : (m + 1) * (75 + 3) ≤ 6 * 78 := Nat.mul_le_mul (by omega) (by omega)
      omega
    have ha : (Det.adj m (at2 rows) l p).natAbs ≤ 2 ^ 500 := by
      have := det_abs (b := 75) (n := m) (M := fun a b => at2 rows (Det.sk p a) (Det.sk l b)) (by omega) fun i k hi hk => h.en (by unfold Det.sk; split <;> omega) (by unfold Det.sk; split <;> omega)
      have e : (Det.adj m (at2 rows) l p).natAbs = (Det.det m fun a b => at2 rows (Det.sk p a) (Det.sk l b)).natAbs := by
        unfold Det.adj
        rw [sg_two]
        split <;> omega
      rw [e]
      refine Nat.le_trans this (Nat.pow_le_pow_right (by decide) ?_)
      have : m * (75 + 3) ≤ 6 * 78 := Nat.mul_le_mul (by omega) (by omega)
      omega
    exact ⟨Nat.le_trans (q_num_le h0) ha, Nat.le_trans (q_den_le h0) hd⟩
  one := fun i j hi hj => by
    have e : (fun l => Bi m rows i l * ((at2 rows l j : Int) : Rat)) = fun l => Rat.divInt (Det.adj m (at2 rows) i l * at2 rows l j) (Det.det (m + 1) (at2 rows)) := by
      funext l
      unfold Bi
      rw [divInt_mul, divInt_mul, Rat.intCast_mul]
      grind
    rw [e, sum_div, Det.adj_left hi hj]
    split
    · exact divInt_self' h0
    · exact Rat.zero_divInt _
  two := fun i j hi hj => by
    have e : (fun l => ((at2 rows i l : Int) : Rat) * Bi m rows l j) = fun l => Rat.divInt (at2 rows i l * Det.adj m (at2 rows) l j) (Det.det (m + 1) (at2 rows)) := by
      funext l
      unfold Bi
      rw [divInt_mul, divInt_mul, Rat.intCast_mul]
      grind
    rw [e, sum_div, Det.adj_right hi hj]
    split
    · exact divInt_self' h0
    · exact Rat.zero_divInt _
end
/-! ### products -/
theorem zip_sum (c : Nat) : ∀ (r : List Int) (os : List (List Int)) (n : Nat), r.length = n → os.length = n → ((r.zip os).map fun p => p.1 * p.2.getD c 0).sum = Det.sumTo n fun k => r.getD k 0 * (os.getD k []).getD c 0
  | [], [], n, h, _ => by
    subst h
    rfl
  | [], _ :: _, n, h, h2 => by simp at h h2; omega
  | _ :: _, [], n, h, h2 => by simp at h h2; omega
  | x :: r, o :: os, n, h, h2 => by
    obtain ⟨m, rfl⟩ : ∃ m, n = m + 1 := ⟨r.length, by simpa using h.symm⟩
    rw [Det.sum_first, List.zip_cons_cons, List.map_cons, List.sum_cons, zip_sum c r os m (by simpa using h) (by simpa using h2)]
    rfl
theorem range_getD {α : Type} {n k : Nat} (f : Nat → α) (d : α) (h : k < n) : ((List.range n).map f).getD k d = f k := by
  rw [List.getD_eq_getElem?_getD, List.getElem?_map, List.getElem?_range h]
  rfl
section
variable {n b : Nat} {rows others third : List (List Int)}
theorem mulR_at (h : Gr n b rows) (h2 : Gr n b others) {a c : Nat} (ha : a < n) (hc : c < n) : at2 (mulR n rows others) a c = Det.mul n (at2 rows) (at2 others) a c := by
  have hl := h.l
  have hl2 := h2.l
  show ((mulR n rows others).getD a []).getD c 0 = _
  unfold mulR
  rw [List.getD_eq_getElem?_getD (l := List.map _ rows), List.getElem?_map, getq [] (by omega)]
  show (led n (rows.getD a []) others).getD c 0 = _
  unfold led
  rw [range_getD _ _ hc, zip_sum c _ _ n (h.rl ha) hl2]
  rfl
theorem mulR_gr (hn : n ≤ 6) (h : Gr n b rows) (h2 : Gr n b others) : Gr n (2 * b + 3) (mulR n rows others) := by
  have hl := h.l
  have hl2 := h2.l
  refine ⟨by unfold mulR; rw [List.length_map, hl], fun r hr => ?_⟩
  unfold mulR at hr
  obtain ⟨q, hq, rfl⟩ := List.mem_map.mp hr
  have hq2 := h.r q hq
  refine ⟨by unfold led; simp, fun x hx => ?_⟩
  unfold led at hx
  obtain ⟨c, hc, rfl⟩ := List.mem_map.mp hx
  have hc := List.mem_range.mp hc
  rw [zip_sum c _ _ n hq2.1 hl2]
  have := sum_abs (n := n) (c := 2 ^ (2 * b)) (f := fun k => q.getD k 0 * (others.getD k []).getD c 0) fun k hk => by
    have a1 : (q.getD k 0).natAbs < 2 ^ b := hq2.2 _ (List.mem_of_getElem? (getq 0 (by omega)))
    have a2 := h2.en hk hc
    rw [Int.natAbs_mul]
    exact Nat.le_of_lt (two_pow_mul a1 a2)
  have e : 2 ^ (2 * b + 3) = 8 * 2 ^ (2 * b) := by rw [Nat.pow_add, Nat.mul_comm]
  have p := Nat.two_pow_pos (2 * b)
  have m : n * 2 ^ (2 * b) ≤ 6 * 2 ^ (2 * b) := Nat.mul_le_mul_right _ hn
  rw [e]
  omega
theorem mul_assoc' (A B C : Nat → Nat → Int) (i j : Nat) : Det.mul n (Det.mul n A B) C i j = Det.mul n A (Det.mul n B C) i j := by
  unfold Det.mul
  have e1 : (fun k => (Det.sumTo n fun l => A i l * B l k) * C k j) = fun k => Det.sumTo n fun l => A i l * (B l k * C k j) := by
    funext k
    rw [Int.mul_comm, ← Det.sum_mul]
    refine Det.sum_congr fun l hl => ?_
    rw [Int.mul_comm (C k j), Int.mul_assoc]
  have e2 : (fun k => A i k * Det.sumTo n fun l => B k l * C l j) = fun k => Det.sumTo n fun l => A i k * (B k l * C l j) := by
    funext k
    rw [← Det.sum_mul]
  rw [e1, e2, Det.sum_swap]
theorem list_ext {α : Type} (d : α) : ∀ (xs ys : List α), xs.length = ys.length → (∀ i, i < xs.length → xs.getD i d = ys.getD i d) → xs = ys
  | [], [], _, _ => rfl
  | [], _ :: _, h, _ => by simp at h
  | _ :: _, [], h, _ => by simp at h
  | x :: xs, y :: ys, h, e => by
    have h0 : x = y := e 0 (by simp)
    have h1 := list_ext d xs ys (by simpa using h) fun i hi => e (i + 1) (by simpa using hi)
    rw [h0, h1]
theorem gr_ext {b2 : Nat} (h : Gr n b rows) (h2 : Gr n b2 others) (e : ∀ i j, i < n → j < n → at2 rows i j = at2 others i j) : rows = others := by
  refine list_ext [] _ _ (by rw [h.l, h2.l]) fun i hi => ?_
  rw [h.l] at hi
  refine list_ext 0 _ _ (by rw [h.rl hi, h2.rl hi]) fun j hj => ?_
  rw [h.rl hi] at hj
  exact e i j hi hj
theorem mulR_assoc (hn : n ≤ 6) (h : Gr n b rows) (h2 : Gr n b others) (h3 : Gr n b third) : mulR n (mulR n rows others) third = mulR n rows (mulR n others third) := by
  have q1 := mulR_gr hn h h2
  have q2 := mulR_gr hn h2 h3
  have le : b ≤ 2 * b + 3 := by omega
  refine gr_ext (mulR_gr hn q1 (h3.mono le)) (mulR_gr hn (h.mono le) q2) fun i j hi hj => ?_
  rw [mulR_at q1 (h3.mono le) hi hj, mulR_at (h.mono le) q2 hi hj]
  have c1 : Det.mul n (at2 (mulR n rows others)) (at2 third) i j = Det.mul n (Det.mul n (at2 rows) (at2 others)) (at2 third) i j := Det.sum_congr fun k hk => by rw [mulR_at h h2 hi hk]
  have c2 : Det.mul n (at2 rows) (at2 (mulR n others third)) i j = Det.mul n (at2 rows) (Det.mul n (at2 others) (at2 third)) i j := Det.sum_congr fun k hk => by rw [mulR_at h2 h3 hk hj]
  rw [c1, c2, mul_assoc']
theorem s_product (h : Gr n b rows) (h2 : Gr n b others) (hn : n ≤ 6) (hb : b ≤ 60000) : Ret w_law_product [.val (tt rows), .val (tt others)] (tt (mulR n rows others)) := by
  intro Qd Ed k
  have hl := h.l
  have hl2 := h2.l
  have el : (((rows.map ti).length : Nat) : Int) = (n : Nat) := by rw [List.length_map, hl]
  unfold w_law_product m_law_product
  conv => whnf
  refine ⟨rfl, ?_⟩
  refine lcGo_enc ti (fun r => ti (led n r others)) rows [] (fun r hr Kt Kf hK => ?_) (small64 (by rw [List.length_nil]; omega)) ?_
  · have hr2 := h.r r hr
    conv => whnf
    (refine ⟨_, rfl, ?_⟩; conv => whnf)
    rw [el]
    refine ⟨⟨by omega, by omega⟩, ?_⟩
    conv => whnf
    refine ⟨rfl, ?_⟩
    refine lcGo_enc (fun i : Nat => D.int (0 + (i : Nat))) (fun c => D.int (((r.zip others).map fun p => p.1 * p.2.getD c 0).sum)) (List.range (Int.toNat (n : Nat))) [] (fun c hc Kt Kf hK => ?_) (small64 (by rw [List.length_range, List.length_nil]; omega)) ?_
    · have hc2 : c < n := by
        have := List.mem_range.mp hc
        omega
      conv => whnf
      (refine ⟨_, rfl, ?_⟩; conv => whnf)
      rw [el]
      refine ⟨⟨by omega, by omega⟩, ?_⟩
      conv => whnf
      refine ⟨rfl, ?_⟩
      refine lcGo_enc (fun i : Nat => D.int (0 + (i : Nat))) (fun k => D.int (r.getD k 0 * (others.getD k []).getD c 0)) (List.range (Int.toNat (n : Nat))) [] (fun l hl3 Kt Kf hK => ?_) (small64 (by rw [List.length_range, List.length_nil]; omega)) ?_
      · have hl4 : l < n := by
          have := List.mem_range.mp hl3
          omega
        conv => whnf
        refine ⟨_, ixt (i := l) (by omega) (by omega), ?_⟩
        conv => whnf
        refine ⟨_, ixT (i := l) (by omega) (by omega), ?_⟩
        conv => whnf
        refine ⟨_, ixt (i := c) (by omega) (by rw [h2.rl hl4]; exact hc2), ?_⟩
        conv => whnf
        refine ⟨_, fMul_int (mulB_ok (hr2.2 _ (List.mem_of_getElem? (getq 0 (by omega)))) (h2.en hl4 hc2) (by omega)), ?_⟩
        exact hK
      · have e : ([] : List D) ++ (List.range (Int.toNat (n : Nat))).map (fun k => D.int (r.getD k 0 * (others.getD k []).getD c 0)) = ((List.range n).map fun k => r.getD k 0 * (others.getD k []).getD c 0).map D.int := by
          rw [List.nil_append, List.map_map]
          rfl
        rw [e]
        conv => whnf
        refine ⟨_, gSum_ints _, ?_⟩
        have e2 : ∀ (f : Nat → Int) (n : Nat), ((List.range n).map f).sum = Det.sumTo n f := fun f n => by
          induction n with
          | zero => rfl
          | succ n ih => rw [List.range_succ, List.map_append, List.sum_append, ih]; show _ + (f n + 0) = _; rw [Int.add_zero]; rfl
        rw [e2, ← zip_sum c r others n hr2.1 hl2]
        exact hK
    · have e : ([] : List D) ++ (List.range (Int.toNat (n : Nat))).map (fun c => D.int (((r.zip others).map fun p => p.1 * p.2.getD c 0).sum)) = (led n r others).map D.int := by
        unfold led
        rw [List.nil_append, List.map_map]
        rfl
      rw [e]
      conv => whnf
      repeat (refine ⟨_, rfl, ?_⟩; conv => whnf)
      exact hK
  · have e : ([] : List D) ++ rows.map (fun r => ti (led n r others)) = (mulR n rows others).map ti := by
      unfold mulR
      rw [List.nil_append, List.map_map]
      rfl
    rw [e]
    conv => whnf
    repeat (refine ⟨_, rfl, ?_⟩; conv => whnf)
    exact k _
theorem sb_tt {b : Nat} (h : Gr n b rows) (hn : n ≤ 6) : Sb 8 (tt rows) := by
  refine ⟨by rw [List.length_map, h.l]; omega, fun d hd => ?_⟩
  obtain ⟨r, hr, rfl⟩ := List.mem_map.mp hd
  refine ⟨by rw [List.length_map, (h.r r hr).1]; omega, fun d hd => ?_⟩
  obtain ⟨x, _, rfl⟩ := List.mem_map.mp hd
  exact trivial
end
end Lk03
/-! Displays told by what they are: for a walk that shall not look into them. -/
namespace DL
open PySem PySem.Spec PyProof.Rows L2
def Evs (x : DE) (d : D) : Prop := ∀ ρ Q E, Q d ρ → x ρ Q E
def EvsL (xs : List DE) (ds : List D) : Prop := ∀ ρ (Q : List D → En → Prop) E, Q ds ρ → mDs xs ρ Q E
theorem evs_K (d : D) : Evs (mK d) d := fun _ _ _ q => q
theorem evs_neg (i : Int) : Evs (frz (mOp1 fNeg (.e (mK (.int i))))) (.int (-i)) := fun _ _ _ q => ⟨_, rfl, q⟩
theorem evsL_n : EvsL [] [] := fun _ _ _ q => q
theorem evsL_c {x : DE} {d : D} {xs : List DE} {ds : List D} (h : Evs x d) (t : EvsL xs ds) : EvsL (x :: xs) (d :: ds) := fun ρ Q E q => h ρ _ E (t ρ _ E q)
theorem evs_tup {xs : List DE} {ds : List D} (h : EvsL xs ds) (hl : ds.length ≤ 60) : Evs (mTup xs) (.tup ds) := fun ρ Q E q => h ρ _ E ⟨small64 (by omega), q⟩
theorem evs_lst {xs : List DE} {ds : List D} (h : EvsL xs ds) (hl : ds.length ≤ 60) : Evs (frz (mLst xs)) (.lst ds) := fun ρ Q E q => h ρ _ E ⟨small64 (by omega), q⟩
end DL
set_option exponentiation.threshold 100000
namespace Lk03
open PySem PySem.Spec PyProof.Rows L2 DL
section
variable {m k : Nat} {lap : Int} {p : List D} {rows others third : List (List Int)} {c3 c4 c5 c6 c7 : Option Cell} {Dd : DEnds}
theorem r1 (h : Gr (m + 1) 75 rows) (hm : m < 6)
    (kk : ∀ c7, Dd.nx [some (.own p), some (.val (.int lap)), some (.val (.int ((m + 1 : Nat) : Int))), some (.val (tt rows)), some (.val (tt others)), some (.val (tt third)), c6, c7]) :
    m_law_right_i_1 Dd [some (.own p), some (.val (.int lap)), some (.val (.int ((m + 1 : Nat) : Int))), some (.val (tt rows)), some (.val (tt others)), some (.val (tt third)), c6, some (.val (invD m rows))] := by
  unfold m_law_right_i_1
  have hdet := fun Qd Ed => s_det (h.mono (by decide : 75 ≤ 250)) (by omega) (by omega) (Qd := Qd) (Ed := Ed)
  by_cases h0 : Det.det (m + 1) (at2 rows) = 0
  · have e : invD m rows = .non := if_pos h0
    rw [e]
    conv => whnf
    (refine ⟨_, rfl, ?_⟩; conv => whnf)
    refine s_det (h.mono (by decide)) (by omega) (by omega) _ _ fun o => ?_
    conv => whnf
    rw [h0]
    repeat (refine ⟨_, rfl, ?_⟩; conv => whnf)
    exact kk _
  · have e : invD m rows = BD (Bi m rows) (m + 1) := if_neg h0
    rw [e]
    conv => whnf
    (refine ⟨_, rfl, ?_⟩; conv => whnf)
    refine s_det (h.mono (by decide)) (by omega) (by omega) _ _ fun o => ?_
    conv => whnf
    refine ⟨_, fEq_int _ 0, ?_⟩
    rw [decide_eq_false h0]
    conv => whnf
    repeat (refine ⟨_, rfl, ?_⟩; conv => whnf)
    refine s_is_inverse h (by omega) (bi_inv h hm h0) _ _ fun o => ?_
    conv => whnf
    (refine ⟨_, rfl, ?_⟩; conv => whnf)
    exact kk _
theorem r2 (h : Gr (m + 1) 75 rows) (hm : m < 6)
    (kk : ∀ c7, Dd.nx [some (.own p), some (.val (.int lap)), some (.val (.int ((m + 1 : Nat) : Int))), some (.val (tt rows)), some (.val (tt others)), some (.val (tt third)), c6, c7]) :
    m_law_right_i_2 Dd [some (.own p), some (.val (.int lap)), some (.val (.int ((m + 1 : Nat) : Int))), some (.val (tt rows)), some (.val (tt others)), some (.val (tt third)), c6, c7] := by
  have last := r1 (lap := lap) (p := p) (others := others) (third := third) (c6 := c6) (Dd := Dd) h hm kk
  unfold m_law_right_i_2
  conv => whnf
  refine ⟨_, fEq_int lap 1, ?_⟩
  by_cases hl : lap = 1
  · rw [decide_eq_true hl]
    conv => whnf
    refine s_inv h hm _ _ fun o => ?_
    conv => whnf
    exact last
  · rw [decide_eq_false hl]
    conv => whnf
    refine s_inv h hm _ _ fun o => ?_
    conv => whnf
    exact last
theorem r3 (h : Gr (m + 1) 75 rows) (h2 : Gr (m + 1) 75 others) (h3 : Gr (m + 1) 75 third) (hm : m < 6)
    (kk : ∀ c6 c7, Dd.nx [some (.own p), some (.val (.int lap)), some (.val (.int ((m + 1 : Nat) : Int))), some (.val (tt rows)), some (.val (tt others)), some (.val (tt third)), c6, c7]) :
    m_law_right_i_3 Dd [some (.own p), some (.val (.int lap)), some (.val (.int ((m + 1 : Nat) : Int))), some (.val (tt rows)), some (.val (tt others)), some (.val (tt third)), some (.val (tt (mulR (m + 1) rows others))), c7] := by
  have hn : m + 1 ≤ 6 := by omega
  have q1 := mulR_gr hn h h2
  have q2 := mulR_gr hn h2 h3
  unfold m_law_right_i_3
  conv => whnf
  refine s_product h h2 hn (by omega) _ _ fun o => ?_
  conv => whnf
  refine same_v (sb_tt q1 hn) _ _ fun o => ?_
  conv => whnf
  (refine ⟨_, rfl, ?_⟩; conv => whnf)
  refine s_times (b := 2 * 75 + 3) q1 (h3.mono (by omega)) (by omega) hn (by omega) _ _ fun o => ?_
  conv => whnf
  refine s_times h2 h3 (by omega) hn (by omega) _ _ fun o => ?_
  conv => whnf
  refine s_times (b := 2 * 75 + 3) (h.mono (by omega)) q2 (by omega) hn (by omega) _ _ fun o => ?_
  conv => whnf
  rw [mulR_assoc hn h h2 h3]
  refine same_v (sb_tt (mulR_gr hn (h.mono (by omega)) q2) hn) _ _ fun o => ?_
  conv => whnf
  (refine ⟨_, rfl, ?_⟩; conv => whnf)
  exact r2 h hm fun _ => kk _ _
theorem r4 (h : Gr (m + 1) 75 rows) (h2 : Gr (m + 1) 75 others) (h3 : Gr (m + 1) 75 third) (hm : m < 6)
    (kk : ∀ c6 c7, Dd.nx [some (.own p), some (.val (.int lap)), some (.val (.int ((m + 1 : Nat) : Int))), some (.val (tt rows)), some (.val (tt others)), some (.val (tt third)), c6, c7]) :
    m_law_right_i_4 Dd [some (.own p), some (.val (.int lap)), some (.val (.int ((m + 1 : Nat) : Int))), some (.val (tt rows)), some (.val (tt others)), some (.val (tt third)), c6, c7] := by
  have last := r3 (lap := lap) (p := p) (c7 := c7) (Dd := Dd) h h2 h3 hm kk
  unfold m_law_right_i_4
  conv => whnf
  refine ⟨_, fEq_int lap 1, ?_⟩
  by_cases hl : lap = 1
  · rw [decide_eq_true hl]
    conv => whnf
    refine s_times h h2 (by omega) (by omega) (by omega) _ _ fun o => ?_
    conv => whnf
    exact last
  · rw [decide_eq_false hl]
    conv => whnf
    refine s_times h h2 (by omega) (by omega) (by omega) _ _ fun o => ?_
    conv => whnf
    exact last
theorem r5 (hp : Pool k p) (hk : k < 2 ^ 36) (hm : m < 6)
    (kk : ∀ p' c3 c4 c5 c6 c7, Pool (k + 381) p' → Dd.nx [some (.own p'), some (.val (.int lap)), some (.val (.int ((m + 1 : Nat) : Int))), c3, c4, c5, c6, c7]) :
    m_law_right_i_5 Dd [some (.own p), some (.val (.int lap)), some (.val (.int ((m + 1 : Nat) : Int))), c3, c4, c5, c6, c7] := by
  unfold m_law_right_i_5
  conv => whnf
  refine s_grid hp (by omega) (by omega) (by omega) fun rows o h hp1 => ?_
  conv => whnf
  refine s_grid hp1 (by omega) (by omega) (by omega) fun others o2 h2 hp2 => ?_
  conv => whnf
  refine s_grid hp2 (by omega) (by omega) (by omega) fun third o3 h3 hp3 => ?_
  conv => whnf
  refine ⟨rfl, ?_⟩
  conv => whnf
  show m_law_right_i_4 _ [some (.own (o3 0)), some (.val (.int lap)), some (.val (.int ((m + 1 : Nat) : Int))), some (.val (tt rows)), some (.val (tt others)), some (.val (tt third)), c6, c7]
  exact r4 h h2 h3 hm fun _ _ => kk _ _ _ _ _ _ (hp3.mono (by omega))
theorem two_gr : Gr 2 75 [[1, 2], [2, 4]] := by
  refine ⟨rfl, fun r hr => ?_⟩
  simp only [List.mem_cons, List.not_mem_nil, or_false] at hr
  rcases hr with rfl | rfl <;> exact ⟨rfl, by decide⟩
theorem one_gr : Gr 1 75 [[-1]] := by
  refine ⟨rfl, fun r hr => ?_⟩
  simp only [List.mem_cons, List.not_mem_nil, or_false] at hr
  subst hr
  exact ⟨rfl, by decide⟩
theorem two_inv : invD 1 [[1, 2], [2, 4]] = .non := if_pos (by decide)
theorem one_inv : invD 0 [[-1]] = .tup [.tup [.tup [.int (-1), .int 1]]] := by
  have h : Det.det 1 (at2 [[-1]]) = -1 := by decide
  have h2 : Det.adj 0 (at2 [[-1]]) 0 0 = 1 := by decide
  have e : invD 0 [[-1]] = BD (Bi 0 [[-1]]) 1 := if_neg (by rw [h]; decide)
  have e2 : Bi 0 [[-1]] 0 0 = -1 := by
    unfold Bi
    rw [h, h2]
    decide
  rw [e]
  show D.tup [.tup [qD (Bi 0 [[-1]] 0 0)]] = _
  rw [e2]
  rfl
theorem x8 : Evs x_law_right_i_8 (tt [[1, 2], [2, 4]]) := by
  have h6 : Evs x_law_right_i_6 (ti [1, 2]) := by unfold x_law_right_i_6; exact evs_tup (evsL_c (evs_K _) (evsL_c (evs_K _) evsL_n)) (by decide)
  have h7 : Evs x_law_right_i_7 (ti [2, 4]) := by unfold x_law_right_i_7; exact evs_tup (evsL_c (evs_K _) (evsL_c (evs_K _) evsL_n)) (by decide)
  unfold x_law_right_i_8
  exact evs_tup (evsL_c h6 (evsL_c h7 evsL_n)) (by decide)
theorem x2 : Evs x_law_right_i_2 (tt [[-1]]) := by
  have h1 : Evs x_law_right_i_1 (ti [-1]) := by unfold x_law_right_i_1; exact evs_tup (evsL_c (evs_neg 1) evsL_n) (by decide)
  unfold x_law_right_i_2
  exact evs_tup (evsL_c h1 evsL_n) (by decide)
theorem x5 : Evs x_law_right_i_5 (.tup [.tup [.tup [.int (-1), .int 1]]]) := by
  have h3 : Evs x_law_right_i_3 (.tup [.int (-1), .int 1]) := by unfold x_law_right_i_3; exact evs_tup (evsL_c (evs_neg 1) (evsL_c (evs_K _) evsL_n)) (by decide)
  have h4 : Evs x_law_right_i_4 (.tup [.tup [.int (-1), .int 1]]) := by unfold x_law_right_i_4; exact evs_tup (evsL_c h3 evsL_n) (by decide)
  unfold x_law_right_i_5
  exact evs_tup (evsL_c h4 evsL_n) (by decide)
theorem r7 (kk : ∀ ρ, Dd.rt (.val (.bl true)) ρ) {c0 c1 c2 : Option Cell} : m_law_right_i_7 Dd [c0, c1, c2, c3, c4, c5, c6, c7] := by
  have e8 := x8
  have e2 := x2
  have e5 := x5
  have i1 : Ret w_inverse [.val (tt [[1, 2], [2, 4]])] .non := by
    rw [← two_inv]
    exact s_inv (m := 1) two_gr (by omega)
  have i2 : Ret w_inverse [.val (tt [[-1]])] (.tup [.tup [.tup [.int (-1), .int 1]]]) := by
    rw [← one_inv]
    exact s_inv (m := 0) one_gr (by omega)
  have i3 : Ret v_law_same [.val (.tup [.tup [.tup [.int (-1), .int 1]]]), .val (.tup [.tup [.tup [.int (-1), .int 1]]])] (.bl true) := same_v (by simp [Sb])
  unfold m_law_right_i_7
  revert e8 e2 e5 i1 i2 i3
  generalize x_law_right_i_8 = w8
  generalize x_law_right_i_2 = w2
  generalize x_law_right_i_5 = w5
  generalize w_inverse = wi
  generalize v_law_same = ws
  revert w8 w2 w5 wi ws
  refine id ?_
  intro w8 w2 w5 wi ws e8 e2 e5 i1 i2 i3
  conv => whnf
  refine e8 _ _ _ ?_
  conv => whnf
  refine i1 _ _ fun o => ?_
  conv => whnf
  (refine ⟨_, rfl, ?_⟩; conv => whnf)
  (refine ⟨_, rfl, ?_⟩; conv => whnf)
  refine e2 _ _ _ ?_
  conv => whnf
  refine i2 _ _ fun o => ?_
  conv => whnf
  refine e5 _ _ _ ?_
  conv => whnf
  refine i3 _ _ fun o => ?_
  exact kk _
end
theorem s_right {k : Nat} {p : List D} (hp : Pool k p) (hk : k < 2 ^ 30) {Qd : Cell → Outs → Prop} {Ed : Str → List (Str × D) → Outs → Prop} (h : ∀ o, Qd (.val (.bl true)) o) : w_law_right_i [.own p] Qd Ed := by
  unfold w_law_right_i m_law_right_i
  conv => whnf
  repeat (refine ⟨_, rfl, ?_⟩; conv => whnf)
  refine ⟨⟨by decide, by decide⟩, ?_⟩
  refine forGo_ix (fun i => D.int (0 + (i : Nat))) (fun i ρ => ∃ p2 c1 c2 c3 c4 c5 c6 c7, ρ = [some (.own p2), c1, c2, c3, c4, c5, c6, c7] ∧ Pool (k + 381 * i) p2) (List.range (Int.toNat 18)) 0 _ (Nat.zero_le _) ?_ ?_ ⟨_, _, _, _, _, _, _, _, rfl, hp⟩
  · rintro ρ ⟨p2, c1, c2, c3, c4, c5, c6, c7, rfl, hp2⟩
    exact r7 fun _ => h _
  · rintro i z ρ hz ⟨p2, c1, c2, c3, c4, c5, c6, c7, rfl, hp2⟩ N hN
    have hz2 := List.getElem?_eq_some_iff.mp hz
    have hi : i < 18 := by
      have := hz2.1
      rw [List.length_range] at this
      exact this
    conv => whnf
    show m_law_right_i_6 _ [some (.own p2), some (.val (.int (0 + (z : Nat)))), c2, c3, c4, c5, c6, c7]
    unfold m_law_right_i_6
    conv => whnf
    (refine ⟨_, rfl, ?_⟩; conv => whnf)
    refine ⟨_, fMod_int (i := (0 : Int) + (z : Nat)) (j := 6) (by decide), ?_⟩
    conv => whnf
    (refine ⟨_, rfl, ?_⟩; conv => whnf)
    obtain ⟨m, en⟩ : ∃ m : Nat, (1 : Int) + (0 + ((z : Nat) : Int)) % 6 = ((m + 1 : Nat) : Int) := ⟨z % 6, by omega⟩
    have hm : m < 6 := by omega
    rw [en]
    show m_law_right_i_5 _ [some (.own p2), some (.val (.int (0 + (z : Nat)))), some (.val (.int ((m + 1 : Nat) : Int))), c3, c4, c5, c6, c7]
    refine r5 hp2 (by omega) hm fun p3 c3 c4 c5 c6 c7 hp3 => ?_
    exact hN _ ⟨_, _, _, _, _, _, _, _, rfl, hp3.mono (by omega)⟩
end Lk03
set_option exponentiation.threshold 100000
namespace Lk03
open PySem PySem.Spec PyProof.Rows L2 DL
theorem law_pure (ns : List Int) (hl : ns.length ≤ 63) (hb : ∀ i ∈ ns, Builtin.Int.intBits i ≤ 1048576) : w_law (lawD ns) (fun c _ => c = .val (.bl true)) (fun _ _ _ => False) := by
  unfold w_law m_law
  conv => whnf
  repeat (refine ⟨_, rfl, ?_⟩; conv => whnf)
  have hm : (if (if (2 : Int) < (((ns.map D.int).length : Nat) : Int) then (2 : Int) else (((ns.map D.int).length : Nat) : Int)) > 1 then (if (2 : Int) < (((ns.map D.int).length : Nat) : Int) then (2 : Int) else (((ns.map D.int).length : Nat) : Int)) else 1) ≤ 63 ∧ 0 ≤ (if (if (2 : Int) < (((ns.map D.int).length : Nat) : Int) then (2 : Int) else (((ns.map D.int).length : Nat) : Int)) > 1 then (if (2 : Int) < (((ns.map D.int).length : Nat) : Int) then (2 : Int) else (((ns.map D.int).length : Nat) : Int)) else 1) := by
    rw [List.length_map]
    split <;> split <;> omega
  generalize (if (if (2 : Int) < (((ns.map D.int).length : Nat) : Int) then (2 : Int) else (((ns.map D.int).length : Nat) : Int)) > 1 then (if (2 : Int) < (((ns.map D.int).length : Nat) : Int) then (2 : Int) else (((ns.map D.int).length : Nat) : Int)) else 1) = m at hm ⊢
  refine ⟨⟨by omega, by omega⟩, ?_⟩
  conv => whnf
  refine ⟨rfl, ?_⟩
  refine lcGo_enc (fun i => D.int (0 + (i : Nat))) (fun _ => D.bl true) (List.range m.toNat) [] (fun z hz Kt Kf hK => ?_) (small64 (by simp; omega)) ?_
  · have hz2 : z < m.toNat := by simpa using hz
    conv => whnf
    rw [Int.zero_add]
    refine s_pool ns z (by omega) hl fun ds o hp => ?_
    conv => whnf
    refine s_right hp (by omega) fun o => ?_
    exact hK
  · conv => whnf
    refine ⟨_, all_map_true _, ?_⟩
    rfl
end Lk03
namespace Lk03
open PySem PySem.Spec PyProof.Rows L2 DL
abbrev R : PySem.W.OpenRow := PySem.W.OpenLaw.row PySem.Challenge.rw_packtags_k03_whole_products_and_inverses
abbrev hk : PySem.W.Hook := hookM 4 fa fn (exAll exs)
def ob (s : PySem.W.SharedT) : He.AlD := obsM 4 fa fn (exAll exs) (HandSHeadRun.getT s)
theorem ob_eq (s : PySem.W.SharedT) : ob s = hk.obs s.abs := obsM_eq (HandSHeadRun.getT_eq s)
def loose : List PySem.Str := (["gcd", "PackError", "InvalidGrid", "is_whole", "is_tuple_of", "are_wholes", "fraction", "line_with", "swapped", "cleared", "determinant_by", "led_by", "times_by", "without", "minor_sign", "inverse_by", "MOST_ROWS", "wrong_in_grid", "check_grid", "check_like_grid", "check_other_size", "determinant", "times", "inverse", "_law_pool", "_law_below", "_law_one", "_law_ratio", "_law_plus", "_law_times", "_law_same", "_law_grid", "_law_product", "_law_is_inverse", "_law_right"] : List String).map PySem.Str.ofString
theorem run (w : World) : HandSHeadRun.RunEqI R (PySem.W.view R.prog [40]) hk ob 5000 loose w := by
  delta HandSHeadRun.RunEqI
  kernel_rfl
end Lk03
open PySem PySem.W PySem.Calls PyProof.Rows
theorem PySem.Challenge.cw_packtags_k03_whole_products_and_inverses_holds : PySem.Challenge.rw_packtags_k03_whole_products_and_inverses.Holds := by
  w_on; o_law
  refine HandSHeadRun.head_imp (r := OpenLaw.row PySem.Challenge.rw_packtags_k03_whole_products_and_inverses) (q := view (OpenLaw.row PySem.Challenge.rw_packtags_k03_whole_products_and_inverses).prog [40]) (H := Lk03.hk) (ob := Lk03.ob) (M := 5000) (loose := Lk03.loose) (d := HandSHeadRun.topDef (OpenLaw.row PySem.Challenge.rw_packtags_k03_whole_products_and_inverses).prog 40) (kwd := []) Lk03.ob_eq
    Lk03.run (by kernel_rfl) (by kernel_rfl) (by kernel_rfl) (by rfl) (by first | assumption | decide +kernel) (by decide +kernel) ⟨rfl, rfl, rfl, rfl, rfl, by decide +kernel⟩ ?hw ?hc
  case hw => w_witness2
  case hc =>
    refine DL.walk_ofM (l := PySem.Challenge.rw_packtags_k03_whole_products_and_inverses) (n := 63) (k := 12) (x := "script") (CX := fun w => L2.CX PySem.Challenge.rw_packtags_k03_whole_products_and_inverses.prog w) rfl (by decide) (by kernel_rfl) ⟨rfl, by decide, by decide⟩ ?F ?X
    case X => exact fun w H s e s' ⟨_, _, _, _, _, _, _, _, _, _, _, _, z⟩ => z
    intro w mg fa h Y G hmg0
    obtain ⟨K, KX, c⟩ := Y
    have hmg : mg ("law" : PySem.Str) = some (.ref fa) := by
      have e : (HandSHeadRun.topDef (OpenLaw.row PySem.Challenge.rw_packtags_k03_whole_products_and_inverses).prog 40).name = ("law" : PySem.Str) := by kernel_rfl
      rw [← e]
      exact hmg0
    obtain ⟨fd, gl, hb, hF⟩ := DL.law_def_of (fun base Z => Lk03.ok_law (P := PySem.Challenge.rw_packtags_k03_whole_products_and_inverses.prog) (w := w) (base := base) Z) KX G c (fun _ _ _ _ _ _ us hl => match us, hl with | [_], _ => rfl)
    have e := hmg.symm.trans gl
    cases e
    exact ⟨K, fd, _, KX, hb, fun H a ns hl hbits hS => DL.law_sp hS (Lk03.law_pure ns hl hbits), hF⟩
