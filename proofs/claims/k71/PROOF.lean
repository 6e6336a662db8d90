import PyProof.Rows.All
import Wide.All
import OpenK.AllK
import Wide.FinOn
import PyProof.EqAt
import PyProof.EqKinds
import PyProof.TupleCall
import HandS.ForMost
import HandS.ForExc
import HandS.Wide
import HandS.WideBits
import HandS.IsInst
import HandS.Gcd
import HandS.TupAny
import HandS.TupMul
import HandS.Deep
import HandS.Flow
import HandS.Style
import HandS.Zip
import HandS.Defaults
import HandS.ExcInit
import HandS.ExcField
import HandS.TryMany
import HandS.SortInts
import KE.KStateDown
import HandS.Head0
import HandS.Head1
import HandS.Head2
import HandS.Head3
import HandS.HeadEnd
import HandS.EndBits
import HandS.Words
import HandS.WordsExc
import HandS.HeadHook1
import HandS.HeadHook2
import KE.GoesNew
import HandS.Dict
import HandS.RaiseMore
import HandS.Exc
import HandS.Star
import HandS.Sort
import HandS.WordsDict
import HandS.DictComp
import PyProof.P3Eq
import PySem.Challenge.RW_packtags_k71_bells_refused
set_option Elab.async false
set_option linter.all false
set_option maxRecDepth 100000
set_option maxHeartbeats 0
/-! The data layer: data D, how it lies in a heap, the state of a body, the readings. -/
namespace DL
open PySem PySem.Spec PyProof.Rows L2
/-- data: what a value is, through and through -/
inductive D where
  | non | bl (b : Bool) | int (i : Int) | str (x : Str)
  | tup (xs : List D) | lst (xs : List D) | dic (ks : List Key) (vs : List D)
  /-- a list that is only read (the script); a built-in class -/
  | fix (xs : List D) | ty (n : String)
  /-- an instance that is only read: its class, its attributes in order; an address -/
  | obj (c : Str) (fs : List Str) (vs : List D) | adr (a : Addr)
  /-- a range object -/
  | rng (lo hi : Int)
/-! ### how data lies -/
mutual
def Rp (K : PySem.W.Frag) (F : Hp) : D → V → Prop
  | .non, v => v = .non
  | .bl b, v => v = .bl b
  | .int i, v => v = .int i
  | .str x, v => v = .str x
  | .tup ds, v => ∃ a vs, v = .ref a ∧ SqT K F a vs ∧ RpL K F ds vs
  | .lst ds, v => ∃ a vs, v = .ref a ∧ F a = some (.lst vs) ∧ RpL K F ds vs
  | .fix ds, v => ∃ a vs, v = .ref a ∧ SqL K F a vs ∧ RpL K F ds vs
  | .ty n, v => v = .ty n
  | .dic ks ds, v => ∃ a vs, v = .ref a ∧ F a = some (.dK (ks.zip vs)) ∧ ks.length = vs.length ∧ RpL K F ds vs
  | .obj c fs ds, v => ∃ a dx vs, v = .ref a ∧ F a = some (.ins (He.ga K c) dx (fs.zip vs)) ∧ fs.length = vs.length ∧ RpL K F ds vs
  | .adr a, v => v = .ref a
  | .rng lo hi, v => ∃ a, v = .ref a ∧ F a = some (.rng lo hi)
def RpL (K : PySem.W.Frag) (F : Hp) : List D → List V → Prop
  | [], vs => vs = []
  | d :: ds, vs => ∃ v r, vs = v :: r ∧ Rp K F d v ∧ RpL K F ds r
end
theorem RpL.length {K : PySem.W.Frag} {F : Hp} : ∀ {ds : List D} {vs : List V}, RpL K F ds vs → ds.length = vs.length
  | [], _, h => by
    have e : _ = [] := h
    subst e
    rfl
  | d :: ds, vs, h => by
    obtain ⟨v, r, rfl, _, t⟩ := h
    rw [List.length_cons, List.length_cons, RpL.length t]
theorem Same.tseq {K : PySem.W.Frag} {H H' : Hp} {a : Addr} {xs : List V} (e : Same H H') (h : SqT K H a xs) : SqT K H' a xs := by
  rcases h with (h | ⟨o, h⟩) | h
  · exact .inl (.inl (e _ _ h))
  · exact .inl (.inr ⟨o, e _ _ h⟩)
  · exact .inr h
mutual
theorem Rp.mono {K : PySem.W.Frag} {F F' : Hp} (s : Same F F') : ∀ {d : D} {v : V}, Rp K F d v → Rp K F' d v
  | .non, _, h => h
  | .bl _, _, h => h
  | .int _, _, h => h
  | .str _, _, h => h
  | .tup ds, _, h => by
    obtain ⟨a, vs, e, q, r⟩ := h
    exact ⟨a, vs, e, Same.tseq s q, RpL.mono s r⟩
  | .ty _, _, h => h
  | .fix ds, _, h => by
    obtain ⟨a, vs, e, q, r⟩ := h
    exact ⟨a, vs, e, s.seq q, RpL.mono s r⟩
  | .lst ds, _, h => by
    obtain ⟨a, vs, e, q, r⟩ := h
    exact ⟨a, vs, e, s _ _ q, RpL.mono s r⟩
  | .dic ks ds, _, h => by
    obtain ⟨a, vs, e, q, l, r⟩ := h
    exact ⟨a, vs, e, s _ _ q, l, RpL.mono s r⟩
  | .obj c fs ds, _, h => by
    obtain ⟨a, dx, vs, e, q, l, r⟩ := h
    exact ⟨a, dx, vs, e, s _ _ q, l, RpL.mono s r⟩
  | .adr _, _, h => h
  | .rng _ _, _, h => by
    obtain ⟨a, e, q⟩ := h
    exact ⟨a, e, s _ _ q⟩
theorem RpL.mono {K : PySem.W.Frag} {F F' : Hp} (s : Same F F') : ∀ {ds : List D} {vs : List V}, RpL K F ds vs → RpL K F' ds vs
  | [], _, h => h
  | d :: ds, _, h => by
    obtain ⟨v, r, e, h1, h2⟩ := h
    exact ⟨v, r, e, Rp.mono s h1, RpL.mono s h2⟩
end
theorem RpL.get {K : PySem.W.Frag} {F : Hp} : ∀ {ds : List D} {vs : List V} {i : Nat} {d : D}, RpL K F ds vs → ds[i]? = some d → ∃ v, vs[i]? = some v ∧ Rp K F d v
  | [], _, _, _, _, e => by simp at e
  | d :: ds, _, 0, x, h, e => by
    obtain ⟨v, r, rfl, h1, h2⟩ := h
    simp at e
    subst e
    exact ⟨v, rfl, h1⟩
  | d :: ds, _, i + 1, x, h, e => by
    obtain ⟨v, r, rfl, h1, h2⟩ := h
    obtain ⟨u, e2, h3⟩ := RpL.get h2 (i := i) (d := x) (by simpa using e)
    exact ⟨u, by simpa using e2, h3⟩
theorem RpL.append {K : PySem.W.Frag} {F : Hp} : ∀ {ds es : List D} {vs us : List V}, RpL K F ds vs → RpL K F es us → RpL K F (ds ++ es) (vs ++ us)
  | [], _, _, _, h, g => by
    have e : _ = [] := h
    subst e
    exact g
  | d :: ds, _, _, _, h, g => by
    obtain ⟨v, r, rfl, h1, h2⟩ := h
    exact ⟨v, r ++ _, rfl, h1, RpL.append h2 g⟩
theorem RpL.take {K : PySem.W.Frag} {F : Hp} : ∀ (n : Nat) {ds : List D} {vs : List V}, RpL K F ds vs → RpL K F (ds.take n) (vs.take n)
  | 0, _, _, _ => rfl
  | n + 1, [], _, h => by
    have e : _ = [] := h
    subst e
    rfl
  | n + 1, d :: ds, _, h => by
    obtain ⟨v, r, rfl, h1, h2⟩ := h
    exact ⟨v, r.take n, rfl, h1, RpL.take n h2⟩
theorem RpL.drop {K : PySem.W.Frag} {F : Hp} : ∀ (n : Nat) {ds : List D} {vs : List V}, RpL K F ds vs → RpL K F (ds.drop n) (vs.drop n)
  | 0, _, _, h => h
  | n + 1, [], _, h => by
    have e : _ = [] := h
    subst e
    rfl
  | n + 1, d :: ds, _, h => by
    obtain ⟨v, r, rfl, h1, h2⟩ := h
    exact RpL.drop n h2
theorem RpL.set {K : PySem.W.Frag} {F : Hp} {d : D} {v : V} (hd : Rp K F d v) : ∀ (n : Nat) {ds : List D} {vs : List V}, RpL K F ds vs → RpL K F (ds.set n d) (vs.set n v)
  | _, [], _, h => by
    have e : _ = [] := h
    subst e
    rfl
  | 0, d :: ds, _, h => by
    obtain ⟨v, r, rfl, h1, h2⟩ := h
    exact ⟨_, r, rfl, hd, h2⟩
  | n + 1, d :: ds, _, h => by
    obtain ⟨v, r, rfl, h1, h2⟩ := h
    exact ⟨v, _, rfl, h1, RpL.set hd n h2⟩
theorem RpL.reverse {K : PySem.W.Frag} {F : Hp} : ∀ {ds : List D} {vs : List V}, RpL K F ds vs → RpL K F ds.reverse vs.reverse
  | [], _, h => by
    have e : _ = [] := h
    subst e
    rfl
  | d :: ds, _, h => by
    obtain ⟨v, r, rfl, h1, h2⟩ := h
    rw [List.reverse_cons, List.reverse_cons]
    exact RpL.append (RpL.reverse h2) ⟨v, [], rfl, h1, rfl⟩
theorem RpL.ints {K : PySem.W.Frag} {F : Hp} : ∀ ns : List Int, RpL K F (ns.map D.int) (ns.map V.int)
  | [] => rfl
  | n :: ns => ⟨.int n, ns.map V.int, rfl, rfl, RpL.ints ns⟩
theorem RpL.to_ints {K : PySem.W.Frag} {F : Hp} : ∀ {ns : List Int} {vs : List V}, RpL K F (ns.map D.int) vs → vs = ns.map V.int
  | [], _, h => h
  | n :: ns, _, h => by
    obtain ⟨v, r, rfl, h1, h2⟩ := h
    have e1 : v = .int n := h1
    rw [e1, RpL.to_ints h2]
    rfl
theorem RpL.one {K : PySem.W.Frag} {F : Hp} {d : D} {v : V} (h : Rp K F d v) : RpL K F [d] [v] := ⟨v, [], rfl, h, rfl⟩
/-- .. seen from above: a list may be one's own -/
def RpV (K : PySem.W.Frag) (F H : Hp) : D → V → Prop
  | .lst ds, v => ∃ a vs, v = .ref a ∧ H a = some (.lst vs) ∧ RpL K F ds vs
  | d, v => Rp K F d v
theorem Rp.view {K : PySem.W.Frag} {F H : Hp} (s : Same F H) : ∀ {d : D} {v : V}, Rp K F d v → RpV K F H d v
  | .non, _, h => h
  | .bl _, _, h => h
  | .int _, _, h => h
  | .str _, _, h => h
  | .tup _, _, h => h
  | .dic _ _, _, h => h
  | .fix _, _, h => h
  | .ty _, _, h => h
  | .obj _ _ _, _, h => h
  | .adr _, _, h => h
  | .rng _ _, _, h => h
  | .lst ds, _, h => by
    obtain ⟨a, vs, e, q, r⟩ := h
    exact ⟨a, vs, e, s _ _ q, r⟩
/-! ### a body's state -/
/-- what stands at a name: data, or a list of one's own -/
inductive Cell where
  | val (d : D) | own (ds : List D)
def Cell.toD : Cell → D
  | .val d => d
  | .own ds => .lst ds
abbrev En := List (Option Cell)
/-- fixed through a body: the written part, the heap and the still part of it at the entry, the parameters that are lists handed over, their addresses -/
structure Bd where
  K : PySem.W.Frag
  H0 : Hp
  F0 : Hp
  ios : List Nat
  ad : Nat → Addr
abbrev La := Nat → Option Addr
def SlotR (B : Bd) (F H : Hp) : Option Cell → Option V → Option Addr → Prop
  | none, _, l => l = none
  | some (.val d), s, l => l = none ∧ ∃ v, s = some v ∧ Rp B.K F d v
  | some (.own ds), s, l => ∃ a vs, s = some (.ref a) ∧ l = some a ∧ H a = some (.lst vs) ∧ F a = none ∧ RpL B.K F ds vs ∧ ((∃ j ∈ B.ios, B.ad j = a) ∨ B.H0 a = none)
structure SR (B : Bd) (F : Hp) (L : La) (σ : L2.St) (H : Hp) (ρ : En) : Prop where
  len : ρ.length = σ.length
  sub : Same F H
  slot : ∀ i, SlotR B F H (ρ.getD i none) (σ.getD i none) (L i)
  inj : ∀ i j a, L i = some a → L j = some a → i = j
  f0 : Same B.F0 F
  fn : ∀ a o, F a = some o → B.F0 a = some o ∨ B.H0 a = none
  keep : ∀ a o, B.H0 a = some o → (∀ j ∈ B.ios, B.ad j ≠ a) → H a = some o
  io : ∀ j ∈ B.ios, L j = some (B.ad j)
  al : ∀ a, B.H0 a ≠ none → H a ≠ none
/-- from one state of an expression's evaluation to the next -/
structure Stp (F : Hp) (L : La) (H F' : Hp) (L' : La) (H' : Hp) : Prop where
  f : Same F F'
  l : ∀ i a, L' i = some a → L i = some a
  h : ∀ b o, H b = some o → (∀ i, L i ≠ some b) → H' b = some o
  fn : ∀ b o, F' b = some o → F b = some o ∨ H b = none ∨ ∃ i, L i = some b
  al : ∀ b, H b ≠ none → H' b ≠ none
theorem Stp.refl (F : Hp) (L : La) (H : Hp) : Stp F L H F L H := ⟨Same.refl F, fun _ _ h => h, fun _ _ h _ => h, fun _ _ h => .inl h, fun _ h => h⟩
theorem Stp.trans {F F1 F2 H H1 H2 : Hp} {L L1 L2 : La} (a : Stp F L H F1 L1 H1) (b : Stp F1 L1 H1 F2 L2 H2) : Stp F L H F2 L2 H2 where
  f := a.f.trans b.f
  l := fun i x h => a.l i x (b.l i x h)
  h := fun x o e n => b.h x o (a.h x o e n) fun i q => n i (a.l i x q)
  fn := fun x o e => by
    rcases b.fn x o e with q | q | ⟨i, q⟩
    · exact a.fn x o q
    · refine .inr (.inl ?_)
      cases e2 : H x with
      | none => rfl
      | some u => exact absurd q (a.al x (by rw [e2]; simp))
    · exact .inr (.inr ⟨i, a.l i x q⟩)
  al := fun x h => b.al x (a.al x h)
/-- new things are laid: F and H grow -/
structure Grow (F H F' H' : Hp) : Prop where
  f : Same F F'
  h : Same H H'
  fn : ∀ b o, F' b = some o → F b = some o ∨ H b = none
theorem Grow.refl (F H : Hp) : Grow F H F H := ⟨Same.refl F, Same.refl H, fun _ _ h => .inl h⟩
theorem Grow.stp {F H F' H' : Hp} {L : La} (g : Grow F H F' H') : Stp F L H F' L H' :=
  ⟨g.f, fun _ _ h => h, fun b o e _ => g.h b o e, fun b o e => (g.fn b o e).imp id .inl, fun b n => by
    cases e : H b with
    | none => exact absurd e n
    | some o => rw [g.h b o e]; simp⟩
theorem same_upd {H : Hp} {p : Addr} {o : HO} (h : H p = none) : Same H (upd H p o) := fun b x e => by
  rw [upd_ne (ne_of_none e h)]
  exact e
theorem Grow.none {F H F' H' : Hp} (g : Grow F H F' H') {a : Addr} (h : H a ≠ none) (f : F a = none) : F' a = none := by
  cases e : F' a with
  | none => rfl
  | some o =>
    rcases g.fn a o e with q | q
    · rw [f] at q; cases q
    · exact absurd q h
theorem Grow.trans {F F1 F2 H H1 H2 : Hp} (a : Grow F H F1 H1) (b : Grow F1 H1 F2 H2) : Grow F H F2 H2 :=
  ⟨a.f.trans b.f, a.h.trans b.h, fun x o e => by
    rcases b.fn x o e with q | q
    · exact a.fn x o q
    · exact .inr (a.h.free q)⟩
theorem SlotR.grow {B : Bd} {F H F' H' : Hp} (g : Grow F H F' H') : ∀ {c : Option Cell} {s : Option V} {l : Option Addr}, SlotR B F H c s l → SlotR B F' H' c s l
  | none, _, _, h => h
  | some (.val d), _, _, h => by
    obtain ⟨h1, v, h2, h3⟩ := h
    exact ⟨h1, v, h2, h3.mono g.f⟩
  | some (.own ds), _, _, h => by
    obtain ⟨a, vs, h1, h2, h3, h4, h5, h6⟩ := h
    exact ⟨a, vs, h1, h2, g.h _ _ h3, g.none (by rw [h3]; simp) h4, h5.mono g.f, h6⟩
theorem SR.grow {B : Bd} {F H F' H' : Hp} {L : La} {σ : L2.St} {ρ : En} (S : SR B F L σ H ρ) (g : Grow F H F' H') (sub : Same F' H') : SR B F' L σ H' ρ where
  len := S.len
  sub := sub
  slot := fun i => (S.slot i).grow g
  inj := S.inj
  f0 := S.f0.trans g.f
  fn := fun a o e => by
    rcases g.fn a o e with q | q
    · exact S.fn a o q
    · refine .inr ?_
      cases e2 : B.H0 a with
      | none => rfl
      | some u => exact absurd q (S.al a (by rw [e2]; simp))
  keep := fun a o e n => g.h _ _ (S.keep a o e n)
  io := S.io
  al := fun a n => by
    have q := S.al a n
    cases e : H a with
    | none => exact absurd e q
    | some o => rw [g.h a o e]; simp
theorem SR.own {B : Bd} {F H : Hp} {L : La} {σ : L2.St} {ρ : En} (S : SR B F L σ H ρ) {i : Nat} {a : Addr} (h : L i = some a) :
    ∃ ds vs, ρ.getD i none = some (.own ds) ∧ σ.getD i none = some (.ref a) ∧ H a = some (.lst vs) ∧ F a = none ∧ RpL B.K F ds vs ∧ ((∃ j ∈ B.ios, B.ad j = a) ∨ B.H0 a = none) := by
  have q := S.slot i
  cases e : ρ.getD i none with
  | none =>
    rw [e] at q
    have z : L i = none := q
    rw [h] at z
    cases z
  | some c =>
    rw [e] at q
    cases c with
    | val d =>
      obtain ⟨z, _⟩ := q
      rw [h] at z
      cases z
    | own ds =>
      obtain ⟨b, vs, h1, h2, h3, h4, h5, h6⟩ := q
      rw [h] at h2
      cases h2
      exact ⟨ds, vs, rfl, h1, h3, h4, h5, h6⟩
/-! ### exceptions -/
/-- a raised one: its class by name, its attributes -/
abbrev DX := Str → List (Str × D) → En → Prop
def ExcR (K : PySem.W.Frag) (F H : Hp) (c : Str) (fs : List (Str × D)) (cls : Value) (dd : Option Addr) : Prop :=
  cls = .ref (He.ga K c) ∧ ((fs = [] ∧ dd = none) ∨ ∃ d fv, dd = some d ∧ H d = some (.xd fv) ∧ fv.map (·.1) = fs.map (·.1) ∧ RpL K F (fs.map (·.2)) (fv.map (·.2)))
def XOk (B : Bd) (W : WX) (F : Hp) (E : DX) : Prop := ∀ c fs ρ' cls dd σ' F' L' H', E c fs ρ' → SR B F' L' σ' H' ρ' → Same F F' → ExcR B.K F' H' c fs cls dd → W cls dd σ' H'
theorem XOk.mono {B : Bd} {W : WX} {F F' : Hp} {E : DX} (x : XOk B W F E) (s : Same F F') : XOk B W F' E := fun c fs ρ' cls dd σ' F2 L' H' e S q r => x c fs ρ' cls dd σ' F2 L' H' e S (s.trans q) r
/-! ### readings -/
abbrev DQ := D → En → Prop
abbrev DE := En → DQ → DX → Prop
abbrev CQ := Cell → En → Prop
abbrev DC := En → CQ → DX → Prop
abbrev DT := En → (Bool → En → Prop) → DX → Prop
/-- an expression of data -/
def rV (B : Bd) (W : WX) (t : DE) : TE := fun σ H Q => ∃ F L ρ Qd Ed, SR B F L σ H ρ ∧ t ρ Qd Ed ∧
  (∀ d ρ' v F' L' H', Qd d ρ' → SR B F' L' σ H' ρ' → Stp F L H F' L' H' → Rp B.K F' d v → Q v H') ∧ XOk B W F Ed
/-- how a result lies: data; or a list that no name holds -/
def ResC (B : Bd) (F : Hp) (L : La) (H F' : Hp) (L' : La) (H' : Hp) : Cell → V → Prop
  | .val d, v => Rp B.K F' d v
  | .own ds, v => ∃ a vs, v = .ref a ∧ H' a = some (.lst vs) ∧ F' a = none ∧ (∀ i, L' i ≠ some a) ∧ B.H0 a = none ∧ RpL B.K F' ds vs ∧ (H a = none ∨ ∃ i, L i = some a)
def rC (B : Bd) (W : WX) (t : DC) : TE := fun σ H Q => ∃ F L ρ Qd Ed, SR B F L σ H ρ ∧ t ρ Qd Ed ∧
  (∀ c ρ' v F' L' H', Qd c ρ' → SR B F' L' σ H' ρ' → Stp F L H F' L' H' → ResC B F L H F' L' H' c v → Q v H') ∧ XOk B W F Ed
def rT (B : Bd) (W : WX) (t : DT) : TT := fun σ H Q => ∃ F L ρ Qd Ed, SR B F L σ H ρ ∧ t ρ Qd Ed ∧
  (∀ b ρ' F' L' H', Qd b ρ' → SR B F' L' σ H' ρ' → Stp F L H F' L' H' → Q b H') ∧ XOk B W F Ed
/-! weaker readings -/
section
variable {X : Cx} {e : Expr}
theorem pe_imp {t u : TE} (h : PE X e t) (i : ∀ σ H Q, u σ H Q → t σ H Q) : PE X e u := ⟨fun pins s σ H Q I q => h.run pins s σ H Q I (i σ H Q q)⟩
theorem pt_imp {t u : TT} (h : PT X e t) (i : ∀ σ H Q, u σ H Q → t σ H Q) : PT X e u := ⟨fun pins s σ H Q I q => h.run pins s σ H Q I (i σ H Q q)⟩
theorem pw_imp {t u : TT} (h : PW X e t) (i : ∀ σ H Q, u σ H Q → t σ H Q) : PW X e u := ⟨fun wh pins s σ H Q I q => h.run wh pins s σ H Q I (i σ H Q q)⟩
theorem pa_imp {es : List Expr} {t u : TA} (h : PA X es t) (i : ∀ σ H Q, u σ H Q → t σ H Q) : PA X es u := ⟨fun pos pins s σ H Q I q => h.run pos pins s σ H Q I (i σ H Q q)⟩
theorem ps_imp {st : Stmt} {t u : TS} (h : PS X st t) (i : ∀ D σ H, u D σ H → t D σ H) : PS X st u := ⟨fun pins s σ H D I q => h.run pins s σ H D I (i D σ H q)⟩
theorem pss_imp {st : List Stmt} {t u : TS} (h : PSs X st t) (i : ∀ D σ H, u D σ H → t D σ H) : PSs X st u := ⟨fun pins s σ H D I q => h.run pins s σ H D I (i D σ H q)⟩
end
end DL
/-! The data layer: names, operands, operators, built-in calls, tests. -/
namespace DL
open PySem PySem.Spec PyProof.Rows L2
theorem getD_some {α : Type} {l : List (Option α)} {i : Nat} {v : α} (h : l.getD i none = some v) : l[i]? = some (some v) := by
  rw [List.getD_eq_getElem?_getD] at h
  cases e : l[i]? with
  | none => rw [e] at h; cases h
  | some o => rw [e] at h; exact congrArg some h
theorem getD_set_ne {α : Type} {l : List α} {i j : Nat} {v d : α} (h : i ≠ j) : (l.set i v).getD j d = l.getD j d := by
  rw [List.getD_eq_getElem?_getD, List.getD_eq_getElem?_getD, List.getElem?_set_ne h]
theorem getD_set_self {α : Type} {l : List α} {i : Nat} {v d : α} (h : i < l.length) : (l.set i v).getD i d = v := by
  rw [List.getD_eq_getElem?_getD, List.getElem?_set_self h]
  rfl
theorem getD_lt {α : Type} {l : List (Option α)} {i : Nat} {v : α} (h : l.getD i none = some v) : i < l.length :=
  (List.getElem?_eq_some_iff.mp (getD_some h)).1
section
variable {B : Bd} {F H F' H' : Hp} {L : La} {σ : L2.St} {ρ : En}
/-- a list that no name holds is made still -/
theorem SR.freeze {a : Addr} {vs : List V} (S : SR B F L σ H ρ) (h : H a = some (.lst vs)) (f : F a = none) (n : ∀ i, L i ≠ some a) (h0 : B.H0 a = none) : SR B (upd F a (.lst vs)) L σ H ρ where
  len := S.len
  sub := fun b o e => by
    by_cases hb : b = a
    · subst hb; rw [upd_same] at e; rw [← e]; exact h
    · rw [upd_ne hb] at e; exact S.sub b o e
  slot := fun i => by
    have q := S.slot i
    revert q
    cases ρ.getD i none with
    | none => exact id
    | some c =>
      cases c with
      | val d => exact fun ⟨h1, v, h2, h3⟩ => ⟨h1, v, h2, h3.mono (same_upd f)⟩
      | own ds =>
        intro ⟨b, ws, h1, h2, h3, h4, h5, h6⟩
        have hb : b ≠ a := fun z => n i (by rw [h2, z])
        exact ⟨b, ws, h1, h2, h3, by rw [upd_ne hb]; exact h4, h5.mono (same_upd f), h6⟩
  inj := S.inj
  f0 := S.f0.trans (same_upd f)
  fn := fun b o e => by
    by_cases hb : b = a
    · rw [hb]; exact .inr h0
    · rw [upd_ne hb] at e; exact S.fn b o e
  keep := S.keep
  io := S.io
  al := S.al
theorem Stp.freeze {L' : La} {a : Addr} {vs : List V} (s : Stp F L H F' L' H') (f : F' a = none) (nw : H a = none ∨ ∃ i, L i = some a) : Stp F L H (upd F' a (.lst vs)) L' H' where
  f := s.f.trans (same_upd f)
  l := s.l
  h := s.h
  fn := fun b o e => by
    by_cases hb : b = a
    · rw [hb]; exact .inr nw
    · rw [upd_ne hb] at e; exact s.fn b o e
  al := s.al
theorem RpV_own {K : PySem.W.Frag} {a : Addr} {vs : List V} {ds : List D} (h : H a = some (.lst vs)) (r : RpL K F ds vs) : RpV K F H (.lst ds) (.ref a) := ⟨a, vs, rfl, h, r⟩
end
/-! ### frozen, data, moved -/
def frz (t : DC) : DE := fun ρ Q E => t ρ (fun c ρ' => Q c.toD ρ') E
def vl (t : DE) : DC := fun ρ Q E => t ρ (fun d ρ' => Q (.val d) ρ') E
section
variable {X : Cx} {B : Bd} {W : WX} {e : Expr} {pos : Pos}
theorem de_frz {t : DC} (h : PE X e (rC B W t)) : PE X e (rV B W (frz t)) := by
  refine pe_imp h fun σ H Q ⟨F, L, ρ, Qd, Ed, S, ht, hq, hx⟩ => ⟨F, L, ρ, fun c ρ' => Qd c.toD ρ', Ed, S, ht, fun c ρ' v F' L' H' q S' s r => ?_, hx⟩
  cases c with
  | val d => exact hq d ρ' v F' L' H' q S' s r
  | own ds =>
    obtain ⟨a, vs, rfl, h1, h2, h3, h4, h5, h6⟩ := r
    exact hq (.lst ds) ρ' _ _ L' H' q (S'.freeze h1 h2 h3 h4) (s.freeze h2 h6) ⟨a, vs, rfl, upd_same, h5.mono (same_upd h2)⟩
theorem dc_val {t : DE} (h : PE X e (rV B W t)) : PE X e (rC B W (vl t)) :=
  pe_imp h fun σ H Q ⟨F, L, ρ, Qd, Ed, S, ht, hq, hx⟩ => ⟨F, L, ρ, fun d ρ' => Qd (.val d) ρ', Ed, S, ht, fun d ρ' v F' L' H' q S' s r => hq (.val d) ρ' v F' L' H' q S' s r, hx⟩
/-- a name that holds data -/
def mVar (i : Nat) : DE := fun ρ Q _ => match ρ.getD i none with
  | some (.val d) => Q d ρ
  | _ => False
theorem SR.val {F H : Hp} {L : La} {σ : L2.St} {ρ : En} (S : SR B F L σ H ρ) {i : Nat} {d : D} (h : ρ.getD i none = some (.val d)) : L i = none ∧ ∃ v, σ[i]? = some (some v) ∧ Rp B.K F d v := by
  have q := S.slot i
  rw [h] at q
  obtain ⟨h1, v, h2, h3⟩ := q
  exact ⟨h1, v, getD_some h2, h3⟩
theorem SR.ow {F H : Hp} {L : La} {σ : L2.St} {ρ : En} (S : SR B F L σ H ρ) {i : Nat} {ds : List D} (h : ρ.getD i none = some (.own ds)) :
    ∃ a vs, σ[i]? = some (some (.ref a)) ∧ L i = some a ∧ H a = some (.lst vs) ∧ F a = none ∧ RpL B.K F ds vs ∧ ((∃ j ∈ B.ios, B.ad j = a) ∨ B.H0 a = none) := by
  have q := S.slot i
  rw [h] at q
  obtain ⟨a, vs, h1, h2, h3, h4, h5, h6⟩ := q
  exact ⟨a, vs, getD_some h1, h2, h3, h4, h5, h6⟩
theorem de_var (i : Nat) {x : Str} (hN : X.N[i]? = some x := by rfl) (hv : Vis X.env.scope x := by first | exact Or.inl rfl | exact Or.inr (Or.inl rfl) | exact Or.inr (Or.inr rfl)) (hd : (x == ("__debug__" : Str)) = false := by decide)
    (hcd : (x == ("__classdict__" : Str)) = false := by decide) : PE X (.Name x pos) (rV B W (mVar i)) := by
  refine pe_imp (pe_var (i := i) hN hv hd hcd) fun σ H Q ⟨F, L, ρ, Qd, Ed, S, ht, hq, hx⟩ => ?_
  unfold mVar at ht
  split at ht
  · rename_i d e
    obtain ⟨h1, v, h2, h3⟩ := S.val e
    exact ⟨v, h2, hq d ρ v F L H ht S (Stp.refl _ _ _) h3⟩
  · exact ht.elim
def forget (L : La) (i : Nat) : La := fun j => if j = i then none else L j
theorem SR.drop {F H : Hp} {L : La} {σ : L2.St} {ρ : En} (S : SR B F L σ H ρ) {i : Nat} (hi : B.ios.contains i = false) : SR B F (forget L i) σ H (ρ.set i none) where
  len := by rw [List.length_set]; exact S.len
  sub := S.sub
  slot := fun j => by
    unfold forget
    by_cases hj : j = i
    · subst hj
      rw [if_pos rfl]
      have e : (ρ.set j none).getD j none = none := by
        by_cases hl : j < ρ.length
        · exact getD_set_self hl
        · rw [List.getD_eq_getElem?_getD, List.getElem?_eq_none (by rw [List.length_set]; omega)]
          rfl
      rw [e]
      exact rfl
    · rw [if_neg hj, getD_set_ne (fun z => hj z.symm)]
      exact S.slot j
  inj := fun j k a h1 h2 => by
    unfold forget at h1 h2
    split at h1
    · cases h1
    · split at h2
      · cases h2
      · exact S.inj j k a h1 h2
  f0 := S.f0
  fn := S.fn
  keep := S.keep
  io := fun j hj => by
    unfold forget
    rw [if_neg (fun z => by subst z; rw [List.contains_iff_mem.mpr hj] at hi; cases hi)]
    exact S.io j hj
  al := S.al
theorem Stp.drop {F H : Hp} {L : La} {i : Nat} : Stp F L H F (forget L i) H where
  f := Same.refl F
  l := fun j a h => by
    unfold forget at h
    split at h
    · cases h
    · exact h
  h := fun _ _ h _ => h
  fn := fun _ _ h => .inl h
  al := fun _ h => h
/-- a list of one's own goes out of its name -/
def mMove (i : Nat) : DC := fun ρ Q _ => match ρ.getD i none with
  | some (.own ds) => Q (.own ds) (ρ.set i none)
  | some (.val d) => Q (.val d) ρ
  | none => False
theorem SR.alone {F H : Hp} {L : La} {σ : L2.St} {ρ : En} (S : SR B F L σ H ρ) {i : Nat} {a : Addr} (hi : B.ios.contains i = false) (h : L i = some a) (z : (∃ j ∈ B.ios, B.ad j = a) ∨ B.H0 a = none) : B.H0 a = none := by
  rcases z with ⟨j, hj, e⟩ | z
  · have q := S.io j hj
    rw [e] at q
    have e2 := S.inj _ _ _ h q
    subst e2
    rw [List.contains_iff_mem.mpr hj] at hi
    cases hi
  · exact z
theorem dc_move (i : Nat) {x : Str} (hi : B.ios.contains i = false := by rfl) (hN : X.N[i]? = some x := by rfl) (hv : Vis X.env.scope x := by first | exact Or.inl rfl | exact Or.inr (Or.inl rfl) | exact Or.inr (Or.inr rfl)) (hd : (x == ("__debug__" : Str)) = false := by decide)
    (hcd : (x == ("__classdict__" : Str)) = false := by decide) : PE X (.Name x pos) (rC B W (mMove i)) := by
  refine pe_imp (pe_var (i := i) hN hv hd hcd) fun σ H Q ⟨F, L, ρ, Qd, Ed, S, ht, hq, hx⟩ => ?_
  unfold mMove at ht
  split at ht
  · rename_i ds e
    obtain ⟨a, vs, h1, h2, h3, h4, h5, h6⟩ := S.ow e
    refine ⟨_, h1, hq (.own ds) _ _ F _ H ht (S.drop hi) Stp.drop ⟨a, vs, rfl, h3, h4, fun j q => ?_, S.alone hi h2 h6, h5, .inr ⟨i, h2⟩⟩⟩
    unfold forget at q
    split at q
    · cases q
    · rename_i hj
      exact hj (S.inj _ _ _ q h2)
  · rename_i d e
    obtain ⟨h1, v, h2, h3⟩ := S.val e
    exact ⟨v, h2, hq (.val d) ρ v F L H ht S (Stp.refl _ _ _) h3⟩
  · exact ht.elim
/-- a list of one's own is made still, its name holds it on -/
def mStill (i : Nat) : DE := fun ρ Q _ => match ρ.getD i none with
  | some (.own ds) => Q (.lst ds) (ρ.set i (some (.val (.lst ds))))
  | some (.val d) => Q d ρ
  | none => False
theorem SR.hold {F H : Hp} {L : La} {σ : L2.St} {ρ : En} (S : SR B F L σ H ρ) {i : Nat} {d : D} {v : V} (hi : i < ρ.length) (hl : L i = none) (hs : σ.getD i none = some v) (r : Rp B.K F d v) : SR B F L σ H (ρ.set i (some (.val d))) where
  len := by rw [List.length_set]; exact S.len
  sub := S.sub
  slot := fun j => by
    by_cases hj : i = j
    · subst hj
      rw [getD_set_self hi]
      exact ⟨hl, v, hs, r⟩
    · rw [getD_set_ne hj]
      exact S.slot j
  inj := S.inj
  f0 := S.f0
  fn := S.fn
  keep := S.keep
  io := S.io
  al := S.al
theorem set_set {α : Type} (l : List α) (i : Nat) (a b : α) : (l.set i a).set i b = l.set i b := by simp
theorem de_still (i : Nat) {x : Str} (hi : B.ios.contains i = false := by rfl) (hN : X.N[i]? = some x := by rfl) (hv : Vis X.env.scope x := by first | exact Or.inl rfl | exact Or.inr (Or.inl rfl) | exact Or.inr (Or.inr rfl)) (hd : (x == ("__debug__" : Str)) = false := by decide)
    (hcd : (x == ("__classdict__" : Str)) = false := by decide) : PE X (.Name x pos) (rV B W (mStill i)) := by
  refine pe_imp (pe_var (i := i) hN hv hd hcd) fun σ H Q ⟨F, L, ρ, Qd, Ed, S, ht, hq, hx⟩ => ?_
  unfold mStill at ht
  split at ht
  · rename_i ds e
    obtain ⟨a, vs, h1, h2, h3, h4, h5, h6⟩ := S.ow e
    have n : ∀ j, forget L i j ≠ some a := fun j q => by
      unfold forget at q
      split at q
      · cases q
      · rename_i hj
        exact hj (S.inj _ _ _ q h2)
    have h0 := S.alone hi h2 h6
    have r : Rp B.K (upd F a (.lst vs)) (.lst ds) (.ref a) := ⟨a, vs, rfl, upd_same, h5.mono (same_upd h4)⟩
    have S2 := ((S.drop hi).freeze h3 h4 n h0).hold (i := i) (d := .lst ds) (v := .ref a) (by rw [List.length_set]; exact getD_lt e) (by unfold forget; rw [if_pos rfl]) (by rw [List.getD_eq_getElem?_getD, h1]; rfl) r
    rw [set_set] at S2
    exact ⟨_, h1, hq (.lst ds) _ _ _ _ H ht S2 (Stp.drop.freeze h4 (.inr ⟨i, h2⟩)) r⟩
  · rename_i d e
    obtain ⟨h1, v, h2, h3⟩ := S.val e
    exact ⟨v, h2, hq d ρ v F L H ht S (Stp.refl _ _ _) h3⟩
  · exact ht.elim
/-! constants -/
def mK (d : D) : DE := fun ρ Q _ => Q d ρ
theorem de_K {v : V} {d : D} (h : PE X e (L2.tC v)) (r : ∀ F, Rp B.K F d v) : PE X e (rV B W (mK d)) :=
  pe_imp h fun σ H Q ⟨F, L, ρ, Qd, Ed, S, ht, hq, hx⟩ => hq d ρ v F L H ht S (Stp.refl _ _ _) (r F)
theorem de_int {i : Int} {j : Nat} : PE X (.Constant (.int i) j pos) (rV B W (mK (.int i))) := de_K pe_int fun _ => rfl
theorem de_bl {b : Bool} {j : Nat} : PE X (.Constant (.bool b) j pos) (rV B W (mK (.bl b))) := de_K pe_bl fun _ => rfl
theorem de_non {j : Nat} : PE X (.Constant .none j pos) (rV B W (mK .non)) := de_K pe_non fun _ => rfl
theorem de_str {x : Str} {j : Nat} : PE X (.Constant (.str x) j pos) (rV B W (mK (.str x))) := de_K pe_str fun _ => rfl
theorem de_glob {x : Str} {d : D} {v : V} {u : Value} (hm : X.mg x = some u) (r : RelV v u) (rd : ∀ F, Rp B.K F d v) (hg : Gl X x := by rfl) (hd : (x == ("__debug__" : Str)) = false := by decide) : PE X (.Name x pos) (rV B W (mK d)) := de_K (pe_glob hg hm r hd) rd
/-! ### operands -/
inductive AX where
  | e (t : DE) | s (i : Nat)
abbrev AV := D ⊕ Nat
def mAX : AX → En → (AV → En → Prop) → DX → Prop
  | .e t, ρ, Q, E => t ρ (fun d => Q (.inl d)) E
  | .s i, ρ, Q, _ => match ρ.getD i none with
    | some (.own _) => Q (.inr i) ρ
    | _ => False
def mAXs : List AX → En → (List AV → En → Prop) → DX → Prop
  | [], ρ, Q, _ => Q [] ρ
  | a :: as, ρ, Q, E => mAX a ρ (fun x ρ1 => mAXs as ρ1 (fun xs => Q (x :: xs)) E) E
def view (ρ : En) : AV → Option D
  | .inl d => some d
  | .inr i => match ρ.getD i none with
    | some (.own ds) => some (.lst ds)
    | _ => none
def views (ρ : En) : List AV → Option (List D)
  | [] => some []
  | x :: xs => match view ρ x, views ρ xs with
    | some d, some ds => some (d :: ds)
    | _, _ => none
def ArgV (K : PySem.W.Frag) (F : Hp) (L : La) : AV → V → Prop
  | .inl d, v => Rp K F d v
  | .inr i, v => ∃ a, v = .ref a ∧ ∀ b, L i = some b → b = a
def ArgVs (K : PySem.W.Frag) (F : Hp) (L : La) : List AV → List V → Prop
  | [], vs => vs = []
  | x :: xs, vs => ∃ v r, vs = v :: r ∧ ArgV K F L x v ∧ ArgVs K F L xs r
theorem ArgV.step {K : PySem.W.Frag} {F H F' H' : Hp} {L L' : La} (s : Stp F L H F' L' H') : ∀ {x : AV} {v : V}, ArgV K F L x v → ArgV K F' L' x v
  | .inl _, _, h => Rp.mono s.f h
  | .inr i, _, ⟨a, e, h⟩ => ⟨a, e, fun b q => h b (s.l i b q)⟩
theorem view_ok {F H : Hp} {L : La} {σ : L2.St} {ρ : En} (S : SR B F L σ H ρ) : ∀ {x : AV} {v : V} {d : D}, ArgV B.K F L x v → view ρ x = some d → RpV B.K F H d v
  | .inl d, v, d', h, e => by
    have e' : d = d' := Option.some.inj e
    subst e'
    exact Rp.view S.sub h
  | .inr i, v, d', ⟨a, e1, h⟩, e => by
    subst e1
    have e' : (match ρ.getD i none with | some (.own ds) => some (D.lst ds) | _ => none) = some d' := e
    split at e'
    · rename_i ds q
      cases e'
      obtain ⟨b, vs, h1, h2, h3, h4, h5, h6⟩ := S.ow q
      have := h b h2
      subst this
      exact RpV_own h3 h5
    · cases e'
def RpVs (K : PySem.W.Frag) (F H : Hp) : List D → List V → Prop
  | [], vs => vs = []
  | d :: ds, vs => ∃ v r, vs = v :: r ∧ RpV K F H d v ∧ RpVs K F H ds r
theorem views_ok {F H : Hp} {L : La} {σ : L2.St} {ρ : En} (S : SR B F L σ H ρ) : ∀ {xs : List AV} {vs : List V} {ds : List D}, ArgVs B.K F L xs vs → views ρ xs = some ds → RpVs B.K F H ds vs
  | [], vs, ds, h, e => by
    cases e
    exact h
  | x :: xs, vs, ds, ⟨v, r, e1, h1, h2⟩, e => by
    have e' : (match view ρ x, views ρ xs with | some d, some ds => some (d :: ds) | _, _ => none) = some ds := e
    split at e'
    · rename_i d es q1 q2
      cases e'
      exact ⟨v, r, e1, view_ok S h1 q1, views_ok S h2 q2⟩
    · cases e'
def rX (B : Bd) (W : WX) (a : AX) : TE := fun σ H Q => ∃ F L ρ Qd Ed, SR B F L σ H ρ ∧ mAX a ρ Qd Ed ∧
  (∀ x ρ' v F' L' H', Qd x ρ' → SR B F' L' σ H' ρ' → Stp F L H F' L' H' → ArgV B.K F' L' x v → Q v H') ∧ XOk B W F Ed
def rA (B : Bd) (W : WX) (as : List AX) : TA := fun σ H Q => ∃ F L ρ Qd Ed, SR B F L σ H ρ ∧ mAXs as ρ Qd Ed ∧
  (∀ xs ρ' vs F' L' H', Qd xs ρ' → SR B F' L' σ H' ρ' → Stp F L H F' L' H' → ArgVs B.K F' L' xs vs → Q vs H') ∧ XOk B W F Ed
theorem dx_e {t : DE} (h : PE X e (rV B W t)) : PE X e (rX B W (.e t)) :=
  pe_imp h fun σ H Q ⟨F, L, ρ, Qd, Ed, S, ht, hq, hx⟩ => ⟨F, L, ρ, fun d => Qd (.inl d), Ed, S, ht, fun d ρ' v F' L' H' q S' s r => hq (.inl d) ρ' v F' L' H' q S' s r, hx⟩
theorem dx_s (i : Nat) {x : Str} (hN : X.N[i]? = some x := by rfl) (hv : Vis X.env.scope x := by first | exact Or.inl rfl | exact Or.inr (Or.inl rfl) | exact Or.inr (Or.inr rfl)) (hd : (x == ("__debug__" : Str)) = false := by decide)
    (hcd : (x == ("__classdict__" : Str)) = false := by decide) : PE X (.Name x pos) (rX B W (.s i)) := by
  refine pe_imp (pe_var (i := i) hN hv hd hcd) fun σ H Q ⟨F, L, ρ, Qd, Ed, S, ht, hq, hx⟩ => ?_
  have ht' : (match ρ.getD i none with | some (.own _) => Qd (.inr i) ρ | _ => False) := ht
  split at ht'
  · rename_i ds e
    obtain ⟨a, vs, h1, h2, h3, h4, h5, h6⟩ := S.ow e
    exact ⟨_, h1, hq (.inr i) ρ _ F L H ht' S (Stp.refl _ _ _) ⟨a, rfl, fun b q => by rw [h2] at q; cases q; rfl⟩⟩
  · exact ht'.elim
/-- two operands, one after the other -/
theorem two_X {ax bx : AX} {k : AV → AV → En → Prop} {E : DX} {σ : L2.St} {H F : Hp} {L : La} {ρ : En} {R : V → V → Hp → Prop} (S : SR B F L σ H ρ) (h : mAX ax ρ (fun x ρ1 => mAX bx ρ1 (fun y ρ2 => k x y ρ2) E) E) (hx : XOk B W F E)
    (hk : ∀ x y ρ' v u F' L' H', k x y ρ' → SR B F' L' σ H' ρ' → Stp F L H F' L' H' → ArgV B.K F' L' x v → ArgV B.K F' L' y u → R v u H') :
    rX B W ax σ H fun v H1 => rX B W bx σ H1 fun u H2 => R v u H2 :=
  ⟨F, L, ρ, _, E, S, h, fun x ρ1 v F1 L1 H1 q1 S1 s1 r1 => ⟨F1, L1, ρ1, _, E, S1, q1, fun y ρ2 u F2 L2 H2 q2 S2 s2 r2 => hk x y ρ2 v u F2 L2 H2 q2 S2 (s1.trans s2) (r1.step s2) r2, hx.mono s1.f⟩, hx⟩
theorem da_nil : PA X [] (rA B W []) := pa_imp pa_nil fun σ H Q ⟨F, L, ρ, Qd, Ed, S, ht, hq, hx⟩ => hq [] ρ [] F L H ht S (Stp.refl _ _ _) rfl
theorem da_cons {es : List Expr} {a : AX} {as : List AX} (ha : PE X e (rX B W a)) (hr : PA X es (rA B W as)) (hs : starEach (e :: es) X.env = (false, eval e X.env) :: starEach es X.env := by rfl) : PA X (e :: es) (rA B W (a :: as)) :=
  pa_imp (pa_cons ha hr hs) fun σ H Q ⟨F, L, ρ, Qd, Ed, S, ht, hq, hx⟩ =>
    ⟨F, L, ρ, _, Ed, S, ht, fun x ρ1 v F1 L1 H1 q1 S1 s1 r1 => ⟨F1, L1, ρ1, _, Ed, S1, q1, fun xs ρ2 vs F2 L2 H2 q2 S2 s2 r2 => hq (x :: xs) ρ2 (v :: vs) F2 L2 H2 q2 S2 (s1.trans s2) ⟨v, vs, rfl, r1.step s2, r2⟩, hx.mono s1.f⟩, hx⟩
/-! ### operators -/
/-- a new result: data, or a new list -/
def NewR (K : PySem.W.Frag) (H : Hp) : Cell → V → Hp → Hp → Prop
  | .val d, v, F', _ => Rp K F' d v
  | .own ds, v, F', H' => ∃ a vs, v = .ref a ∧ H a = none ∧ H' a = some (.lst vs) ∧ F' a = none ∧ RpL K F' ds vs
theorem NewR.res {F H F' H' : Hp} {L : La} {σ : L2.St} {ρ : En} (S : SR B F L σ H ρ) : ∀ {c : Cell} {v : V}, NewR B.K H c v F' H' → ResC B F L H F' L H' c v
  | .val _, _, h => h
  | .own ds, _, ⟨a, vs, e, h1, h2, h3, h4⟩ => by
    refine ⟨a, vs, e, h2, h3, fun i q => ?_, ?_, h4, .inl h1⟩
    · obtain ⟨_, _, _, _, q3, _⟩ := S.own q
      rw [h1] at q3
      cases q3
    · cases e0 : B.H0 a with
      | none => rfl
      | some o => exact absurd h1 (S.al a (by rw [e0]; simp))
abbrev DOp2 := D → D → Option Cell
/-- an operator's reading by values serves a function of data -/
def Op2 (K : PySem.W.Frag) (r : R2) (f : DOp2) : Prop := ∀ (F H : Hp) (d1 d2 : D) (v1 v2 : V) (c : Cell) (Q : VK), Same F H → RpV K F H d1 v1 → RpV K F H d2 v2 → f d1 d2 = some c →
  (∀ v F' H', Grow F H F' H' → Same F' H' → NewR K H c v F' H' → Q v H') → r v1 v2 H Q
def DOpN := List D → Option Cell
def OpN (K : PySem.W.Frag) (r : List V → Hp → VK → Prop) (f : DOpN) : Prop := ∀ (F H : Hp) (ds : List D) (vs : List V) (c : Cell) (Q : VK), Same F H → RpVs K F H ds vs → f ds = some c →
  (∀ v F' H', Grow F H F' H' → Same F' H' → NewR K H c v F' H' → Q v H') → r vs H Q
def app2 (f : DOp2) (ρ : En) (x y : AV) (Q : CQ) : Prop := match view ρ x, view ρ y with
  | some d, some e => ∃ c, f d e = some c ∧ Q c ρ
  | _, _ => False
def mOp2 (f : DOp2) (a b : AX) : DC := fun ρ Q E => mAX a ρ (fun x ρ1 => mAX b ρ1 (fun y ρ2 => app2 f ρ2 x y Q) E) E
theorem app2_ok {r : R2} {f : DOp2} (hf : Op2 B.K r f) {x y : AV} {Q : CQ} {F H : Hp} {L : La} {σ : L2.St} {ρ : En} {v u : V} {R : VK} (S : SR B F L σ H ρ) (h : app2 f ρ x y Q) (rx : ArgV B.K F L x v) (ry : ArgV B.K F L y u)
    (hq : ∀ c w F' H', Q c ρ → SR B F' L σ H' ρ → Stp F L H F' L H' → ResC B F L H F' L H' c w → R w H') : r v u H R := by
  unfold app2 at h
  split at h
  · rename_i d e e1 e2
    obtain ⟨c, ec, h⟩ := h
    exact hf F H d e v u c R S.sub (view_ok S rx e1) (view_ok S ry e2) ec fun w F' H' g sb n => hq c w F' H' h (S.grow g sb) g.stp (n.res S)
  · exact h.elim
theorem ResC.back {F F1 H H1 F2 H2 : Hp} {L L1 L2' : La} (s : Stp F L H F1 L1 H1) : ∀ {c : Cell} {v : V}, ResC B F1 L1 H1 F2 L2' H2 c v → ResC B F L H F2 L2' H2 c v
  | .val _, _, h => h
  | .own _, _, ⟨a, vs, e, h1, h2, h3, h4, h5, h6⟩ => ⟨a, vs, e, h1, h2, h3, h4, h5, by
      rcases h6 with q | ⟨i, q⟩
      · refine .inl ?_
        cases e0 : H a with
        | none => rfl
        | some o => exact absurd q (s.al a (by rw [e0]; simp))
      · exact .inr ⟨i, s.l i a q⟩⟩
theorem two_op {ax bx : AX} {r : R2} {f : DOp2} (hf : Op2 B.K r f) {σ : L2.St} {H : Hp} {Q : VK} (h : rC B W (mOp2 f ax bx) σ H Q) : tOp r (rX B W ax) (rX B W bx) σ H Q := by
  obtain ⟨F, L, ρ, Qd, Ed, S, ht, hq, hx⟩ := h
  refine two_X S ht hx fun x y ρ' v u F' L' H' k S' s r1 r2 => ?_
  exact app2_ok hf S' k r1 r2 fun c w F2 H2 q S2 s2 rs => hq c ρ' w F2 L' H2 q S2 (s.trans s2) (rs.back s)
theorem dc_bin {a b : Expr} {ax bx : AX} {op : Operator} {r : R2} {f : DOp2} (ho : OpR X (binaryOp op) r) (hf : Op2 B.K r f) (ha : PE X a (rX B W ax)) (hb : PE X b (rX B W bx)) : PE X (.BinOp a op b pos) (rC B W (mOp2 f ax bx)) :=
  pe_imp (pe_op ho ha hb) fun _ _ _ h => two_op hf h
theorem dc_cmp {a b : Expr} {ax bx : AX} {op : CmpOp} {r : R2} {f : DOp2} (ho : OpR X (compareOp op) r) (hf : Op2 B.K r f) (ha : PE X a (rX B W ax)) (hb : PE X b (rX B W bx)) (hm : behindInMarks op b = false := by first | exact nomark _ | rfl) : PE X (.Compare a [op] [b] pos) (rC B W (mOp2 f ax bx)) :=
  pe_imp (pe_cmpR ho ha hb hm) fun _ _ _ h => two_op hf h
theorem dc_ix {a b : Expr} {ax bx : AX} {r : R2} {f : DOp2} (ho : IxR X r) (hf : Op2 B.K r f) (ha : PE X a (rX B W ax)) (hb : PE X b (rX B W bx)) (hs : PlainIx b := by exact fun _ _ => rfl) : PE X (.Subscript a b pos) (rC B W (mOp2 f ax bx)) :=
  pe_imp (pe_ix ho ha hb hs) fun _ _ _ h => two_op hf h
/-- a test: what is told must be True or False -/
def asT (t : DC) : DT := fun ρ Q E => t ρ (fun c ρ' => match c with
  | .val (.bl b) => Q b ρ'
  | _ => False) E
theorem dt_cmp {a b : Expr} {ax bx : AX} {op : CmpOp} {r : R2} {f : DOp2} (ho : OpR X (compareOp op) r) (hf : Op2 B.K r f) (ha : PE X a (rX B W ax)) (hb : PE X b (rX B W bx)) (hm : behindInMarks op b = false := by first | exact nomark _ | rfl) : PT X (.Compare a [op] [b] pos) (rT B W (asT (mOp2 f ax bx))) := by
  refine pt_imp (pt_cmpR ho ha hb hm) fun σ H Q ⟨F, L, ρ, Qd, Ed, S, ht, hq, hx⟩ => ?_
  refine two_op hf ⟨F, L, ρ, _, Ed, S, ht, fun c ρ' v F' L' H' q S' s r => ?_, hx⟩
  cases c with
  | own _ => exact False.elim q
  | val d =>
    cases d with
    | bl b =>
      have e : v = .bl b := r
      exact ⟨b, e, hq b ρ' F' L' H' q S' s⟩
    | _ => exact False.elim q
/-! one operand -/
abbrev DOp1 := D → Option Cell
def Op1 (K : PySem.W.Frag) (r : V → Hp → VK → Prop) (f : DOp1) : Prop := ∀ (F H : Hp) (d : D) (v : V) (c : Cell) (Q : VK), Same F H → RpV K F H d v → f d = some c →
  (∀ w F' H', Grow F H F' H' → Same F' H' → NewR K H c w F' H' → Q w H') → r v H Q
def mOp1 (f : DOp1) (a : AX) : DC := fun ρ Q E => mAX a ρ (fun x ρ1 => match view ρ1 x with
  | some d => ∃ c, f d = some c ∧ Q c ρ1
  | none => False) E
theorem one_op {ax : AX} {r : V → Hp → VK → Prop} {f : DOp1} (hf : Op1 B.K r f) {σ : L2.St} {H : Hp} {Q : VK} (h : rC B W (mOp1 f ax) σ H Q) : tUn r (rX B W ax) σ H Q := by
  obtain ⟨F, L, ρ, Qd, Ed, S, ht, hq, hx⟩ := h
  refine ⟨F, L, ρ, _, Ed, S, ht, fun x ρ' v F' L' H' k S' s r1 => ?_, hx⟩
  split at k
  · rename_i d e
    obtain ⟨c, ec, k⟩ := k
    exact hf F' H' d v c Q S'.sub (view_ok S' r1 e) ec fun w F2 H2 g sb n => hq c ρ' w F2 L' H2 k (S'.grow g sb) (s.trans g.stp) ((n.res S').back s)
  · exact k.elim
theorem dc_un {a : Expr} {ax : AX} {op : UnaryOp} {r : V → Hp → VK → Prop} {f : DOp1} (ho : UnR X (unaryOp op) r) (hf : Op1 B.K r f) (ha : PE X a (rX B W ax)) : PE X (.UnaryOp op a pos) (rC B W (mOp1 f ax)) :=
  pe_imp (pe_un ho ha) fun _ _ _ h => one_op hf h
/-! built-in calls -/
def mOpN (f : DOpN) (as : List AX) : DC := fun ρ Q E => mAXs as ρ (fun xs ρ1 => match views ρ1 xs with
  | some ds => ∃ c, f ds = some c ∧ Q c ρ1
  | none => False) E
theorem many_op {as : List AX} {r : List V → Hp → VK → Prop} {f : DOpN} (hf : OpN B.K r f) {σ : L2.St} {H : Hp} {Q : VK} (h : rC B W (mOpN f as) σ H Q) : tCB r (rA B W as) σ H Q := by
  obtain ⟨F, L, ρ, Qd, Ed, S, ht, hq, hx⟩ := h
  refine ⟨F, L, ρ, _, Ed, S, ht, fun xs ρ' vs F' L' H' k S' s r1 => ?_, hx⟩
  split at k
  · rename_i ds e
    obtain ⟨c, ec, k⟩ := k
    exact hf F' H' ds vs c Q S'.sub (views_ok S' r1 e) ec fun w F2 H2 g sb n => hq c ρ' w F2 L' H2 k (S'.grow g sb) (s.trans g.stp) ((n.res S').back s)
  · exact k.elim
section
variable {x : Str} {p : Pos} {es : List Expr} {as : List AX} {id T : String} {r : List V → Hp → VK → Prop} {f : DOpN}
theorem dc_callB (hc : CallR X (.builtin id) r) (hf : OpN B.K r f) (hm : X.mg x = none) (ha : PA X (e :: es) (rA B W as)) (hv : bootBuiltins x = some (.builtin id) := by decide +kernel) (hg : Gl X x := by rfl) (hn : x ≠ "__name__" := by decide) (hdb : (x == ("__debug__" : Str)) = false := by decide)
    (he : starEach (e :: es) X.env = (false, eval e X.env) :: starEach es X.env := by rfl) (hpl : (backTo pos (starEach es X.env)).any (·.1) = false := by rfl) : PE X (.Call (.Name x p) (e :: es) [] pos) (rC B W (mOpN f as)) :=
  pe_imp (pe_callB hc hg hm hv ha hn hdb he hpl) fun _ _ _ h => many_op hf h
theorem dc_callTy (hc : CallR X (.type T) r) (hf : OpN B.K r f) (hm : X.mg x = none) (ha : PA X (e :: es) (rA B W as)) (hv : bootBuiltins x = some (.type T) := by decide +kernel) (hg : Gl X x := by rfl) (hn : x ≠ "__name__" := by decide) (hdb : (x == ("__debug__" : Str)) = false := by decide)
    (he : starEach (e :: es) X.env = (false, eval e X.env) :: starEach es X.env := by rfl) (hpl : (backTo pos (starEach es X.env)).any (·.1) = false := by rfl) : PE X (.Call (.Name x p) (e :: es) [] pos) (rC B W (mOpN f as)) :=
  pe_imp (pe_callTy hc hg hm hv ha hn hdb he hpl) fun _ _ _ h => many_op hf h
theorem dc_callF (hc : CallR X (.builtin id) r) (hf : OpN B.K r f) (hm : X.mg x = some (.builtin id)) (ha : PA X (e :: es) (rA B W as)) (hg : Gl X x := by rfl) (hdb : (x == ("__debug__" : Str)) = false := by decide)
    (he : starEach (e :: es) X.env = (false, eval e X.env) :: starEach es X.env := by rfl) (hpl : (backTo pos (starEach es X.env)).any (·.1) = false := by rfl) : PE X (.Call (.Name x p) (e :: es) [] pos) (rC B W (mOpN f as)) :=
  pe_imp (pe_callBfun hc hg hm ha hdb he hpl) fun _ _ _ h => many_op hf h
end
/-! tests -/
/-- truth of data -/
def truD : D → Option Bool
  | .non => some false
  | .bl b => some b
  | .int i => some (i != 0)
  | .str x => if x.length ≤ sizeLine then some ((x.length : Int) != 0) else none
  | .tup ds => some (!ds.isEmpty)
  | .lst ds => some (!ds.isEmpty)
  | .fix ds => some (!ds.isEmpty)
  | .dic _ _ => none
  | .ty _ => none
  | .obj _ _ _ => none
  | .adr _ => none
  | .rng _ _ => none
theorem isEmpty_rp {K : PySem.W.Frag} {F : Hp} : ∀ {ds : List D} {vs : List V}, RpL K F ds vs → ds.isEmpty = vs.isEmpty
  | [], _, h => by
    have e : _ = [] := h
    subst e
    rfl
  | _ :: _, _, ⟨_, _, e, _, _⟩ => by subst e; rfl
theorem truD_ok {K : PySem.W.Frag} {F H : Hp} : ∀ {d : D} {v : V} {b : Bool}, Same F H → RpV K F H d v → truD d = some b → TruV K v H b
  | .non, _, _, _, h, e => by
    cases (show _ = V.non from h)
    cases e
    exact rfl
  | .bl _, _, _, _, h, e => by
    cases (show _ = V.bl _ from h)
    cases e
    exact rfl
  | .int _, _, _, _, h, e => by
    cases (show _ = V.int _ from h)
    cases e
    exact rfl
  | .str x, _, b, _, h, e => by
    cases (show _ = V.str _ from h)
    have e' : (if x.length ≤ sizeLine then some ((x.length : Int) != 0) else none) = some b := e
    split at e'
    · rename_i hl
      cases e'
      exact ⟨hl, rfl⟩
    · cases e'
  | .tup ds, _, _, s, h, e => by
    obtain ⟨a, vs, rfl, q, r⟩ := h
    cases e
    exact .inr (.inl ⟨vs, Same.tseq s q, by rw [isEmpty_rp r]⟩)
  | .lst ds, _, _, s, h, e => by
    obtain ⟨a, vs, rfl, q, r⟩ := h
    cases e
    exact .inl ⟨vs, SqL.of q, by rw [isEmpty_rp r]⟩
  | .fix ds, _, _, s, h, e => by
    obtain ⟨a, vs, rfl, q, r⟩ := h
    cases e
    exact .inl ⟨vs, s.seq q, by rw [isEmpty_rp r]⟩
  | .dic _ _, _, _, _, _, e => by cases e
  | .obj _ _ _, _, _, _, _, e => by cases e
  | .adr _, _, _, _, _, e => by cases e
  | .rng _ _, _, _, _, _, e => by cases e
  | .ty _, _, _, _, _, e => by cases e
/-- an operand's truth -/
def mTru (a : AX) : DT := fun ρ Q E => mAX a ρ (fun x ρ1 => match view ρ1 x with
  | some d => ∃ b, truD d = some b ∧ Q b ρ1
  | none => False) E
theorem dt_tru {a : Expr} {ax : AX} (ha : PE X a (rX B W ax)) (he : ∀ whole, isTrue a X.env whole = (do let v ← whole; standAt a.pos; holding [v] (truthy v)) := by intro _; rfl) (hK : B.K = X.K := by rfl) : PT X a (rT B W (mTru ax)) := by
  refine pt_imp (pt_truth ha he) fun σ H Q ⟨F, L, ρ, Qd, Ed, S, ht, hq, hx⟩ => ⟨F, L, ρ, _, Ed, S, ht, fun x ρ' v F' L' H' k S' s r1 => ?_, hx⟩
  split at k
  · rename_i d e
    obtain ⟨b, eb, k⟩ := k
    exact ⟨b, hK ▸ truD_ok S'.sub (view_ok S' r1 e) eb, hq b ρ' F' L' H' k S' s⟩
  · exact k.elim
def mNot (t : DT) : DT := fun ρ Q E => t ρ (fun b ρ' => Q (!b) ρ') E
theorem dt_not {a : Expr} {t : DT} (ha : PT X a (rT B W t)) : PT X (.UnaryOp .Not a pos) (rT B W (mNot t)) :=
  pt_imp (pt_not ha) fun σ H Q ⟨F, L, ρ, Qd, Ed, S, ht, hq, hx⟩ => ⟨F, L, ρ, _, Ed, S, ht, fun b ρ' F' L' H' q S' s => hq (!b) ρ' F' L' H' q S' s, hx⟩
def mAndT (t u : DT) : DT := fun ρ Q E => t ρ (fun b ρ1 => if b = true then u ρ1 Q E else Q false ρ1) E
def mOrT (t u : DT) : DT := fun ρ Q E => t ρ (fun b ρ1 => if b = true then Q true ρ1 else u ρ1 Q E) E
theorem dw_and1 {a : Expr} {t : DT} (ha : PT X a (rT B W t)) : PW X (.BoolOp .And [a] pos) (rT B W t) := pw_and1 ha
theorem dw_or1 {a : Expr} {t : DT} (ha : PT X a (rT B W t)) : PW X (.BoolOp .Or [a] pos) (rT B W t) := pw_or1 ha
theorem dw_and {a b : Expr} {rest : List Expr} {t u : DT} (ha : PT X a (rT B W t)) (hb : PW X (.BoolOp .And (b :: rest) pos) (rT B W u)) : PW X (.BoolOp .And (a :: b :: rest) pos) (rT B W (mAndT t u)) := by
  refine pw_imp (pw_and ha hb) fun σ H Q ⟨F, L, ρ, Qd, Ed, S, ht, hq, hx⟩ => ⟨F, L, ρ, _, Ed, S, ht, fun c ρ1 F1 L1 H1 q S1 s1 => ?_, hx⟩
  cases c with
  | true => exact ⟨F1, L1, ρ1, Qd, Ed, S1, q, fun b ρ' F' L' H' q' S' s' => hq b ρ' F' L' H' q' S' (s1.trans s'), hx.mono s1.f⟩
  | false => exact hq false ρ1 F1 L1 H1 q S1 s1
theorem dw_or {a b : Expr} {rest : List Expr} {t u : DT} (ha : PT X a (rT B W t)) (hb : PW X (.BoolOp .Or (b :: rest) pos) (rT B W u)) : PW X (.BoolOp .Or (a :: b :: rest) pos) (rT B W (mOrT t u)) := by
  refine pw_imp (pw_or ha hb) fun σ H Q ⟨F, L, ρ, Qd, Ed, S, ht, hq, hx⟩ => ⟨F, L, ρ, _, Ed, S, ht, fun c ρ1 F1 L1 H1 q S1 s1 => ?_, hx⟩
  cases c with
  | false => exact ⟨F1, L1, ρ1, Qd, Ed, S1, q, fun b ρ' F' L' H' q' S' s' => hq b ρ' F' L' H' q' S' (s1.trans s'), hx.mono s1.f⟩
  | true => exact hq true ρ1 F1 L1 H1 q S1 s1
theorem dt_w {a : Expr} {t : DT} (h : PW X a (rT B W t)) : PT X a (rT B W t) := h.pt
/-! and, or, not as values: all but the last must be True or False where they are told -/
def mAndV (a : AX) (u : DC) : DC := fun ρ Q E => mAX a ρ (fun x ρ1 => match x with
  | .inl d => ∃ b, truD d = some b ∧ (if b = true then u ρ1 Q E else Q (.val d) ρ1)
  | .inr _ => False) E
def mOrV (a : AX) (u : DC) : DC := fun ρ Q E => mAX a ρ (fun x ρ1 => match x with
  | .inl d => ∃ b, truD d = some b ∧ (if b = true then Q (.val d) ρ1 else u ρ1 Q E)
  | .inr _ => False) E
def mNotV (a : AX) : DE := fun ρ Q E => mAX a ρ (fun x ρ1 => match view ρ1 x with
  | some d => ∃ b, truD d = some b ∧ Q (.bl (!b)) ρ1
  | none => False) E
theorem dc_one {a : Expr} {op : BoolOp} {t : DC} (h : PE X a (rC B W t)) : PE X (.BoolOp op [a] pos) (rC B W t) := pe_one h
theorem dc_and {a b : Expr} {rest : List Expr} {ax : AX} {u : DC} (ha : PE X a (rX B W ax)) (hb : PE X (.BoolOp .And (b :: rest) pos) (rC B W u)) (hK : B.K = X.K := by rfl) : PE X (.BoolOp .And (a :: b :: rest) pos) (rC B W (mAndV ax u)) := by
  refine pe_imp (pe_andT ha hb) fun σ H Q ⟨F, L, ρ, Qd, Ed, S, ht, hq, hx⟩ => ⟨F, L, ρ, _, Ed, S, ht, fun x ρ1 v F1 L1 H1 k S1 s1 r1 => ?_, hx⟩
  split at k
  · rename_i d
    obtain ⟨b, e, k⟩ := k
    cases b with
    | true => exact ⟨true, hK ▸ truD_ok S1.sub (Rp.view S1.sub r1) e, ⟨F1, L1, ρ1, Qd, Ed, S1, k, fun c ρ' w F' L' H' q' S' s' r' => hq c ρ' w F' L' H' q' S' (s1.trans s') (r'.back s1), hx.mono s1.f⟩⟩
    | false => exact ⟨false, hK ▸ truD_ok S1.sub (Rp.view S1.sub r1) e, hq (.val d) ρ1 v F1 L1 H1 k S1 s1 r1⟩
  · exact k.elim
theorem dc_or {a b : Expr} {rest : List Expr} {ax : AX} {u : DC} (ha : PE X a (rX B W ax)) (hb : PE X (.BoolOp .Or (b :: rest) pos) (rC B W u)) (hK : B.K = X.K := by rfl) : PE X (.BoolOp .Or (a :: b :: rest) pos) (rC B W (mOrV ax u)) := by
  refine pe_imp (pe_orT ha hb) fun σ H Q ⟨F, L, ρ, Qd, Ed, S, ht, hq, hx⟩ => ⟨F, L, ρ, _, Ed, S, ht, fun x ρ1 v F1 L1 H1 k S1 s1 r1 => ?_, hx⟩
  split at k
  · rename_i d
    obtain ⟨b, e, k⟩ := k
    cases b with
    | false => exact ⟨false, hK ▸ truD_ok S1.sub (Rp.view S1.sub r1) e, ⟨F1, L1, ρ1, Qd, Ed, S1, k, fun c ρ' w F' L' H' q' S' s' r' => hq c ρ' w F' L' H' q' S' (s1.trans s') (r'.back s1), hx.mono s1.f⟩⟩
    | true => exact ⟨true, hK ▸ truD_ok S1.sub (Rp.view S1.sub r1) e, hq (.val d) ρ1 v F1 L1 H1 k S1 s1 r1⟩
  · exact k.elim
theorem de_not {a : Expr} {ax : AX} (ha : PE X a (rX B W ax)) (hK : B.K = X.K := by rfl) : PE X (.UnaryOp .Not a pos) (rV B W (mNotV ax)) := by
  refine pe_imp (pe_notT ha) fun σ H Q ⟨F, L, ρ, Qd, Ed, S, ht, hq, hx⟩ => ⟨F, L, ρ, _, Ed, S, ht, fun x ρ' v F' L' H' k S' s r1 => ?_, hx⟩
  split at k
  · rename_i d e
    obtain ⟨b, eb, k⟩ := k
    exact ⟨b, hK ▸ truD_ok S'.sub (view_ok S' r1 e) eb, hq (.bl (!b)) ρ' _ F' L' H' k S' s rfl⟩
  · exact k.elim
def mIf (t : DT) (u w : DC) : DC := fun ρ Q E => t ρ (fun b ρ1 => if b = true then u ρ1 Q E else w ρ1 Q E) E
theorem dc_if {c a b : Expr} {t : DT} {u w : DC} (hc : PT X c (rT B W t)) (ha : PE X a (rC B W u)) (hb : PE X b (rC B W w)) : PE X (.IfExp c a b pos) (rC B W (mIf t u w)) := by
  refine pe_imp (pe_ifExp hc ha hb) fun σ H Q ⟨F, L, ρ, Qd, Ed, S, ht, hq, hx⟩ => ⟨F, L, ρ, _, Ed, S, ht, fun c ρ1 F1 L1 H1 k S1 s1 => ?_, hx⟩
  cases c with
  | true => exact ⟨F1, L1, ρ1, Qd, Ed, S1, k, fun c ρ' w F' L' H' q' S' s' r' => hq c ρ' w F' L' H' q' S' (s1.trans s') (r'.back s1), hx.mono s1.f⟩
  | false => exact ⟨F1, L1, ρ1, Qd, Ed, S1, k, fun c ρ' w F' L' H' q' S' s' r' => hq c ρ' w F' L' H' q' S' (s1.trans s') (r'.back s1), hx.mono s1.f⟩
end
end DL
/-! The data layer: tuple * int, of any count. -/
namespace DL
open PySem PySem.Spec PyProof.Rows L2
theorem tuple_mulSame (l : Addr) (items : Array Value) (n : Nat) (dd : Option Addr) (sl : Array (Option Value)) (x : Int) (u : Tok) (c0 : (decide (x < -(2 ^ 63)) || decide (x ≥ 2 ^ 63)) = false) (c1 : (items.isEmpty || x == 1) = true) :
    Meets (Builtin.«tuple.__mul__» ⟨[.ref l, .int x u], []⟩) (fun _ R s => s.heap.get? l = some { cls := .type "tuple", dict := dd, data := .seq items n, slots := sl } ∧
      R (.ok (.ret (Value.ref l))) s) :=
  .of_wp fun prog w A R s h => by
    obtain ⟨hp, g, d, tk, os⟩ := s
    obtain ⟨hl, h⟩ := h
    have f1 := AutoSeq1.idx_int
    wp_walk using wpAny_loadPart' hl
    repeat (first
      | (refine wpAny_ite_false (decide_eq_false (by rw [c0]; exact Bool.false_ne_true)) ?_; wp_walk using wpAny_loadPart' hl)
      | (refine wpAny_ite_true (decide_eq_true (by rw [c1])) ?_; wp_walk using wpAny_loadPart' hl))
    exact ⟨_, rfl, h⟩
theorem tuple_mulNone (l : Addr) (items : Array Value) (n : Nat) (dd : Option Addr) (sl : Array (Option Value)) (x : Int) (u : Tok) (c0 : (decide (x < -(2 ^ 63)) || decide (x ≥ 2 ^ 63)) = false) (c1 : (items.isEmpty || x == 1) = false) (c2 : (decide (x ≤ 0) || items.isEmpty) = true) :
    Meets (Builtin.«tuple.__mul__» ⟨[.ref l, .int x u], []⟩) (fun _ R s => s.heap.get? l = some { cls := .type "tuple", dict := dd, data := .seq items n, slots := sl } ∧
      R (.ok (.ret (Value.ref s.heap.objs.size))) { s with heap := s.heap.push { cls := Value.type "tuple", data := Data.seq #[] }, toks := s.toks }) :=
  .of_wp fun prog w A R s h => by
    obtain ⟨hp, g, d, tk, os⟩ := s
    obtain ⟨hl, h⟩ := h
    have f1 := AutoSeq1.idx_int
    wp_walk using wpAny_loadPart' hl
    repeat (first
      | (refine wpAny_ite_false (decide_eq_false (by rw [c0]; exact Bool.false_ne_true)) ?_; wp_walk using wpAny_loadPart' hl)
      | (refine wpAny_ite_false (decide_eq_false (by rw [c1]; exact Bool.false_ne_true)) ?_; wp_walk using wpAny_loadPart' hl)
      | (refine wpAny_ite_true (decide_eq_true (by rw [c2])) ?_; wp_walk using wpAny_loadPart' hl))
    exact ⟨_, rfl, h⟩
def rRepA (K : PySem.W.Frag) : R2 := fun x y H Q => ∃ l k xs, x = .ref l ∧ y = .int k ∧ SqT K H l xs ∧ (-(2 ^ 63) ≤ k ∧ k < 2 ^ 63) ∧ xs.length * k.toNat ≤ 1000000 ∧ ((xs = [] ∨ k = 1) → Q (.ref l) H) ∧ (xs ≠ [] → k ≠ 1 → ∀ p, H p = none → Q (.ref p) (upd H p (.tup (List.replicate k.toNat xs).flatten)))
theorem op_repA {X : Cx} : OpR X (binaryOp .Mult) (rRepA X.K) := by
  intro pins s σ H x y v u Q I rx ry h
  obtain ⟨l, k, xs, rfl, rfl, hT, ⟨hk1, hk2⟩, hz, q1, q2⟩ := h
  cases rx
  obtain ⟨t, rfl⟩ := ry
  obtain ⟨its, r, ⟨⟨cls, dd, data, sl⟩, ho, hc, n, hd⟩, hs⟩ := I.tuple hT
  simp only at hc hd
  subst hc hd
  have hle : its.length = xs.length := r.length.symm
  have c0 : (decide (k < -(2 ^ 63)) || decide (k ≥ 2 ^ 63)) = false := by
    rw [decide_eq_false (by omega), decide_eq_false (by omega)] <;> rfl
  have hE : its.toArray.isEmpty = xs.isEmpty := by
    cases its with
    | nil => cases xs with
      | nil => rfl
      | cons a b => cases hle
    | cons a b => cases xs with
      | nil => cases hle
      | cons a b => rfl
  refine wpAny_binaryOp_repeat_ref (T := "tuple") (U := "int") (by decide) ⟨_, ho, rfl⟩ (fun s' => typeIs_int s' k t) noFill_tuple_mul F.fills_int_mul F.slot_int_rmul repeat_tuple F.slot_int_index.lookup
    (call_meets F.slot_int_rmul (typeIs_int s k t) F.entry_int_rmul (F.args_int_rmul_2 _ _) (int_rmul_tuple k t l its.toArray n dd sl) ⟨ho, rfl, ⟨_, ho, rfl⟩, ?_⟩)
  by_cases h1 : xs = [] ∨ k = 1
  · have c1 : (its.toArray.isEmpty || k == 1) = true := by
      rcases h1 with h1 | h1
      · rw [hE, h1]; rfl
      · rw [h1]; simp
    exact call_meets F.slot_tuple_mul ⟨_, ho, rfl⟩ F.entry_tuple_mul (F.args_tuple_mul_2 _ _) (tuple_mulSame l its.toArray n dd sl k t c0 c1) ⟨ho, ⟨.ref l, H, I, rfl, q1 h1⟩⟩
  · have hne : xs ≠ [] := fun z => h1 (.inl z)
    have hk : k ≠ 1 := fun z => h1 (.inr z)
    have hi : its.toArray.isEmpty = false := by
      rw [hE]
      cases xs with
      | nil => exact absurd rfl hne
      | cons a b => rfl
    have c1 : (its.toArray.isEmpty || k == 1) = false := by
      rw [hi, Bool.false_or]
      exact beq_eq_false_iff_ne.mpr hk
    by_cases h0 : k ≤ 0
    · have c2 : (decide (k ≤ 0) || its.toArray.isEmpty) = true := by rw [decide_eq_true h0]; rfl
      have ek : k.toNat = 0 := by omega
      have q3 := q2 hne hk s.heap.objs.size (I.hok.fresh (Nat.le_refl _))
      rw [ek] at q3
      refine call_meets F.slot_tuple_mul ⟨_, ho, rfl⟩ F.entry_tuple_mul (F.args_tuple_mul_2 _ _) (tuple_mulNone l its.toArray n dd sl k t c0 c1 c2) ⟨ho, ?_⟩
      exact ⟨.ref s.heap.objs.size, _, I.laid (t' := s.toks) (o := .tup []) (fun b ob q => Heap.get?_push_of_some _ q) (Nat.le_refl _) ⟨by rw [sizeLine_eq]; decide, [], .nil, IsTup.new _ _⟩, rfl, q3⟩
    · have ek : (k.toNat : Int) = k := by omega
      have hm : ((its.toArray.size : Nat) : Int) * k ≤ 1000000 := by
        rw [List.size_toArray, hle, ← ek]
        rw [← Int.natCast_mul]
        omega
      have flen : (List.replicate k.toNat its).flatten.length ≤ sizeLine := by
        rw [PyProof.Rows.lm_len_rep_flat, hle, sizeLine_eq, Nat.mul_comm]
        omega
      have c2 : (decide (k ≤ 0) || its.toArray.isEmpty) = false := by
        rw [hi, Bool.or_false]
        exact decide_eq_false h0
      have c4 : Builtin.Tuple.tupleTooMany (((its.toArray.size : Nat) : Int) * k) = false := by
        unfold Builtin.Tuple.tupleTooMany
        rw [sizeLine_eq]
        exact decide_eq_false (by omega)
      refine call_meets F.slot_tuple_mul ⟨_, ho, rfl⟩ F.entry_tuple_mul (F.args_tuple_mul_2 _ _) (tuple_mulW l its.toArray n dd sl k t c0 c1 c2 (by omega) c4 (by rw [size_rep, List.size_toArray]; exact flen)) ⟨ho, ?_⟩
      rw [size_rep]
      refine ⟨.ref s.heap.objs.size, _, I.laid (t' := s.toks) (o := .tup (List.replicate k.toNat xs).flatten) (fun b ob q => Heap.get?_push_of_some _ q) (Nat.le_refl _) ?_, rfl, q2 hne hk _ (I.hok.fresh (Nat.le_refl _))⟩
      exact ⟨by rw [PyProof.Rows.lm_len_rep_flat, sizeLine_eq, Nat.mul_comm]; omega, _, r.rep k.toNat, IsTup.new _ _⟩
end DL
/-! The data layer: operators and built-ins as functions of data. -/
namespace DL
open PySem PySem.Spec PyProof.Rows L2
section
variable {K : PySem.W.Frag} {F H : Hp} {Q : VK}
theorem fin_val {d : D} {v : V} (sb : Same F H) (h : ∀ v F' H', Grow F H F' H' → Same F' H' → NewR K H (.val d) v F' H' → Q v H') (r : Rp K F d v) : Q v H := h v F H (Grow.refl _ _) sb r
theorem grow_upd {p : Addr} {o : HO} (sb : Same F H) (hp : H p = none) : Grow F H (upd F p o) (upd H p o) ∧ Same (upd F p o) (upd H p o) := by
  refine ⟨⟨same_upd (sb.free hp), same_upd hp, fun b u e => ?_⟩, fun b u e => ?_⟩
  · by_cases hb : b = p
    · rw [hb]; exact .inr hp
    · rw [upd_ne hb] at e; exact .inl e
  · by_cases hb : b = p
    · subst hb; rw [upd_same] at e ⊢; exact e
    · rw [upd_ne hb] at e; rw [upd_ne hb]; exact sb b u e
theorem fin_tup {ds : List D} {vs : List V} {p : Addr} (sb : Same F H) (h : ∀ v F' H', Grow F H F' H' → Same F' H' → NewR K H (.val (.tup ds)) v F' H' → Q v H') (hp : H p = none) (r : RpL K F ds vs) : Q (.ref p) (upd H p (.tup vs)) := by
  obtain ⟨g, s⟩ := grow_upd (o := .tup vs) sb hp
  exact h _ _ _ g s ⟨p, vs, rfl, SqT.of upd_same, r.mono g.f⟩
theorem fin_lst {ds : List D} {vs : List V} {p : Addr} (sb : Same F H) (h : ∀ v F' H', Grow F H F' H' → Same F' H' → NewR K H (.own ds) v F' H' → Q v H') (hp : H p = none) (r : RpL K F ds vs) : Q (.ref p) (upd H p (.lst vs)) :=
  h _ F _ ⟨Same.refl F, same_upd hp, fun _ _ e => .inl e⟩ (sb.trans (same_upd hp)) ⟨p, vs, rfl, hp, upd_same, sb.free hp, r⟩
end
theorem RpV.tup_ {K : PySem.W.Frag} {F H : Hp} {ds : List D} {v : V} (sb : Same F H) (h : RpV K F H (.tup ds) v) : ∃ a vs, v = .ref a ∧ SqT K H a vs ∧ RpL K F ds vs := by
  obtain ⟨a, vs, e, q, r⟩ := h
  exact ⟨a, vs, e, Same.tseq sb q, r⟩
/-! ### + - * // % ** and the sign -/
section
variable {X : Cx}
def rAddD (K : PySem.W.Frag) : R2 := fun x y H Q => (∃ i j, x = .int i ∧ y = .int j ∧ Q (.int (i + j)) H) ∨
  ((∃ i j, x = .str i ∧ y = .str j ∧ i.length + j.length ≤ sizeLine ∧ Q (.str (i ++ j)) H) ∨ (rCatA K x y H Q ∨ rCat x y H Q))
theorem op_addD : OpR X (binaryOp .Add) (rAddD X.K) := OpR.or op_add (OpR.or op_add_str (OpR.or op_catA op_cat))
def fAdd : DOp2
  | .int i, .int j => some (.val (.int (i + j)))
  | .str x, .str y => if x.length + y.length ≤ sizeLine then some (.val (.str (x ++ y))) else none
  | .tup xs, .tup ys => if xs.length + ys.length ≤ sizeLine then some (.val (.tup (xs ++ ys))) else none
  | .lst xs, .lst ys => if xs.length + ys.length ≤ sizeLine then some (.own (xs ++ ys)) else none
  | _, _ => none
theorem fAdd_ok {K : PySem.W.Frag} : Op2 K (rAddD K) fAdd := by
  intro F H d1 d2 v1 v2 c Q sb h1 h2 e q
  cases d1 <;> cases d2 <;> first | (cases e; done) | skip
  · cases e
    cases (show v1 = V.int _ from h1)
    cases (show v2 = V.int _ from h2)
    exact .inl ⟨_, _, rfl, rfl, fin_val sb q rfl⟩
  · rename_i x y
    cases (show v1 = V.str _ from h1)
    cases (show v2 = V.str _ from h2)
    have e' : (if x.length + y.length ≤ sizeLine then some (Cell.val (.str (x ++ y))) else none) = some c := e
    split at e'
    · rename_i hl
      cases e'
      exact .inr (.inl ⟨_, _, rfl, rfl, hl, fin_val sb q rfl⟩)
    · cases e'
  · rename_i xs ys
    obtain ⟨a, vs, rfl, q1, r1⟩ := RpV.tup_ sb h1
    obtain ⟨b, us, rfl, q2, r2⟩ := RpV.tup_ sb h2
    have e' : (if xs.length + ys.length ≤ sizeLine then some (Cell.val (.tup (xs ++ ys))) else none) = some c := e
    split at e'
    · rename_i hl
      cases e'
      rw [r1.length, r2.length] at hl
      refine .inr (.inr (.inl ⟨a, b, vs, us, rfl, rfl, q1, q2, hl, fun z => ?_, fun _ z => ?_, fun _ _ p hp => fin_tup sb q hp (r1.append r2)⟩))
      · subst z
        have z2 : xs = [] := List.eq_nil_of_length_eq_zero r1.length
        subst z2
        exact fin_val sb q h2
      · subst z
        have z2 : ys = [] := List.eq_nil_of_length_eq_zero r2.length
        subst z2
        rw [List.append_nil] at q
        exact fin_val sb q h1
    · cases e'
  · rename_i xs ys
    obtain ⟨a, vs, rfl, q1, r1⟩ := h1
    obtain ⟨b, us, rfl, q2, r2⟩ := h2
    have e' : (if xs.length + ys.length ≤ sizeLine then some (Cell.own (xs ++ ys)) else none) = some c := e
    split at e'
    · rename_i hl
      cases e'
      rw [r1.length, r2.length] at hl
      exact .inr (.inr (.inr ⟨a, b, vs, us, rfl, rfl, q1, q2, hl, fun p hp => fin_lst sb q hp (r1.append r2)⟩))
    · cases e'
/-- an operator of two whole numbers -/
def fI2 (C : Int → Int → Bool) (g : Int → Int → D) : DOp2
  | .int i, .int j => if C i j = true then some (.val (g i j)) else none
  | _, _ => none
theorem fI2_ok {K : PySem.W.Frag} {C : Int → Int → Bool} {P : Int → Int → Prop} {g : Int → Int → D} {gv : Int → Int → V} (hC : ∀ i j, C i j = true → P i j) (hg : ∀ F i j, Rp K F (g i j) (gv i j)) : Op2 K (rI P gv) (fI2 C g) := by
  intro F H d1 d2 v1 v2 c Q sb h1 h2 e q
  cases d1 <;> cases d2 <;> first | (cases e; done) | skip
  rename_i i j
  cases (show v1 = V.int _ from h1)
  cases (show v2 = V.int _ from h2)
  have e' : (if C i j = true then some (Cell.val (g i j)) else none) = some c := e
  split at e'
  · rename_i hc
    cases e'
    exact ⟨i, j, rfl, rfl, hC i j hc, fin_val sb q (hg F i j)⟩
  · cases e'
theorem fI0_ok {K : PySem.W.Frag} {g : Int → Int → D} {gv : Int → Int → V} (hg : ∀ F i j, Rp K F (g i j) (gv i j)) : Op2 K (rI0 gv) (fI2 (fun _ _ => true) g) := by
  intro F H d1 d2 v1 v2 c Q sb h1 h2 e q
  cases d1 <;> cases d2 <;> first | (cases e; done) | skip
  rename_i i j
  cases (show v1 = V.int _ from h1)
  cases (show v2 = V.int _ from h2)
  cases e
  exact ⟨i, j, rfl, rfl, fin_val sb q (hg F i j)⟩
abbrev fSub : DOp2 := fI2 (fun _ _ => true) fun i j => .int (i - j)
theorem fSub_ok {K : PySem.W.Frag} : Op2 K (rI0 fun i j => .int (i - j)) fSub := fI0_ok fun _ _ _ => rfl
/-- j is not 0, and the division is done by C -/
@[irreducible] def CDivB (i j : Int) : Bool := decide (j ≠ 0) && !Builtin.divisionGoesByPylong i j
theorem op_fdivD : OpR X (binaryOp .FloorDiv) (rI (fun i j => CDivB i j = true) fun i j => .int (i.fdiv j)) := opI fun i j _ _ _ _ _ hc q => by
  have hc' : CDivB i j = true := hc
  unfold CDivB at hc'
  rw [Bool.and_eq_true] at hc'
  exact floordiv_int (of_decide_eq_true hc'.1) q (.inl (by simpa using hc'.2))
abbrev fDiv : DOp2 := fI2 CDivB fun i j => .int (i.fdiv j)
theorem fDiv_ok {K : PySem.W.Frag} : Op2 K (rI (fun i j => CDivB i j = true) fun i j => .int (i.fdiv j)) fDiv := fI2_ok (fun _ _ h => h) fun _ _ _ => rfl
abbrev fMod : DOp2 := fI2 (fun _ j => decide (j ≠ 0)) fun i j => .int (i.fmod j)
theorem fMod_ok {K : PySem.W.Frag} : Op2 K (rI (fun _ j => j ≠ 0) fun i j => .int (i.fmod j)) fMod := fI2_ok (fun _ _ h => of_decide_eq_true h) fun _ _ _ => rfl
def CPowB (i j : Int) : Bool := decide (0 ≤ j) && (decide (j ≤ 1000000) && decide (i.natAbs < 2 ^ 64))
abbrev fPow : DOp2 := fI2 CPowB fun i j => .int (i ^ j.toNat)
theorem fPow_ok {K : PySem.W.Frag} : Op2 K (rI CPow fun i j => .int (i ^ j.toNat)) fPow := fI2_ok (fun i j h => by
  have h' : (decide (0 ≤ j) && (decide (j ≤ 1000000) && decide (i.natAbs < 2 ^ 64))) = true := h
  simp only [Bool.and_eq_true, decide_eq_true_eq] at h'
  exact h') fun _ _ _ => rfl
/-- * : two numbers of together less than 2 ^ 27 bits; a list so many times -/
@[irreducible] def CMulB (i j : Int) : Bool := decide ((Builtin.Int.intBits i : Int) + (Builtin.Int.intBits j : Int) ≤ 134217728)
def rMulD (K : PySem.W.Frag) : R2 := fun x y H Q => rI CMulX (fun i j => .int (i * j)) x y H Q ∨ (rRep x y H Q ∨ rRepA K x y H Q)
theorem op_mulD : OpR X (binaryOp .Mult) (rMulD X.K) := OpR.or op_mulX (OpR.or op_rep op_repA)
def fMul : DOp2
  | .int i, .int j => if CMulB i j = true then some (.val (.int (i * j))) else none
  | .lst xs, .int k => if -(2 ^ 63) ≤ k ∧ k < 2 ^ 63 ∧ xs.length * k.toNat ≤ sizeLine then some (.own (List.replicate k.toNat xs).flatten) else none
  | .tup xs, .int k => if -(2 ^ 63) ≤ k ∧ k < 2 ^ 63 ∧ xs.length * k.toNat ≤ 1000000 then some (.val (.tup (List.replicate k.toNat xs).flatten)) else none
  | _, _ => none
theorem RpL.rep {K : PySem.W.Frag} {F : Hp} {ds : List D} {vs : List V} (h : RpL K F ds vs) : ∀ k : Nat, RpL K F (List.replicate k ds).flatten (List.replicate k vs).flatten
  | 0 => rfl
  | k + 1 => by
    rw [List.replicate_succ, List.replicate_succ, List.flatten_cons, List.flatten_cons]
    exact h.append (RpL.rep h k)
theorem fMul_ok {K : PySem.W.Frag} : Op2 K (rMulD K) fMul := by
  intro F H d1 d2 v1 v2 c Q sb h1 h2 e q
  cases d1 <;> cases d2 <;> first | (cases e; done) | skip
  · rename_i i j
    cases (show v1 = V.int _ from h1)
    cases (show v2 = V.int _ from h2)
    have e' : (if CMulB i j = true then some (Cell.val (.int (i * j))) else none) = some c := e
    split at e'
    · rename_i hc
      cases e'
      unfold CMulB at hc
      exact .inl ⟨i, j, rfl, rfl, (show (Builtin.Int.intBits i : Int) + (Builtin.Int.intBits j : Int) ≤ 134217728 from of_decide_eq_true hc), fin_val sb q rfl⟩
    · cases e'
  · rename_i xs k
    have h1' := h1
    obtain ⟨a, vs, rfl, q1, r1⟩ := RpV.tup_ sb h1
    cases (show v2 = V.int _ from h2)
    have e' : (if -(2 ^ 63) ≤ k ∧ k < 2 ^ 63 ∧ xs.length * k.toNat ≤ 1000000 then some (Cell.val (.tup (List.replicate k.toNat xs).flatten)) else none) = some c := e
    split at e'
    · rename_i hc
      cases e'
      obtain ⟨c1, c2, c3⟩ := hc
      have same : vs = [] ∨ k = 1 → (List.replicate k.toNat xs).flatten = xs := fun z => by
        rcases z with z | z
        · have e0 : xs = [] := List.eq_nil_of_length_eq_zero (by rw [r1.length, z]; rfl)
          rw [e0]
          simp
        · rw [z]
          simp
      rw [r1.length] at c3
      refine .inr (.inr ⟨a, k, vs, rfl, rfl, q1, ⟨c1, c2⟩, c3, fun z => ?_, fun _ _ p hp => fin_tup sb q hp (r1.rep _)⟩)
      rw [same z] at q
      exact fin_val sb q h1'
    · cases e'
  · rename_i xs k
    obtain ⟨a, vs, rfl, q1, r1⟩ := h1
    cases (show v2 = V.int _ from h2)
    have e' : (if -(2 ^ 63) ≤ k ∧ k < 2 ^ 63 ∧ xs.length * k.toNat ≤ sizeLine then some (Cell.own (List.replicate k.toNat xs).flatten) else none) = some c := e
    split at e'
    · rename_i hc
      cases e'
      obtain ⟨c1, c2, c3⟩ := hc
      rw [r1.length] at c3
      exact .inr (.inl ⟨a, k, vs, rfl, rfl, q1, c1, c2, c3, fun p hp => fin_lst sb q hp (r1.rep _)⟩)
    · cases e'
def fNeg : DOp1
  | .int i => some (.val (.int (-i)))
  | _ => none
theorem fNeg_ok {K : PySem.W.Frag} : Op1 K (rU fun i => .int (-i)) fNeg := by
  intro F H d v c Q sb h e q
  cases d <;> first | (cases e; done) | skip
  cases (show v = V.int _ from h)
  cases e
  exact ⟨_, rfl, fin_val sb q rfl⟩
/-! ### comparisons -/
abbrev fLt : DOp2 := fI2 (fun _ _ => true) fun i j => .bl (decide (i < j))
abbrev fLe : DOp2 := fI2 (fun _ _ => true) fun i j => .bl (decide (i ≤ j))
abbrev fGt : DOp2 := fI2 (fun _ _ => true) fun i j => .bl (decide (j < i))
abbrev fGe : DOp2 := fI2 (fun _ _ => true) fun i j => .bl (decide (j ≤ i))
theorem fLt_ok {K : PySem.W.Frag} : Op2 K (rI0 fun i j => .bl (decide (i < j))) fLt := fI0_ok fun _ _ _ => rfl
theorem fLe_ok {K : PySem.W.Frag} : Op2 K (rI0 fun i j => .bl (decide (i ≤ j))) fLe := fI0_ok fun _ _ _ => rfl
theorem fGt_ok {K : PySem.W.Frag} : Op2 K (rI0 fun i j => .bl (decide (j < i))) fGt := fI0_ok fun _ _ _ => rfl
theorem fGe_ok {K : PySem.W.Frag} : Op2 K (rI0 fun i j => .bl (decide (j ≤ i))) fGe := fI0_ok fun _ _ _ => rfl
mutual
/-- data as the library has it -/
def toPy : D → PyData
  | .non => .none
  | .bl b => .bool b
  | .int i => .int i
  | .str x => .str x
  | .tup ds => .tuple (toPyL ds)
  | .lst ds => .list (toPyL ds)
  | .fix ds => .list (toPyL ds)
  | .dic _ _ => .dict []
  | .ty _ => .dict []
  | .obj _ _ _ => .dict []
  | .adr _ => .dict []
  | .rng _ _ => .dict []
def toPyL : List D → List PyData
  | [] => []
  | d :: ds => toPy d :: toPyL ds
end
/-- what may be compared by == -/
def eqOk (d : D) : Bool := SeqAt.shaped (toPy d)
theorem shaped_ {d : PyData} (h : SeqAt.shaped d = true) : d.canLay0 = true := SeqAt.canLay_of_shaped h
mutual
theorem Rp.dp {K : PySem.W.Frag} {F H : Hp} (sb : Same F H) : ∀ {d : D} {v : V}, (toPy d).canLay0 = true → Rp K F d v → Dp K H v (toPy d)
  | .non, _, _, h => by cases (show _ = V.non from h); exact .non
  | .bl _, _, _, h => by cases (show _ = V.bl _ from h); exact .bl _
  | .int _, _, _, h => by cases (show _ = V.int _ from h); exact .int _
  | .str _, _, _, h => by cases (show _ = V.str _ from h); exact .str _
  | .tup ds, _, c, ⟨a, vs, e, q, r⟩ => by
    subst e
    exact .tup (Same.tseq sb q) (RpL.dp sb c r)
  | .lst ds, _, c, ⟨a, vs, e, q, r⟩ => by
    subst e
    exact .lst (SqL.of (sb _ _ q)) (RpL.dp sb c r)
  | .fix ds, _, c, ⟨a, vs, e, q, r⟩ => by
    subst e
    exact .lst (sb.seq q) (RpL.dp sb c r)
  | .dic _ _, _, c, _ => by cases c
  | .ty _, _, c, _ => by cases c
  | .obj _ _ _, _, c, _ => by cases c
  | .adr _, _, c, _ => by cases c
  | .rng _ _, _, c, _ => by cases c
theorem RpL.dp {K : PySem.W.Frag} {F H : Hp} (sb : Same F H) : ∀ {ds : List D} {vs : List V}, PyData.canLayAll0 (toPyL ds) = true → RpL K F ds vs → DpAll K H vs (toPyL ds)
  | [], _, _, h => by
    have e : _ = [] := h
    subst e
    exact .nil
  | d :: ds, _, c, ⟨v, r, e, h1, h2⟩ => by
    subst e
    have c' : (PyData.canLay0 (toPy d) && PyData.canLayAll0 (toPyL ds)) = true := c
    rw [Bool.and_eq_true] at c'
    exact .cons (Rp.dp sb c'.1 h1) (RpL.dp sb c'.2 h2)
end
theorem RpV.dp {K : PySem.W.Frag} {F H : Hp} (sb : Same F H) : ∀ {d : D} {v : V}, (toPy d).canLay0 = true → RpV K F H d v → Dp K H v (toPy d)
  | .lst ds, _, c, ⟨a, vs, e, q, r⟩ => by
    subst e
    exact .lst (SqL.of q) (RpL.dp sb c r)
  | .non, _, c, h => Rp.dp sb c h
  | .bl _, _, c, h => Rp.dp sb c h
  | .int _, _, c, h => Rp.dp sb c h
  | .str _, _, c, h => Rp.dp sb c h
  | .tup _, _, c, h => Rp.dp sb c h
  | .fix _, _, c, h => Rp.dp sb c h
  | .dic _ _, _, c, h => Rp.dp sb c h
  | .ty _, _, c, h => Rp.dp sb c h
  | .obj _ _ _, _, c, h => Rp.dp sb c h
  | .adr _, _, c, h => Rp.dp sb c h
  | .rng _ _, _, c, h => Rp.dp sb c h
def eqD (d e : D) : Bool := PyData.eqv (toPy d) (toPy e)
def fEq : DOp2 := fun d e => if eqOk d = true ∧ eqOk e = true then some (.val (.bl (eqD d e))) else none
def fNe : DOp2 := fun d e => if eqOk d = true ∧ eqOk e = true then some (.val (.bl (!eqD d e))) else none
theorem fEq_ok {K : PySem.W.Frag} : Op2 K (rEqD K) fEq := by
  intro F H d1 d2 v1 v2 c Q sb h1 h2 e q
  unfold fEq at e
  split at e
  · rename_i hc
    cases e
    exact ⟨toPy d1, toPy d2, RpV.dp sb (shaped_ hc.1) h1, RpV.dp sb (shaped_ hc.2) h2, hc.1, hc.2, fin_val sb q rfl⟩
  · cases e
theorem fNe_ok {K : PySem.W.Frag} : Op2 K (rNeD K) fNe := by
  intro F H d1 d2 v1 v2 c Q sb h1 h2 e q
  unfold fNe at e
  split at e
  · rename_i hc
    cases e
    exact ⟨toPy d1, toPy d2, RpV.dp sb (shaped_ hc.1) h1, RpV.dp sb (shaped_ hc.2) h2, hc.1, hc.2, fin_val sb q rfl⟩
  · cases e
def isNon : D → Bool
  | .non => true
  | _ => false
theorem isNon_ok {K : PySem.W.Frag} {F H : Hp} : ∀ {d : D} {v : V}, RpV K F H d v → decide (v = .non) = isNon d
  | .non, _, h => by cases (show _ = V.non from h); rfl
  | .bl _, _, h => by cases (show _ = V.bl _ from h); rfl
  | .int _, _, h => by cases (show _ = V.int _ from h); rfl
  | .str _, _, h => by cases (show _ = V.str _ from h); rfl
  | .ty _, _, h => by cases (show _ = V.ty _ from h); rfl
  | .tup _, _, ⟨_, _, e, _⟩ => by subst e; rfl
  | .lst _, _, ⟨_, _, e, _⟩ => by subst e; rfl
  | .fix _, _, ⟨_, _, e, _⟩ => by subst e; rfl
  | .dic _ _, _, ⟨_, _, e, _⟩ => by subst e; rfl
  | .obj _ _ _, _, ⟨_, _, _, e, _⟩ => by subst e; rfl
  | .adr _, _, h => by cases (show _ = V.ref _ from h); rfl
  | .rng _ _, _, ⟨_, e, _⟩ => by cases e; rfl
/-- is None, is not None -/
def fIsN : DOp2
  | d, .non => some (.val (.bl (isNon d)))
  | _, _ => none
def fNotN : DOp2
  | d, .non => some (.val (.bl (!isNon d)))
  | _, _ => none
theorem fIsN_ok {K : PySem.W.Frag} : Op2 K (fun x y H Q => y = .non ∧ Q (.bl (decide (x = .non))) H) fIsN := by
  intro F H d1 d2 v1 v2 c Q sb h1 h2 e q
  cases d2 <;> first | (cases d1 <;> cases e; done) | skip
  have e' : some (Cell.val (.bl (isNon d1))) = some c := by cases d1 <;> exact e
  cases e'
  refine ⟨h2, ?_⟩
  rw [isNon_ok h1]
  exact fin_val sb q rfl
theorem fNotN_ok {K : PySem.W.Frag} : Op2 K (fun x y H Q => y = .non ∧ Q (.bl (!decide (x = .non))) H) fNotN := by
  intro F H d1 d2 v1 v2 c Q sb h1 h2 e q
  cases d2 <;> first | (cases d1 <;> cases e; done) | skip
  have e' : some (Cell.val (.bl (!isNon d1))) = some c := by cases d1 <;> exact e
  cases e'
  refine ⟨h2, ?_⟩
  rw [isNon_ok h1]
  exact fin_val sb q rfl
/-- is True, is not True, of truths -/
def fIsB : DOp2
  | .bl a, .bl b => some (.val (.bl (decide (a = b))))
  | _, _ => none
def fNotB : DOp2
  | .bl a, .bl b => some (.val (.bl (!decide (a = b))))
  | _, _ => none
theorem fIsB_ok {K : PySem.W.Frag} : Op2 K rIsB fIsB := by
  intro F H d1 d2 v1 v2 c Q sb h1 h2 e q
  cases d1 <;> cases d2 <;> first | (cases e; done) | skip
  cases (show v1 = V.bl _ from h1)
  cases (show v2 = V.bl _ from h2)
  cases e
  exact ⟨_, _, rfl, rfl, fin_val sb q rfl⟩
theorem fNotB_ok {K : PySem.W.Frag} : Op2 K rNotB fNotB := by
  intro F H d1 d2 v1 v2 c Q sb h1 h2 e q
  cases d1 <;> cases d2 <;> first | (cases e; done) | skip
  cases (show v1 = V.bl _ from h1)
  cases (show v2 = V.bl _ from h2)
  cases e
  exact ⟨_, _, rfl, rfl, fin_val sb q rfl⟩
/-! ### subscripts, slices -/
def fIx : DOp2
  | .tup xs, .int i => (atI xs i).map Cell.val
  | .lst xs, .int i => (atI xs i).map Cell.val
  | .fix xs, .int i => (atI xs i).map Cell.val
  | .str z, .int i => if z.length ≤ sizeLine then (atI z.cps.toList i).map fun c => .val (.str ⟨#[c]⟩) else none
  | _, _ => none
theorem atI_rp {K : PySem.W.Frag} {F : Hp} {ds : List D} {vs : List V} {i : Int} {d : D} (r : RpL K F ds vs) (h : atI ds i = some d) : ∃ v, atI vs i = some v ∧ Rp K F d v := by
  unfold atI at h ⊢
  rw [← r.length]
  cases e : ixN ds.length i with
  | none => rw [e] at h; cases h
  | some j =>
    rw [e] at h
    exact r.get h
theorem fIx_ok {K : PySem.W.Frag} : Op2 K (rIx K) fIx := by
  intro F H d1 d2 v1 v2 c Q sb h1 h2 e q
  cases d1 <;> cases d2 <;> first | (cases e; done) | skip
  · rename_i z i
    cases (show v1 = V.str _ from h1)
    cases (show v2 = V.int _ from h2)
    have e' : (if z.length ≤ sizeLine then (atI z.cps.toList i).map fun c => Cell.val (.str ⟨#[c]⟩) else none) = some c := e
    split at e'
    · rename_i hl
      cases ea : atI z.cps.toList i with
      | none => rw [ea] at e'; cases e'
      | some k =>
        rw [ea] at e'
        cases e'
        exact .inr (.inr ⟨z, i, k, rfl, rfl, hl, ea, fin_val sb q rfl⟩)
    · cases e'
  · rename_i xs i
    obtain ⟨a, vs, rfl, q1, r1⟩ := RpV.tup_ sb h1
    cases (show v2 = V.int _ from h2)
    have e' : (atI xs i).map Cell.val = some c := e
    cases ea : atI xs i with
    | none => rw [ea] at e'; cases e'
    | some d =>
      rw [ea] at e'
      cases e'
      obtain ⟨v, ev, rv⟩ := atI_rp r1 ea
      exact .inr (.inl ⟨a, vs, i, v, rfl, rfl, q1, ev, fin_val sb q rv⟩)
  · rename_i xs i
    obtain ⟨a, vs, rfl, q1, r1⟩ := h1
    cases (show v2 = V.int _ from h2)
    have e' : (atI xs i).map Cell.val = some c := e
    cases ea : atI xs i with
    | none => rw [ea] at e'; cases e'
    | some d =>
      rw [ea] at e'
      cases e'
      obtain ⟨v, ev, rv⟩ := atI_rp r1 ea
      exact .inl ⟨a, vs, i, v, rfl, rfl, SqL.of q1, ev, fin_val sb q rv⟩
  · rename_i xs i
    obtain ⟨a, vs, rfl, q1, r1⟩ := h1
    cases (show v2 = V.int _ from h2)
    have e' : (atI xs i).map Cell.val = some c := e
    cases ea : atI xs i with
    | none => rw [ea] at e'; cases e'
    | some d =>
      rw [ea] at e'
      cases e'
      obtain ⟨v, ev, rv⟩ := atI_rp r1 ea
      exact .inl ⟨a, vs, i, v, rfl, rfl, sb.seq q1, ev, fin_val sb q rv⟩
/-- xs[lo:hi] -/
def cutD {α : Type} (xs : List α) (lo hi : Option Int) : List α := (xs.drop (HT.sIx xs.length 0 lo)).take (HT.sIx xs.length xs.length hi - HT.sIx xs.length 0 lo)
def fSl (lo hi : Option Int) : DOp1
  | .tup xs => some (.val (.tup (cutD xs lo hi)))
  | .lst xs => some (.own (cutD xs lo hi))
  | .fix xs => some (.own (cutD xs lo hi))
  | .str z => if z.length ≤ sizeLine then some (.val (.str (cutS z lo hi))) else none
  | _ => none
def rSlD (K : PySem.W.Frag) : V → Option Int → Option Int → Hp → VK → Prop := fun x lo hi H Q => rSlA K x lo hi H Q ∨ (rSlL K x lo hi H Q ∨ rSlS x lo hi H Q)
theorem sl_D : SlR X (rSlD X.K) := sl_tupA.or (sl_list.or sl_str)
theorem cut_rp {K : PySem.W.Frag} {F : Hp} {ds : List D} {vs : List V} {lo hi : Option Int} (r : RpL K F ds vs) : RpL K F (cutD ds lo hi) (cutV vs lo hi) := by
  unfold cutD cutV
  rw [r.length]
  exact (r.drop _).take _
theorem fSl_ok {K : PySem.W.Frag} {lo hi : Option Int} : Op1 K (fun x H Q => rSlD K x lo hi H Q) (fSl lo hi) := by
  intro F H d v c Q sb h e q
  cases d <;> first | (cases e; done) | skip
  · rename_i z
    cases (show v = V.str _ from h)
    have e' : (if z.length ≤ sizeLine then some (Cell.val (.str (cutS z lo hi))) else none) = some c := e
    split at e'
    · rename_i hl
      cases e'
      exact .inr (.inr ⟨z, rfl, hl, fin_val sb q rfl⟩)
    · cases e'
  · rename_i xs
    obtain ⟨a, vs, rfl, q1, r1⟩ := RpV.tup_ sb h
    cases e
    refine .inl ⟨a, vs, rfl, q1, fun z => ?_, fun _ p hp => fin_tup sb q hp (cut_rp r1)⟩
    have ez : cutD xs lo hi = xs := by
      unfold cutD
      rw [r1.length, z.1, z.2, List.drop_zero, Nat.sub_zero, ← r1.length, List.take_length]
    rw [ez] at q
    exact fin_val sb q h
  · obtain ⟨a, vs, rfl, q1, r1⟩ := h
    cases e
    exact .inr (.inl ⟨a, vs, rfl, SqL.of q1, fun p hp => fin_lst sb q hp (cut_rp r1)⟩)
  · obtain ⟨a, vs, rfl, q1, r1⟩ := h
    cases e
    exact .inr (.inl ⟨a, vs, rfl, sb.seq q1, fun p hp => fin_lst sb q hp (cut_rp r1)⟩)
end
/-- a part of a slice: an int, or left out -/
def mPart : Option DE → En → (Option Int → En → Prop) → DX → Prop
  | none, ρ, Q, _ => Q none ρ
  | some t, ρ, Q, E => t ρ (fun d ρ1 => match d with
    | .int i => Q (some i) ρ1
    | _ => False) E
def rPart (B : Bd) (W : WX) (o : Option DE) : TO := fun σ H Q => ∃ F L ρ Qd Ed, SR B F L σ H ρ ∧ mPart o ρ Qd Ed ∧ (∀ i ρ' F' L' H', Qd i ρ' → SR B F' L' σ H' ρ' → Stp F L H F' L' H' → Q i H') ∧ XOk B W F Ed
def mSl (a : AX) (lo hi : Option DE) : DC := fun ρ Q E => mAX a ρ (fun x ρ1 => mPart lo ρ1 (fun i ρ2 => mPart hi ρ2 (fun j ρ3 => match view ρ3 x with
  | some d => ∃ c, fSl i j d = some c ∧ Q c ρ3
  | none => False) E) E) E
section
variable {X : Cx} {B : Bd} {W : WX} {pos : Pos}
theorem do_none : PO X none (rPart B W none) := ⟨fun pins s σ H Q I ⟨F, L, ρ, Qd, Ed, S, ht, hq, hx⟩ => po_none.run pins s σ H Q I (hq none ρ F L H ht S (Stp.refl _ _ _))⟩
theorem do_some {e : Expr} {t : DE} (h : PE X e (rV B W t)) : PO X (some e) (rPart B W (some t)) := by
  refine ⟨fun pins s σ H Q I ⟨F, L, ρ, Qd, Ed, S, ht, hq, hx⟩ => (po_some h).run pins s σ H Q I ⟨F, L, ρ, _, Ed, S, ht, fun d ρ' v F' L' H' k S' s r => ?_, hx⟩⟩
  cases d <;> first | (exact False.elim k) | skip
  rename_i i
  exact ⟨i, r, hq (some i) ρ' F' L' H' k S' s⟩
theorem dc_slice {e : Expr} {lo hi : Option Expr} {p2 : Pos} {ax : AX} {ol oh : Option DE} (he : PE X e (rX B W ax)) (hl : PO X lo (rPart B W ol)) (hu : PO X hi (rPart B W oh)) (hK : B.K = X.K := by rfl) :
    PE X (.Subscript e (.Slice lo hi none p2) pos) (rC B W (mSl ax ol oh)) := by
  refine pe_imp (pe_slice sl_D he hl hu) fun σ H Q ⟨F, L, ρ, Qd, Ed, S, ht, hq, hx⟩ => ?_
  refine ⟨F, L, ρ, _, Ed, S, ht, fun x ρ1 v F1 L1 H1 k1 S1 s1 r1 => ⟨F1, L1, ρ1, _, Ed, S1, k1, fun i ρ2 F2 L2 H2 k2 S2 s2 => ⟨F2, L2, ρ2, _, Ed, S2, k2, fun j ρ3 F3 L3 H3 k3 S3 s3 => ?_, (hx.mono s1.f).mono s2.f⟩, hx.mono s1.f⟩, hx⟩
  split at k3
  · rename_i d ed
    obtain ⟨c, ec, k3⟩ := k3
    have st := (s1.trans s2).trans s3
    exact hK ▸ fSl_ok F3 H3 d v c Q S3.sub (view_ok S3 ((r1.step s2).step s3) ed) ec fun w F' H' g sb n => hq c ρ3 w F' L3 H' k3 (S3.grow g sb) (st.trans g.stp) ((n.res S3).back st)
  · exact k3.elim
end
end DL
/-! The data layer: statements, targets, loops. -/
namespace DL
open PySem PySem.Spec PyProof.Rows L2
structure DEnds where
  nx : En → Prop
  rt : Cell → En → Prop
  bk : En → Prop
  ct : En → Prop
  ex : DX
abbrev DS := DEnds → En → Prop
/-- a cell beside the names: data; or a list that no name holds -/
def CellR (B : Bd) (F : Hp) (L : La) (H : Hp) : Cell → V → Prop
  | .val d, v => Rp B.K F d v
  | .own ds, v => ∃ a vs, v = .ref a ∧ H a = some (.lst vs) ∧ F a = none ∧ (∀ i, L i ≠ some a) ∧ B.H0 a = none ∧ RpL B.K F ds vs
theorem ResC.cell {B : Bd} {F H F' H' : Hp} {L L' : La} : ∀ {c : Cell} {v : V}, ResC B F L H F' L' H' c v → CellR B F' L' H' c v
  | .val _, _, h => h
  | .own _, _, ⟨a, vs, e, h1, h2, h3, h4, h5, _⟩ => ⟨a, vs, e, h1, h2, h3, h4, h5⟩
structure EOk (B : Bd) (W : WX) (F : Hp) (Dd : DEnds) (D : Ends) : Prop where
  nx : ∀ ρ' σ' F' L' H', Dd.nx ρ' → SR B F' L' σ' H' ρ' → Same F F' → D.nx σ' H'
  rt : ∀ r ρ' v σ' F' L' H', Dd.rt r ρ' → SR B F' L' σ' H' ρ' → Same F F' → CellR B F' L' H' r v → D.rt v H'
  bk : ∀ ρ' σ' F' L' H', Dd.bk ρ' → SR B F' L' σ' H' ρ' → Same F F' → D.bk σ' H'
  ct : ∀ ρ' σ' F' L' H', Dd.ct ρ' → SR B F' L' σ' H' ρ' → Same F F' → D.ct σ' H'
  ex : XOk B W F Dd.ex
theorem EOk.mono {B : Bd} {W : WX} {F F1 : Hp} {Dd : DEnds} {D : Ends} (o : EOk B W F Dd D) (s : Same F F1) : EOk B W F1 Dd D where
  nx := fun ρ' σ' F' L' H' q S z => o.nx ρ' σ' F' L' H' q S (s.trans z)
  rt := fun r ρ' v σ' F' L' H' q S z c => o.rt r ρ' v σ' F' L' H' q S (s.trans z) c
  bk := fun ρ' σ' F' L' H' q S z => o.bk ρ' σ' F' L' H' q S (s.trans z)
  ct := fun ρ' σ' F' L' H' q S z => o.ct ρ' σ' F' L' H' q S (s.trans z)
  ex := o.ex.mono s
def rS (B : Bd) (W : WX) (t : DS) : TS := fun D σ H => ∃ F L ρ Dd, SR B F L σ H ρ ∧ t Dd ρ ∧ EOk B W F Dd D
section
variable {X : Cx} {B : Bd} {W : WX}
/-- a weaker reading, the slots' number known -/
theorem ps_impL {st : Stmt} {t u : TS} (h : PS X st t) (i : ∀ D σ H, σ.length = X.N.length → u D σ H → t D σ H) : PS X st u := ⟨fun pins s σ H D I q => h.run pins s σ H D I (i D σ H I.len q)⟩
theorem pg_impL {e : Expr} {t u : TG} (h : PG X e t) (i : ∀ v σ H Q, σ.length = X.N.length → u v σ H Q → t v σ H Q) : PG X e u := ⟨fun pins s σ H v w Q I r q => h.run pins s σ H v w Q I r (i v σ H Q I.len q)⟩
theorem pgs_impL {es : List Expr} {t u : TGs} (h : PGs X es t) (i : ∀ v σ H Q, σ.length = X.N.length → u v σ H Q → t v σ H Q) : PGs X es u := ⟨fun pins s σ H v w Q I r q => h.run pins s σ H v w Q I r (i v σ H Q I.len q)⟩
variable {pos : Pos}
def mNext : DS := fun D ρ => D.nx ρ
def mSeq (t u : DS) : DS := fun D ρ => t { D with nx := u D } ρ
theorem dss_nil : PSs X [] (rS B W mNext) := pss_imp pss_nil fun D σ H ⟨F, L, ρ, Dd, S, q, o⟩ => o.nx ρ σ F L H q S (Same.refl F)
theorem dss_cons {st : Stmt} {rest : List Stmt} {t u : DS} (h1 : PS X st (rS B W t)) (h2 : PSs X rest (rS B W u)) : PSs X (st :: rest) (rS B W (mSeq t u)) :=
  pss_imp (pss_cons h1 h2) fun D σ H ⟨F, L, ρ, Dd, S, q, o⟩ => ⟨F, L, ρ, { Dd with nx := u Dd }, S, q, ⟨fun ρ' σ' F' L' H' k S' z => ⟨F', L', ρ', Dd, S', k, o.mono z⟩, o.rt, o.bk, o.ct, o.ex⟩⟩
theorem dss_one {st : Stmt} {t : DS} (h : PS X st (rS B W t)) : PSs X [st] (rS B W t) := pss_one h
theorem ds_pass : PS X (.Pass pos) (rS B W mNext) := ps_imp ps_pass fun D σ H ⟨F, L, ρ, Dd, S, q, o⟩ => o.nx ρ σ F L H q S (Same.refl F)
def mBreak : DS := fun D ρ => D.bk ρ
def mCont : DS := fun D ρ => D.ct ρ
theorem ds_break : PS X (.Break pos) (rS B W mBreak) := ps_imp ps_break fun D σ H ⟨F, L, ρ, Dd, S, q, o⟩ => o.bk ρ σ F L H q S (Same.refl F)
theorem ds_continue : PS X (.Continue pos) (rS B W mCont) := ps_imp ps_continue fun D σ H ⟨F, L, ρ, Dd, S, q, o⟩ => o.ct ρ σ F L H q S (Same.refl F)
theorem ds_doc {x : Str} {j : Nat} {pos' : Pos} : PS X (.Expr (.Constant (.str x) j pos) pos') (rS B W mNext) := ps_imp ps_doc fun D σ H ⟨F, L, ρ, Dd, S, q, o⟩ => o.nx ρ σ F L H q S (Same.refl F)
def mDrop (t : DC) : DS := fun D ρ => t ρ (fun _ ρ1 => D.nx ρ1) D.ex
theorem ds_expr {e : Expr} {t : DC} (he : PE X e (rC B W t)) (hs : swapsWith e none pos.line X.env = pure false := by rfl) : PS X (.Expr e pos) (rS B W (mDrop t)) :=
  ps_imp (ps_expr he hs) fun D σ H ⟨F, L, ρ, Dd, S, q, o⟩ => ⟨F, L, ρ, _, Dd.ex, S, q, fun c ρ' v F' L' H' k S' s _ => o.nx ρ' σ F' L' H' k S' s.f, o.ex⟩
def mRet (t : DC) : DS := fun D ρ => t ρ D.rt D.ex
theorem ds_ret {e : Expr} {t : DC} (he : PE X e (rC B W t)) : PS X (.Return (some e) pos) (rS B W (mRet t)) :=
  ps_imp (ps_ret he) fun D σ H ⟨F, L, ρ, Dd, S, q, o⟩ => ⟨F, L, ρ, Dd.rt, Dd.ex, S, q, fun c ρ' v F' L' H' k S' s r => o.rt c ρ' v σ F' L' H' k S' s.f r.cell, o.ex⟩
def mRetN : DS := fun D ρ => D.rt (.val .non) ρ
theorem ds_retN : PS X (.Return none pos) (rS B W mRetN) := ps_imp ps_retN fun D σ H ⟨F, L, ρ, Dd, S, q, o⟩ => o.rt (.val .non) ρ .non σ F L H q S (Same.refl F) rfl
def mIfS (c : DT) (t u : DS) : DS := fun D ρ => c ρ (fun b ρ1 => if b = true then t D ρ1 else u D ρ1) D.ex
theorem ds_if {c : Expr} {a b : List Stmt} {tc : DT} {t u : DS} (hc : PT X c (rT B W tc)) (ha : PSs X a (rS B W t)) (hb : PSs X b (rS B W u)) : PS X (.If c a b pos) (rS B W (mIfS tc t u)) :=
  ps_imp (ps_if hc ha hb) fun D σ H ⟨F, L, ρ, Dd, S, q, o⟩ => ⟨F, L, ρ, _, Dd.ex, S, q, fun c ρ' F' L' H' k S' s => by
    cases c with
    | true => exact ⟨F', L', ρ', Dd, S', k, o.mono s.f⟩
    | false => exact ⟨F', L', ρ', Dd, S', k, o.mono s.f⟩, o.ex⟩
/-! ### targets -/
/-- a name; a place of a list of one's own; several -/
inductive Tg where
  | nm (i : Nat) | sub (i : Nat) (ix : DE) | tp (ts : List Tg)
def setIx (ρ : En) (i : Nat) (k d : D) (Q : En → Prop) : Prop := match k, ρ.getD i none with
  | .int k, some (.own ds) => ∃ j, ixN ds.length k = some j ∧ Q (ρ.set i (some (.own (ds.set j d))))
  | _, _ => False
mutual
def tgGo : Tg → Cell → En → (En → Prop) → DX → Prop
  | .nm i, c, ρ, Q, _ => Q (ρ.set i (some c))
  | .sub i ix, c, ρ, Q, E => match ρ.getD i none with
    | some (.own _) => ix ρ (fun k ρ1 => setIx ρ1 i k c.toD Q) E
    | _ => False
  | .tp ts, c, ρ, Q, E => match c with
    | .val (.tup ds) => ds.length = ts.length ∧ tgsGo ts (ds.map Cell.val) ρ Q E
    | _ => False
def tgsGo : List Tg → List Cell → En → (En → Prop) → DX → Prop
  | [], [], ρ, Q, _ => Q ρ
  | t :: ts, c :: cs, ρ, Q, E => tgGo t c ρ (fun ρ1 => tgsGo ts cs ρ1 Q E) E
  | _, _, _, _, _ => False
end
def putL (L : La) (i : Nat) (o : Option Addr) : La := fun j => if j = i then o else L j
theorem SR.put {F H : Hp} {L : La} {σ : L2.St} {ρ : En} {i : Nat} {d : D} {v : V} (S : SR B F L σ H ρ) (hi : B.ios.contains i = false) (hl : i < σ.length) (r : Rp B.K F d v) : SR B F (forget L i) (σ.set i (some v)) H (ρ.set i (some (.val d))) where
  len := by rw [List.length_set, List.length_set]; exact S.len
  sub := S.sub
  slot := fun j => by
    unfold forget
    by_cases hj : j = i
    · subst hj
      rw [if_pos rfl, getD_set_self (by rw [S.len]; exact hl), getD_set_self hl]
      exact ⟨rfl, v, rfl, r⟩
    · rw [if_neg hj, getD_set_ne (fun z => hj z.symm), getD_set_ne (fun z => hj z.symm)]
      exact S.slot j
  inj := (S.drop hi).inj
  f0 := S.f0
  fn := S.fn
  keep := S.keep
  io := (S.drop hi).io
  al := S.al
theorem SR.putO {F H : Hp} {L : La} {σ : L2.St} {ρ : En} {i : Nat} {ds : List D} {a : Addr} {vs : List V} (S : SR B F L σ H ρ) (hi : B.ios.contains i = false) (hl : i < σ.length) (h1 : H a = some (.lst vs)) (h2 : F a = none) (h3 : ∀ j, L j ≠ some a) (h4 : B.H0 a = none)
    (r : RpL B.K F ds vs) : SR B F (putL L i (some a)) (σ.set i (some (.ref a))) H (ρ.set i (some (.own ds))) where
  len := by rw [List.length_set, List.length_set]; exact S.len
  sub := S.sub
  slot := fun j => by
    unfold putL
    by_cases hj : j = i
    · subst hj
      rw [if_pos rfl, getD_set_self (by rw [S.len]; exact hl), getD_set_self hl]
      exact ⟨a, vs, rfl, rfl, h1, h2, r, .inr h4⟩
    · rw [if_neg hj, getD_set_ne (fun z => hj z.symm), getD_set_ne (fun z => hj z.symm)]
      exact S.slot j
  inj := fun j k b e1 e2 => by
    unfold putL at e1 e2
    split at e1
    · split at e2
      · rename_i q1 q2; rw [q1, q2]
      · cases e1; exact absurd e2 (h3 k)
    · split at e2
      · cases e2; exact absurd e1 (h3 j)
      · exact S.inj j k b e1 e2
  f0 := S.f0
  fn := S.fn
  keep := S.keep
  io := fun j hj => by
    unfold putL
    rw [if_neg (fun z => by subst z; rw [List.contains_iff_mem.mpr hj] at hi; cases hi)]
    exact S.io j hj
  al := S.al
theorem CellR.stp {F H F' H' : Hp} {L L' : La} (s : Stp F L H F' L' H') : ∀ {c : Cell} {v : V}, CellR B F L H c v → CellR B F' L' H' c v
  | .val _, _, h => Rp.mono s.f h
  | .own ds, _, ⟨a, vs, e, h1, h2, h3, h4, h5⟩ => ⟨a, vs, e, s.h _ _ h1 h3, by
      cases q : F' a with
      | none => rfl
      | some o =>
        rcases s.fn a o q with z | z | ⟨i, z⟩
        · rw [h2] at z; cases z
        · rw [h1] at z; cases z
        · exact absurd z (h3 i), fun i q => h3 i (s.l i a q), h4, h5.mono s.f⟩
def ownA : Cell → V → List Addr
  | .own _, .ref a => [a]
  | _, _ => []
def ownAs : List Cell → List V → List Addr
  | c :: cs, v :: vs => ownA c v ++ ownAs cs vs
  | _, _ => []
/-- several cells, their lists apart -/
def CellsR (B : Bd) (F : Hp) (L : La) (H : Hp) : List Cell → List V → Prop
  | [], vs => vs = []
  | c :: cs, vs => ∃ v r, vs = v :: r ∧ CellR B F L H c v ∧ CellsR B F L H cs r ∧ ∀ a, a ∈ ownA c v → a ∉ ownAs cs r
theorem CellsR.stp {F H F' H' : Hp} {L L' : La} (s : Stp F L H F' L' H') : ∀ {cs : List Cell} {vs : List V}, CellsR B F L H cs vs → CellsR B F' L' H' cs vs
  | [], _, h => h
  | _ :: _, _, ⟨v, r, e, h1, h2, h3⟩ => ⟨v, r, e, h1.stp s, CellsR.stp s h2, h3⟩
theorem CellsR.vals {F H : Hp} {L : La} : ∀ {ds : List D} {vs : List V}, RpL B.K F ds vs → CellsR B F L H (ds.map Cell.val) vs
  | [], _, h => h
  | _ :: _, _, ⟨v, r, e, h1, h2⟩ => ⟨v, r, e, h1, CellsR.vals h2, fun a z => by cases z⟩
theorem CellsR.length {F H : Hp} {L : La} : ∀ {cs : List Cell} {vs : List V}, CellsR B F L H cs vs → cs.length = vs.length
  | [], _, h => by
    have e : _ = [] := h
    subst e
    rfl
  | _ :: _, _, ⟨v, r, e, h1, h2, h3⟩ => by
    subst e
    rw [List.length_cons, List.length_cons, CellsR.length h2]
/-- from one state to the next, of names too -/
structure Mv (B : Bd) (F : Hp) (L : La) (H F' : Hp) (L' : La) (H' : Hp) (own : List Addr) : Prop where
  f : Same F F'
  /-- a list that no name holds is as it was, unless it is one of own -/
  c : ∀ c v, CellR B F L H c v → (∀ a, a ∈ ownA c v → a ∉ own) → CellR B F' L' H' c v
theorem CellsR.mv {F H F' H' : Hp} {L L' : La} {own : List Addr} (m : Mv B F L H F' L' H' own) : ∀ {cs : List Cell} {vs : List V}, CellsR B F L H cs vs → (∀ a, a ∈ own → a ∉ ownAs cs vs) → CellsR B F' L' H' cs vs
  | [], _, h, _ => h
  | c :: cs, _, ⟨v, r, e, h1, h2, h3⟩, n => by
    subst e
    have n1 : ∀ a, a ∈ own → a ∉ ownA c v ++ ownAs cs r := n
    exact ⟨v, r, rfl, m.c c v h1 fun a ha ho => n1 a ho (List.mem_append_left _ ha), CellsR.mv m h2 fun a ha hb => n1 a ha (List.mem_append_right _ hb), h3⟩
theorem Mv.of_stp {F H F' H' : Hp} {L L' : La} (s : Stp F L H F' L' H') : Mv B F L H F' L' H' [] := ⟨s.f, fun _ _ h _ => h.stp s⟩
theorem Mv.mono {F H F' H' : Hp} {L L' : La} {o o' : List Addr} (m : Mv B F L H F' L' H' o) (h : ∀ a, a ∈ o → a ∈ o') : Mv B F L H F' L' H' o' := ⟨m.f, fun c v r n => m.c c v r fun a ha hb => n a ha (h a hb)⟩
theorem Mv.trans {F H F1 H1 F2 H2 : Hp} {L L1 L2 : La} {o : List Addr} (a : Mv B F L H F1 L1 H1 o) (b : Mv B F1 L1 H1 F2 L2 H2 o) : Mv B F L H F2 L2 H2 o := ⟨a.f.trans b.f, fun c v r n => b.c c v (a.c c v r n) n⟩
/-- a target takes a cell -/
def rG (B : Bd) (W : WX) (tg : Tg) : TG := fun v σ H Q => ∃ F L ρ Qd Ed c, SR B F L σ H ρ ∧ CellR B F L H c v ∧ tgGo tg c ρ Qd Ed ∧
  (∀ ρ' σ' F' L' H', Qd ρ' → SR B F' L' σ' H' ρ' → Mv B F L H F' L' H' (ownA c v) → Q σ' H') ∧ XOk B W F Ed
def rGs (B : Bd) (W : WX) (ts : List Tg) : TGs := fun vs σ H Q => ∃ F L ρ Qd Ed cs, SR B F L σ H ρ ∧ CellsR B F L H cs vs ∧ tgsGo ts cs ρ Qd Ed ∧
  (∀ ρ' σ' F' L' H', Qd ρ' → SR B F' L' σ' H' ρ' → Mv B F L H F' L' H' (ownAs cs vs) → Q σ' H') ∧ XOk B W F Ed
theorem mv_forget {F H : Hp} {L : La} {i : Nat} {o : List Addr} : Mv B F L H F (forget L i) H o := ⟨Same.refl F, fun c v h _ => h.stp Stp.drop⟩
theorem mv_put {F H : Hp} {L : La} {i : Nat} {a : Addr} : Mv B F L H F (putL L i (some a)) H [a] := ⟨Same.refl F, fun c v h n => by
  cases c with
  | val d => exact h
  | own ds =>
    obtain ⟨b, vs, e, h1, h2, h3, h4, h5⟩ := h
    subst e
    refine ⟨b, vs, rfl, h1, h2, fun j q => ?_, h4, h5⟩
    unfold putL at q
    split at q
    · cases q
      exact n _ List.mem_cons_self List.mem_cons_self
    · exact h3 j q⟩
theorem dg_nm (i : Nat) {x : Str} (hN : X.N.Nodup) (hio : B.ios.contains i = false := by rfl) (hi : X.N[i]? = some x := by rfl) (hx : Loc X.env.scope x := by first | exact Or.inl rfl | exact Or.inr rfl)
    (hf : X.fn x = true ∨ X.env.scope.names.lookup x = some .local := by first | exact .inl rfl | exact .inr rfl) : PG X (.Name x pos) (rG B W (.nm i)) := by
  refine pg_impL (pg_name hN hi hx hf) fun v σ H Q hl ⟨F, L, ρ, Qd, Ed, c, S, r, q, o, hxx⟩ => ?_
  have hlt : i < σ.length := by rw [hl]; exact (List.getElem?_eq_some_iff.mp hi).1
  cases c with
  | val d => exact o _ _ _ _ _ q (S.put hio hlt r) mv_forget
  | own ds =>
    obtain ⟨a, vs, e, h1, h2, h3, h4, h5⟩ := r
    subst e
    exact o _ _ _ _ _ q (S.putO hio hlt h1 h2 h3 h4 h5) mv_put
/-- cells to data: a list that no name holds is made still -/
theorem CellR.toD {F H : Hp} {L : La} {σ : L2.St} {ρ : En} (S : SR B F L σ H ρ) : ∀ {c : Cell} {v : V}, CellR B F L H c v → ∃ F', SR B F' L σ H ρ ∧ Rp B.K F' c.toD v ∧ Mv B F L H F' L H (ownA c v)
  | .val d, v, h => ⟨F, S, h, Mv.mono (Mv.of_stp (Stp.refl _ _ _)) fun _ z => by cases z⟩
  | .own ds, v, h => by
    obtain ⟨a, vs, e, h1, h2, h3, h4, h5⟩ := h
    subst e
    refine ⟨upd F a (.lst vs), S.freeze h1 h2 h3 h4, ⟨a, vs, rfl, upd_same, h5.mono (same_upd h2)⟩, same_upd h2, fun c v h n => ?_⟩
    cases c with
    | val d => exact Rp.mono (same_upd h2) h
    | own es =>
      obtain ⟨b, us, e, g1, g2, g3, g4, g5⟩ := h
      subst e
      have hb : b ≠ a := fun z => n b List.mem_cons_self (by rw [z]; exact List.mem_cons_self)
      exact ⟨b, us, rfl, g1, by rw [upd_ne hb]; exact g2, g3, g4, g5.mono (same_upd h2)⟩
theorem SR.write {F H : Hp} {L : La} {σ : L2.St} {ρ : En} {i : Nat} {a : Addr} {ds' : List D} {vs' : List V} (S : SR B F L σ H ρ) (h : L i = some a) (r : RpL B.K F ds' vs') : SR B F L σ (upd H a (.lst vs')) (ρ.set i (some (.own ds'))) := by
  obtain ⟨ds, vs, e1, e2, e3, e4, e5, e6⟩ := S.own h
  have nF : ∀ b o, F b = some o → b ≠ a := fun b o q z => by rw [z, e4] at q; cases q
  refine ⟨by rw [List.length_set]; exact S.len, fun b o q => by rw [upd_ne (nF b o q)]; exact S.sub b o q, fun j => ?_, S.inj, S.f0, S.fn, fun b o q n => ?_, S.io, fun b n => ?_⟩
  · by_cases hj : i = j
    · subst hj
      rw [getD_set_self (getD_lt e1)]
      exact ⟨a, vs', e2, h, upd_same, e4, r, e6⟩
    · rw [getD_set_ne hj]
      have q := S.slot j
      revert q
      cases ρ.getD j none with
      | none => exact id
      | some c =>
        cases c with
        | val d => exact id
        | own es =>
          intro ⟨b, us, g1, g2, g3, g4, g5, g6⟩
          have hb : b ≠ a := fun z => hj (S.inj i j a h (by rw [g2, z]))
          exact ⟨b, us, g1, g2, by rw [upd_ne hb]; exact g3, g4, g5, g6⟩
  · have hb : b ≠ a := fun z => by
      subst z
      rcases e6 with ⟨j, hj, ej⟩ | z
      · exact n j hj ej
      · rw [z] at q; cases q
    rw [upd_ne hb]
    exact S.keep b o q n
  · by_cases hb : b = a
    · rw [hb, upd_same]; simp
    · rw [upd_ne hb]; exact S.al b n
theorem mv_write {F H : Hp} {L : La} {i : Nat} {a : Addr} {vs' : List V} {o : List Addr} (h : L i = some a) : Mv B F L H F L (upd H a (.lst vs')) o := ⟨Same.refl F, fun c v r _ => by
  cases c with
  | val d => exact r
  | own es =>
    obtain ⟨b, us, e, g1, g2, g3, g4, g5⟩ := r
    have hb : b ≠ a := fun z => g3 i (by rw [h, z])
    exact ⟨b, us, e, by rw [upd_ne hb]; exact g1, g2, g3, g4, g5⟩⟩
theorem stp_write {F H : Hp} {L : La} {i : Nat} {a : Addr} {vs' : List V} (h : L i = some a) (hH : H a ≠ none) : Stp F L H F L (upd H a (.lst vs')) where
  f := Same.refl F
  l := fun _ _ q => q
  h := fun b o q n => by rw [upd_ne (fun z => n i (by rw [h, z]))]; exact q
  fn := fun _ _ q => .inl q
  al := fun b n => by
    by_cases hb : b = a
    · rw [hb, upd_same]; simp
    · rw [upd_ne hb]; exact n
theorem dg_sub (i : Nat) {x : Str} {ix : Expr} {t : DE} {p : Pos} (hix : PE X ix (rV B W t)) (hN : X.N[i]? = some x := by rfl) (hv : Vis X.env.scope x := by first | exact Or.inl rfl | exact Or.inr (Or.inl rfl) | exact Or.inr (Or.inr rfl)) (hd : (x == ("__debug__" : Str)) = false := by decide)
    (hcd : (x == ("__classdict__" : Str)) = false := by decide)
    (ha : ∀ v, assign (.Subscript (.Name x p) ix pos) X.env v = (do
      let ov ← holding [v] (eval (.Name x p) X.env)
      let iv ← holding [v, ov] (eval ix X.env)
      standAt pos
      holding [v, ov, iv] (setItem ov iv v)
      release [v, ov, iv] []) := by intro _; rfl) : PG X (.Subscript (.Name x p) ix pos) (rG B W (.sub i t)) := by
  refine pg_impL (pg_sub (pe_var (i := i) hN hv hd hcd) hix set_list ha) fun v σ H Q hl ⟨F, L, ρ, Qd, Ed, c, S, r, q, o, hx⟩ => ?_
  obtain ⟨F1, S1, r1, m1⟩ := r.toD S
  have q0 : (match ρ.getD i none with | some (.own _) => t ρ (fun k ρ1 => setIx ρ1 i k c.toD Qd) Ed | _ => False) := q
  split at q0
  · rename_i es e0
    obtain ⟨a, vs, e1, e2, e3, _⟩ := S.ow e0
    refine ⟨_, e1, F1, L, ρ, _, Ed, S1, q0, fun k ρ1 kv F2 L2 H2 z S2 s2 rk => ?_, hx.mono m1.f⟩
    unfold setIx at z
    split at z
    · rename_i k ds eo
      obtain ⟨j, ej, z⟩ := z
      obtain ⟨b, us, g1, g2, g3, g4, g5, g6⟩ := S2.ow eo
      have ea : L i = some b := s2.l i b g2
      rw [e2] at ea
      cases ea
      have hk : kv = .int k := rk
      subst hk
      refine ⟨a, us, k, j, rfl, rfl, g3, by rw [← g5.length]; exact ej, ?_⟩
      refine o _ _ _ _ _ z (S2.write g2 (g5.set (r1.mono s2.f) j)) ?_
      exact m1.trans (((Mv.of_stp s2).mono fun _ z => by cases z).trans (mv_write g2))
    · exact z.elim
  · exact q0.elim
theorem dgs_nil : PGs X [] (rGs B W []) := by
  refine pgs_impL pgs_nil fun vs σ H Q _ ⟨F, L, ρ, Qd, Ed, cs, S, r, q, o, hx⟩ => ?_
  cases cs with
  | nil => exact ⟨r, o _ _ _ _ _ q S ((Mv.of_stp (Stp.refl _ _ _)).mono fun _ z => by cases z)⟩
  | cons c cs => exact False.elim q
theorem dgs_cons {e : Expr} {es : List Expr} {t : Tg} {ts : List Tg} (h1 : PG X e (rG B W t)) (h2 : PGs X es (rGs B W ts)) (hs : (assignEach (e :: es) X.env).map (·.2) = assign e X.env :: (assignEach es X.env).map (·.2) := by rfl) : PGs X (e :: es) (rGs B W (t :: ts)) := by
  refine pgs_impL (pgs_cons h1 h2 hs) fun vs σ H Q _ ⟨F, L, ρ, Qd, Ed, cs, S, r, q, o, hx⟩ => ?_
  cases cs with
  | nil => exact False.elim q
  | cons c cs =>
    obtain ⟨v, r', e, c1, c2, n⟩ := r
    subst e
    refine ⟨v, r', rfl, F, L, ρ, _, Ed, c, S, c1, q, fun ρ1 σ1 F1 L1 H1 q1 S1 m1 => ⟨F1, L1, ρ1, Qd, Ed, cs, S1, c2.mv m1 n, q1, fun ρ' σ' F' L' H' q' S' m' => ?_, hx.mono m1.f⟩, hx⟩
    exact o _ _ _ _ _ q' S' ((m1.mono fun a ha => List.mem_append_left _ ha).trans (m'.mono fun a ha => List.mem_append_right _ ha))
/-- (a, b) = a pair told as data -/
theorem dg_tp {es : List Expr} {k : Nat} {ts : List Tg} {n : Nat} (hc : X.calm = true) (h : PGs X es (rGs B W ts)) (htn : ts.length = n := by rfl) (hn : (assignEach es X.env).length = n := by rfl) (hst : (assignEach es X.env).findIdx? (·.1) = none := by rfl) (hK : B.K = X.K := by rfl) :
    PG X (.Tuple es k pos) (rG B W (.tp ts)) := by
  refine pg_impL (pg_tup hc h hn hst) fun v σ H Q _ ⟨F, L, ρ, Qd, Ed, c, S, r, q, o, hx⟩ => ?_
  cases c with
  | own _ => exact False.elim q
  | val d =>
    cases d <;> first | (exact False.elim q) | skip
    rename_i ds
    obtain ⟨a, vs, e, h1, h2⟩ := r
    subst e
    obtain ⟨hl, q'⟩ : ds.length = ts.length ∧ tgsGo ts (ds.map Cell.val) ρ Qd Ed := q
    refine ⟨a, vs, rfl, hK ▸ Same.tseq S.sub h1, by rw [← h2.length, hl, htn], F, L, ρ, Qd, Ed, _, S, CellsR.vals h2, q', fun ρ' σ' F' L' H' q S' m => o _ _ _ _ _ q S' (m.mono fun b hb => ?_), hx⟩
    have z : ∀ (ds : List D) (vs : List V), b ∉ ownAs (ds.map Cell.val) vs := by
      intro ds
      induction ds with
      | nil => intro vs hm; cases hm
      | cons d ds ih =>
        intro vs hm
        cases vs with
        | nil => cases hm
        | cons v vs => exact ih vs hm
    exact absurd hb (z ds vs)
/-! ### assignments -/
def mAsg (tg : Tg) (t : DC) : DS := fun D ρ => t ρ (fun c ρ1 => tgGo tg c ρ1 D.nx D.ex) D.ex
theorem asg_imp {tg : Tg} {t : DC} {D : Ends} {σ : L2.St} {H : Hp} (h : rS B W (mAsg tg t) D σ H) : rC B W t σ H fun x H1 => rG B W tg x σ H1 D.nx := by
  obtain ⟨F, L, ρ, Dd, S, q, o⟩ := h
  exact ⟨F, L, ρ, _, Dd.ex, S, q, fun c ρ1 v F1 L1 H1 k S1 s1 r1 => ⟨F1, L1, ρ1, Dd.nx, Dd.ex, c, S1, r1.cell, k, fun ρ' σ' F' L' H' q' S' m => o.nx ρ' σ' F' L' H' q' S' (s1.f.trans m.f), o.ex.mono s1.f⟩, o.ex⟩
theorem ds_asg {tg e : Expr} {g : Tg} {t : DC} (he : PE X e (rC B W t)) (hg : PG X tg (rG B W g)) (hs : swapsWithSole [tg] e pos.line X.env = pure false := by rfl) (hw : swappedStores [tg] e X.env = pure none := by rfl)
    (h1 : (assignEach [tg] X.env).map (·.2) = [assign tg X.env] := by rfl) : PS X (.Assign [tg] e pos) (rS B W (mAsg g t)) := ps_imp (ps_asg he hg hs hw h1) fun _ _ _ h => asg_imp h
/-- name = value -/
theorem ds_set (i : Nat) {x : Str} {e : Expr} {t : DC} {pos' : Pos} (he : PE X e (rC B W t)) (hN : X.N.Nodup) (hio : B.ios.contains i = false := by rfl) (hi : X.N[i]? = some x := by rfl) (hx : Loc X.env.scope x := by first | exact Or.inl rfl | exact Or.inr rfl)
    (hs : swapsWith e (some (.Name x pos')) pos.line X.env = pure false := by rfl) (hf : X.fn x = true ∨ X.env.scope.names.lookup x = some .local := by first | exact .inl rfl | exact .inr rfl) : PS X (.Assign [.Name x pos'] e pos) (rS B W (mAsg (.nm i) t)) := by
  refine ps_impL (ps_set hN hi hx he hs hf) fun D σ H hl h => ?_
  obtain ⟨F, L, ρ, Dd, S, q, o⟩ := h
  have hlt : i < σ.length := by rw [hl]; exact (List.getElem?_eq_some_iff.mp hi).1
  refine ⟨F, L, ρ, _, Dd.ex, S, q, fun c ρ1 v F1 L1 H1 k S1 s1 r1 => ?_, o.ex⟩
  have k' : Dd.nx (ρ1.set i (some c)) := k
  cases c with
  | val d => exact o.nx _ _ _ _ _ k' (S1.put hio hlt r1) s1.f
  | own ds =>
    obtain ⟨a, vs, e, h1, h2, h3, h4, h5, _⟩ := r1
    subst e
    exact o.nx _ _ _ _ _ k' (S1.putO hio hlt h1 h2 h3 h4 h5) s1.f
/-! several expressions, one after the other -/
def mCs : List DC → En → (List Cell → En → Prop) → DX → Prop
  | [], ρ, Q, _ => Q [] ρ
  | t :: ts, ρ, Q, E => t ρ (fun c ρ1 => mCs ts ρ1 (fun cs => Q (c :: cs)) E) E
def rCs (B : Bd) (W : WX) (ts : List DC) : TA := fun σ H Q => ∃ F L ρ Qd Ed, SR B F L σ H ρ ∧ mCs ts ρ Qd Ed ∧
  (∀ cs ρ' vs F' L' H', Qd cs ρ' → SR B F' L' σ H' ρ' → Stp F L H F' L' H' → CellsR B F' L' H' cs vs → (∀ a, a ∈ ownAs cs vs → H a = none ∨ ∃ i, L i = some a) → Q vs H') ∧ XOk B W F Ed
theorem dcs_nil : PA X [] (rCs B W []) := pa_imp pa_nil fun σ H Q ⟨F, L, ρ, Qd, Ed, S, ht, hq, hx⟩ => hq [] ρ [] F L H ht S (Stp.refl _ _ _) rfl (fun a z => by cases z)
theorem dcs_cons {e : Expr} {es : List Expr} {t : DC} {ts : List DC} (ha : PE X e (rC B W t)) (hr : PA X es (rCs B W ts)) (hs : starEach (e :: es) X.env = (false, eval e X.env) :: starEach es X.env := by rfl) : PA X (e :: es) (rCs B W (t :: ts)) := by
  refine pa_imp (pa_cons ha hr hs) fun σ H Q ⟨F, L, ρ, Qd, Ed, S, ht, hq, hx⟩ => ?_
  refine ⟨F, L, ρ, _, Ed, S, ht, fun c ρ1 v F1 L1 H1 q1 S1 s1 r1 => ⟨F1, L1, ρ1, _, Ed, S1, q1, fun cs ρ2 vs F2 L2 H2 q2 S2 s2 r2 nw => ?_, hx.mono s1.f⟩, hx⟩
  have nw2 : ∀ a, a ∈ ownA c v → (H a = none ∨ ∃ i, L i = some a) ∧ H1 a ≠ none ∧ ∀ i, L1 i ≠ some a := fun a ha => by
    cases c with
    | val d => cases ha
    | own ds =>
      obtain ⟨b, us, e, g1, g2, g3, g4, g5, g6⟩ := r1
      subst e
      have : a = b := by simpa [ownA] using ha
      subst this
      exact ⟨g6, by rw [g1]; simp, g3⟩
  refine hq (c :: cs) ρ2 (v :: vs) F2 L2 H2 q2 S2 (s1.trans s2) ⟨v, vs, rfl, r1.cell.stp s2, r2, fun a ha hb => ?_⟩ fun a ha => ?_
  · obtain ⟨_, n1, n2⟩ := nw2 a ha
    rcases nw a hb with z | ⟨i, z⟩
    · exact n1 z
    · exact n2 i z
  · have ha' : a ∈ ownA c v ++ ownAs cs vs := ha
    rcases List.mem_append.mp ha' with z | z
    · exact (nw2 a z).1
    · rcases nw a z with q | ⟨i, q⟩
      · refine .inl ?_
        cases e0 : H a with
        | none => rfl
        | some o => exact absurd q (s1.al a (by rw [e0]; simp))
      · exact .inr ⟨i, s1.l i a q⟩
/-- a, b = x, y -/
def mPar (tgs : List Tg) (ts : List DC) : DS := fun D ρ => mCs ts ρ (fun cs ρ1 => cs.length = tgs.length ∧ tgsGo tgs cs ρ1 D.nx D.ex) D.ex
/-- .. by the pair itself -/
theorem ds_parT {es vs : List Expr} {k k2 : Nat} {p p2 : Pos} {tgs : List Tg} {ts : List DC} {n : Nat} (hc : X.calm = true) (hv : PA X vs (rCs B W ts)) (hg : PGs X es (rGs B W tgs)) (hn : (assignEach es X.env).length = n := by rfl) (hst : (assignEach es X.env).findIdx? (·.1) = none := by rfl)
    (hln : tgs.length = n := by rfl) (hsz : n ≤ sizeLine := by decide) (hs : swapsWithSole [.Tuple es k p] (.Tuple vs k2 p2) pos.line X.env = pure false := by rfl) (hw : swappedStores [.Tuple es k p] (.Tuple vs k2 p2) X.env = pure none := by rfl)
    (h1 : (assignEach [.Tuple es k p] X.env).map (·.2) = [assign (.Tuple es k p) X.env] := by rfl) : PS X (.Assign [.Tuple es k p] (.Tuple vs k2 p2) pos) (rS B W (mPar tgs ts)) := by
  refine ps_imp (ps_asg (pe_tup hv) (pg_tup hc hg hn hst) hs hw h1) fun D σ H ⟨F, L, ρ, Dd, S, q, o⟩ => ?_
  refine ⟨F, L, ρ, _, Dd.ex, S, q, fun cs ρ1 us F1 L1 H1 k1 S1 s1 r1 nw => ?_, o.ex⟩
  · obtain ⟨hl, k1⟩ := k1
    rw [hln] at hl
    have hl2 : us.length = n := by rw [← r1.length, hl]
    refine ⟨by rw [hl2]; exact hsz, fun p hp => ⟨p, us, rfl, SqT.of upd_same, hl2, F1, L1, ρ1, Dd.nx, Dd.ex, cs, ?_, ?_, k1, fun ρ' σ' F' L' H' q' S' m => o.nx ρ' σ' F' L' H' q' S' (s1.f.trans m.f), o.ex.mono s1.f⟩⟩
    · exact S1.grow ⟨Same.refl _, same_upd hp, fun _ _ e => .inl e⟩ (S1.sub.trans (same_upd hp))
    · exact r1.stp (Grow.stp ⟨Same.refl _, same_upd hp, fun _ _ e => .inl e⟩)
/-- .. names that are stored from the right -/
theorem ds_par2 (i j : Nat) {x y : Str} {a b : Expr} {px py pt pt2 : Pos} {kt k2 : Nat} {ts : List DC} (hc : X.calm = true) (hN : X.N.Nodup) (ha : PA X [a, b] (rCs B W ts)) (hioi : B.ios.contains i = false := by rfl) (hioj : B.ios.contains j = false := by rfl) (hi : X.N[i]? = some x := by rfl) (hj : X.N[j]? = some y := by rfl)
    (hij : i ≠ j := by decide) (hx : X.env.scope.names.lookup x = some .local := by rfl) (hy : X.env.scope.names.lookup y = some .local := by rfl)
    (hw : swappedStores [.Tuple [.Name x px, .Name y py] kt pt] (.Tuple [a, b] k2 pt2) X.env = pure (some [x, y]) := by rfl)
    (hs : swapsWithSole [.Tuple [.Name x px, .Name y py] kt pt] (.Tuple [a, b] k2 pt2) pos.line X.env = pure false := by rfl) : PS X (.Assign [.Tuple [.Name x px, .Name y py] kt pt] (.Tuple [a, b] k2 pt2) pos) (rS B W (mPar [.nm i, .nm j] ts)) := by
  refine ps_impL (ps_par hc hN hi hj hij hx hy ha hw hs) fun D σ H hl ⟨F, L, ρ, Dd, S, q, o⟩ => ?_
  have hli : i < σ.length := by rw [hl]; exact (List.getElem?_eq_some_iff.mp hi).1
  have hlj : j < σ.length := by rw [hl]; exact (List.getElem?_eq_some_iff.mp hj).1
  refine ⟨F, L, ρ, _, Dd.ex, S, q, fun cs ρ1 us F1 L1 H1 k1 S1 s1 r1 nw => ?_, o.ex⟩
  obtain ⟨hl2, k1⟩ := k1
  match cs, hl2, k1, r1, nw with
  | [c, d], _, k1, r1, nw =>
    obtain ⟨v, r, e, c1, ⟨w, r', e', c2, e2, _⟩, n⟩ := r1
    have e2' : r' = [] := e2
    subst e2'
    subst e'
    subst e
    refine ⟨v, w, rfl, ?_⟩
    have k2 : Dd.nx ((ρ1.set i (some c)).set j (some d)) := k1
    have step1 : ∃ L2, SR B F1 L2 (σ.set i (some v)) H1 (ρ1.set i (some c)) ∧ CellR B F1 L2 H1 d w := by
      cases c with
      | val z => exact ⟨_, S1.put hioi hli c1, (mv_forget (o := [])).c _ _ c2 fun a _ h => by cases h⟩
      | own ds =>
        obtain ⟨a, vs, e, h1, h2, h3, h4, h5⟩ := c1
        subst e
        exact ⟨_, S1.putO hioi hli h1 h2 h3 h4 h5, mv_put.c _ _ c2 fun b hb hm => n a List.mem_cons_self (by
          have : b = a := by simpa using hm
          subst this
          exact List.mem_append_left _ hb)⟩
    obtain ⟨L2, S2, c2'⟩ := step1
    have hlj2 : j < (σ.set i (some v)).length := by rw [List.length_set]; exact hlj
    cases d with
    | val z => exact o.nx _ _ _ _ _ k2 (S2.put hioj hlj2 c2') s1.f
    | own ds =>
      obtain ⟨a, vs, e, h1, h2, h3, h4, h5⟩ := c2'
      subst e
      exact o.nx _ _ _ _ _ k2 (S2.putO hioj hlj2 h1 h2 h3 h4 h5) s1.f
theorem ds_par3 (i j l : Nat) {x y z : Str} {a b c : Expr} {px py pz pt pt2 : Pos} {kt k2 : Nat} {ts : List DC} (hc : X.calm = true) (hN : X.N.Nodup) (ha : PA X [a, b, c] (rCs B W ts)) (hioi : B.ios.contains i = false := by rfl) (hioj : B.ios.contains j = false := by rfl) (hiol : B.ios.contains l = false := by rfl)
    (hi : X.N[i]? = some x := by rfl) (hj : X.N[j]? = some y := by rfl) (hlz : X.N[l]? = some z := by rfl) (hij : i ≠ j := by decide) (hil : i ≠ l := by decide) (hjl : j ≠ l := by decide)
    (hx : X.env.scope.names.lookup x = some .local := by rfl) (hy : X.env.scope.names.lookup y = some .local := by rfl) (hz : X.env.scope.names.lookup z = some .local := by rfl)
    (hw : swappedStores [.Tuple [.Name x px, .Name y py, .Name z pz] kt pt] (.Tuple [a, b, c] k2 pt2) X.env = pure (some [x, y, z]) := by rfl)
    (hs : swapsWithSole [.Tuple [.Name x px, .Name y py, .Name z pz] kt pt] (.Tuple [a, b, c] k2 pt2) pos.line X.env = pure false := by rfl) : PS X (.Assign [.Tuple [.Name x px, .Name y py, .Name z pz] kt pt] (.Tuple [a, b, c] k2 pt2) pos) (rS B W (mPar [.nm i, .nm j, .nm l] ts)) := by
  refine ps_impL (ps_par3 hc hN hi hj hlz hij hil hjl hx hy hz ha hw hs) fun D σ H hl ⟨F, L, ρ, Dd, S, q, o⟩ => ?_
  have hli : i < σ.length := by rw [hl]; exact (List.getElem?_eq_some_iff.mp hi).1
  have hlj : j < σ.length := by rw [hl]; exact (List.getElem?_eq_some_iff.mp hj).1
  have hll : l < σ.length := by rw [hl]; exact (List.getElem?_eq_some_iff.mp hlz).1
  refine ⟨F, L, ρ, _, Dd.ex, S, q, fun cs ρ1 us F1 L1 H1 k1 S1 s1 r1 nw => ?_, o.ex⟩
  obtain ⟨hl2, k1⟩ := k1
  match cs, hl2, k1, r1, nw with
  | [c1, c2, c3], _, k1, r1, nw =>
    obtain ⟨v, r, e, q1, ⟨w, r', e', q2, ⟨u, r'', e'', q3, e3, _⟩, n2⟩, n⟩ := r1
    have e3' : r'' = [] := e3
    subst e3'
    subst e''
    subst e'
    subst e
    refine ⟨v, w, u, rfl, ?_⟩
    have k2 : Dd.nx (((ρ1.set i (some c1)).set j (some c2)).set l (some c3)) := k1
    have put1 : ∀ {L : La} {σ : L2.St} {ρ : En} {c : Cell} {v : V} {m : Nat}, SR B F1 L σ H1 ρ → B.ios.contains m = false → m < σ.length → CellR B F1 L H1 c v → ∃ L2, SR B F1 L2 (σ.set m (some v)) H1 (ρ.set m (some c)) ∧ Mv B F1 L H1 F1 L2 H1 (ownA c v) := by
      intro L σ ρ c v m S hio hlt r
      cases c with
      | val z => exact ⟨_, S.put hio hlt r, mv_forget⟩
      | own ds =>
        obtain ⟨a, vs, e, h1, h2, h3, h4, h5⟩ := r
        subst e
        exact ⟨_, S.putO hio hlt h1 h2 h3 h4 h5, mv_put⟩
    obtain ⟨L2, S2, m2⟩ := put1 S1 hioi hli q1
    have q2' := m2.c _ _ q2 fun a ha hb => n a hb (List.mem_append_left _ ha)
    have q3' := m2.c _ _ q3 fun a ha hb => n a hb (List.mem_append_right _ (List.mem_append_left _ ha))
    obtain ⟨L3, S3, m3⟩ := put1 S2 hioj (by rw [List.length_set]; exact hlj) q2'
    have q3'' := m3.c _ _ q3' fun a ha hb => n2 a hb (List.mem_append_left _ ha)
    obtain ⟨L4, S4, m4⟩ := put1 S3 hiol (by rw [List.length_set, List.length_set]; exact hll) q3''
    exact o.nx _ _ _ _ _ k2 S4 s1.f
/-! ### x.append(e), x.extend(e) -/
def mApp (i : Nat) (t : DE) : DS := fun D ρ => match ρ.getD i none with
  | some (.own _) => t ρ (fun d ρ1 => match ρ1.getD i none with
    | some (.own ds) => ds.length < sizeLine ∧ D.nx (ρ1.set i (some (.own (ds ++ [d]))))
    | _ => False) D.ex
  | _ => False
theorem ds_app (i : Nat) {x : Str} {e : Expr} {t : DE} {p apos cpos : Pos} (he : PE X e (rV B W t)) (hN : X.N[i]? = some x := by rfl) (hv : Vis X.env.scope x := by first | exact Or.inl rfl | exact Or.inr (Or.inl rfl) | exact Or.inr (Or.inr rfl)) (hd : (x == ("__debug__" : Str)) = false := by decide)
    (hcd : (x == ("__classdict__" : Str)) = false := by decide) (hb : PE X (.Call (.Attribute (.Name x p) "append" apos) [e] [] cpos) (tBM X.K "list" rAppend (tVar i) (tCons (rV B W t) tNil)))
    (hs : swapsWith (.Call (.Attribute (.Name x p) "append" apos) [e] [] cpos) none pos.line X.env = pure false := by rfl) : PS X (.Expr (.Call (.Attribute (.Name x p) "append" apos) [e] [] cpos) pos) (rS B W (mApp i t)) := by
  refine ps_imp (ps_expr hb hs) fun D σ H ⟨F, L, ρ, Dd, S, q, o⟩ => ?_
  unfold mApp at q
  split at q
  · rename_i es e0
    obtain ⟨a, vs, e1, e2, e3, _⟩ := S.ow e0
    refine ⟨_, e1, .inl ⟨rfl, _, SqL.of e3⟩, F, L, ρ, _, Dd.ex, S, q, fun d ρ1 v F2 L2 H2 z S2 s2 rk => ?_, o.ex⟩
    split at z
    · rename_i ds eo
      obtain ⟨b, us, g1, g2, g3, g4, g5, g6⟩ := S2.ow eo
      have ea : L i = some b := s2.l i b g2
      rw [e2] at ea
      cases ea
      refine ⟨a, us, v, rfl, rfl, g3, by rw [← g5.length]; exact z.1, ?_⟩
      exact o.nx _ _ _ _ _ z.2 (S2.write g2 (g5.append (RpL.one rk))) s2.f
    · exact z.elim
  · exact q.elim
def mExt (i : Nat) (t : DE) : DS := fun D ρ => match ρ.getD i none with
  | some (.own _) => t ρ (fun d ρ1 => match d, ρ1.getD i none with
    | .lst es, some (.own ds) => ds.length + es.length ≤ sizeLine ∧ D.nx (ρ1.set i (some (.own (ds ++ es))))
    | _, _ => False) D.ex
  | _ => False
theorem ds_ext (i : Nat) {x : Str} {e : Expr} {t : DE} {p apos cpos : Pos} (he : PE X e (rV B W t)) (hN : X.N[i]? = some x := by rfl) (hv : Vis X.env.scope x := by first | exact Or.inl rfl | exact Or.inr (Or.inl rfl) | exact Or.inr (Or.inr rfl)) (hd : (x == ("__debug__" : Str)) = false := by decide)
    (hcd : (x == ("__classdict__" : Str)) = false := by decide) (hb : PE X (.Call (.Attribute (.Name x p) "extend" apos) [e] [] cpos) (tBM X.K "list" rExtend (tVar i) (tCons (rV B W t) tNil)))
    (hs : swapsWith (.Call (.Attribute (.Name x p) "extend" apos) [e] [] cpos) none pos.line X.env = pure false := by rfl) : PS X (.Expr (.Call (.Attribute (.Name x p) "extend" apos) [e] [] cpos) pos) (rS B W (mExt i t)) := by
  refine ps_imp (ps_expr hb hs) fun D σ H ⟨F, L, ρ, Dd, S, q, o⟩ => ?_
  unfold mExt at q
  split at q
  · rename_i es e0
    obtain ⟨a, vs, e1, e2, e3, _⟩ := S.ow e0
    refine ⟨_, e1, .inl ⟨rfl, _, SqL.of e3⟩, F, L, ρ, _, Dd.ex, S, q, fun d ρ1 v F2 L2 H2 z S2 s2 rk => ?_, o.ex⟩
    split at z
    · rename_i es' ds eo
      obtain ⟨b, us, g1, g2, g3, g4, g5, g6⟩ := S2.ow eo
      obtain ⟨c, ws, ec, hc, rc⟩ := rk
      subst ec
      have ea : L i = some b := s2.l i b g2
      rw [e2] at ea
      cases ea
      refine ⟨a, c, us, ws, rfl, rfl, g3, S2.sub _ _ hc, by rw [← g5.length, ← rc.length]; exact z.1, ?_⟩
      exact o.nx _ _ _ _ _ z.2 (S2.write g2 (g5.append rc)) s2.f
    · exact z.elim
  · exact q.elim
end
end DL
/-! The data layer: what is walked. -/
namespace DL
open PySem PySem.Spec PyProof.Rows L2
/-! ### a list or a tuple -/
def SqS (K : PySem.W.Frag) : Bool → Hp → Addr → List V → Prop
  | true, H, a, xs => SqL K H a xs
  | false, H, a, xs => SqT K H a xs
def IterS : Bool → Heap → Addr → Addr → Nat → Prop
  | true, h, it, a, i => h.IsListIter it a i
  | false, h, it, a, i => h.IsTupleIter it a i
def IsS : Bool → Heap → Addr → Array Value → Prop
  | true, h, a, its => h.IsList a its
  | false, h, a, its => h.IsTuple a its
def objS : Bool → Addr → Obj
  | true, a => { cls := .type "list_iterator", data := .fields #[.ref a, .int 0 0] }
  | false, a => { cls := .type "tuple_iterator", data := .fields #[.ref a, .int 0 0] }
theorem begins_S : ∀ (b : Bool) (a : Addr) (its : Array Value), Begins (.ref a) (objS b a) fun h => IsS b h a its
  | true, a, its => begins_list a its
  | false, a, its => begins_tuple a its
theorem draws_S {P : Program} {w : World} {A : Around} (hh : A.handled = none) : ∀ (b : Bool) (it a : Addr) (hne : a ≠ it) (its : Array Value),
    Draws P w A it [it, a] its.size (fun i v => its[i]? = some v) (fun i h => IterS b h it a i ∧ IsS b h a its)
  | true, it, a, hne, its => Draws.list hh it a hne its
  | false, it, a, hne, its => Draws.tuple hh it a hne its
theorem IterS.at : ∀ {b : Bool} {h h' : Heap} {it a : Addr} {i : Nat}, IterS b h it a i → (∀ o, h.get? it = some o → h'.get? it = some o) → IterS b h' it a i
  | true, _, _, _, _, _, x, k => Heap.IsListIter.at x k
  | false, _, _, _, _, _, x, k => Heap.IsTupleIter.at x k
theorem IterS.new : ∀ {b : Bool} {h : Heap} {it a : Addr}, h.get? it = some (objS b a) → IterS b h it a 0
  | true, _, _, _, e => ⟨_, e, rfl, rfl⟩
  | false, _, _, _, e => ⟨_, e, rfl, rfl⟩
theorem IterS.obj : ∀ {b : Bool} {h : Heap} {it a : Addr} {i : Nat}, IterS b h it a i → ∃ o, h.get? it = some o ∧ ∀ v, o.data ≠ .cell v
  | true, _, _, _, _, ⟨o, e, _, d⟩ => ⟨o, e, fun v z => by rw [d] at z; cases z⟩
  | false, _, _, _, _, ⟨o, e, _, d⟩ => ⟨o, e, fun v z => by rw [d] at z; cases z⟩
section
variable {X : Cx} {pins : List (Addr × Obj)} {σ : L2.St} {H : Hp} {s : Shared}
theorem Inv.seqS (I : Inv X pins σ H s) : ∀ {b : Bool} {a : Addr} {xs : List V}, SqS X.K b H a xs → ∃ its : List Value, Vals xs its ∧ IsS b s.heap a its.toArray ∧ a < s.heap.objs.size
  | true, _, _, h => by
    obtain ⟨its, r, p, _⟩ := I.list h
    exact ⟨its, r, p.isList, p.lt⟩
  | false, _, _, h => by
    obtain ⟨its, r, p, _⟩ := I.tuple h
    exact ⟨its, r, p, let ⟨_, e, _⟩ := p; Heap.lt_size e⟩
theorem Inv.injS (I : Inv X pins σ H s) : ∀ {b : Bool} {a : Addr} {xs ys : List V}, SqS X.K b H a xs → SqS X.K b H a ys → xs = ys
  | true, _, _, _, h, h' => I.list_inj h h'
  | false, _, _, _, h, h' => I.tuple_inj h h'
end
/-! ### a turn by the library's walks -/
/-- what a walk of new tuples is worth here -/
theorem turn_goes {P : Program} {w : World} {K : PySem.W.Frag} {tg : Expr} {J : It} {fp wr : List Addr} {it : Addr} {tn : Nat → Heap → Prop} (mem : it ∈ fp) (wf : ∀ b ∈ wr, b ∈ fp)
    (obj : ∀ i h, tn i h → ∀ b ∈ fp, ∃ o, h.get? b = some o ∧ ∀ v, o.data ≠ .cell v)
    (keep : ∀ i h h', tn i h → (∀ b ∈ fp, ∀ o, h.get? b = some o → h'.get? b = some o) → tn i h')
    (self : ∀ (A : Around) (i : Nat) (s : Shared) (Q : Value → Shared → Prop) (E : Value → Shared → Prop), tn i s.heap → Q (.ref it) s → wpAny (model P w) A (pyIter (.ref it)) Q E s)
    (W : ∀ (X : Cx), X.prog = P → X.w = w → X.K = K → ∀ (A : Around), A.handled = none → ∀ (i : Nat) (pins : List (Addr × Obj)) (s : Shared) (σ : L2.St) (H : Hp), Inv X pins σ H s → J.go i H ∨ J.stop i H → tn i s.heap →
      ∃ (fpG : List Addr) (n : Nat) (Y : Nat → Heap → Value → Heap → Prop) (St : Nat → Heap → Prop), GoesN P w A tg it fpG wr n Y St ∧ St i s.heap ∧ (J.go i H → i < n) ∧ (J.stop i H → i = n) ∧ (∀ h', St (i + 1) h' → tn (i + 1) h') ∧
        (∀ v h', Y i s.heap v h' → ∃ (T : Addr) (us : List Value) (xs : List V), v = .ref T ∧ s.heap.objs.size ≤ T ∧ h'.IsTuple T us.toArray ∧ Vals xs us ∧ xs.length ≤ sizeLine ∧ J.yld i H (.ref T) (upd H T (.tup xs)))) :
    Turn P w K tg J fp it tn where
  mem := mem
  obj := obj
  keep := keep
  item := by
    intro X hP hw hK hc i pins s σ H E I hf st hg
    obtain ⟨fpG, n, Y, St, G, hst, h1, h2, h3, h4⟩ := W X hP hw hK X.A (I.ok.hd hc) i pins s σ H I (.inl hg) st
    subst hP hw hK
    refine G.goes i s _ E (h1 hg) hst fun v h' tk hY st' hk htk => ?_
    obtain ⟨T, us, xs, ev, hT, ht, rv, hz, hy⟩ := h4 v h' hY
    subst ev
    have new : ObjOk X.prog X.w (upd H T (.tup xs)) h' T (.tup xs) := ⟨hz, us, rv, ht⟩
    have I1 : Inv X pins σ (upd H T (.tup xs)) { s with heap := h', toks := tk } := I.turnedNew (t' := tk) (ch := fp) (fun b o hb e => hk b o (fun q => hb (wf b q)) e) hf hT new
    refine ⟨.ref T, _, I1, rfl, hy, h3 h' st', fun b hb => ?_⟩
    obtain ⟨o, e, _⟩ := obj i _ st b hb
    have hlt : b < s.heap.objs.size := Heap.lt_size e
    rw [upd_ne (Nat.ne_of_lt (Nat.lt_of_lt_of_le hlt hT))]
    exact (hf b hb).1
  done := by
    intro X hP hw hK hc i pins s σ H E I hf st hg
    obtain ⟨fpG, n, Y, St, G, hst, h1, h2, h3, h4⟩ := W X hP hw hK X.A (I.ok.hd hc) i pins s σ H I (.inr hg) st
    have e := h2 hg
    subst e
    subst hP hw hK
    refine thn (G.stops s (fun s₁ => Inv X pins σ H s₁) E hst fun h' tk hk htk => ?_) fun r s1 q => q
    exact I.turnedL (t' := tk) (ch := fp) (fun b o hb e => hk b o (fun q => hb (wf b q)) e) hf
  self := self
/-! ### a list or a tuple itself -/
def iSeq (K : PySem.W.Frag) (tl : TE) : TI := fun σ H R => tl σ H fun x H1 => ∃ a, x = .ref a ∧ (((∃ xs, SqL K H1 a xs) ∧ R (Itl K a) H1) ∨ ((∃ xs, SqT K H1 a xs) ∧ R (Itt K a) H1))
theorem pi_seq {X : Cx} {tg l : Expr} {tl : TE} (hl : PE X l tl) : PI X tg l (iSeq X.K tl) := by
  refine ⟨fun pins s σ H R I h => ?_⟩
  refine thn (hl.run pins s σ H _ I h) fun v s1 ⟨x, H1, I1, r1, q1⟩ => ?_
  obtain ⟨a, e, q1⟩ := q1
  subst e
  cases r1
  rcases q1 with ⟨⟨xs, hq⟩, q⟩ | ⟨⟨xs, hq⟩, q⟩
  · obtain ⟨its, rv, p, hz⟩ := I1.list hq
    refine wpAny_pyIter_list p.isList ?_
    refine ⟨s1.heap.objs.size, [s1.heap.objs.size], _, _, H1, rfl, I1.kept (t' := s1.toks) fun b o e => Heap.get?_push_of_some _ e, turn_list a _, ⟨_, Heap.get?_push_size _ rfl, rfl, rfl⟩, fun b hb => ?_, q⟩
    have e : b = s1.heap.objs.size := by simpa using hb
    subst e
    exact I1.fpOk (Nat.le_refl _) (I1.hok.fresh (Nat.le_refl _))
  · obtain ⟨its, rv, p, hz⟩ := I1.tuple hq
    refine wpAny_pyIter_tuple (show s1.heap.IsTuple a its.toArray from p) ?_
    refine ⟨s1.heap.objs.size, [s1.heap.objs.size], _, _, H1, rfl, I1.kept (t' := s1.toks) fun b o e => Heap.get?_push_of_some _ e, turn_tuple a _, ⟨_, Heap.get?_push_size _ rfl, rfl, rfl⟩, fun b hb => ?_, q⟩
    have e : b = s1.heap.objs.size := by simpa using hb
    subst e
    exact I1.fpOk (Nat.le_refl _) (I1.hok.fresh (Nat.le_refl _))
/-! ### enumerate -/
def ItE (K : PySem.W.Frag) (b : Bool) (a : Addr) : It :=
  ⟨fun i H => ∃ (xs : List V) (x : V), SqS K b H a xs ∧ xs[i]? = some x, fun i H v H' => ∃ T x, v = .ref T ∧ H T = none ∧ H' = upd H T (.tup [.int (i : Nat), x]) ∧ ∀ xs, SqS K b H a xs → xs[i]? = some x, fun i H => ∃ xs : List V, SqS K b H a xs ∧ i = xs.length⟩
theorem turn_enumS {P : Program} {w : World} {K : PySem.W.Frag} {elts : List Expr} {kk : Nat} {tpos : Pos} {b : Bool} {a e it N : Addr} (hit : it < N) (ha : a < N) (hai : a ≠ it) (hei : e ≠ it) (hea : e ≠ a) :
    Turn P w K (.Tuple elts kk tpos) (ItE K b a) [e, it] e (fun i h => (∃ old, IsEnum h e it ((i : Nat) : Int) old) ∧ IterS b h it a i) := by
  refine turn_goes (wr := [e, it]) (by simp) (fun _ h => h) (fun i h st c hb => ?_) (fun i h h' st k => ?_) (fun A i s Q E st h => ?_) fun X hP hw hK A hh i pins s σ H I hg st => ?_
  · obtain ⟨⟨old, he⟩, hi⟩ := st
    have e' : c = e ∨ c = it := by simpa using hb
    rcases e' with z | z
    · rw [z]; exact ⟨_, he, fun v q => nomatch q⟩
    · rw [z]; exact hi.obj
  · obtain ⟨⟨old, he⟩, hi⟩ := st
    exact ⟨⟨old, k e (by simp) _ he⟩, hi.at fun o q => k it (by simp) o q⟩
  · obtain ⟨⟨_, he⟩, _⟩ := st
    exact wpAny_pyIter_enum he h
  · subst hP hw hK
    have hsrc : ∃ xs, SqS X.K b H a xs := by
      rcases hg with ⟨xs, x, q, _⟩ | ⟨xs, q, _⟩
      · exact ⟨xs, q⟩
      · exact ⟨xs, q⟩
    obtain ⟨xs, hq⟩ := hsrc
    obtain ⟨its, rv, p, hlt⟩ := Inv.seqS I hq
    have D := draws_S (P := X.prog) (w := X.w) (A := A.in1) (show A.in1.handled = none from hh) b it a hai its.toArray
    have G := GoesN.enumFrom (elts := elts) (x1 := kk) (pos := tpos) 0 D e hei (by simp [hei, hea]) (by simp)
    have z0 : ∀ j : Nat, (0 : Int) + (j : Int) = (j : Int) := fun j => by omega
    refine ⟨_, _, _, _, G, ⟨?_, st.2, p⟩, fun ⟨ys, x, q, hx⟩ => ?_, fun ⟨ys, q, hl⟩ => ?_, fun h' st' => ?_, fun v h' hY => ?_⟩
    · obtain ⟨old, he⟩ := st.1
      exact ⟨old, by rw [z0]; exact he⟩
    · have e1 := Inv.injS I q hq
      subst e1
      have := (List.getElem?_eq_some_iff.mp hx).1
      rw [List.size_toArray, ← rv.length]
      exact this
    · have e1 := Inv.injS I q hq
      subst e1
      rw [List.size_toArray, ← rv.length]
      exact hl
    · obtain ⟨⟨old, he⟩, hi, _⟩ := st'
      exact ⟨⟨old, by rw [z0] at he; exact he⟩, hi⟩
    · obtain ⟨T, t, x, ev, hT, hx, ht⟩ := hY
      have hx' : its[i]? = some x := by simpa using hx
      have hi : i < xs.length := by rw [rv.length]; exact (List.getElem?_eq_some_iff.mp hx').1
      obtain ⟨u, hu, ru⟩ := rv.get (List.getElem?_eq_getElem hi)
      rw [hx'] at hu
      cases hu
      rw [z0] at ht
      exact ⟨T, [.int i t, x], [.int (i : Nat), xs[i]], ev, hT, ht, .cons ⟨_, rfl⟩ (.cons ru .nil), by show 2 ≤ sizeLine; decide, T, xs[i], rfl, I.hok.fresh hT, rfl, fun ys hy => by rw [Inv.injS I hy hq]; exact List.getElem?_eq_getElem hi⟩
def iEnumS (K : PySem.W.Frag) (ta : TA) : TI := fun σ H R => ta σ H fun vs H1 => ∃ b a xs, vs = [.ref a] ∧ SqS K b H1 a xs ∧ R (ItE K b a) H1
end DL
namespace DL
open PySem PySem.Spec PyProof.Rows L2
theorem meets_enum1 {v : Value} {o : Obj} {H : Heap → Prop} (B : Begins v o H) :
    Meets (Builtin.«enumerate.__new__» ⟨[.type "enumerate", v], []⟩) (fun _ R s => H s.heap ∧
      R (.ok (.ret (.ref (s.heap.push o).objs.size))) { s with heap := (s.heap.push o).push { cls := .type "enumerate", data := .fields #[.none, .bool false, .ref s.heap.objs.size, rawInt 0, .none, .none] } }) :=
  .of_wp fun prog w A R s h => by
    obtain ⟨hp, g, d, tk, os⟩ := s; obtain ⟨h1, h⟩ := h
    have hsub := sub_enumerate
    have q1 : ∀ {A' : Around} {E : Value → Shared → Prop} {Q : Value → Shared → Prop}, Q (.ref hp.objs.size) ⟨hp.push o, g, d, tk, os⟩ → wpAny (model prog w) A' (pyIter v) Q E ⟨hp, g, d, tk, os⟩ :=
      fun q => B.iter prog w _ _ ⟨hp, g, d, tk, os⟩ _ h1 q
    wp_walk using q1
    refine wpAny_stack_any fun st => wpAny_pure ?_
    split
    · rename_i c _ _ _ _ _
      cases (c == Value.type "enumerate")
      · wp_walk using q1
        exact ⟨_, rfl, h⟩
      · wp_walk using q1
        exact ⟨_, rfl, h⟩
    · wp_walk using q1
      exact ⟨_, rfl, h⟩
section
variable {prog : Program} {w : World} {A : Around} {E : Value → Shared → Prop} {s : Shared}
theorem enum_begins1 {v : Value} {o : Obj} {H : Heap → Prop} {Q : Value → Shared → Prop} (B : Begins v o H) (h1 : H s.heap)
    (h : ∀ h', IsEnum h' (s.heap.objs.size + 1) s.heap.objs.size 0 .none → h'.get? s.heap.objs.size = some o → h'.objs.size = s.heap.objs.size + 2 →
      (∀ b o, s.heap.get? b = some o → h'.get? b = some o) → Q (.ref (s.heap.objs.size + 1)) { s with heap := h' }) :
    wpAny (model prog w) A (call (.type "enumerate") [v]) Q E s := by
  refine callType_new F.called_enumerate (by decide) (F.typeCall_enumerate_1 _) (F.newCall_enumerate_1 _) (fun obj => F.args_object_init_2 obj _) F.entry_enumerate_new
    (meets_enum1 B) ⟨h1, ?_⟩
  have hz : (s.heap.push o).objs.size = s.heap.objs.size + 1 := Heap.size_push ..
  show _ ∧ _
  rw [hz]
  have he : IsEnum ((s.heap.push o).push { cls := .type "enumerate", data := .fields #[.none, .bool false, .ref s.heap.objs.size, rawInt 0, .none, .none] }) (s.heap.objs.size + 1) s.heap.objs.size 0 .none := by
    have := Heap.get?_push_size (s.heap.push o) (o := { cls := .type "enumerate", data := .fields #[.none, .bool false, .ref s.heap.objs.size, rawInt 0, .none, .none] }) rfl
    rw [hz] at this; exact this
  refine ⟨⟨_, he, rfl⟩, h _ he (Heap.get?_push_of_some _ (Heap.get?_push_size _ B.free)) (by rw [Heap.size_push, hz]) fun b o x => Heap.get?_push_of_some _ (Heap.get?_push_of_some _ x)⟩
end
section
variable {X : Cx}
theorem pi_enumS {e : Expr} {ta : TA} {p pos tpos : Pos} {elts : List Expr} {kk : Nat} (hm : X.mg "enumerate" = none) (ha : PA X [e] ta) (hg : Gl X "enumerate" := by rfl) (hs : starEach [e] X.env = [(false, eval e X.env)] := by rfl) :
    PI X (.Tuple elts kk tpos) (.Call (.Name "enumerate" p) [e] [] pos) (iEnumS X.K ta) := by
  refine ⟨fun pins s σ H R I h => ?_⟩
  refine Call_ (ld_blt I hg hm boot_enumerate (PyProof.Rows.callWith_type1 (thn (ha.run pos pins s σ H _ I h) fun us s1 ⟨vs, H1, I1, r1, q1⟩ => ?_) hs rfl))
  obtain ⟨b, a, xs, ex, hq, q⟩ := q1
  subst ex
  cases r1 with
  | cons r rr =>
    cases rr
    cases r
    obtain ⟨its, rv, p', hlt⟩ := Inv.seqS I1 hq
    refine enum_begins1 (begins_S b a its.toArray) p' fun h' he hit hsz hk => wpAny_pyIter_enum he ?_
    have I2 : Inv X pins σ H1 { s1 with heap := h' } := I1.kept (t' := s1.toks) hk
    have hlt' : (a : Nat) < s1.heap.objs.size := hlt
    refine ⟨s1.heap.objs.size + 1, [s1.heap.objs.size + 1, s1.heap.objs.size], _, _, H1, rfl, I2, turn_enumS (N := s1.heap.objs.size + 1) (b := b) (a := a) (e := s1.heap.objs.size + 1) (it := s1.heap.objs.size) (Nat.lt_succ_self _) (Nat.lt_succ_of_lt hlt) (Nat.ne_of_lt hlt) (Nat.succ_ne_self _) (Nat.ne_of_gt (Nat.lt_succ_of_lt hlt)), ⟨⟨.none, he⟩, IterS.new hit⟩, fun c hb => ?_, q⟩
    have e' : c = s1.heap.objs.size + 1 ∨ c = s1.heap.objs.size := by simpa using hb
    have hle : s1.heap.objs.size ≤ c := by
      rcases e' with z | z
      · rw [z]; exact Nat.le_add_right _ _
      · rw [z]; exact Nat.le_refl _
    exact I1.fpOk hle (I1.hok.fresh hle)
end
/-! ### zip of two, of three -/
def ItZ2 (K : PySem.W.Frag) (b1 b2 : Bool) (a1 a2 : Addr) : It :=
  ⟨fun i H => ∃ (xs ys : List V) (x y : V), SqS K b1 H a1 xs ∧ SqS K b2 H a2 ys ∧ xs[i]? = some x ∧ ys[i]? = some y,
    fun i H v H' => ∃ T x y, v = .ref T ∧ H T = none ∧ H' = upd H T (.tup [x, y]) ∧ (∀ xs, SqS K b1 H a1 xs → xs[i]? = some x) ∧ ∀ ys, SqS K b2 H a2 ys → ys[i]? = some y,
    fun i H => ∃ xs ys : List V, SqS K b1 H a1 xs ∧ SqS K b2 H a2 ys ∧ i = min xs.length ys.length⟩
theorem sep2 {z TI TO i1 i2 a1 a2 N : Nat} (h1 : a1 < N) (h2 : a2 < N) (e1 : i1 = N) (e2 : i2 = N + 1) (e3 : TI = N + 2) (e4 : TO = N + 3) (e5 : z = N + 4) : ZipSep2 z TI TO i1 i2 [i1, a1] [i2, a2] := by
  subst e1 e2 e3 e4 e5
  exact zip_sep2 (fp1 := [a1]) (fp2 := [a2]) (fun b hb => by have e := List.mem_singleton.mp hb; rw [e]; assumption) (fun b hb => by have e := List.mem_singleton.mp hb; rw [e]; assumption)
theorem turn_zip2S {P : Program} {w : World} {K : PySem.W.Frag} {elts : List Expr} {kk : Nat} {tpos : Pos} {b1 b2 : Bool} {a1 a2 N : Addr} (h1 : a1 < N) (h2 : a2 < N) :
    Turn P w K (.Tuple elts kk tpos) (ItZ2 K b1 b2 a1 a2) [N + 4, N + 2, N + 3, N, N + 1] (N + 4)
      (fun i h => IsZip h (N + 4) (N + 2) (N + 3) .none ∧ IsTupOf2 h (N + 2) (.ref N) (.ref (N + 1)) ∧ (∃ x y, IsTupOf2 h (N + 3) x y) ∧ IterS b1 h N a1 i ∧ IterS b2 h (N + 1) a2 i) := by
  have h1' : (a1 : Nat) < N := h1
  have h2' : (a2 : Nat) < N := h2
  refine turn_goes (wr := [N + 4, N + 3, N, N + 1]) (by simp) (fun c hc => ?_) (fun i h st c hb => ?_) (fun i h h' st k => ?_) (fun A i s Q E st h => ?_) fun X hP hw hK A hh i pins s σ H I hg st => ?_
  · have e : c = N + 4 ∨ c = N + 3 ∨ c = N ∨ c = N + 1 := by simpa using hc
    rcases e with e | e | e | e <;> (rw [e]; simp)
  · obtain ⟨hz, hTI, ⟨x, y, hTO⟩, q1, q2⟩ := st
    have e : c = N + 4 ∨ c = N + 2 ∨ c = N + 3 ∨ c = N ∨ c = N + 1 := by simpa using hb
    rcases e with e | e | e | e | e
    · rw [e]; exact ⟨_, hz, fun v q => nomatch q⟩
    · rw [e]; exact ⟨_, hTI, fun v q => nomatch q⟩
    · rw [e]; exact ⟨_, hTO, fun v q => nomatch q⟩
    · rw [e]; exact q1.obj
    · rw [e]; exact q2.obj
  · obtain ⟨hz, hTI, ⟨x, y, hTO⟩, q1, q2⟩ := st
    exact ⟨k _ (by simp) _ hz, k _ (by simp) _ hTI, ⟨x, y, k _ (by simp) _ hTO⟩, q1.at fun o q => k _ (by simp) o q, q2.at fun o q => k _ (by simp) o q⟩
  · exact wpAny_pyIter_zip st.1 h
  · subst hP hw hK
    obtain ⟨hz, hTI, hTO, q1, q2⟩ := st
    have hsrc : ∃ xs ys, SqS X.K b1 H a1 xs ∧ SqS X.K b2 H a2 ys := by
      rcases hg with ⟨xs, ys, _, _, q1, q2, _⟩ | ⟨xs, ys, q1, q2, _⟩
      · exact ⟨xs, ys, q1, q2⟩
      · exact ⟨xs, ys, q1, q2⟩
    obtain ⟨xs, ys, hx, hy⟩ := hsrc
    obtain ⟨its, rv, p, _⟩ := Inv.seqS I hx
    obtain ⟨its2, rv2, p2, _⟩ := Inv.seqS I hy
    have D1 := draws_S (P := X.prog) (w := X.w) (A := A.in1) (show A.in1.handled = none from hh) b1 N a1 (Nat.ne_of_lt h1) its.toArray
    have D2 := draws_S (P := X.prog) (w := X.w) (A := A.in1) (show A.in1.handled = none from hh) b2 (N + 1) a2 (Nat.ne_of_lt (Nat.lt_succ_of_lt h2)) its2.toArray
    have G := GoesN.zip2 (elts := elts) (x1 := kk) (pos := tpos) (sep2 (z := N + 4) (TI := N + 2) (TO := N + 3) (i1 := N) (i2 := N + 1) h1 h2 rfl rfl rfl rfl rfl) D1 D2
    have e1 : its.toArray.size = xs.length := by rw [List.size_toArray, ← rv.length]
    have e2 : its2.toArray.size = ys.length := by rw [List.size_toArray, ← rv2.length]
    refine ⟨_, _, _, _, G, ⟨hz, hTI, hTO, ⟨q1, p⟩, ⟨q2, p2⟩⟩, fun ⟨us, ws, x, y, g1, g2, g3, g4⟩ => ?_, fun ⟨us, ws, g1, g2, hl⟩ => ?_, fun h' st' => ?_, fun v h' hY => ?_⟩
    · have z1 := Inv.injS I g1 hx
      have z2 := Inv.injS I g2 hy
      subst z1
      subst z2
      have l1 := (List.getElem?_eq_some_iff.mp g3).1
      have l2 := (List.getElem?_eq_some_iff.mp g4).1
      rw [e1, e2]
      omega
    · have z1 := Inv.injS I g1 hx
      have z2 := Inv.injS I g2 hy
      subst z1
      subst z2
      rw [e1, e2]
      exact hl
    · obtain ⟨a, b, c, d, e⟩ := st'
      exact ⟨a, b, c, d.1, e.1⟩
    · obtain ⟨T, x, y, ev, hT, g1, g2, ht⟩ := hY
      have g1' : its[i]? = some x := by simpa using g1
      have g2' : its2[i]? = some y := by simpa using g2
      have l1 : i < xs.length := by rw [rv.length]; exact (List.getElem?_eq_some_iff.mp g1').1
      have l2 : i < ys.length := by rw [rv2.length]; exact (List.getElem?_eq_some_iff.mp g2').1
      obtain ⟨u, hu, ru⟩ := rv.get (List.getElem?_eq_getElem l1)
      obtain ⟨u2, hu2, ru2⟩ := rv2.get (List.getElem?_eq_getElem l2)
      rw [g1'] at hu
      rw [g2'] at hu2
      cases hu
      cases hu2
      exact ⟨T, [x, y], [xs[i], ys[i]], ev, hT, ht, .cons ru (.cons ru2 .nil), by show 2 ≤ sizeLine; decide, T, xs[i], ys[i], rfl, I.hok.fresh hT, rfl, fun l hl => by rw [Inv.injS I hl hx]; exact List.getElem?_eq_getElem l1, fun l hl => by rw [Inv.injS I hl hy]; exact List.getElem?_eq_getElem l2⟩
def iZip2 (K : PySem.W.Frag) (ta : TA) : TI := fun σ H R => ta σ H fun vs H1 => ∃ b1 b2 a1 a2 xs ys, vs = [.ref a1, .ref a2] ∧ SqS K b1 H1 a1 xs ∧ SqS K b2 H1 a2 ys ∧ R (ItZ2 K b1 b2 a1 a2) H1
section
variable {X : Cx}
theorem fp_above {pins : List (Addr × Obj)} {σ : L2.St} {H : Hp} {s : Shared} {l : List Addr} (I : Inv X pins σ H s) (h : ∀ c ∈ l, s.heap.objs.size ≤ c) : ∀ c ∈ l, FpOk X pins H c := fun c hc => I.fpOk (h c hc) (I.hok.fresh (h c hc))
theorem pi_zip2S {e e2 : Expr} {ta : TA} {p pos tpos : Pos} {elts : List Expr} {kk : Nat} (hm : X.mg "zip" = none) (ha : PA X [e, e2] ta) (hg : Gl X "zip" := by rfl)
    (hs : starEach [e, e2] X.env = (false, eval e X.env) :: starEach [e2] X.env := by rfl) (hpl : (backTo pos (starEach [e2] X.env)).any (·.1) = false := by rfl) :
    PI X (.Tuple elts kk tpos) (.Call (.Name "zip" p) [e, e2] [] pos) (iZip2 X.K ta) := by
  refine ⟨fun pins s σ H R I h => ?_⟩
  refine Call_ (ld_blt I hg hm PyProof.Rows.boot_zip (PyProof.Rows.callWith_type1 (thn (ha.run pos pins s σ H _ I h) fun us s1 ⟨vs, H1, I1, r1, q1⟩ => ?_) hs hpl))
  obtain ⟨b1, b2, a1, a2, xs, ys, ex, hx, hy, q⟩ := q1
  subst ex
  cases r1 with
  | cons r rr =>
    cases rr with
    | cons r' rr =>
      cases rr
      cases r
      cases r'
      obtain ⟨its, rv, p1, l1⟩ := Inv.seqS I1 hx
      obtain ⟨its2, rv2, p2, l2⟩ := Inv.seqS I1 hy
      refine zip_begins2 (begins_S b1 a1 its.toArray) (begins_S b2 a2 its2.toArray) p1 p2 fun h' hz hTI hTO g1 g2 hsz hk => wpAny_pyIter_zip hz ?_
      have I2 : Inv X pins σ H1 { s1 with heap := h' } := I1.kept (t' := s1.toks) hk
      refine ⟨s1.heap.objs.size + 4, _, _, _, H1, rfl, I2, turn_zip2S (b1 := b1) (b2 := b2) l1 l2, ⟨hz, hTI, ⟨_, _, hTO⟩, IterS.new g1, IterS.new g2⟩, fp_above I1 fun c hc => ?_, q⟩
      have e' : c = s1.heap.objs.size + 4 ∨ c = s1.heap.objs.size + 2 ∨ c = s1.heap.objs.size + 3 ∨ c = s1.heap.objs.size ∨ c = s1.heap.objs.size + 1 := by simpa using hc
      rcases e' with z | z | z | z | z
      · rw [z]; exact Nat.le_add_right _ _
      · rw [z]; exact Nat.le_add_right _ _
      · rw [z]; exact Nat.le_add_right _ _
      · rw [z]; exact Nat.le_refl _
      · rw [z]; exact Nat.le_add_right _ _
end
def ItZ3 (K : PySem.W.Frag) (b1 b2 b3 : Bool) (a1 a2 a3 : Addr) : It :=
  ⟨fun i H => ∃ (xs ys zs : List V) (x y z : V), SqS K b1 H a1 xs ∧ SqS K b2 H a2 ys ∧ SqS K b3 H a3 zs ∧ xs[i]? = some x ∧ ys[i]? = some y ∧ zs[i]? = some z,
    fun i H v H' => ∃ T x y z, v = .ref T ∧ H T = none ∧ H' = upd H T (.tup [x, y, z]) ∧ (∀ xs, SqS K b1 H a1 xs → xs[i]? = some x) ∧ (∀ ys, SqS K b2 H a2 ys → ys[i]? = some y) ∧ ∀ zs, SqS K b3 H a3 zs → zs[i]? = some z,
    fun i H => ∃ xs ys zs : List V, SqS K b1 H a1 xs ∧ SqS K b2 H a2 ys ∧ SqS K b3 H a3 zs ∧ i = min (min xs.length ys.length) zs.length⟩
theorem sep3 {z TI TO i1 i2 i3 a1 a2 a3 N : Nat} (h1 : a1 < N) (h2 : a2 < N) (h3 : a3 < N) (e1 : i1 = N) (e2 : i2 = N + 1) (e3 : i3 = N + 2) (e4 : TI = N + 3) (e5 : TO = N + 4) (e6 : z = N + 5) : ZipSep3 z TI TO i1 i2 i3 [i1, a1] [i2, a2] [i3, a3] := by
  subst e1 e2 e3 e4 e5 e6
  exact zip_sep3 (fp1 := [a1]) (fp2 := [a2]) (fp3 := [a3]) (fun b hb => by have e := List.mem_singleton.mp hb; rw [e]; assumption) (fun b hb => by have e := List.mem_singleton.mp hb; rw [e]; assumption) (fun b hb => by have e := List.mem_singleton.mp hb; rw [e]; assumption)
theorem turn_zip3S {P : Program} {w : World} {K : PySem.W.Frag} {elts : List Expr} {kk : Nat} {tpos : Pos} {b1 b2 b3 : Bool} {a1 a2 a3 N : Addr} (h1 : a1 < N) (h2 : a2 < N) (h3 : a3 < N) :
    Turn P w K (.Tuple elts kk tpos) (ItZ3 K b1 b2 b3 a1 a2 a3) [N + 5, N + 3, N + 4, N, N + 1, N + 2] (N + 5)
      (fun i h => IsZip h (N + 5) (N + 3) (N + 4) .none ∧ IsTupOf3 h (N + 3) (.ref N) (.ref (N + 1)) (.ref (N + 2)) ∧ (∃ x y z, IsTupOf3 h (N + 4) x y z) ∧ IterS b1 h N a1 i ∧ IterS b2 h (N + 1) a2 i ∧ IterS b3 h (N + 2) a3 i) := by
  have h1' : (a1 : Nat) < N := h1
  have h2' : (a2 : Nat) < N := h2
  have h3' : (a3 : Nat) < N := h3
  refine turn_goes (wr := [N + 5, N + 4, N, N + 1, N + 2]) (by simp) (fun c hc => ?_) (fun i h st c hb => ?_) (fun i h h' st k => ?_) (fun A i s Q E st h => ?_) fun X hP hw hK A hh i pins s σ H I hg st => ?_
  · have e : c = N + 5 ∨ c = N + 4 ∨ c = N ∨ c = N + 1 ∨ c = N + 2 := by simpa using hc
    rcases e with e | e | e | e | e <;> (rw [e]; simp)
  · obtain ⟨hz, hTI, ⟨x, y, z, hTO⟩, q1, q2, q3⟩ := st
    have e : c = N + 5 ∨ c = N + 3 ∨ c = N + 4 ∨ c = N ∨ c = N + 1 ∨ c = N + 2 := by simpa using hb
    rcases e with e | e | e | e | e | e
    · rw [e]; exact ⟨_, hz, fun v q => nomatch q⟩
    · rw [e]; exact ⟨_, hTI, fun v q => nomatch q⟩
    · rw [e]; exact ⟨_, hTO, fun v q => nomatch q⟩
    · rw [e]; exact q1.obj
    · rw [e]; exact q2.obj
    · rw [e]; exact q3.obj
  · obtain ⟨hz, hTI, ⟨x, y, z, hTO⟩, q1, q2, q3⟩ := st
    exact ⟨k _ (by simp) _ hz, k _ (by simp) _ hTI, ⟨x, y, z, k _ (by simp) _ hTO⟩, q1.at fun o q => k _ (by simp) o q, q2.at fun o q => k _ (by simp) o q, q3.at fun o q => k _ (by simp) o q⟩
  · exact wpAny_pyIter_zip st.1 h
  · subst hP hw hK
    obtain ⟨hz, hTI, hTO, q1, q2, q3⟩ := st
    have hsrc : ∃ xs ys zs, SqS X.K b1 H a1 xs ∧ SqS X.K b2 H a2 ys ∧ SqS X.K b3 H a3 zs := by
      rcases hg with ⟨xs, ys, zs, _, _, _, q1, q2, q3, _⟩ | ⟨xs, ys, zs, q1, q2, q3, _⟩
      · exact ⟨xs, ys, zs, q1, q2, q3⟩
      · exact ⟨xs, ys, zs, q1, q2, q3⟩
    obtain ⟨xs, ys, zs, hx, hy, hw⟩ := hsrc
    obtain ⟨its, rv, p, _⟩ := Inv.seqS I hx
    obtain ⟨its2, rv2, p2, _⟩ := Inv.seqS I hy
    obtain ⟨its3, rv3, p3, _⟩ := Inv.seqS I hw
    have hh' : A.in1.handled = none := hh
    have D1 := draws_S (P := X.prog) (w := X.w) (A := A.in1) hh' b1 N a1 (Nat.ne_of_lt h1) its.toArray
    have D2 := draws_S (P := X.prog) (w := X.w) (A := A.in1) hh' b2 (N + 1) a2 (Nat.ne_of_lt (Nat.lt_succ_of_lt h2)) its2.toArray
    have D3 := draws_S (P := X.prog) (w := X.w) (A := A.in1) hh' b3 (N + 2) a3 (Nat.ne_of_lt (Nat.lt_succ_of_lt (Nat.lt_succ_of_lt h3))) its3.toArray
    have G := GoesN.zip3 (elts := elts) (x1 := kk) (pos := tpos) (sep3 (z := N + 5) (TI := N + 3) (TO := N + 4) (i1 := N) (i2 := N + 1) (i3 := N + 2) h1 h2 h3 rfl rfl rfl rfl rfl rfl) D1 D2 D3
    have e1 : its.toArray.size = xs.length := by rw [List.size_toArray, ← rv.length]
    have e2 : its2.toArray.size = ys.length := by rw [List.size_toArray, ← rv2.length]
    have e3 : its3.toArray.size = zs.length := by rw [List.size_toArray, ← rv3.length]
    refine ⟨_, _, _, _, G, ⟨hz, hTI, hTO, ⟨q1, p⟩, ⟨q2, p2⟩, ⟨q3, p3⟩⟩, fun ⟨us, ws, ts, x, y, z, g1, g2, g3, g4, g5, g6⟩ => ?_, fun ⟨us, ws, ts, g1, g2, g3, hl⟩ => ?_, fun h' st' => ?_, fun v h' hY => ?_⟩
    · have z1 := Inv.injS I g1 hx
      have z2 := Inv.injS I g2 hy
      have z3 := Inv.injS I g3 hw
      subst z1
      subst z2
      subst z3
      have l1 := (List.getElem?_eq_some_iff.mp g4).1
      have l2 := (List.getElem?_eq_some_iff.mp g5).1
      have l3 := (List.getElem?_eq_some_iff.mp g6).1
      rw [e1, e2, e3]
      omega
    · have z1 := Inv.injS I g1 hx
      have z2 := Inv.injS I g2 hy
      have z3 := Inv.injS I g3 hw
      subst z1
      subst z2
      subst z3
      rw [e1, e2, e3]
      exact hl
    · obtain ⟨a, b, c, d, e, f⟩ := st'
      exact ⟨a, b, c, d.1, e.1, f.1⟩
    · obtain ⟨T, x, y, z, ev, hT, g1, g2, g3, ht⟩ := hY
      have g1' : its[i]? = some x := by simpa using g1
      have g2' : its2[i]? = some y := by simpa using g2
      have g3' : its3[i]? = some z := by simpa using g3
      have l1 : i < xs.length := by rw [rv.length]; exact (List.getElem?_eq_some_iff.mp g1').1
      have l2 : i < ys.length := by rw [rv2.length]; exact (List.getElem?_eq_some_iff.mp g2').1
      have l3 : i < zs.length := by rw [rv3.length]; exact (List.getElem?_eq_some_iff.mp g3').1
      obtain ⟨u, hu, ru⟩ := rv.get (List.getElem?_eq_getElem l1)
      obtain ⟨u2, hu2, ru2⟩ := rv2.get (List.getElem?_eq_getElem l2)
      obtain ⟨u3, hu3, ru3⟩ := rv3.get (List.getElem?_eq_getElem l3)
      rw [g1'] at hu
      rw [g2'] at hu2
      rw [g3'] at hu3
      cases hu
      cases hu2
      cases hu3
      exact ⟨T, [x, y, z], [xs[i], ys[i], zs[i]], ev, hT, ht, .cons ru (.cons ru2 (.cons ru3 .nil)), by show 3 ≤ sizeLine; decide, T, xs[i], ys[i], zs[i], rfl, I.hok.fresh hT, rfl, fun l hl => by rw [Inv.injS I hl hx]; exact List.getElem?_eq_getElem l1, fun l hl => by rw [Inv.injS I hl hy]; exact List.getElem?_eq_getElem l2, fun l hl => by rw [Inv.injS I hl hw]; exact List.getElem?_eq_getElem l3⟩
def iZip3 (K : PySem.W.Frag) (ta : TA) : TI := fun σ H R => ta σ H fun vs H1 => ∃ b1 b2 b3 a1 a2 a3 xs ys zs, vs = [.ref a1, .ref a2, .ref a3] ∧ SqS K b1 H1 a1 xs ∧ SqS K b2 H1 a2 ys ∧ SqS K b3 H1 a3 zs ∧ R (ItZ3 K b1 b2 b3 a1 a2 a3) H1
section
variable {X : Cx}
theorem pi_zip3S {e e2 e3 : Expr} {ta : TA} {p pos tpos : Pos} {elts : List Expr} {kk : Nat} (hm : X.mg "zip" = none) (ha : PA X [e, e2, e3] ta) (hg : Gl X "zip" := by rfl)
    (hs : starEach [e, e2, e3] X.env = (false, eval e X.env) :: starEach [e2, e3] X.env := by rfl) (hpl : (backTo pos (starEach [e2, e3] X.env)).any (·.1) = false := by rfl) :
    PI X (.Tuple elts kk tpos) (.Call (.Name "zip" p) [e, e2, e3] [] pos) (iZip3 X.K ta) := by
  refine ⟨fun pins s σ H R I h => ?_⟩
  refine Call_ (ld_blt I hg hm PyProof.Rows.boot_zip (PyProof.Rows.callWith_type1 (thn (ha.run pos pins s σ H _ I h) fun us s1 ⟨vs, H1, I1, r1, q1⟩ => ?_) hs hpl))
  obtain ⟨b1, b2, b3, a1, a2, a3, xs, ys, zs, ex, hx, hy, hw, q⟩ := q1
  subst ex
  cases r1 with
  | cons r rr =>
    cases rr with
    | cons r' rr =>
      cases rr with
      | cons r'' rr =>
        cases rr
        cases r
        cases r'
        cases r''
        obtain ⟨its, rv, p1, l1⟩ := Inv.seqS I1 hx
        obtain ⟨its2, rv2, p2, l2⟩ := Inv.seqS I1 hy
        obtain ⟨its3, rv3, p3, l3⟩ := Inv.seqS I1 hw
        refine zip_begins3 (begins_S b1 a1 its.toArray) (begins_S b2 a2 its2.toArray) (begins_S b3 a3 its3.toArray) p1 p2 p3 fun h' hz hTI hTO g1 g2 g3 hsz hk => wpAny_pyIter_zip hz ?_
        have I2 : Inv X pins σ H1 { s1 with heap := h' } := I1.kept (t' := s1.toks) hk
        refine ⟨s1.heap.objs.size + 5, _, _, _, H1, rfl, I2, turn_zip3S (b1 := b1) (b2 := b2) (b3 := b3) l1 l2 l3, ⟨hz, hTI, ⟨_, _, _, hTO⟩, IterS.new g1, IterS.new g2, IterS.new g3⟩, fp_above I1 fun c hc => ?_, q⟩
        have e' : c = s1.heap.objs.size + 5 ∨ c = s1.heap.objs.size + 3 ∨ c = s1.heap.objs.size + 4 ∨ c = s1.heap.objs.size ∨ c = s1.heap.objs.size + 1 ∨ c = s1.heap.objs.size + 2 := by simpa using hc
        rcases e' with z | z | z | z | z | z
        · rw [z]; exact Nat.le_add_right _ _
        · rw [z]; exact Nat.le_add_right _ _
        · rw [z]; exact Nat.le_add_right _ _
        · rw [z]; exact Nat.le_refl _
        · rw [z]; exact Nat.le_add_right _ _
        · rw [z]; exact Nat.le_add_right _ _
end
end DL
/-! The data layer: loops and comprehensions. -/
namespace DL
open PySem PySem.Spec PyProof.Rows L2
/-! ### what an iterable gives -/
structure Gives (K : PySem.W.Frag) (F1 : Hp) (J : It) (items : List D) : Prop where
  go : ∀ i H, Same F1 H → i < items.length → J.go i H
  stop : ∀ H, Same F1 H → J.stop items.length H
  yld : ∀ i F H x H', Same F1 F → Same F H → i < items.length → J.yld i H x H' → ∃ F' d, Grow F H F' H' ∧ Same F' H' ∧ items[i]? = some d ∧ Rp K F' d x
theorem SqS.mono {K : PySem.W.Frag} {H H' : Hp} (s : Same H H') : ∀ {b : Bool} {a : Addr} {xs : List V}, SqS K b H a xs → SqS K b H' a xs
  | true, _, _, h => s.seq h
  | false, _, _, h => Same.tseq s h
theorem gives_list {K : PySem.W.Frag} {F : Hp} {a : Addr} {vs : List V} {ds : List D} (h : SqL K F a vs) (r : RpL K F ds vs) : Gives K F (Itl K a) ds where
  go := fun i H s hi => ⟨vs, vs[i]'(by rw [← r.length]; exact hi), s.seq h, List.getElem?_eq_getElem _⟩
  stop := fun H s => ⟨vs, s.seq h, by rw [r.length]; exact Nat.le_refl _⟩
  yld := fun i F1 H x H' s1 s2 hi y => by
    obtain ⟨e, g⟩ := y
    subst e
    obtain ⟨v, hv, rv⟩ := r.get (List.getElem?_eq_getElem hi)
    have := g vs ((s1.trans s2).seq h)
    rw [hv] at this
    cases this
    exact ⟨F1, ds[i], Grow.refl _ _, s2, List.getElem?_eq_getElem hi, rv.mono s1⟩
theorem gives_tup {K : PySem.W.Frag} {F : Hp} {a : Addr} {vs : List V} {ds : List D} (h : SqT K F a vs) (r : RpL K F ds vs) : Gives K F (Itt K a) ds where
  go := fun i H s hi => ⟨vs, vs[i]'(by rw [← r.length]; exact hi), Same.tseq s h, List.getElem?_eq_getElem _⟩
  stop := fun H s => ⟨vs, Same.tseq s h, by rw [r.length]; exact Nat.le_refl _⟩
  yld := fun i F1 H x H' s1 s2 hi y => by
    obtain ⟨e, g⟩ := y
    subst e
    obtain ⟨v, hv, rv⟩ := r.get (List.getElem?_eq_getElem hi)
    have := g vs (Same.tseq (s1.trans s2) h)
    rw [hv] at this
    cases this
    exact ⟨F1, ds[i], Grow.refl _ _, s2, List.getElem?_eq_getElem hi, rv.mono s1⟩
def rangeD (lo : Int) (n : Nat) : List D := (List.range n).map fun i => D.int (lo + (i : Nat))
theorem rangeD_get {lo : Int} {n i : Nat} (h : i < n) : (rangeD lo n)[i]? = some (.int (lo + (i : Nat))) := by
  unfold rangeD
  rw [List.getElem?_map, List.getElem?_range h]
  rfl
theorem rangeD_len (lo : Int) (n : Nat) : (rangeD lo n).length = n := by unfold rangeD; rw [List.length_map, List.length_range]
theorem gives_range {K : PySem.W.Frag} {F : Hp} {lo : Int} {n : Nat} : Gives K F (Itr lo n) (rangeD lo n) where
  go := fun i H s hi => by rw [rangeD_len] at hi; exact hi
  stop := fun H s => by rw [rangeD_len]; exact Nat.le_refl _
  yld := fun i F1 H x H' s1 s2 hi y => by
    obtain ⟨e, g⟩ := y
    subst e
    rw [rangeD_len] at hi
    exact ⟨F1, _, Grow.refl _ _, s2, rangeD_get hi, g⟩
def rangeCD (lo c : Int) (n : Nat) : List D := (List.range n).map fun i => D.int (lo + (i : Nat) * c)
theorem rangeCD_len (lo c : Int) (n : Nat) : (rangeCD lo c n).length = n := by unfold rangeCD; rw [List.length_map, List.length_range]
theorem gives_rangeC {K : PySem.W.Frag} {F : Hp} {lo c : Int} {n : Nat} : Gives K F (Itc lo c n) (rangeCD lo c n) where
  go := fun i H s hi => by rw [rangeCD_len] at hi; exact hi
  stop := fun H s => by rw [rangeCD_len]; exact Nat.le_refl _
  yld := fun i F1 H x H' s1 s2 hi y => by
    obtain ⟨e, g⟩ := y
    subst e
    rw [rangeCD_len] at hi
    refine ⟨F1, .int (lo + (i : Nat) * c), Grow.refl _ _, s2, ?_, g⟩
    unfold rangeCD
    rw [List.getElem?_map, List.getElem?_range hi]
    rfl
theorem new_tup {K : PySem.W.Frag} {F H : Hp} {T : Addr} {ds : List D} {vs : List V} (sb : Same F H) (hT : H T = none) (r : RpL K F ds vs) : Grow F H (upd F T (.tup vs)) (upd H T (.tup vs)) ∧ Same (upd F T (.tup vs)) (upd H T (.tup vs)) ∧ Rp K (upd F T (.tup vs)) (.tup ds) (.ref T) := by
  obtain ⟨g, s⟩ := grow_upd (o := .tup vs) sb hT
  exact ⟨g, s, T, vs, rfl, SqT.of upd_same, r.mono g.f⟩
def enumD (ds : List D) : List D := ds.zipIdx.map fun p => D.tup [.int (p.2 : Nat), p.1]
theorem enumD_len (ds : List D) : (enumD ds).length = ds.length := by unfold enumD; rw [List.length_map, List.length_zipIdx]
theorem enumD_get {ds : List D} {i : Nat} {d : D} (h : ds[i]? = some d) : (enumD ds)[i]? = some (.tup [.int (i : Nat), d]) := by
  unfold enumD
  rw [List.getElem?_map, List.getElem?_zipIdx, h]
  simp
theorem gives_enum {K : PySem.W.Frag} {F : Hp} {b : Bool} {a : Addr} {vs : List V} {ds : List D} (h : SqS K b F a vs) (r : RpL K F ds vs) : Gives K F (ItE K b a) (enumD ds) where
  go := fun i H s hi => by
    rw [enumD_len] at hi
    exact ⟨vs, vs[i]'(by rw [← r.length]; exact hi), h.mono s, List.getElem?_eq_getElem _⟩
  stop := fun H s => ⟨vs, h.mono s, by rw [enumD_len, r.length]⟩
  yld := fun i F1 H x H' s1 s2 hi y => by
    obtain ⟨T, u, e1, e2, e3, g⟩ := y
    subst e1
    subst e3
    rw [enumD_len] at hi
    obtain ⟨v, hv, rv⟩ := r.get (List.getElem?_eq_getElem hi)
    have := g vs (h.mono (s1.trans s2))
    rw [hv] at this
    cases this
    obtain ⟨g1, g2, g3⟩ := new_tup (ds := [.int (i : Nat), ds[i]]) s2 e2 ⟨_, _, rfl, rfl, RpL.one (rv.mono s1)⟩
    exact ⟨_, _, g1, g2, enumD_get (List.getElem?_eq_getElem hi), g3⟩
def zipD2 (xs ys : List D) : List D := (xs.zip ys).map fun p => D.tup [p.1, p.2]
theorem zipD2_len (xs ys : List D) : (zipD2 xs ys).length = min xs.length ys.length := by unfold zipD2; rw [List.length_map, List.length_zip]
theorem zipD2_get {xs ys : List D} {i : Nat} {x y : D} (h : xs[i]? = some x) (h2 : ys[i]? = some y) : (zipD2 xs ys)[i]? = some (.tup [x, y]) := by
  unfold zipD2
  rw [List.getElem?_map, (List.getElem?_zip_eq_some (z := (x, y))).mpr ⟨h, h2⟩]
  rfl
theorem gives_zip2 {K : PySem.W.Frag} {F : Hp} {b1 b2 : Bool} {a1 a2 : Addr} {vs us : List V} {ds es : List D} (h : SqS K b1 F a1 vs) (r : RpL K F ds vs) (h2 : SqS K b2 F a2 us) (r2 : RpL K F es us) : Gives K F (ItZ2 K b1 b2 a1 a2) (zipD2 ds es) where
  go := fun i H s hi => by
    rw [zipD2_len] at hi
    exact ⟨vs, us, vs[i]'(by rw [← r.length]; omega), us[i]'(by rw [← r2.length]; omega), h.mono s, h2.mono s, List.getElem?_eq_getElem _, List.getElem?_eq_getElem _⟩
  stop := fun H s => ⟨vs, us, h.mono s, h2.mono s, by rw [zipD2_len, r.length, r2.length]⟩
  yld := fun i F1 H x H' s1 s2 hi y => by
    obtain ⟨T, u, w, e1, e2, e3, g, g2⟩ := y
    subst e1
    subst e3
    rw [zipD2_len] at hi
    have l1 : i < ds.length := by omega
    have l2 : i < es.length := by omega
    obtain ⟨v, hv, rv⟩ := r.get (List.getElem?_eq_getElem l1)
    obtain ⟨v2, hv2, rv2⟩ := r2.get (List.getElem?_eq_getElem l2)
    have q := g vs (h.mono (s1.trans s2))
    have q2 := g2 us (h2.mono (s1.trans s2))
    rw [hv] at q
    rw [hv2] at q2
    cases q
    cases q2
    obtain ⟨g1, g2, g3⟩ := new_tup (ds := [ds[i], es[i]]) s2 e2 ⟨_, _, rfl, rv.mono s1, RpL.one (rv2.mono s1)⟩
    exact ⟨_, _, g1, g2, zipD2_get (List.getElem?_eq_getElem l1) (List.getElem?_eq_getElem l2), g3⟩
def zipD3 : List D → List D → List D → List D
  | x :: xs, y :: ys, z :: zs => .tup [x, y, z] :: zipD3 xs ys zs
  | _, _, _ => []
theorem zipD3_len : ∀ xs ys zs : List D, (zipD3 xs ys zs).length = min (min xs.length ys.length) zs.length
  | [], _, _ => by simp [zipD3]
  | _ :: _, [], _ => by simp [zipD3]
  | _ :: _, _ :: _, [] => by simp [zipD3]
  | x :: xs, y :: ys, z :: zs => by
    have := zipD3_len xs ys zs
    simp only [zipD3, List.length_cons, this]
    omega
theorem zipD3_get : ∀ {xs ys zs : List D} {i : Nat} {x y z : D}, xs[i]? = some x → ys[i]? = some y → zs[i]? = some z → (zipD3 xs ys zs)[i]? = some (.tup [x, y, z])
  | [], _, _, _, _, _, _, h, _, _ => by simp at h
  | _ :: _, [], _, _, _, _, _, _, h, _ => by simp at h
  | _ :: _, _ :: _, [], _, _, _, _, _, _, h => by simp at h
  | x :: xs, y :: ys, z :: zs, 0, _, _, _, h1, h2, h3 => by
    simp at h1 h2 h3
    subst h1 h2 h3
    rfl
  | x :: xs, y :: ys, z :: zs, i + 1, _, _, _, h1, h2, h3 => by
    have := zipD3_get (xs := xs) (ys := ys) (zs := zs) (i := i) (by simpa using h1) (by simpa using h2) (by simpa using h3)
    simpa [zipD3] using this
theorem gives_zip3 {K : PySem.W.Frag} {F : Hp} {b1 b2 b3 : Bool} {a1 a2 a3 : Addr} {vs us ws : List V} {ds es fs : List D} (h : SqS K b1 F a1 vs) (r : RpL K F ds vs) (h2 : SqS K b2 F a2 us) (r2 : RpL K F es us) (h3 : SqS K b3 F a3 ws) (r3 : RpL K F fs ws) :
    Gives K F (ItZ3 K b1 b2 b3 a1 a2 a3) (zipD3 ds es fs) where
  go := fun i H s hi => by
    rw [zipD3_len] at hi
    exact ⟨vs, us, ws, vs[i]'(by rw [← r.length]; omega), us[i]'(by rw [← r2.length]; omega), ws[i]'(by rw [← r3.length]; omega), h.mono s, h2.mono s, h3.mono s, List.getElem?_eq_getElem _, List.getElem?_eq_getElem _, List.getElem?_eq_getElem _⟩
  stop := fun H s => ⟨vs, us, ws, h.mono s, h2.mono s, h3.mono s, by rw [zipD3_len, r.length, r2.length, r3.length]⟩
  yld := fun i F1 H x H' s1 s2 hi y => by
    obtain ⟨T, u, w, t, e1, e2, e3, g, g2, g3⟩ := y
    subst e1
    subst e3
    rw [zipD3_len] at hi
    have l1 : i < ds.length := by omega
    have l2 : i < es.length := by omega
    have l3 : i < fs.length := by omega
    obtain ⟨v, hv, rv⟩ := r.get (List.getElem?_eq_getElem l1)
    obtain ⟨v2, hv2, rv2⟩ := r2.get (List.getElem?_eq_getElem l2)
    obtain ⟨v3, hv3, rv3⟩ := r3.get (List.getElem?_eq_getElem l3)
    have q := g vs (h.mono (s1.trans s2))
    have q2 := g2 us (h2.mono (s1.trans s2))
    have q3 := g3 ws (h3.mono (s1.trans s2))
    rw [hv] at q
    rw [hv2] at q2
    rw [hv3] at q3
    cases q
    cases q2
    cases q3
    obtain ⟨g1, g2, g3⟩ := new_tup (ds := [ds[i], es[i], fs[i]]) s2 e2 ⟨_, _, rfl, rv.mono s1, _, _, rfl, rv2.mono s1, RpL.one (rv3.mono s1)⟩
    exact ⟨_, _, g1, g2, zipD3_get (List.getElem?_eq_getElem l1) (List.getElem?_eq_getElem l2) (List.getElem?_eq_getElem l3), g3⟩
/-! ### iterables -/
abbrev DI := En → (List D → En → Prop) → DX → Prop
def rI (B : Bd) (W : WX) (it : DI) : TI := fun σ H R => ∃ F L ρ Qd Ed, SR B F L σ H ρ ∧ it ρ Qd Ed ∧
  (∀ items ρ' F' L' H' J, Qd items ρ' → SR B F' L' σ H' ρ' → Stp F L H F' L' H' → Gives B.K F' J items → R J H') ∧ XOk B W F Ed
def seqOf : D → Option (List D)
  | .tup ds => some ds
  | .lst ds => some ds
  | .fix ds => some ds
  | _ => none
theorem seqOf_ok {K : PySem.W.Frag} {F : Hp} : ∀ {d : D} {v : V} {ds : List D}, Rp K F d v → seqOf d = some ds → ∃ a vs b, v = .ref a ∧ SqS K b F a vs ∧ RpL K F ds vs
  | .tup _, _, _, ⟨a, vs, e, q, r⟩, z => by cases z; exact ⟨a, vs, false, e, q, r⟩
  | .lst _, _, _, ⟨a, vs, e, q, r⟩, z => by cases z; exact ⟨a, vs, true, e, SqL.of q, r⟩
  | .fix _, _, _, ⟨a, vs, e, q, r⟩, z => by cases z; exact ⟨a, vs, true, e, q, r⟩
  | .non, _, _, _, z => by cases z
  | .bl _, _, _, _, z => by cases z
  | .int _, _, _, _, z => by cases z
  | .str _, _, _, _, z => by cases z
  | .dic _ _, _, _, _, z => by cases z
  | .obj _ _ _, _, _, _, z => by cases z
  | .adr _, _, _, _, z => by cases z
  | .rng _ _, _, _, _, z => by cases z
  | .ty _, _, _, _, z => by cases z
/-- of a list, a tuple -/
def iSq (t : DE) : DI := fun ρ Q E => t ρ (fun d ρ1 => match seqOf d with
  | some ds => Q ds ρ1
  | none => False) E
def lim62 (i : Int) : Prop := -(2 ^ 62) ≤ i ∧ i < 2 ^ 62
def iRg1 (t : DE) : DI := fun ρ Q E => t ρ (fun d ρ1 => match d with
  | .int n => lim62 n ∧ Q (rangeD 0 n.toNat) ρ1
  | _ => False) E
def iRg2 (t u : DE) : DI := fun ρ Q E => t ρ (fun d ρ1 => u ρ1 (fun e ρ2 => match d, e with
  | .int m, .int n => lim62 m ∧ lim62 n ∧ Q (rangeD m (n - m).toNat) ρ2
  | _, _ => False) E) E
/-- range(a, b, -1) -/
def iRgD (t u w : DE) : DI := fun ρ Q E => t ρ (fun d ρ1 => u ρ1 (fun e ρ2 => w ρ2 (fun f ρ3 => match d, e, f with
  | .int m, .int n, .int c => c = -1 ∧ lim62 m ∧ lim62 n ∧ Q (rangeCD m (-1) (m - n).toNat) ρ3
  | _, _, _ => False) E) E) E
def iEn (t : DE) : DI := fun ρ Q E => t ρ (fun d ρ1 => match seqOf d with
  | some ds => Q (enumD ds) ρ1
  | none => False) E
def iZp2 (t u : DE) : DI := fun ρ Q E => t ρ (fun d ρ1 => u ρ1 (fun e ρ2 => match seqOf d, seqOf e with
  | some ds, some es => Q (zipD2 ds es) ρ2
  | _, _ => False) E) E
def iZp3 (t u w : DE) : DI := fun ρ Q E => t ρ (fun d ρ1 => u ρ1 (fun e ρ2 => w ρ2 (fun f ρ3 => match seqOf d, seqOf e, seqOf f with
  | some ds, some es, some fs => Q (zipD3 ds es fs) ρ3
  | _, _, _ => False) E) E) E
section
variable {X : Cx} {B : Bd} {W : WX} {tg : Expr} {pos p : Pos}
theorem pi_imp {e : Expr} {t u : TI} (h : PI X tg e t) (i : ∀ σ H R, u σ H R → t σ H R) : PI X tg e u := ⟨fun pins s σ H R I q => h.run pins s σ H R I (i σ H R q)⟩
theorem di_sq {e : Expr} {t : DE} (he : PE X e (rV B W t)) (hK : B.K = X.K := by rfl) : PI X tg e (rI B W (iSq t)) := by
  refine pi_imp (pi_seq he) fun σ H R ⟨F, L, ρ, Qd, Ed, S, ht, hq, hx⟩ => ⟨F, L, ρ, _, Ed, S, ht, fun d ρ' v F' L' H' k S' s r => ?_, hx⟩
  split at k
  · rename_i ds e
    obtain ⟨a, vs, b, ev, q, rl⟩ := seqOf_ok r e
    subst ev
    refine ⟨a, rfl, ?_⟩
    cases b with
    | true => exact .inl ⟨⟨vs, hK ▸ S'.sub.seq q⟩, hq ds ρ' F' L' H' _ k S' s (hK ▸ gives_list q rl)⟩
    | false => exact .inr ⟨⟨vs, hK ▸ Same.tseq S'.sub q⟩, hq ds ρ' F' L' H' _ k S' s (hK ▸ gives_tup q rl)⟩
  · exact k.elim
/-! frozen arguments -/
def q1 (k : D → En → Prop) : List AV → En → Prop
  | [.inl d], ρ => k d ρ
  | _, _ => False
def q2 (k : D → D → En → Prop) : List AV → En → Prop
  | [.inl d, .inl e], ρ => k d e ρ
  | _, _ => False
def q3 (k : D → D → D → En → Prop) : List AV → En → Prop
  | [.inl d, .inl e, .inl f], ρ => k d e f ρ
  | _, _ => False
theorem q1_ok {k : D → En → Prop} {xs : List AV} {ρ : En} (h : q1 k xs ρ) : ∃ d, xs = [.inl d] ∧ k d ρ := by
  unfold q1 at h
  split at h
  · exact ⟨_, rfl, h⟩
  · exact h.elim
theorem q2_ok {k : D → D → En → Prop} {xs : List AV} {ρ : En} (h : q2 k xs ρ) : ∃ d e, xs = [.inl d, .inl e] ∧ k d e ρ := by
  unfold q2 at h
  split at h
  · exact ⟨_, _, rfl, h⟩
  · exact h.elim
theorem q3_ok {k : D → D → D → En → Prop} {xs : List AV} {ρ : En} (h : q3 k xs ρ) : ∃ d e f, xs = [.inl d, .inl e, .inl f] ∧ k d e f ρ := by
  unfold q3 at h
  split at h
  · exact ⟨_, _, _, rfl, h⟩
  · exact h.elim
theorem args1 {K : PySem.W.Frag} {F : Hp} {L : La} {d : D} {vs : List V} (h : ArgVs K F L [.inl d] vs) : ∃ v, vs = [v] ∧ Rp K F d v := by
  obtain ⟨v, r, e, h1, h2⟩ := h
  cases (show r = [] from h2)
  exact ⟨v, e, h1⟩
theorem args2 {K : PySem.W.Frag} {F : Hp} {L : La} {d e : D} {vs : List V} (h : ArgVs K F L [.inl d, .inl e] vs) : ∃ v u, vs = [v, u] ∧ Rp K F d v ∧ Rp K F e u := by
  obtain ⟨v, r, ev, h1, h2⟩ := h
  obtain ⟨u, e, h3⟩ := args1 h2
  subst e
  exact ⟨v, u, ev, h1, h3⟩
theorem args3 {K : PySem.W.Frag} {F : Hp} {L : La} {d e f : D} {vs : List V} (h : ArgVs K F L [.inl d, .inl e, .inl f] vs) : ∃ v u w, vs = [v, u, w] ∧ Rp K F d v ∧ Rp K F e u ∧ Rp K F f w := by
  obtain ⟨v, r, ev, h1, h2⟩ := h
  obtain ⟨u, w, e, h3, h4⟩ := args2 h2
  subst e
  exact ⟨v, u, w, ev, h1, h3, h4⟩
theorem da1 {e : Expr} {t : DE} (he : PE X e (rV B W t)) (hs : starEach [e] X.env = (false, eval e X.env) :: starEach [] X.env := by rfl) : PA X [e] (rA B W [.e t]) := da_cons (dx_e he) da_nil hs
theorem di_rg1 {e : Expr} {t : DE} (hm : X.mg "range" = none) (he : PE X e (rV B W t)) (hg : Gl X "range" := by rfl) (hs : starEach [e] X.env = [(false, eval e X.env)] := by rfl) : PI X tg (.Call (.Name "range" p) [e] [] pos) (rI B W (iRg1 t)) := by
  refine pi_imp (pi_range1 hg hm (da1 he hs) hs) fun σ H R ⟨F, L, ρ, Qd, Ed, S, ht, hq, hx⟩ => ⟨F, L, ρ, q1 _, Ed, S, ht, fun xs ρ' vs F' L' H' k S' s r => ?_, hx⟩
  obtain ⟨d, e, z⟩ := q1_ok k
  clear k
  have k := z
  subst e
  obtain ⟨v, ev, r1⟩ := args1 r
  clear r
  cases d <;> first | (exact False.elim k) | skip
  rename_i n
  cases (show v = .int n from r1)
  exact ⟨n, ev, k.1.1, k.1.2, hq _ ρ' F' L' H' _ k.2 S' s gives_range⟩
theorem di_rg2 {a b : Expr} {t u : DE} (hm : X.mg "range" = none) (ha : PE X a (rV B W t)) (hb : PE X b (rV B W u)) (hg : Gl X "range" := by rfl) (hs : starEach [a, b] X.env = [(false, eval a X.env), (false, eval b X.env)] := by rfl) (hs2 : starEach [b] X.env = [(false, eval b X.env)] := by rfl)
    (hs3 : starEach (a :: [b]) X.env = (false, eval a X.env) :: starEach [b] X.env := by rfl) : PI X tg (.Call (.Name "range" p) [a, b] [] pos) (rI B W (iRg2 t u)) := by
  refine pi_imp (pi_range2 hg hm (da_cons (dx_e ha) (da1 hb hs2) hs3) hs hs2) fun σ H R ⟨F, L, ρ, Qd, Ed, S, ht, hq, hx⟩ => ⟨F, L, ρ, q2 _, Ed, S, ht, fun xs ρ' vs F' L' H' k S' s r => ?_, hx⟩
  obtain ⟨d, e, e1, z⟩ := q2_ok k
  clear k
  have k := z
  subst e1
  obtain ⟨v, w, e2, r1, r2⟩ := args2 r
  cases d <;> first | (exact False.elim k) | skip
  cases e <;> first | (exact False.elim k) | skip
  rename_i m n
  cases (show v = .int m from r1)
  cases (show w = .int n from r2)
  obtain ⟨k1, k2, k3⟩ : lim62 m ∧ lim62 n ∧ Qd (rangeD m (n - m).toNat) ρ' := k
  exact ⟨m, n, e2, ⟨k1.1, k1.2, k2.1, k2.2⟩, hq _ ρ' F' L' H' _ k3 S' s gives_range⟩
theorem di_rgd {a b c : Expr} {t u w : DE} (hm : X.mg "range" = none) (ha : PE X a (rV B W t)) (hb : PE X b (rV B W u)) (hc : PE X c (rV B W w)) (hg : Gl X "range" := by rfl)
    (hs : starEach [a, b, c] X.env = (false, eval a X.env) :: starEach [b, c] X.env := by rfl) (hs2 : starEach [b, c] X.env = (false, eval b X.env) :: starEach [c] X.env := by rfl) (hs3 : starEach [c] X.env = (false, eval c X.env) :: starEach [] X.env := by rfl) (hpl : (backTo pos (starEach [b, c] X.env)).any (·.1) = false := by rfl) : PI X tg (.Call (.Name "range" p) [a, b, c] [] pos) (rI B W (iRgD t u w)) := by
  refine pi_imp (pi_range3 hg hm (da_cons (dx_e ha) (da_cons (dx_e hb) (da1 hc hs3) hs2) hs) hs hpl) fun σ H R ⟨F, L, ρ, Qd, Ed, S, ht, hq, hx⟩ => ⟨F, L, ρ, q3 _, Ed, S, ht, fun xs ρ' vs F' L' H' k S' s r => ?_, hx⟩
  obtain ⟨d, e, f, e1, z⟩ := q3_ok k
  clear k
  have k := z
  subst e1
  obtain ⟨v, w, x, e2, r1, r2, r3⟩ := args3 r
  cases d <;> first | (exact False.elim k) | skip
  cases e <;> first | (exact False.elim k) | skip
  cases f <;> first | (exact False.elim k) | skip
  rename_i m n c
  cases (show v = .int m from r1)
  cases (show w = .int n from r2)
  cases (show x = .int c from r3)
  obtain ⟨k0, k1, k2, k3⟩ : c = -1 ∧ lim62 m ∧ lim62 n ∧ Qd (rangeCD m (-1) (m - n).toNat) ρ' := k
  subst k0
  exact ⟨m, n, -1, _, e2, RgC.neg k1.1 k1.2 k2.1 k2.2, hq _ ρ' F' L' H' _ k3 S' s gives_rangeC⟩
theorem di_en {e : Expr} {t : DE} {elts : List Expr} {kk : Nat} {tpos : Pos} (hm : X.mg "enumerate" = none) (he : PE X e (rV B W t)) (hg : Gl X "enumerate" := by rfl) (hs : starEach [e] X.env = [(false, eval e X.env)] := by rfl) (hK : B.K = X.K := by rfl) :
    PI X (.Tuple elts kk tpos) (.Call (.Name "enumerate" p) [e] [] pos) (rI B W (iEn t)) := by
  refine pi_imp (pi_enumS hm (da1 he hs) hg hs) fun σ H R ⟨F, L, ρ, Qd, Ed, S, ht, hq, hx⟩ => ⟨F, L, ρ, q1 _, Ed, S, ht, fun xs ρ' vs F' L' H' k S' s r => ?_, hx⟩
  obtain ⟨d, e, z⟩ := q1_ok k
  clear k
  have k := z
  subst e
  obtain ⟨v, e, r⟩ := args1 r
  split at k
  · rename_i ds es
    obtain ⟨a, us, b, ev, q, rl⟩ := seqOf_ok r es
    subst ev
    exact ⟨b, a, us, e, hK ▸ q.mono S'.sub, hq _ ρ' F' L' H' _ k S' s (hK ▸ gives_enum q rl)⟩
  · exact k.elim
theorem di_zp2 {e e2 : Expr} {t u : DE} {elts : List Expr} {kk : Nat} {tpos : Pos} (hm : X.mg "zip" = none) (he : PE X e (rV B W t)) (he2 : PE X e2 (rV B W u)) (hg : Gl X "zip" := by rfl) (hs : starEach [e, e2] X.env = (false, eval e X.env) :: starEach [e2] X.env := by rfl)
    (hs2 : starEach [e2] X.env = (false, eval e2 X.env) :: starEach [] X.env := by rfl) (hpl : (backTo pos (starEach [e2] X.env)).any (·.1) = false := by rfl) (hK : B.K = X.K := by rfl) : PI X (.Tuple elts kk tpos) (.Call (.Name "zip" p) [e, e2] [] pos) (rI B W (iZp2 t u)) := by
  refine pi_imp (pi_zip2S hm (da_cons (dx_e he) (da1 he2 hs2) hs) hg hs hpl) fun σ H R ⟨F, L, ρ, Qd, Ed, S, ht, hq, hx⟩ => ⟨F, L, ρ, q2 _, Ed, S, ht, fun xs ρ' vs F' L' H' k S' s r => ?_, hx⟩
  obtain ⟨d, e, e1, z⟩ := q2_ok k
  clear k
  have k := z
  subst e1
  obtain ⟨v, w, e2, r1, r2⟩ := args2 r
  split at k
  · rename_i ds es z1 z2
    obtain ⟨a, us, b, ev, q, rl⟩ := seqOf_ok r1 z1
    obtain ⟨a2, us2, b2, ev2, q2, rl2⟩ := seqOf_ok r2 z2
    subst ev
    subst ev2
    exact ⟨b, b2, a, a2, us, us2, e2, hK ▸ q.mono S'.sub, hK ▸ q2.mono S'.sub, hq _ ρ' F' L' H' _ k S' s (hK ▸ gives_zip2 q rl q2 rl2)⟩
  · exact k.elim
theorem di_zp3 {e e2 e3 : Expr} {t u w : DE} {elts : List Expr} {kk : Nat} {tpos : Pos} (hm : X.mg "zip" = none) (he : PE X e (rV B W t)) (he2 : PE X e2 (rV B W u)) (he3 : PE X e3 (rV B W w)) (hg : Gl X "zip" := by rfl) (hs : starEach [e, e2, e3] X.env = (false, eval e X.env) :: starEach [e2, e3] X.env := by rfl)
    (hs2 : starEach [e2, e3] X.env = (false, eval e2 X.env) :: starEach [e3] X.env := by rfl) (hs3 : starEach [e3] X.env = (false, eval e3 X.env) :: starEach [] X.env := by rfl) (hpl : (backTo pos (starEach [e2, e3] X.env)).any (·.1) = false := by rfl) (hK : B.K = X.K := by rfl) :
    PI X (.Tuple elts kk tpos) (.Call (.Name "zip" p) [e, e2, e3] [] pos) (rI B W (iZp3 t u w)) := by
  refine pi_imp (pi_zip3S hm (da_cons (dx_e he) (da_cons (dx_e he2) (da1 he3 hs3) hs2) hs) hg hs hpl) fun σ H R ⟨F, L, ρ, Qd, Ed, S, ht, hq, hx⟩ => ⟨F, L, ρ, q3 _, Ed, S, ht, fun xs ρ' vs F' L' H' k S' s r => ?_, hx⟩
  obtain ⟨d, e, f, e1, z⟩ := q3_ok k
  clear k
  have k := z
  subst e1
  obtain ⟨v, w, x, e2, r1, r2, r3⟩ := args3 r
  split at k
  · rename_i ds es fs z1 z2 z3
    obtain ⟨a, us, b, ev, q, rl⟩ := seqOf_ok r1 z1
    obtain ⟨a2, us2, b2, ev2, q2, rl2⟩ := seqOf_ok r2 z2
    obtain ⟨a3, us3, b3, ev3, q3, rl3⟩ := seqOf_ok r3 z3
    subst ev
    subst ev2
    subst ev3
    exact ⟨b, b2, b3, a, a2, a3, us, us2, us3, e2, hK ▸ q.mono S'.sub, hK ▸ q2.mono S'.sub, hK ▸ q3.mono S'.sub, hq _ ρ' F' L' H' _ k S' s (hK ▸ gives_zip3 q rl q2 rl2 q3 rl3)⟩
  · exact k.elim
end
end DL
/-! The data layer: for, while, list comprehensions. -/
namespace DL
open PySem PySem.Spec PyProof.Rows L2
/-! ### for -/
def forGo (tg : Tg) (tb : DS) : List D → DEnds → En → Prop
  | [], D, ρ => D.nx ρ
  | d :: ds, D, ρ => tgGo tg (.val d) ρ (fun ρ1 => tb { D with nx := forGo tg tb ds D, ct := forGo tg tb ds D, bk := D.nx } ρ1) D.ex
def mFor (it : DI) (tg : Tg) (tb : DS) : DS := fun D ρ => it ρ (fun items ρ1 => forGo tg tb items D ρ1) D.ex
section
variable {X : Cx} {B : Bd} {W : WX} {tg : Expr} {pos : Pos}
theorem ds_for {iter : Expr} {body : List Stmt} {it : DI} {g : Tg} {tb : DS} (hp : PassesOwn (model X.prog X.w) X.A X.env X.xe) (hc : X.calm = true) (hi : PI X tg iter (rI B W it)) (hg : PG X tg (rG B W g)) (hb : PSs X body (rS B W tb))
    (hs : ∀ x, foldedSetIterable iter X.env x = pure x := by intro _; rfl) : PS X (.For tg iter body [] pos) (rS B W (mFor it g tb)) := by
  refine ps_imp (ps_for hp hc hi hg hb hs) fun D σ H ⟨F, L, ρ, Dd, S, q, o⟩ => ⟨F, L, ρ, _, Dd.ex, S, q, fun items ρ1 F1 L1 H1 J k S1 s1 gv => ?_, o.ex⟩
  refine ⟨fun i m σ H => m = items.length - i ∧ i ≤ items.length ∧ ∃ F L ρ, SR B F L σ H ρ ∧ Same F1 F ∧ forGo g tb (items.drop i) Dd ρ, ⟨items.length, rfl, Nat.zero_le _, F1, L1, ρ1, S1, Same.refl F1, k⟩, ?_⟩
  rintro i m σ2 H2 ⟨rfl, hi, F2, L2, ρ2, S2, s2, k2⟩
  by_cases hlt : i < items.length
  · rw [List.drop_eq_getElem_cons hlt] at k2
    refine .inr ⟨gv.go i H2 (s2.trans S2.sub) hlt, fun σ' H' => items.length - (i + 1) = items.length - (i + 1) ∧ i + 1 ≤ items.length ∧ ∃ F L ρ, SR B F L σ' H' ρ ∧ Same F1 F ∧ forGo g tb (items.drop (i + 1)) Dd ρ, fun σ' H' h => ⟨_, by omega, h⟩, fun x H' y => ?_⟩
    obtain ⟨F3, d, g3, sb3, ed, rd⟩ := gv.yld i F2 H2 x H' s2 S2.sub hlt y
    rw [List.getElem?_eq_getElem hlt] at ed
    cases ed
    refine ⟨F3, L2, ρ2, _, Dd.ex, .val items[i], S2.grow g3 sb3, rd, k2, fun ρ' σ' F' L' H'' q' S' m => ⟨F', L', ρ', _, S', q', ?_⟩, o.ex.mono (s1.f.trans (s2.trans g3.f))⟩
    have sF : Same F1 F' := s2.trans (g3.f.trans m.f)
    exact ⟨fun ρ4 σ4 F4 L4 H4 q4 S4 z => ⟨rfl, hlt, F4, L4, ρ4, S4, sF.trans z, q4⟩, fun r ρ4 v σ4 F4 L4 H4 q4 S4 z c => o.rt r ρ4 v σ4 F4 L4 H4 q4 S4 (s1.f.trans (sF.trans z)) c,
      fun ρ4 σ4 F4 L4 H4 q4 S4 z => o.nx ρ4 σ4 F4 L4 H4 q4 S4 (s1.f.trans (sF.trans z)), fun ρ4 σ4 F4 L4 H4 q4 S4 z => ⟨rfl, hlt, F4, L4, ρ4, S4, sF.trans z, q4⟩, o.ex.mono (s1.f.trans sF)⟩
  · have e : i = items.length := by omega
    subst e
    rw [List.drop_length] at k2
    exact .inl ⟨gv.stop H2 (s2.trans S2.sub), o.nx ρ2 σ2 F2 L2 H2 k2 S2 (s1.f.trans s2)⟩
/-! ### while -/
/-- at most n turns -/
def whGo (c : DT) (tb : DS) : Nat → DEnds → En → Prop
  | 0, _, _ => False
  | n + 1, D, ρ => c ρ (fun b ρ1 => if b = true then tb { D with nx := whGo c tb n D, ct := whGo c tb n D, bk := D.nx } ρ1 else D.nx ρ1) D.ex
def mWhile (c : DT) (tb : DS) : DS := fun D ρ => ∃ n, whGo c tb n D ρ
theorem ds_while {c : Expr} {body : List Stmt} {tc : DT} {tb : DS} (hp : PassesOwn (model X.prog X.w) X.A X.env X.xe) (hc : PT X c (rT B W tc)) (hb : PSs X body (rS B W tb)) : PS X (.While c body [] pos) (rS B W (mWhile tc tb)) := by
  refine ps_imp (ps_while hp hc hb) fun D σ H ⟨F, L, ρ, Dd, S, ⟨n, q⟩, o⟩ => ?_
  refine ⟨fun m σ H => ∃ F' L ρ, SR B F' L σ H ρ ∧ Same F F' ∧ whGo tc tb m Dd ρ, ⟨n, F, L, ρ, S, Same.refl F, q⟩, ?_⟩
  rintro m σ2 H2 ⟨F2, L2, ρ2, S2, s2, k2⟩
  cases m with
  | zero => exact k2.elim
  | succ m =>
    refine ⟨F2, L2, ρ2, _, Dd.ex, S2, k2, fun b ρ1 F1 L1 H1 k1 S1 s1 => ?_, o.ex.mono s2⟩
    have sF : Same F F1 := s2.trans s1.f
    cases b with
    | false => exact o.nx _ _ _ _ _ k1 S1 sF
    | true =>
      exact ⟨fun σ' H' => ∃ F' L ρ, SR B F' L σ' H' ρ ∧ Same F F' ∧ whGo tc tb m Dd ρ, fun σ' H' h => ⟨m, Nat.lt_succ_self m, h⟩, F1, L1, ρ1, _, S1, k1,
        ⟨fun ρ4 σ4 F4 L4 H4 q4 S4 z => ⟨F4, L4, ρ4, S4, sF.trans z, q4⟩, fun r ρ4 v σ4 F4 L4 H4 q4 S4 z c => o.rt r ρ4 v σ4 F4 L4 H4 q4 S4 (sF.trans z) c,
          fun ρ4 σ4 F4 L4 H4 q4 S4 z => o.nx ρ4 σ4 F4 L4 H4 q4 S4 (sF.trans z), fun ρ4 σ4 F4 L4 H4 q4 S4 z => ⟨F4, L4, ρ4, S4, sF.trans z, q4⟩, o.ex.mono sF⟩⟩
end
/-! ### patterns: names of a block only -/
inductive Pt where
  | nm (i : Nat) | tp (ps : List Pt)
mutual
def ptGo : Pt → D → En → (En → Prop) → Prop
  | .nm i, d, ρ, Q => Q (ρ.set i (some (.val d)))
  | .tp ps, d, ρ, Q => match d with
    | .tup ds => ds.length = ps.length ∧ ptsGo ps ds ρ Q
    | _ => False
def ptsGo : List Pt → List D → En → (En → Prop) → Prop
  | [], [], ρ, Q => Q ρ
  | p :: ps, d :: ds, ρ, Q => ptGo p d ρ (fun ρ1 => ptsGo ps ds ρ1 Q)
  | _, _, _, _ => False
end
mutual
def ptNs : Pt → List Nat
  | .nm i => [i]
  | .tp ps => ptsNs ps
def ptsNs : List Pt → List Nat
  | [] => []
  | p :: ps => ptNs p ++ ptsNs ps
end
theorem wipe_set {σ : L2.St} {i : Nat} {x : Option V} : ∀ {vs : List Nat}, i ∈ vs → L2.wipe (σ.set i x) vs = L2.wipe σ vs
  | v :: vs, h => by
    unfold L2.wipe
    by_cases hi : i ∈ vs
    · rw [wipe_set hi]
    · have e : i = v := (List.mem_cons.mp h).elim id fun z => absurd z hi
      subst e
      have key : ∀ (us : List Nat), i ∉ us → L2.wipe (σ.set i x) us = (L2.wipe σ us).set i x := by
        intro us
        induction us with
        | nil => intro _; rfl
        | cons u us ih =>
          intro hu
          have h1 : u ≠ i := fun e => hu (by rw [e]; exact List.mem_cons_self)
          unfold L2.wipe
          rw [ih fun m => hu (List.mem_cons_of_mem _ m), List.set_comm _ _ h1]
      rw [key vs hi, List.set_set]
theorem wipe_idem {σ : L2.St} : ∀ {vs us : List Nat}, (∀ i ∈ us, i ∈ vs) → L2.wipe (L2.wipe σ us) vs = L2.wipe σ vs
  | vs, [], _ => rfl
  | vs, u :: us, h => by
    show L2.wipe ((L2.wipe σ us).set u none) vs = _
    rw [wipe_set (h u List.mem_cons_self), wipe_idem fun i hi => h i (List.mem_cons_of_mem _ hi)]
/-- σ' is as σ but for the names ns -/
def Only (ns : List Nat) (σ σ' : L2.St) : Prop := ∀ vs : List Nat, (∀ i ∈ ns, i ∈ vs) → L2.wipe σ' vs = L2.wipe σ vs
def rP (B : Bd) (p : Pt) : TG := fun v σ H Q => ∃ F L ρ Qd d, SR B F L σ H ρ ∧ Rp B.K F d v ∧ ptGo p d ρ Qd ∧
  ∀ ρ' σ' L', Qd ρ' → SR B F L' σ' H ρ' → (∀ i a, L' i = some a → L i = some a) → Only (ptNs p) σ σ' → Q σ' H
def rPs (B : Bd) (ps : List Pt) : TGs := fun vs σ H Q => ∃ F L ρ Qd ds, SR B F L σ H ρ ∧ RpL B.K F ds vs ∧ ptsGo ps ds ρ Qd ∧
  ∀ ρ' σ' L', Qd ρ' → SR B F L' σ' H ρ' → (∀ i a, L' i = some a → L i = some a) → Only (ptsNs ps) σ σ' → Q σ' H
section
variable {X : Cx} {B : Bd} {W : WX} {pos : Pos}
theorem dp_nm (i : Nat) {x : Str} (hN : X.N.Nodup) (hio : B.ios.contains i = false := by rfl) (hi : X.N[i]? = some x := by rfl) (hx : Loc X.env.scope x := by first | exact Or.inl rfl | exact Or.inr rfl)
    (hf : X.fn x = true ∨ X.env.scope.names.lookup x = some .local := by first | exact .inl rfl | exact .inr rfl) : PG X (.Name x pos) (rP B (.nm i)) := by
  refine pg_impL (pg_name hN hi hx hf) fun v σ H Q hl ⟨F, L, ρ, Qd, d, S, r, q, o⟩ => ?_
  have hlt : i < σ.length := by rw [hl]; exact (List.getElem?_eq_some_iff.mp hi).1
  refine o _ _ _ q (S.put hio hlt r) (fun j a h => ?_) fun vs h => wipe_set (h i List.mem_cons_self)
  unfold forget at h
  split at h
  · cases h
  · exact h
theorem dps_nil : PGs X [] (rPs B []) := by
  refine pgs_impL pgs_nil fun vs σ H Q _ ⟨F, L, ρ, Qd, ds, S, r, q, o⟩ => ?_
  cases ds with
  | nil => exact ⟨r, o _ _ _ q S (fun _ _ h => h) fun _ _ => rfl⟩
  | cons c cs => exact False.elim q
theorem dps_cons {e : Expr} {es : List Expr} {p : Pt} {ps : List Pt} (h1 : PG X e (rP B p)) (h2 : PGs X es (rPs B ps)) (hs : (assignEach (e :: es) X.env).map (·.2) = assign e X.env :: (assignEach es X.env).map (·.2) := by rfl) : PGs X (e :: es) (rPs B (p :: ps)) := by
  refine pgs_impL (pgs_cons h1 h2 hs) fun vs σ H Q _ ⟨F, L, ρ, Qd, ds, S, r, q, o⟩ => ?_
  cases ds with
  | nil => exact False.elim q
  | cons d ds =>
    obtain ⟨v, r', e, c1, c2⟩ := r
    refine ⟨v, r', e, F, L, ρ, _, d, S, c1, q, fun ρ1 σ1 L1 q1 S1 l1 w1 => ⟨F, L1, ρ1, Qd, ds, S1, c2, q1, fun ρ' σ' L' q' S' l' w' => ?_⟩⟩
    exact o _ _ _ q' S' (fun i a h => l1 i a (l' i a h)) fun vs h => (w' vs fun i hi => h i (List.mem_append_right _ hi)).trans (w1 vs fun i hi => h i (List.mem_append_left _ hi))
theorem dp_tp {es : List Expr} {k : Nat} {ps : List Pt} {n : Nat} (hc : X.calm = true) (h : PGs X es (rPs B ps)) (htn : ps.length = n := by rfl) (hn : (assignEach es X.env).length = n := by rfl) (hst : (assignEach es X.env).findIdx? (·.1) = none := by rfl) (hK : B.K = X.K := by rfl) :
    PG X (.Tuple es k pos) (rP B (.tp ps)) := by
  refine pg_impL (pg_tup hc h hn hst) fun v σ H Q _ ⟨F, L, ρ, Qd, d, S, r, q, o⟩ => ?_
  cases d <;> first | (exact False.elim q) | skip
  rename_i ds
  obtain ⟨a, vs, e, h1, h2⟩ := r
  obtain ⟨hl, q'⟩ : ds.length = ps.length ∧ ptsGo ps ds ρ Qd := q
  exact ⟨a, vs, e, hK ▸ Same.tseq S.sub h1, by rw [← h2.length, hl, htn], F, L, ρ, Qd, _, S, h2, q', o⟩
end
/-! ### names forgotten, and put back -/
def wipeE (ρ : En) : List Nat → En
  | [] => ρ
  | v :: vs => (wipeE ρ vs).set v none
def backE (ρ' ρ : En) : List Nat → En
  | [] => ρ'
  | v :: vs => (backE ρ' ρ vs).set v (ρ.getD v none)
def isOwn : Option Cell → Bool
  | some (.own _) => true
  | _ => false
def noOwn (ρ : En) (vs : List Nat) : Bool := vs.all fun v => !isOwn (ρ.getD v none)
theorem SR.unsig {B : Bd} {F H : Hp} {L : La} {σ : L2.St} {ρ : En} (S : SR B F L σ H ρ) {i : Nat} (h : ρ.getD i none = none) : SR B F L (σ.set i none) H ρ where
  len := by rw [List.length_set]; exact S.len
  sub := S.sub
  slot := fun j => by
    by_cases hj : i = j
    · subst hj
      have q := S.slot i
      rw [h] at q ⊢
      exact q
    · rw [getD_set_ne hj]
      exact S.slot j
  inj := S.inj
  f0 := S.f0
  fn := S.fn
  keep := S.keep
  io := S.io
  al := S.al
theorem getD_set_none {ρ : En} {i : Nat} : (ρ.set i none).getD i none = none := by
  by_cases hl : i < ρ.length
  · exact getD_set_self hl
  · rw [List.getD_eq_getElem?_getD, List.getElem?_eq_none (by rw [List.length_set]; omega)]
    rfl
theorem SR.wipe {B : Bd} {F H : Hp} {L : La} {σ : L2.St} {ρ : En} (S : SR B F L σ H ρ) : ∀ {vs : List Nat}, (vs.all fun v => !B.ios.contains v) = true → ∃ L', SR B F L' (L2.wipe σ vs) H (wipeE ρ vs) ∧ ∀ i a, L' i = some a → L i = some a
  | [], _ => ⟨L, S, fun _ _ h => h⟩
  | v :: vs, hio => by
    rw [List.all_cons, Bool.and_eq_true] at hio
    obtain ⟨L1, S1, l1⟩ := SR.wipe S hio.2
    refine ⟨forget L1 v, (S1.drop (i := v) (by simpa using hio.1)).unsig getD_set_none, fun i a h => l1 i a ?_⟩
    unfold forget at h
    split at h
    · cases h
    · exact h
theorem backE_len (ρ' ρ : En) : ∀ vs : List Nat, (backE ρ' ρ vs).length = ρ'.length
  | [] => rfl
  | v :: vs => by unfold backE; rw [List.length_set, backE_len]
theorem backE_out (ρ' ρ : En) {i : Nat} : ∀ {vs : List Nat}, i ∉ vs → (backE ρ' ρ vs).getD i none = ρ'.getD i none
  | [], _ => rfl
  | v :: vs, h => by
    unfold backE
    rw [getD_set_ne fun e => h (by rw [e]; exact List.mem_cons_self)]
    exact backE_out ρ' ρ fun m => h (List.mem_cons_of_mem _ m)
theorem backE_in (ρ' ρ : En) {i : Nat} : ∀ {vs : List Nat}, i ∈ vs → i < ρ'.length → (backE ρ' ρ vs).getD i none = ρ.getD i none
  | v :: vs, h, hl => by
    unfold backE
    by_cases hi : v = i
    · subst hi
      exact getD_set_self (by rw [backE_len]; exact hl)
    · rw [getD_set_ne hi]
      exact backE_in ρ' ρ ((List.mem_cons.mp h).elim (fun e => absurd e.symm hi) id) hl
theorem wipe_getD {σ : L2.St} {i : Nat} {vs : List Nat} (h : i ∉ vs) : (L2.wipe σ vs).getD i none = σ.getD i none := by
  rw [List.getD_eq_getElem?_getD, List.getD_eq_getElem?_getD, L2.wipe_out h]
theorem wipe_getD_in {σ : L2.St} {i : Nat} : ∀ {vs : List Nat}, i ∈ vs → (L2.wipe σ vs).getD i none = none
  | v :: vs, h => by
    unfold L2.wipe
    by_cases hi : v = i
    · subst hi
      by_cases hl : v < (L2.wipe σ vs).length
      · exact getD_set_self hl
      · rw [List.getD_eq_getElem?_getD, List.getElem?_eq_none (by rw [List.length_set]; omega)]
        rfl
    · rw [getD_set_ne hi]
      exact wipe_getD_in ((List.mem_cons.mp h).elim (fun e => absurd e.symm hi) id)
theorem SR.back {B : Bd} {F F' H H' : Hp} {L L' : La} {σ : L2.St} {ρ ρ' : En} {vs : List Nat} (S : SR B F L σ H ρ) (n : noOwn ρ vs = true) (S' : SR B F' L' (L2.wipe σ vs) H' ρ') (s : Same F F') : SR B F' L' σ H' (backE ρ' ρ vs) where
  len := by rw [backE_len, S'.len, L2.wipe_length]
  sub := S'.sub
  slot := fun i => by
    by_cases hi : i ∈ vs
    · have q' := S'.slot i
      rw [wipe_getD_in hi] at q'
      have hL : L' i = none := by
        revert q'
        cases ρ'.getD i none with
        | none => exact id
        | some c =>
          cases c with
          | val d => exact fun z => z.1
          | own ds => intro ⟨a, vs, z, _⟩; cases z
      by_cases hl : i < ρ'.length
      · rw [backE_in ρ' ρ hi hl]
        have q := S.slot i
        unfold noOwn at n
        rw [List.all_eq_true] at n
        have n1 := n i hi
        revert q n1
        cases ρ.getD i none with
        | none => exact fun _ _ => hL
        | some c =>
          cases c with
          | val d => exact fun ⟨_, v, h2, h3⟩ _ => ⟨hL, v, h2, h3.mono s⟩
          | own ds => intro _ z; cases z
      · have e : (backE ρ' ρ vs).getD i none = none := by
          rw [List.getD_eq_getElem?_getD, List.getElem?_eq_none (by rw [backE_len]; omega)]
          rfl
        rw [e]
        exact hL
    · have q' := S'.slot i
      rw [wipe_getD hi] at q'
      rw [backE_out ρ' ρ hi]
      exact q'
  inj := S'.inj
  f0 := S'.f0
  fn := S'.fn
  keep := S'.keep
  io := S'.io
  al := S'.al
/-- an object that no name holds and F does not is written -/
theorem SR.poke {B : Bd} {F H : Hp} {L : La} {σ : L2.St} {ρ : En} {a : Addr} {o : HO} (S : SR B F L σ H ρ) (f : F a = none) (n : ∀ i, L i ≠ some a) (h0 : B.H0 a = none) : SR B F L σ (upd H a o) ρ where
  len := S.len
  sub := fun b x e => by
    rw [upd_ne (fun z => by rw [z, f] at e; cases e)]
    exact S.sub b x e
  slot := fun i => by
    have q := S.slot i
    revert q
    cases ρ.getD i none with
    | none => exact id
    | some c =>
      cases c with
      | val d => exact id
      | own ds =>
        intro ⟨b, ws, h1, h2, h3, h4, h5, h6⟩
        have hb : b ≠ a := fun z => n i (by rw [h2, z])
        exact ⟨b, ws, h1, h2, by rw [upd_ne hb]; exact h3, h4, h5, h6⟩
  inj := S.inj
  f0 := S.f0
  fn := S.fn
  keep := fun b x e z => by
    rw [upd_ne (fun y => by rw [y, h0] at e; cases e)]
    exact S.keep b x e z
  io := S.io
  al := fun b z => by
    rw [upd_ne (fun y => z (by rw [y]; exact h0))]
    exact S.al b z
/-! ### list comprehensions -/
def WF : WX := fun _ _ _ _ => False
def noX : DX := fun _ _ _ => False
theorem noX_ok {B : Bd} {W : WX} {F : Hp} : XOk B W F noX := fun _ _ _ _ _ _ _ _ _ e _ _ _ => False.elim e
def mYes : DT := fun ρ Q _ => Q true ρ
theorem dts_nil {X : Cx} {B : Bd} {W : WX} : PTs X [] (rT B W mYes) := ⟨fun pins s σ H Q I ⟨F, L, ρ, Qd, Ed, S, ht, hq, hx⟩ => pts_nil.run pins s σ H Q I (hq true ρ F L H ht S (Stp.refl _ _ _))⟩
def lcGo (p : Pt) (tt : DT) (te : DE) (vs : List Nat) : List D → List D → En → (List D → En → Prop) → Prop
  | [], acc, ρ, Q => Q acc ρ
  | d :: ds, acc, ρ, Q => ptGo p d ρ fun ρ1 => tt ρ1 (fun b ρ2 => if b = true then te ρ2 (fun x ρ3 => acc.length < sizeLine ∧ lcGo p tt te vs ds (acc ++ [x]) (wipeE ρ3 vs) Q) noX else lcGo p tt te vs ds acc (wipeE ρ2 vs) Q) noX
def mLc (it : DI) (p : Pt) (tt : DT) (te : DE) (vs : List Nat) : DC := fun ρ Q E => it ρ (fun items ρ1 => noOwn ρ1 vs = true ∧ lcGo p tt te vs items [] (wipeE ρ1 vs) fun acc ρ2 => Q (.own acc) (backE ρ2 ρ1 vs)) E
theorem lc_imp {B : Bd} {W : WX} {it : DI} {p : Pt} {tt : DT} {te : DE} {vs : List Nat} (hio : (vs.all fun v => !B.ios.contains v) = true) (hp : ((ptNs p).all fun v => vs.contains v) = true) {σ : L2.St} {H : Hp} {Q : VK} (h : rC B W (mLc it p tt te vs) σ H Q) :
    tLc (rI B W it) (rP B p) (rT B WF tt) (rV B WF te) vs σ H Q := by
  obtain ⟨F, L, ρ, Qd, Ed, S, ht, hq, hx⟩ := h
  refine ⟨F, L, ρ, _, Ed, S, ht, fun items ρ1 F1 L1 H1 J ⟨kn, k⟩ S1 s1 gv D hD => ?_, hx⟩
  have hpv : ∀ i ∈ ptNs p, i ∈ vs := fun i hi => by
    have := List.all_eq_true.mp hp i hi
    exact List.contains_iff_mem.mp this
  have fD : F1 D = none := S1.sub.free hD
  have lD : ∀ i, L1 i ≠ some D := fun i e => by
    obtain ⟨_, _, _, _, q3, _⟩ := S1.own e
    rw [hD] at q3; cases q3
  have h0 : B.H0 D = none := by
    cases e : B.H0 D with
    | none => rfl
    | some o => exact absurd hD (S1.al D (by rw [e]; simp))
  obtain ⟨Lw, Sw, lw⟩ := (S1.poke (o := .lst []) fD lD h0).wipe hio
  refine ⟨fun i m H => m = items.length - i ∧ i ≤ items.length ∧ ∃ F L ρ acc av, SR B F L (L2.wipe σ vs) H ρ ∧ Stp F1 L1 H1 F L H ∧ H D = some (.lst av) ∧ F D = none ∧ (∀ i, L i ≠ some D) ∧ RpL B.K F acc av ∧
    lcGo p tt te vs (items.drop i) acc ρ fun acc ρ2 => Qd (.own acc) (backE ρ2 ρ1 vs), ⟨items.length, rfl, Nat.zero_le _, F1, Lw, _, [], [], Sw, ?_, upd_same, fD, fun i e => lD i (lw i _ e), rfl, k⟩, ?_⟩
  · exact ⟨Same.refl F1, lw, fun b o e _ => by rw [upd_ne (ne_of_none e hD)]; exact e, fun b o e => .inl e, fun b e => by rw [upd_ne (fun z => e (by rw [z]; exact hD))]; exact e⟩
  rintro i m H2 ⟨rfl, hi, F2, L2', ρ2, acc, av, S2, s2, hD2, fD2, lD2, racc, k2⟩
  by_cases hlt : i < items.length
  · rw [List.drop_eq_getElem_cons hlt] at k2
    have subF : Same F1 H2 := s2.f.trans S2.sub
    refine .inr ⟨gv.go i H2 subF hlt, fun H => items.length - (i + 1) = items.length - (i + 1) ∧ i + 1 ≤ items.length ∧ ∃ F L ρ acc av, SR B F L (L2.wipe σ vs) H ρ ∧ Stp F1 L1 H1 F L H ∧ H D = some (.lst av) ∧ F D = none ∧ (∀ i, L i ≠ some D) ∧ RpL B.K F acc av ∧
      lcGo p tt te vs (items.drop (i + 1)) acc ρ fun acc ρ2 => Qd (.own acc) (backE ρ2 ρ1 vs), fun H' h => ⟨_, by omega, h⟩, fun x H' y => ?_⟩
    obtain ⟨F3, d, g3, sb3, ed, rd⟩ := gv.yld i F2 H2 x H' s2.f S2.sub hlt y
    rw [List.getElem?_eq_getElem hlt] at ed
    cases ed
    have S3 := S2.grow g3 sb3
    refine ⟨F3, L2', ρ2, _, items[i], S3, rd, k2, fun ρ4 σ4 L4 q4 S4 l4 w4 => ⟨?_, F3, L4, ρ4, _, noX, S4, q4, fun b ρ5 F5 L5 H5 q5 S5 s5 => ?_, noX_ok⟩⟩
    · rw [w4 vs hpv, wipe_idem fun _ h => h]
    have s3 : Stp F1 L1 H1 F3 L4 H' := (s2.trans g3.stp).trans ⟨Same.refl _, l4, fun _ _ e _ => e, fun _ _ e => .inl e, fun _ e => e⟩
    have hw4 : L2.wipe σ4 vs = L2.wipe σ vs := by rw [w4 vs hpv, wipe_idem fun _ h => h]
    have hD3 : H' D = some (.lst av) := g3.h _ _ hD2
    have fD3 : F3 D = none := g3.none (by rw [hD2]; simp) fD2
    have lD4 : ∀ i, L4 i ≠ some D := fun i e => lD2 i (l4 i _ e)
    -- one step on
    have on : ∀ {F5 L5 H5}, Stp F3 L4 H' F5 L5 H5 → H5 D = some (.lst av) ∧ F5 D = none ∧ ∀ i, L5 i ≠ some D := fun {F5 L5 H5} s => by
      refine ⟨s.h _ _ hD3 lD4, ?_, fun i e => lD4 i (s.l i _ e)⟩
      cases e : F5 D with
      | none => rfl
      | some o =>
        rcases s.fn D o e with z | z | ⟨i, z⟩
        · rw [fD3] at z; cases z
        · rw [hD3] at z; cases z
        · exact absurd z (lD4 i)
    cases b with
    | false =>
      obtain ⟨d1, d2, d3⟩ := on s5
      obtain ⟨L6, S6, l6⟩ := S5.wipe hio
      rw [hw4] at S6
      exact ⟨rfl, hlt, F5, L6, _, acc, av, S6, (s3.trans s5).trans ⟨Same.refl _, l6, fun _ _ e _ => e, fun _ _ e => .inl e, fun _ e => e⟩, d1, d2, fun i e => d3 i (l6 i _ e), racc.mono (g3.f.trans s5.f), q5⟩
    | true =>
      refine ⟨F5, L5, ρ5, _, noX, S5, q5, fun x ρ6 xv F6 L6 H6 ⟨hz, q6⟩ S6 s6 rx => ?_, noX_ok⟩
      obtain ⟨d1, d2, d3⟩ := on (s5.trans s6)
      have r6 := racc.mono (g3.f.trans (s5.f.trans s6.f))
      refine ⟨av, d1, by rw [← racc.length]; exact hz, rfl, hlt, ?_⟩
      obtain ⟨L7, S7, l7⟩ := (S6.poke (o := .lst (av ++ [xv])) d2 d3 h0).wipe hio
      rw [hw4] at S7
      refine ⟨F6, L7, _, acc ++ [x], av ++ [xv], S7, ?_, upd_same, d2, fun i e => d3 i (l7 i _ e), r6.append (RpL.one rx), q6⟩
      have st := (s3.trans s5).trans s6
      exact ⟨st.f, fun i a h => st.l i a (l7 i a h), fun b o e n => by rw [upd_ne (ne_of_none e hD)]; exact st.h b o e n, st.fn, fun b e => by rw [upd_ne (fun z => e (by rw [z]; exact hD))]; exact st.al b e⟩
  · have e : i = items.length := by omega
    subst e
    rw [List.drop_length] at k2
    refine .inl ⟨gv.stop H2 (s2.f.trans S2.sub), hq (.own acc) _ _ F2 L2' H2 k2 (S1.back kn S2 s2.f) (s1.trans s2) ⟨D, av, rfl, hD2, fD2, lD2, h0, racc, .inl ?_⟩⟩
    cases e : H D with
    | none => rfl
    | some o => exact absurd hD (s1.al D (by rw [e]; simp))
section
variable {X : Cx} {B : Bd} {W : WX} {pos : Pos}
theorem dc_lc {elt tg iter : Expr} {ifs : List Expr} {scope : Scope} (own : List (Str × Nat)) {it : DI} {p : Pt} {tt : DT} {te : DE} (hc : X.calm = true) (hN : X.N.Nodup) (hi : PI X tg iter (rI B W it)) 
    (hg : ∀ (s : Shared) (H : Hp) (C : Addr) (cl : List (Str × Addr)) (fp : List Addr), PG (X.blk s H scope (compEnvC scope cl C X.env) fp) tg (rP B p)) (ht : ∀ (s : Shared) (H : Hp) (C : Addr) (cl : List (Str × Addr)) (fp : List Addr), PTs (X.blk s H scope (compEnvC scope cl C X.env) fp) ifs (rT B WF tt))
    (he : ∀ (s : Shared) (H : Hp) (C : Addr) (cl : List (Str × Addr)) (fp : List Addr), PE (X.blk s H scope (compEnvC scope cl C X.env) fp) elt (rV B WF te)) (ok : blkC X.N X.env.scope scope own = true := by rfl) (hio : ((own.map (·.2)).all fun v => !B.ios.contains v) = true := by rfl) (hp : ((ptNs p).all fun v => (own.map (·.2)).contains v) = true := by rfl)
    (hs : ∀ x, foldedSetIterable iter X.env x = pure x := by intro _; rfl) : PE X (.ListComp elt [⟨tg, iter, ifs, 0⟩] scope pos) (rC B W (mLc it p tt te (own.map (·.2)))) :=
  pe_imp (pe_lc hc hN hi (blkOk_by ok) hg ht he hs) fun _ _ _ h => lc_imp hio hp h
/-- name = [..] on one line -/
theorem ds_setLc (i : Nat) {y : Str} {py : Pos} {elt tg iter : Expr} {ifs : List Expr} {scope : Scope} {spos : Pos} (own : List (Str × Nat)) {it : DI} {p : Pt} {tt : DT} {te : DE} (hc : X.calm = true) (hN : X.N.Nodup) (hi : PI X tg iter (rI B W it)) 
    (hg : ∀ (s : Shared) (H : Hp) (C : Addr) (cl : List (Str × Addr)) (fp : List Addr), PG (X.blk s H scope (compEnvC scope cl C X.env) fp) tg (rP B p)) (ht : ∀ (s : Shared) (H : Hp) (C : Addr) (cl : List (Str × Addr)) (fp : List Addr), PTs (X.blk s H scope (compEnvC scope cl C X.env) fp) ifs (rT B WF tt))
    (he : ∀ (s : Shared) (H : Hp) (C : Addr) (cl : List (Str × Addr)) (fp : List Addr), PE (X.blk s H scope (compEnvC scope cl C X.env) fp) elt (rV B WF te)) (hsw : swapsWith (.ListComp elt [⟨tg, iter, ifs, 0⟩] scope pos) (some (.Name y py)) spos.line X.env = pure true := by exact sw_true rfl rfl rfl rfl)
    (hy : X.N[i]? = some y := by rfl) (hyl : X.env.scope.names.lookup y = some .local := by rfl) (hioi : B.ios.contains i = false := by rfl) (ok : blkC X.N X.env.scope scope own = true := by rfl) (hio : ((own.map (·.2)).all fun v => !B.ios.contains v) = true := by rfl) (hp : ((ptNs p).all fun v => (own.map (·.2)).contains v) = true := by rfl)
    (hs : ∀ x, foldedSetIterable iter X.env x = pure x := by intro _; rfl) : PS X (.Assign [.Name y py] (.ListComp elt [⟨tg, iter, ifs, 0⟩] scope pos) spos) (rS B W (mAsg (.nm i) (mLc it p tt te (own.map (·.2))))) := by
  refine ps_impL (ps_setLc hc hN hy hyl hsw hi (blkOk_by ok) hg ht he hs) fun D σ H hl h => ?_
  obtain ⟨F, L, ρ, Dd, S, q, o⟩ := h
  have hlt : i < σ.length := by rw [hl]; exact (List.getElem?_eq_some_iff.mp hy).1
  refine lc_imp hio hp ⟨F, L, ρ, _, Dd.ex, S, q, fun c ρ1 v F1 L1 H1 k S1 s1 r1 => ?_, o.ex⟩
  have k' : Dd.nx (ρ1.set i (some c)) := k
  cases c with
  | val d => exact o.nx _ _ _ _ _ k' (S1.put hioi hlt r1) s1.f
  | own ds =>
    obtain ⟨a, vs, e, h1, h2, h3, h4, h5, _⟩ := r1
    subst e
    exact o.nx _ _ _ _ _ k' (S1.putO hioi hlt h1 h2 h3 h4 h5) s1.f
theorem dts_one {c : Expr} {t : DT} (h : PT X c (rT B W t)) : PTs X [c] (rT B W t) := pts_one h
end
end DL
/-! The data layer: built-in calls, displays, chains, membership. -/
namespace DL
open PySem PySem.Spec PyProof.Rows L2
theorem RpVs.one {K : PySem.W.Frag} {F H : Hp} {d : D} {vs : List V} (h : RpVs K F H [d] vs) : ∃ v, vs = [v] ∧ RpV K F H d v := by
  obtain ⟨v, r, e, h1, h2⟩ := h
  cases (show r = [] from h2)
  exact ⟨v, e, h1⟩
theorem RpVs.two {K : PySem.W.Frag} {F H : Hp} {d e : D} {vs : List V} (h : RpVs K F H [d, e] vs) : ∃ v u, vs = [v, u] ∧ RpV K F H d v ∧ RpV K F H e u := by
  obtain ⟨v, r, ev, h1, h2⟩ := h
  obtain ⟨u, e, h3⟩ := h2.one
  subst e
  exact ⟨v, u, ev, h1, h3⟩
/-- a function of one datum, of two -/
def n1 (f : D → Option Cell) : DOpN
  | [d] => f d
  | _ => none
def n2 (f : D → D → Option Cell) : DOpN
  | [d, e] => f d e
  | _ => none
theorem n1_ok {K : PySem.W.Frag} {r : List V → Hp → VK → Prop} {f : D → Option Cell} (h : ∀ (F H : Hp) (d : D) (v : V) (c : Cell) (Q : VK), Same F H → RpV K F H d v → f d = some c → (∀ w F' H', Grow F H F' H' → Same F' H' → NewR K H c w F' H' → Q w H') → r [v] H Q) : OpN K r (n1 f) := by
  intro F H ds vs c Q sb rs e q
  match ds, rs, e with
  | [d], rs, e =>
    obtain ⟨v, ev, rv⟩ := rs.one
    subst ev
    exact h F H d v c Q sb rv e q
theorem n2_ok {K : PySem.W.Frag} {r : List V → Hp → VK → Prop} {f : D → D → Option Cell} (h : ∀ (F H : Hp) (d d2 : D) (v v2 : V) (c : Cell) (Q : VK), Same F H → RpV K F H d v → RpV K F H d2 v2 → f d d2 = some c → (∀ w F' H', Grow F H F' H' → Same F' H' → NewR K H c w F' H' → Q w H') → r [v, v2] H Q) : OpN K r (n2 f) := by
  intro F H ds vs c Q sb rs e q
  match ds, rs, e with
  | [d, d2], rs, e =>
    obtain ⟨v, u, ev, rv, ru⟩ := rs.two
    subst ev
    exact h F H d d2 v u c Q sb rv ru e q
/-! ### len, tuple, list, int, abs -/
def gLen : D → Option Cell
  | .str x => if x.length ≤ sizeLine then some (.val (.int (x.length : Nat))) else none
  | .tup ds => some (.val (.int (ds.length : Nat)))
  | .lst ds => some (.val (.int (ds.length : Nat)))
  | .fix ds => some (.val (.int (ds.length : Nat)))
  | _ => none
abbrev fLen : DOpN := n1 gLen
def rLen (K : PySem.W.Frag) : List V → Hp → VK → Prop := fun xs H Q => ∃ x n, xs = [x] ∧ LenV K x H n ∧ Q (.int n) H
theorem fLen_ok {K : PySem.W.Frag} : OpN K (rLen K) fLen := by
  refine n1_ok fun F H d v c Q sb h e q => ?_
  cases d <;> first | (cases e; done) | skip
  · rename_i x
    cases (show v = V.str _ from h)
    have e' : (if x.length ≤ sizeLine then some (Cell.val (.int (x.length : Nat))) else none) = some c := e
    split at e'
    · rename_i hl
      cases e'
      exact ⟨_, _, rfl, ⟨hl, rfl⟩, fin_val sb q rfl⟩
    · cases e'
  · obtain ⟨a, vs, rfl, q1, r1⟩ := RpV.tup_ sb h
    cases e
    exact ⟨_, _, rfl, .inr ⟨vs, q1, rfl⟩, fin_val sb q (by rw [r1.length]; rfl)⟩
  · obtain ⟨a, vs, rfl, q1, r1⟩ := h
    cases e
    exact ⟨_, _, rfl, .inl ⟨vs, SqL.of q1, rfl⟩, fin_val sb q (by rw [r1.length]; rfl)⟩
  · obtain ⟨a, vs, rfl, q1, r1⟩ := h
    cases e
    exact ⟨_, _, rfl, .inl ⟨vs, sb.seq q1, rfl⟩, fin_val sb q (by rw [r1.length]; rfl)⟩
def gTuple : D → Option Cell
  | .tup ds => some (.val (.tup ds))
  | .lst ds => some (.val (.tup ds))
  | .fix ds => some (.val (.tup ds))
  | _ => none
abbrev fTuple : DOpN := n1 gTuple
def rTuple (K : PySem.W.Frag) : List V → Hp → VK → Prop := fun xs H Q => ∃ p ys, xs = [.ref p] ∧ ((SqL K H p ys ∧ ∀ l, H l = none → Q (.ref l) (upd H l (.tup ys))) ∨ (SqT K H p ys ∧ Q (.ref p) H))
theorem fTuple_ok {K : PySem.W.Frag} : OpN K (rTuple K) fTuple := by
  refine n1_ok fun F H d v c Q sb h e q => ?_
  cases d <;> first | (cases e; done) | skip
  · rename_i ds
    cases e
    have h' := h
    obtain ⟨a, vs, rfl, q1, r1⟩ := RpV.tup_ sb h
    exact ⟨a, vs, rfl, .inr ⟨q1, fin_val sb q h'⟩⟩
  · obtain ⟨a, vs, rfl, q1, r1⟩ := h
    cases e
    exact ⟨a, vs, rfl, .inl ⟨SqL.of q1, fun l hl => fin_tup sb q hl r1⟩⟩
  · obtain ⟨a, vs, rfl, q1, r1⟩ := h
    cases e
    exact ⟨a, vs, rfl, .inl ⟨sb.seq q1, fun l hl => fin_tup sb q hl r1⟩⟩
def gList : D → Option Cell
  | .tup ds => some (.own ds)
  | .lst ds => some (.own ds)
  | .fix ds => some (.own ds)
  | _ => none
abbrev fList : DOpN := n1 gList
def rList (K : PySem.W.Frag) : List V → Hp → VK → Prop := fun xs H Q => ∃ p ys, xs = [.ref p] ∧ (SqL K H p ys ∨ SqT K H p ys) ∧ ∀ l, H l = none → Q (.ref l) (upd H l (.lst ys))
theorem fList_ok {K : PySem.W.Frag} : OpN K (rList K) fList := by
  refine n1_ok fun F H d v c Q sb h e q => ?_
  cases d <;> first | (cases e; done) | skip
  · cases e
    obtain ⟨a, vs, rfl, q1, r1⟩ := RpV.tup_ sb h
    exact ⟨a, vs, rfl, .inr q1, fun l hl => fin_lst sb q hl r1⟩
  · obtain ⟨a, vs, rfl, q1, r1⟩ := h
    cases e
    exact ⟨a, vs, rfl, .inl (SqL.of q1), fun l hl => fin_lst sb q hl r1⟩
  · obtain ⟨a, vs, rfl, q1, r1⟩ := h
    cases e
    exact ⟨a, vs, rfl, .inl (sb.seq q1), fun l hl => fin_lst sb q hl r1⟩
def gInt : D → Option Cell
  | .int i => some (.val (.int i))
  | .bl b => some (.val (.int (if b then 1 else 0)))
  | _ => none
abbrev fInt : DOpN := n1 gInt
def rInt1 : List V → Hp → VK → Prop := fun xs H Q => (∃ i, xs = [.int i] ∧ Q (.int i) H) ∨ ∃ k, xs = [.bl k] ∧ Q (.int (if k then 1 else 0)) H
theorem fInt_ok {K : PySem.W.Frag} : OpN K rInt1 fInt := by
  refine n1_ok fun F H d v c Q sb h e q => ?_
  cases d <;> first | (cases e; done) | skip
  · cases (show v = V.bl _ from h)
    cases e
    exact .inr ⟨_, rfl, fin_val sb q rfl⟩
  · cases (show v = V.int _ from h)
    cases e
    exact .inl ⟨_, rfl, fin_val sb q rfl⟩
def gAbs : D → Option Cell
  | .int i => some (.val (.int (if i < 0 then -i else i)))
  | _ => none
abbrev fAbs : DOpN := n1 gAbs
def rAbs : List V → Hp → VK → Prop := fun xs H Q => ∃ i, xs = [.int i] ∧ Q (.int (if i < 0 then -i else i)) H
theorem fAbs_ok {K : PySem.W.Frag} : OpN K rAbs fAbs := by
  refine n1_ok fun F H d v c Q sb h e q => ?_
  cases d <;> first | (cases e; done) | skip
  cases (show v = V.int _ from h)
  cases e
  exact ⟨_, rfl, fin_val sb q rfl⟩
/-! ### lists of whole numbers, of truths -/
def numsD : List D → Option (List Int)
  | [] => some []
  | .int i :: ds => (numsD ds).map (i :: ·)
  | _ :: _ => none
theorem ints_eq : ∀ {ds : List D} {ns : List Int}, numsD ds = some ns → ds = ns.map D.int
  | [], _, e => by cases e; rfl
  | .int i :: ds, ns, e => by
    cases h : numsD ds with
    | none => simp [numsD, h] at e
    | some ms =>
      simp [numsD, h] at e
      subst e
      rw [ints_eq h]
      rfl
theorem ints_map : ∀ ns : List Int, numsD (ns.map D.int) = some ns
  | [] => rfl
  | n :: ns => by simp [numsD, ints_map ns]
def bls : List D → Option (List Bool)
  | [] => some []
  | .bl b :: ds => (bls ds).map (b :: ·)
  | _ :: _ => none
theorem bls_eq : ∀ {ds : List D} {ns : List Bool}, bls ds = some ns → ds = ns.map D.bl
  | [], _, e => by cases e; rfl
  | .bl i :: ds, ns, e => by
    cases h : bls ds with
    | none => simp [bls, h] at e
    | some ms =>
      simp [bls, h] at e
      subst e
      rw [bls_eq h]
      rfl
theorem bls_map : ∀ ns : List Bool, bls (ns.map D.bl) = some ns
  | [] => rfl
  | n :: ns => by simp [bls, bls_map ns]
theorem RpL.to_bls {K : PySem.W.Frag} {F : Hp} : ∀ {ns : List Bool} {vs : List V}, RpL K F (ns.map D.bl) vs → vs = ns.map V.bl
  | [], _, h => h
  | n :: ns, _, h => by
    obtain ⟨v, r, rfl, h1, h2⟩ := h
    have e1 : v = .bl n := h1
    rw [e1, RpL.to_bls h2]
    rfl
def lstOf : D → Option (List D)
  | .lst ds => some ds
  | .fix ds => some ds
  | _ => none
theorem lstOf_ok {K : PySem.W.Frag} {F H : Hp} (sb : Same F H) : ∀ {d : D} {v : V} {ds : List D}, RpV K F H d v → lstOf d = some ds → ∃ a vs, v = .ref a ∧ SqL K H a vs ∧ RpL K F ds vs
  | .lst _, _, _, ⟨a, vs, e, q, r⟩, z => by cases z; exact ⟨a, vs, e, SqL.of q, r⟩
  | .fix _, _, _, ⟨a, vs, e, q, r⟩, z => by cases z; exact ⟨a, vs, e, sb.seq q, r⟩
  | .tup _, _, _, _, z => by cases z
  | .non, _, _, _, z => by cases z
  | .bl _, _, _, _, z => by cases z
  | .int _, _, _, _, z => by cases z
  | .str _, _, _, _, z => by cases z
  | .dic _ _, _, _, _, z => by cases z
  | .obj _ _ _, _, _, _, z => by cases z
  | .adr _, _, _, _, z => by cases z
  | .rng _ _, _, _, _, z => by cases z
  | .ty _, _, _, _, z => by cases z
def gSum (d : D) : Option Cell := match lstOf d with
  | some ds => (numsD ds).map fun ns => .val (.int ns.sum)
  | none => none
abbrev fSum : DOpN := n1 gSum
theorem intl {K : PySem.W.Frag} {F H : Hp} {d : D} {v : V} {α : Type} {g : List Int → α} {c : α} (sb : Same F H) (h : RpV K F H d v) (e : (match lstOf d with | some ds => (numsD ds).map g | none => none) = some c) : ∃ a ns, v = .ref a ∧ SqL K H a (ns.map V.int) ∧ c = g ns ∧ lstOf d = some (ns.map D.int) := by
  cases ed : lstOf d with
  | none => rw [ed] at e; cases e
  | some ds =>
    rw [ed] at e
    obtain ⟨a, vs, ev, q, r⟩ := lstOf_ok sb h ed
    cases en : numsD ds with
    | none => simp only [en] at e; cases e
    | some ns =>
      simp only [en] at e
      cases e
      have := ints_eq en
      subst this
      rw [r.to_ints] at q
      exact ⟨a, ns, ev, q, rfl, rfl⟩
theorem fSum_ok {K : PySem.W.Frag} : OpN K (rSum K) fSum := by
  refine n1_ok fun F H d v c Q sb h e q => ?_
  obtain ⟨a, ns, ev, hq, ec, _⟩ := intl sb h e
  subst ec
  exact ⟨a, ns, by rw [ev], hq, fin_val sb q rfl⟩
def maxI : List Int → Option Int
  | [] => none
  | [n] => some n
  | n :: ns => (maxI ns).map fun m => if m > n then m else n
def minI : List Int → Option Int
  | [] => none
  | [n] => some n
  | n :: ns => (minI ns).map fun m => if m < n then m else n
theorem maxI_eq : ∀ {ns : List Int} {m : Int}, m ∈ ns → (∀ y, y ∈ ns → y ≤ m) → maxI ns = some m
  | [], _, h, _ => by cases h
  | [n], m, h, _ => by
    have : m = n := by simpa using h
    rw [this]; rfl
  | n :: k :: ns, m, h, g => by
    have hm : ∀ y, y ∈ k :: ns → y ≤ m := fun y hy => g y (List.mem_cons_of_mem _ hy)
    have gn := g n List.mem_cons_self
    show (maxI (k :: ns)).map _ = _
    by_cases hk : m ∈ k :: ns
    · rw [maxI_eq hk hm]
      simp only [Option.map_some]
      split <;> congr 1 <;> omega
    · have e : m = n := (List.mem_cons.mp h).elim id fun z => absurd z hk
      subst e
      -- the greatest of the rest is less
      have : ∀ {xs : List Int}, xs ≠ [] → ∃ k, maxI xs = some k ∧ k ∈ xs := by
        intro xs
        induction xs with
        | nil => intro z; exact absurd rfl z
        | cons x xs ih =>
          intro _
          cases xs with
          | nil => exact ⟨x, rfl, List.mem_cons_self⟩
          | cons y ys =>
            obtain ⟨w, e1, e2⟩ := ih (by simp)
            refine ⟨if w > x then w else x, ?_, ?_⟩
            · show (maxI (y :: ys)).map _ = _
              rw [e1]; rfl
            · split
              · exact List.mem_cons_of_mem _ e2
              · exact List.mem_cons_self
      obtain ⟨w, e1, e2⟩ := this (xs := k :: ns) (by simp)
      rw [e1]
      have := hm w e2
      simp only [Option.map_some]
      rw [if_neg (by omega)]
theorem minI_eq : ∀ {ns : List Int} {m : Int}, m ∈ ns → (∀ y, y ∈ ns → m ≤ y) → minI ns = some m
  | [], _, h, _ => by cases h
  | [n], m, h, _ => by
    have : m = n := by simpa using h
    rw [this]; rfl
  | n :: k :: ns, m, h, g => by
    have hm : ∀ y, y ∈ k :: ns → m ≤ y := fun y hy => g y (List.mem_cons_of_mem _ hy)
    have gn := g n List.mem_cons_self
    show (minI (k :: ns)).map _ = _
    by_cases hk : m ∈ k :: ns
    · rw [minI_eq hk hm]
      simp only [Option.map_some]
      split <;> congr 1 <;> omega
    · have e : m = n := (List.mem_cons.mp h).elim id fun z => absurd z hk
      subst e
      have : ∀ {xs : List Int}, xs ≠ [] → ∃ k, minI xs = some k ∧ k ∈ xs := by
        intro xs
        induction xs with
        | nil => intro z; exact absurd rfl z
        | cons x xs ih =>
          intro _
          cases xs with
          | nil => exact ⟨x, rfl, List.mem_cons_self⟩
          | cons y ys =>
            obtain ⟨w, e1, e2⟩ := ih (by simp)
            refine ⟨if w < x then w else x, ?_, ?_⟩
            · show (minI (y :: ys)).map _ = _
              rw [e1]; rfl
            · split
              · exact List.mem_cons_of_mem _ e2
              · exact List.mem_cons_self
      obtain ⟨w, e1, e2⟩ := this (xs := k :: ns) (by simp)
      rw [e1]
      have := hm w e2
      simp only [Option.map_some]
      rw [if_neg (by omega)]
/-- max of two whole numbers, or of a list of them -/
def fMax : DOpN
  | [.int i, .int j] => some (.val (.int (if j > i then j else i)))
  | [d] => (match lstOf d with
    | some ds => (numsD ds).bind fun ns => (maxI ns).map fun m => .val (.int m)
    | none => none)
  | _ => none
def fMin : DOpN
  | [.int i, .int j] => some (.val (.int (if j < i then j else i)))
  | [d] => (match lstOf d with
    | some ds => (numsD ds).bind fun ns => (minI ns).map fun m => .val (.int m)
    | none => none)
  | _ => none
def rMaxD (K : PySem.W.Frag) : List V → Hp → VK → Prop := fun xs H Q => (∃ i j, xs = [.int i, .int j] ∧ Q (.int (if j > i then j else i)) H) ∨ rMax K xs H Q
def rMinD (K : PySem.W.Frag) : List V → Hp → VK → Prop := fun xs H Q => (∃ i j, xs = [.int i, .int j] ∧ Q (.int (if j < i then j else i)) H) ∨ rMin K xs H Q
theorem intl2 {K : PySem.W.Frag} {F H : Hp} {d : D} {v : V} {α : Type} {g : List Int → Option α} {c : α} (sb : Same F H) (h : RpV K F H d v) (e : (match lstOf d with | some ds => (numsD ds).bind g | none => none) = some c) : ∃ a ns, v = .ref a ∧ SqL K H a (ns.map V.int) ∧ g ns = some c := by
  cases ed : lstOf d with
  | none => rw [ed] at e; cases e
  | some ds =>
    rw [ed] at e
    obtain ⟨a, vs, ev, q, r⟩ := lstOf_ok sb h ed
    cases en : numsD ds with
    | none => simp only [en] at e; cases e
    | some ns =>
      simp only [en] at e
      have := ints_eq en
      subst this
      rw [r.to_ints] at q
      exact ⟨a, ns, ev, q, e⟩
theorem fMax_ok {K : PySem.W.Frag} : OpN K (rMaxD K) fMax := by
  intro F H ds vs c Q sb rs e q
  unfold fMax at e
  split at e
  · cases e
    obtain ⟨v, u, ev, rv, ru⟩ := rs.two
    subst ev
    cases (show v = V.int _ from rv)
    cases (show u = V.int _ from ru)
    exact .inl ⟨_, _, rfl, fin_val sb q rfl⟩
  · obtain ⟨v, ev, rv⟩ := rs.one
    subst ev
    obtain ⟨a, ns, ev, hq, ec⟩ := intl2 sb rv e
    subst ev
    refine .inr ⟨a, ns, rfl, hq, ?_, fun m h1 h2 => ?_⟩
    · cases ns with
      | nil => cases ec
      | cons n ns => exact Nat.succ_pos _
    · rw [maxI_eq h1 h2] at ec
      cases ec
      exact fin_val sb q rfl
  · cases e
theorem fMin_ok {K : PySem.W.Frag} : OpN K (rMinD K) fMin := by
  intro F H ds vs c Q sb rs e q
  unfold fMin at e
  split at e
  · cases e
    obtain ⟨v, u, ev, rv, ru⟩ := rs.two
    subst ev
    cases (show v = V.int _ from rv)
    cases (show u = V.int _ from ru)
    exact .inl ⟨_, _, rfl, fin_val sb q rfl⟩
  · obtain ⟨v, ev, rv⟩ := rs.one
    subst ev
    obtain ⟨a, ns, ev, hq, ec⟩ := intl2 sb rv e
    subst ev
    refine .inr ⟨a, ns, rfl, hq, ?_, fun m h1 h2 => ?_⟩
    · cases ns with
      | nil => cases ec
      | cons n ns => exact Nat.succ_pos _
    · rw [minI_eq h1 h2] at ec
      cases ec
      exact fin_val sb q rfl
  · cases e
section
variable {X : Cx}
theorem cr_maxD (hc : X.calm = true) : CallR X (.builtin "max") (rMaxD X.K) := (call_max2 hc).or (cr_max hc)
theorem cr_minD (hc : X.calm = true) : CallR X (.builtin "min") (rMinD X.K) := (call_min2 hc).or (cr_min hc)
end
theorem bll {K : PySem.W.Frag} {F H : Hp} {d : D} {v : V} {α : Type} {g : List Bool → α} {c : α} (sb : Same F H) (h : RpV K F H d v) (e : (match lstOf d with | some ds => (bls ds).map g | none => none) = some c) : ∃ a ns, v = .ref a ∧ SqL K H a (ns.map V.bl) ∧ c = g ns := by
  cases ed : lstOf d with
  | none => rw [ed] at e; cases e
  | some ds =>
    rw [ed] at e
    obtain ⟨a, vs, ev, q, r⟩ := lstOf_ok sb h ed
    cases en : bls ds with
    | none => simp only [en] at e; cases e
    | some ns =>
      simp only [en] at e
      cases e
      have := bls_eq en
      subst this
      rw [r.to_bls] at q
      exact ⟨a, ns, ev, q, rfl⟩
def gAll (d : D) : Option Cell := match lstOf d with
  | some ds => (bls ds).map fun ns => .val (.bl (ns.all id))
  | none => none
def gAny (d : D) : Option Cell := match lstOf d with
  | some ds => (bls ds).map fun ns => .val (.bl (ns.any id))
  | none => none
abbrev fAll : DOpN := n1 gAll
abbrev fAny : DOpN := n1 gAny
theorem fAll_ok {K : PySem.W.Frag} : OpN K (rAll K) fAll := by
  refine n1_ok fun F H d v c Q sb h e q => ?_
  obtain ⟨a, ns, ev, hq, ec⟩ := bll sb h e
  subst ec
  exact ⟨a, ns, by rw [ev], hq, fin_val sb q rfl⟩
theorem fAny_ok {K : PySem.W.Frag} : OpN K (rAny K) fAny := by
  refine n1_ok fun F H d v c Q sb h e q => ?_
  obtain ⟨a, ns, ev, hq, ec⟩ := bll sb h e
  subst ec
  exact ⟨a, ns, by rw [ev], hq, fin_val sb q rfl⟩
def gGcd : D → D → Option Cell
  | .int a, .int b => some (.val (.int ((Nat.gcd a.natAbs b.natAbs : Nat) : Int)))
  | _, _ => none
abbrev fGcd : DOpN := n2 gGcd
theorem fGcd_ok {K : PySem.W.Frag} : OpN K rGcd fGcd := by
  refine n2_ok fun F H d d2 v v2 c Q sb h h2 e q => ?_
  cases d <;> cases d2 <;> first | (cases e; done) | skip
  cases (show v = V.int _ from h)
  cases (show v2 = V.int _ from h2)
  cases e
  exact ⟨_, _, rfl, fin_val sb q rfl⟩
def gDivmod : D → D → Option Cell
  | .int i, .int j => if 0 < j ∧ Builtin.divisionGoesByPylong i j = false then some (.val (.tup [.int (i / j), .int (i % j)])) else none
  | _, _ => none
abbrev fDivmod : DOpN := n2 gDivmod
def rDivmod : List V → Hp → VK → Prop := fun xs H Q => ∃ i j, xs = [.int i, .int j] ∧ CDivP i j ∧ ∀ p, H p = none → Q (.ref p) (upd H p (.tup [.int (i / j), .int (i % j)]))
theorem fDivmod_ok {K : PySem.W.Frag} : OpN K rDivmod fDivmod := by
  refine n2_ok fun F H d d2 v v2 c Q sb h h2 e q => ?_
  cases d <;> cases d2 <;> first | (cases e; done) | skip
  rename_i i j
  cases (show v = V.int _ from h)
  cases (show v2 = V.int _ from h2)
  have e' : (if 0 < j ∧ Builtin.divisionGoesByPylong i j = false then some (Cell.val (.tup [.int (i / j), .int (i % j)])) else none) = some c := e
  split at e'
  · rename_i hc
    cases e'
    exact ⟨_, _, rfl, hc, fun p hp => fin_tup sb q hp ⟨_, _, rfl, rfl, _, _, rfl, rfl, rfl⟩⟩
  · cases e'
/-- the numbers in order -/
def sortI (ns : List Int) : List Int := ns.mergeSort (fun a b => decide (a ≤ b))
theorem sortI_eq {ns ms : List Int} (h : ms.Perm ns) (s : ms.Pairwise (· ≤ ·)) : ms = sortI ns := by
  have h2 : (sortI ns).Pairwise (· ≤ ·) := by
    have := List.pairwise_mergeSort (le := fun a b : Int => decide (a ≤ b)) (fun a b c => by simp only [decide_eq_true_eq]; omega) (fun a b => by simp only [Bool.or_eq_true, decide_eq_true_eq]; omega) ns
    exact this.imp fun h => of_decide_eq_true h
  exact List.Perm.eq_of_pairwise (le := fun a b : Int => a ≤ b) (fun a b _ _ h1 h2 => by omega) s h2 (h.trans (List.mergeSort_perm ns _).symm)
def gSort (d : D) : Option Cell := match lstOf d with
  | some ds => (numsD ds).map fun ns => .own ((sortI ns).map D.int)
  | none => none
abbrev fSort : DOpN := n1 gSort
theorem fSort_ok {K : PySem.W.Frag} : OpN K (rSortedI K) fSort := by
  refine n1_ok fun F H d v c Q sb h e q => ?_
  obtain ⟨a, ns, ev, hq, ec, _⟩ := intl sb h e
  subst ec
  refine ⟨a, ns, by rw [ev], hq, fun ns' p h1 h2 hp => ?_⟩
  rw [sortI_eq h1 h2]
  exact fin_lst sb q hp (RpL.ints _)
/-! ### isinstance -/
def tyD : D → Option String
  | .non => some "NoneType"
  | .bl _ => some "bool"
  | .int _ => some "int"
  | .str _ => some "str"
  | .tup _ => some "tuple"
  | .lst _ => some "list"
  | .fix _ => some "list"
  | .dic _ _ => some "dict"
  | .obj _ _ _ => none
  | .adr _ => none
  | .rng _ _ => none
  | .ty _ => none
theorem tyD_lst {K : PySem.W.Frag} {H : Hp} {a : Addr} {xs : List V} (h : SqL K H a xs) : TyX K H (.ref a) (.type "list") := by
  rcases h with (h | ⟨o, h⟩) | ⟨o, its, n, e, c, _⟩
  · exact .base (.lst h)
  · exact .base (.frz h)
  · exact .kList e c
theorem tyD_tup {K : PySem.W.Frag} {H : Hp} {a : Addr} {xs : List V} (h : SqT K H a xs) : TyX K H (.ref a) (.type "tuple") := by
  rcases h with (h | ⟨o, h⟩) | ⟨o, its, n, e, c, _⟩
  · exact .base (.tup h)
  · exact .fTuple h
  · exact .kTuple e c
theorem tyD_ok {K : PySem.W.Frag} {F H : Hp} (sb : Same F H) : ∀ {d : D} {v : V} {t : String}, RpV K F H d v → tyD d = some t → TyX K H v (.type t)
  | .non, _, _, h, e => by cases (show _ = V.non from h); cases e; exact .base .non
  | .bl _, _, _, h, e => by cases (show _ = V.bl _ from h); cases e; exact .base (.bl _)
  | .int _, _, _, h, e => by cases (show _ = V.int _ from h); cases e; exact .base (.int _)
  | .str _, _, _, h, e => by cases (show _ = V.str _ from h); cases e; exact .base (.str _)
  | .tup _, _, _, h, e => by
    obtain ⟨a, vs, rfl, q, r⟩ := RpV.tup_ sb h
    cases e
    exact tyD_tup q
  | .lst _, _, _, h, e => by
    obtain ⟨a, vs, rfl, q, r⟩ := h
    cases e
    exact tyD_lst (SqL.of q)
  | .fix _, _, _, h, e => by
    obtain ⟨a, vs, rfl, q, r⟩ := h
    cases e
    exact tyD_lst (sb.seq q)
  | .dic _ _, _, _, h, e => by
    obtain ⟨a, vs, rfl, q, _, r⟩ := h
    cases e
    exact .base (.dK (sb _ _ q))
  | .ty _, _, _, _, e => by cases e
  | .obj _ _ _, _, _, _, e => by cases e
  | .adr _, _, _, _, e => by cases e
  | .rng _ _, _, _, _, e => by cases e
/-- of the built-in types told here: is the first one the second, or under it -/
def isB (a b : String) : Option Bool :=
  if b = "int" then some (a == "int" || a == "bool") else if b = "bool" || b = "str" || b = "tuple" || b = "list" || b = "dict" then some (a == b) else none
theorem isB_ok : ∀ {d : D} {a b : String} {r : Bool}, tyD d = some a → isB a b = some r → kitB a b = some r := by
  intro d a b r ha hb
  have h1 : a = "NoneType" ∨ a = "bool" ∨ a = "int" ∨ a = "str" ∨ a = "tuple" ∨ a = "list" ∨ a = "dict" := by
    cases d <;> cases ha <;> simp
  have h2 : b = "int" ∨ b = "bool" ∨ b = "str" ∨ b = "tuple" ∨ b = "list" ∨ b = "dict" := by
    unfold isB at hb
    split at hb
    · exact .inl ‹_›
    · split at hb
      · rename_i z
        simp only [Bool.or_eq_true, decide_eq_true_eq] at z
        rcases z with (((z | z) | z) | z) | z <;> simp [z]
      · cases hb
  rcases h1 with rfl | rfl | rfl | rfl | rfl | rfl | rfl <;> rcases h2 with rfl | rfl | rfl | rfl | rfl | rfl <;> (rw [← hb]; decide +kernel)
def isBs (a : String) : List D → Option Bool
  | [] => some false
  | .ty b :: cs => (match isB a b, isBs a cs with
    | some x, some y => some (x || y)
    | _, _ => none)
  | _ :: _ => none
/-- isinstance: of a built-in type, of one of several -/
def gIsi : D → D → Option Cell
  | d, .ty b => (tyD d).bind fun a => (isB a b).map fun r => .val (.bl r)
  | d, .tup cs => (tyD d).bind fun a => (isBs a cs).map fun r => .val (.bl r)
  | _, _ => none
abbrev fIsi : DOpN := n2 gIsi
/-- isinstance(x, (c, ..)) of a tuple that is read -/
def rIsiS (K : PySem.W.Frag) : List V → Hp → VK → Prop := fun xs H Q => ∃ (x : V) (tp : Addr) (cs : List V) (t : Value) (us : List Value) (b : Bool), xs = [x, .ref tp] ∧ SqT K H tp cs ∧ Paired ClsV cs us ∧ TyX K H x t ∧ PySem.W.kitAny K t us = some b ∧ Q (.bl b) H
theorem call_isiS {X : Cx} : CallR X (.builtin "isinstance") (rIsiS X.K) := by
  intro pins s σ H xs us Q I r h
  obtain ⟨x, tp, cs, t, ws, b, rfl, hT, k, ty, e, q⟩ := h
  obtain ⟨u1, u2, rfl, r1, r2⟩ := vals2 r
  cases (show u2 = Value.ref tp from r2)
  obtain ⟨P, Z, p, hx⟩ := kit_of I r1 ty
  obtain ⟨its, rv, ⟨o, h1, h2, n, h3⟩, hz⟩ := I.tuple hT
  have e3 := ClsV.all k rv
  subst e3
  obtain ⟨oc, od, dt, sl⟩ := o
  simp only at h2 h3
  subst h2 h3
  exact PySem.W.kia_tup Z I.kIn p h1 e hx fun tk => ⟨.bl b, H, I.tok tk, rfl, q⟩
def rIsiD (K : PySem.W.Frag) : List V → Hp → VK → Prop := fun xs H Q => rIsi K xs H Q ∨ rIsiS K xs H Q
theorem cr_isi {X : Cx} : CallR X (.builtin "isinstance") (rIsiD X.K) := call_isi.or call_isiS
theorem isBs_ok {K : PySem.W.Frag} {F : Hp} {d : D} {a : String} (ha : tyD d = some a) : ∀ {cs : List D} {vs : List V} {r : Bool}, RpL K F cs vs → isBs a cs = some r → ∃ us, Paired ClsV vs us ∧ PySem.W.kitAny K (.type a) us = some r
  | [], vs, r, h, e => by
    cases (show vs = [] from h)
    cases e
    exact ⟨[], .nil, rfl⟩
  | c :: cs, vs, r, ⟨v, rest, ev, h1, h2⟩, e => by
    subst ev
    cases c <;> first | (cases e; done) | skip
    rename_i b
    cases (show v = V.ty b from h1)
    have e' : (match isB a b, isBs a cs with | some x, some y => some (x || y) | _, _ => none) = some r := e
    split at e'
    · rename_i x y e1 e2
      cases e'
      obtain ⟨us, p, k⟩ := isBs_ok ha h2 e2
      refine ⟨_, .cons (.ty b) p, kitAny_cons (kit_ty (isB_ok ha e1)) (fun z => ?_) (fun z => ?_)⟩
      · subst z; exact k
      · subst z; rfl
    · cases e'
theorem fIsi_ok {K : PySem.W.Frag} : OpN K (rIsiD K) fIsi := by
  refine n2_ok fun F H d d2 v v2 c Q sb h h2 e q => ?_
  cases d2 <;> first | (cases d <;> cases e; done) | skip
  · rename_i cs
    have e' : ((tyD d).bind fun a => (isBs a cs).map fun r => Cell.val (.bl r)) = some c := by cases d <;> exact e
    cases ea : tyD d with
    | none => rw [ea] at e'; cases e'
    | some a =>
      rw [ea] at e'
      simp only [Option.bind_some] at e'
      cases eb : isBs a cs with
      | none => rw [eb] at e'; cases e'
      | some r =>
        rw [eb] at e'
        cases e'
        obtain ⟨p, us, rfl, q1, r1⟩ := RpV.tup_ sb h2
        obtain ⟨ws, k1, k2⟩ := isBs_ok ea r1 eb
        exact .inr ⟨v, p, us, _, ws, r, rfl, q1, k1, tyD_ok sb h ea, k2, fin_val sb q rfl⟩
  · rename_i b
    have e' : ((tyD d).bind fun a => (isB a b).map fun r => Cell.val (.bl r)) = some c := by cases d <;> exact e
    cases ea : tyD d with
    | none => rw [ea] at e'; cases e'
    | some a =>
      rw [ea] at e'
      simp only [Option.bind_some] at e'
      cases eb : isB a b with
      | none => rw [eb] at e'; cases e'
      | some r =>
        rw [eb] at e'
        cases e'
        cases (show v2 = V.ty b from h2)
        exact .inl ⟨v, _, _, _, r, rfl, .ty b, tyD_ok sb h ea, kit_ty (isB_ok ea eb), fin_val sb q rfl⟩
/-! ### displays -/
def mDs : List DE → En → (List D → En → Prop) → DX → Prop
  | [], ρ, Q, _ => Q [] ρ
  | t :: ts, ρ, Q, E => t ρ (fun d ρ1 => mDs ts ρ1 (fun ds => Q (d :: ds)) E) E
def rDs (B : Bd) (W : WX) (ts : List DE) : TA := fun σ H Q => ∃ F L ρ Qd Ed, SR B F L σ H ρ ∧ mDs ts ρ Qd Ed ∧
  (∀ ds ρ' vs F' L' H', Qd ds ρ' → SR B F' L' σ H' ρ' → Stp F L H F' L' H' → RpL B.K F' ds vs → Q vs H') ∧ XOk B W F Ed
section
variable {X : Cx} {B : Bd} {W : WX} {pos : Pos} {e : Expr} {es : List Expr} {t : DE} {ts : List DE}
theorem ddn : PA X [] (rDs B W []) := pa_imp pa_nil fun σ H Q ⟨F, L, ρ, Qd, Ed, S, ht, hq, hx⟩ => hq [] ρ [] F L H ht S (Stp.refl _ _ _) rfl
theorem ddc (ha : PE X e (rV B W t)) (hr : PA X es (rDs B W ts)) (hs : starEach (e :: es) X.env = (false, eval e X.env) :: starEach es X.env := by rfl) : PA X (e :: es) (rDs B W (t :: ts)) :=
  pa_imp (pa_cons ha hr hs) fun σ H Q ⟨F, L, ρ, Qd, Ed, S, ht, hq, hx⟩ =>
    ⟨F, L, ρ, _, Ed, S, ht, fun d ρ1 v F1 L1 H1 q1 S1 s1 r1 => ⟨F1, L1, ρ1, _, Ed, S1, q1, fun ds ρ2 vs F2 L2 H2 q2 S2 s2 r2 => hq (d :: ds) ρ2 (v :: vs) F2 L2 H2 q2 S2 (s1.trans s2) ⟨v, vs, rfl, r1.mono s2.f, r2⟩, hx.mono s1.f⟩, hx⟩
def mTup (ts : List DE) : DE := fun ρ Q E => mDs ts ρ (fun ds ρ1 => ds.length ≤ sizeLine ∧ Q (.tup ds) ρ1) E
def mLst (ts : List DE) : DC := fun ρ Q E => mDs ts ρ (fun ds ρ1 => ds.length ≤ sizeLine ∧ Q (.own ds) ρ1) E
theorem de_tup {j : Nat} (h : PA X es (rDs B W ts)) : PE X (.Tuple es j pos) (rV B W (mTup ts)) := by
  refine pe_imp (pe_tup h) fun σ H Q ⟨F, L, ρ, Qd, Ed, S, ht, hq, hx⟩ => ⟨F, L, ρ, _, Ed, S, ht, fun ds ρ1 vs F1 L1 H1 ⟨hl, k⟩ S1 s1 r1 => ⟨by rw [← r1.length]; exact hl, fun p hp => ?_⟩, hx⟩
  obtain ⟨g, s⟩ := grow_upd (o := .tup vs) S1.sub hp
  exact hq (.tup ds) ρ1 _ _ L1 _ k (S1.grow g s) (s1.trans g.stp) ⟨p, vs, rfl, SqT.of upd_same, r1.mono g.f⟩
theorem dc_lst (h : PA X es (rDs B W ts)) : PE X (.List es pos) (rC B W (mLst ts)) := by
  refine pe_imp (pe_lst h) fun σ H Q ⟨F, L, ρ, Qd, Ed, S, ht, hq, hx⟩ => ⟨F, L, ρ, _, Ed, S, ht, fun ds ρ1 vs F1 L1 H1 ⟨hl, k⟩ S1 s1 r1 => ⟨by rw [← r1.length]; exact hl, fun p hp => ?_⟩, hx⟩
  have g : Grow F1 H1 F1 (upd H1 p (.lst vs)) := ⟨Same.refl F1, same_upd hp, fun _ _ e => .inl e⟩
  have n : NewR B.K H1 (.own ds) (.ref p) F1 (upd H1 p (.lst vs)) := ⟨p, vs, rfl, hp, upd_same, S1.sub.free hp, r1⟩
  exact hq (.own ds) ρ1 _ _ L1 _ k (S1.grow g (S1.sub.trans (same_upd hp))) (s1.trans g.stp) ((n.res S1).back s1)
/-! ### a op b op c -/
def mChain (f g : DOp2) (a b c : AX) : DC := fun ρ Q E => mAX a ρ (fun x ρ1 => mAX b ρ1 (fun y ρ2 => app2 f ρ2 x y fun r ρ3 => match r with
  | .val (.bl true) => mAX c ρ3 (fun z ρ4 => app2 g ρ4 y z Q) E
  | .val (.bl false) => Q (.val (.bl false)) ρ3
  | _ => False) E) E
theorem chain_ok {a b c : Expr} {ax bx cx : AX} {r r' : R2} {f g : DOp2} (hf : Op2 B.K r f) (hg : Op2 B.K r' g) {σ : L2.St} {H : Hp} {Q : VK} (h : rC B W (mChain f g ax bx cx) σ H Q) : tChain r r' (rX B W ax) (rX B W bx) (rX B W cx) σ H Q := by
  obtain ⟨F, L, ρ, Qd, Ed, S, ht, hq, hx⟩ := h
  refine two_X S ht hx fun x y ρ' v u F' L' H' k S' s r1 r2 => ?_
  refine app2_ok hf S' k r1 r2 fun c w F2 H2 q S2 s2 rs => ?_
  split at q
  · cases (show w = V.bl true from rs)
    refine ⟨true, rfl, ?_⟩
    rw [if_pos rfl]
    refine ⟨F2, L', ρ', _, Ed, S2, q, fun z ρ3 zv F3 L3 H3 q3 S3 s3 r3 => ?_, hx.mono (s.f.trans s2.f)⟩
    have st := (s.trans s2).trans s3
    exact app2_ok hg S3 q3 ((r2.step s2).step s3) r3 fun c w F4 H4 q4 S4 s4 rs4 => hq c ρ3 w F4 L3 H4 q4 S4 (st.trans s4) (rs4.back st)
  · cases (show w = V.bl false from rs)
    exact ⟨false, rfl, by rw [if_neg (by decide)]; exact hq _ ρ' _ F2 L' H2 q S2 (s.trans s2) rfl⟩
  · exact q.elim
theorem dc_chain {a b c : Expr} {ax bx cx : AX} {op op' : CmpOp} {r r' : R2} {f g : DOp2} (ho : OpR X (compareOp op) r) (ho' : OpR X (compareOp op') r') (hf : Op2 B.K r f) (hg : Op2 B.K r' g) (ha : PE X a (rX B W ax)) (hb : PE X b (rX B W bx)) (hc : PE X c (rX B W cx))
    (hm : lastMarks [op, op'] [b, c] = false := by with_unfolding_all rfl) : PE X (.Compare a [op, op'] [b, c] pos) (rC B W (mChain f g ax bx cx)) := pe_imp (pe_chain ho ho' ha hb hc hm) fun _ _ _ h => chain_ok (a := a) (b := b) (c := c) hf hg h
theorem dt_chain {a b c : Expr} {ax bx cx : AX} {op op' : CmpOp} {r r' : R2} {f g : DOp2} (ho : OpR X (compareOp op) r) (ho' : OpR X (compareOp op') r') (hf : Op2 B.K r f) (hg : Op2 B.K r' g) (ha : PE X a (rX B W ax)) (hb : PE X b (rX B W bx)) (hc : PE X c (rX B W cx))
    (hm : lastMarks [op, op'] [b, c] = false := by with_unfolding_all rfl) : PT X (.Compare a [op, op'] [b, c] pos) (rT B W (asT (mChain f g ax bx cx))) := by
  refine pt_imp (pt_chain ho ho' ha hb hc hm) fun σ H Q ⟨F, L, ρ, Qd, Ed, S, ht, hq, hx⟩ => ?_
  refine chain_ok (a := a) (b := b) (c := c) hf hg ⟨F, L, ρ, _, Ed, S, ht, fun c ρ' v F' L' H' q S' s r => ?_, hx⟩
  cases c with
  | own _ => exact False.elim q
  | val d =>
    cases d with
    | bl b =>
      have e : v = .bl b := r
      exact ⟨b, e, hq b ρ' F' L' H' q S' s⟩
    | _ => exact False.elim q
end
end DL
/-! The data layer: defs and their calls. -/
namespace DL
open PySem PySem.Spec PyProof.Rows L2
/-- lists handed over, by the parameter's place -/
abbrev Outs := Nat → List D
def outsOf (ρ : En) : Outs := fun i => match ρ.getD i none with
  | some (.own ds) => ds
  | _ => []
/-- what a def does: cells in, a result and the handed lists out, or an exception -/
abbrev DSp := List Cell → (Cell → Outs → Prop) → (Str → List (Str × D) → Outs → Prop) → Prop
/-- behind a def -/
structure Post (B : Bd) (F' H' : Hp) (o : Outs) : Prop where
  f : Same B.F0 F'
  sub : Same F' H'
  h : ∀ b u, B.H0 b = some u → (∀ j ∈ B.ios, B.ad j ≠ b) → H' b = some u
  fn : ∀ b u, F' b = some u → B.F0 b = some u ∨ B.H0 b = none
  al : ∀ b, B.H0 b ≠ none → H' b ≠ none
  io : ∀ j ∈ B.ios, ∃ us, H' (B.ad j) = some (.lst us) ∧ F' (B.ad j) = none ∧ RpL B.K F' (o j) us
def ResD (B : Bd) (F' H' : Hp) : Cell → V → Prop
  | .val d, v => Rp B.K F' d v
  | .own ds, v => ∃ a vs, v = .ref a ∧ H' a = some (.lst vs) ∧ F' a = none ∧ B.H0 a = none ∧ RpL B.K F' ds vs
/-- the def's promise in the kit's terms: n parameters, those at ios are lists handed over -/
def spD (K : PySem.W.Frag) (n : Nat) (ios : List Nat) (w : DSp) : Sp := fun vs H Q E => ∃ F L cs ad Qd Ed, vs.length = n ∧ SR ⟨K, H, F, ios, ad⟩ F L (vs.map some) H (cs.map some) ∧ w cs Qd Ed ∧
  (∀ c o v F' H', Qd c o → Post ⟨K, H, F, ios, ad⟩ F' H' o → ResD ⟨K, H, F, ios, ad⟩ F' H' c v → Q v H') ∧
  (∀ c fs o cls dd F' H', Ed c fs o → Post ⟨K, H, F, ios, ad⟩ F' H' o → ExcR K F' H' c fs cls dd → E cls dd H')
theorem spD_len {K : PySem.W.Frag} {n : Nat} {ios : List Nat} {w : DSp} : ∀ vs H Q E, spD K n ios w vs H Q E → vs.length = n := fun _ _ _ _ ⟨_, _, _, _, _, _, h, _⟩ => h
/-- a body, as what a def does; k: how many names stand behind the parameters -/
def wDef (k : Nat) (t : DS) : DSp := fun cs Qd Ed => t ⟨fun ρ => Qd (.val .non) (outsOf ρ), fun c ρ => Qd c (outsOf ρ), fun _ => False, fun _ => False, fun c fs ρ => Ed c fs (outsOf ρ)⟩ (cs.map some ++ List.replicate k none)
theorem getD_pad {α : Type} {l : List (Option α)} {k i : Nat} : (l ++ List.replicate k none).getD i none = l.getD i none := by
  rw [List.getD_eq_getElem?_getD, List.getD_eq_getElem?_getD]
  by_cases h : i < l.length
  · rw [List.getElem?_append_left h]
  · rw [List.getElem?_append_right (by omega), List.getElem?_eq_none (l := l) (by omega)]
    by_cases h2 : i - l.length < k
    · rw [List.getElem?_replicate, if_pos h2]; rfl
    · rw [List.getElem?_replicate, if_neg h2]
theorem SR.pad {B : Bd} {F H : Hp} {L : La} {σ : L2.St} {ρ : En} (S : SR B F L σ H ρ) (k : Nat) : SR B F L (σ ++ List.replicate k none) H (ρ ++ List.replicate k none) where
  len := by rw [List.length_append, List.length_append, S.len]; simp
  sub := S.sub
  slot := fun i => by
    rw [getD_pad, getD_pad]
    exact S.slot i
  inj := S.inj
  f0 := S.f0
  fn := S.fn
  keep := S.keep
  io := S.io
  al := S.al
theorem SR.post {B : Bd} {F H : Hp} {L : La} {σ : L2.St} {ρ : En} (S : SR B F L σ H ρ) : Post B F H (outsOf ρ) where
  f := S.f0
  sub := S.sub
  h := S.keep
  fn := S.fn
  al := S.al
  io := fun j hj => by
    obtain ⟨ds, vs, e1, e2, e3, e4, e5, _⟩ := S.own (S.io j hj)
    refine ⟨vs, e3, e4, ?_⟩
    unfold outsOf
    rw [e1]
    exact e5
theorem CellR.resD {B : Bd} {F H : Hp} {L : La} : ∀ {c : Cell} {v : V}, CellR B F L H c v → ResD B F H c v
  | .val _, _, h => h
  | .own _, _, ⟨a, vs, e, h1, h2, _, h4, h5⟩ => ⟨a, vs, e, h1, h2, h4, h5⟩
/-- THE RULE for a def -/
theorem def_ok {K : PySem.W.Frag} {P : Program} {w : World} {mg : Str → Option Value} {base : Heap} {x qual : Str} {params : Arguments} {body : List Stmt} {scope : Scope} {dvs : List V} {kws : List (Str × V)} {f : Addr} {fd : FuncData} {N ps : List Str} {k : Nat} (n : Nat) (ios : List Nat) {tb : DS}
    (Fd : FunD K x qual params body scope dvs kws f fd) (S : FnScope N ps scope) (hn : ps.length = n)
    (hb : ∀ (cdv : Value) (A : Around) (outer : List Env) (s : Shared) (H F : Hp) (E : XK) (ad : Nat → Addr), Room k (A.deeper (envOfC qual scope s.heap.objs.size f cdv)) → Takes (cxOf (L2.CX P w) P w K mg base N qual scope f cdv A outer s H E) (fun cls d _ H' => E cls d H') →
      PSs (cxOf (L2.CX P w) P w K mg base N qual scope f cdv A outer s H E) body (rS ⟨K, H, F, ios, ad⟩ (fun cls d _ H' => E cls d H') tb)) : FnOk P w K mg base (L2.CX P w) (k + 1) f fd ps (spD K n ios (wDef (N.length - n) tb)) := by
  refine Fd.ok S (fun vs H Q E h => by rw [spD_len _ _ _ _ h, hn]) fun cdv A outer s H vs Q E hr ⟨F, L, cs, ad, Qd, Ed, hl, hS, hw, hq, hx⟩ => ?_
  refine ⟨_, hb cdv A outer s H F E ad hr (takes_of rfl rfl rfl rfl), F, L, _, _, ?_, hw, ⟨fun ρ' σ' F' L' H' q S' _ => ?_, fun r ρ' v σ' F' L' H' q S' _ c => ?_, fun ρ' σ' F' L' H' q S' _ => ?_, fun ρ' σ' F' L' H' q S' _ => ?_, fun c fs ρ' cls dd σ' F' L' H' q S' _ ex => ?_⟩⟩
  · have := hS.pad (N.length - n)
    unfold L2.start
    rw [hl]
    exact this
  · exact hq (.val .non) _ .non F' H' q S'.post rfl
  · exact hq r _ v F' H' q S'.post c.resD
  · exact q.elim
  · exact q.elim
  · exact hx c fs _ cls dd F' H' q S'.post ex
/-! ### arguments of a call -/
/-- data; a name's own list, handed over; a list that no name holds, handed over -/
inductive KX where
  | e (t : DE) | s (i : Nat) | t (t : DC)
inductive KV where
  | d (d : D) | s (i : Nat) | t (ds : List D)
inductive KS where
  | d | s (i : Nat) | t
def KX.sh : KX → KS
  | .e _ => .d
  | .s i => .s i
  | .t _ => .t
def KV.sh : KV → KS
  | .d _ => .d
  | .s i => .s i
  | .t _ => .t
def mKX : KX → En → (KV → En → Prop) → DX → Prop
  | .e t, ρ, Q, E => t ρ (fun d => Q (.d d)) E
  | .s i, ρ, Q, _ => match ρ.getD i none with
    | some (.own _) => Q (.s i) ρ
    | _ => False
  | .t t, ρ, Q, E => t ρ (fun c ρ1 => match c with
    | .own ds => Q (.t ds) ρ1
    | .val _ => False) E
def mKXs : List KX → En → (List KV → En → Prop) → DX → Prop
  | [], ρ, Q, _ => Q [] ρ
  | a :: as, ρ, Q, E => mKX a ρ (fun x ρ1 => mKXs as ρ1 (fun xs => Q (x :: xs)) E) E
def KR (B : Bd) (F : Hp) (L : La) (H : Hp) : KV → V → Prop
  | .d d, v => Rp B.K F d v
  | .s i, v => ∃ a, v = .ref a ∧ ∀ b, L i = some b → b = a
  | .t ds, v => CellR B F L H (.own ds) v
def KRs (B : Bd) (F : Hp) (L : La) (H : Hp) : List KV → List V → Prop
  | [], vs => vs = []
  | x :: xs, vs => ∃ v r, vs = v :: r ∧ KR B F L H x v ∧ KRs B F L H xs r
theorem KR.step {B : Bd} {F H F' H' : Hp} {L L' : La} (s : Stp F L H F' L' H') : ∀ {x : KV} {v : V}, KR B F L H x v → KR B F' L' H' x v
  | .d _, _, h => Rp.mono s.f h
  | .s i, _, ⟨a, e, h⟩ => ⟨a, e, fun b q => h b (s.l i b q)⟩
  | .t ds, _, h => CellR.stp (c := .own ds) s h
theorem KRs.get {B : Bd} {F H : Hp} {L : La} : ∀ {xs : List KV} {vs : List V} {i : Nat} {x : KV}, KRs B F L H xs vs → xs[i]? = some x → ∃ v, vs[i]? = some v ∧ KR B F L H x v
  | [], _, _, _, _, e => by simp at e
  | x :: xs, _, 0, y, ⟨v, r, ev, h1, h2⟩, e => by
    subst ev
    simp at e
    subst e
    exact ⟨v, rfl, h1⟩
  | x :: xs, _, i + 1, y, ⟨v, r, ev, h1, h2⟩, e => by
    subst ev
    obtain ⟨u, e2, h3⟩ := KRs.get h2 (i := i) (x := y) (by simpa using e)
    exact ⟨u, by simpa using e2, h3⟩
theorem KRs.length {B : Bd} {F H : Hp} {L : La} : ∀ {xs : List KV} {vs : List V}, KRs B F L H xs vs → vs.length = xs.length
  | [], _, h => by
    cases (show _ = [] from h)
    rfl
  | x :: xs, _, ⟨v, r, ev, h1, h2⟩ => by
    subst ev
    rw [List.length_cons, List.length_cons, KRs.length h2]
/-- where the lists no name holds come from -/
def KNew (H : Hp) (L : La) (xs : List KV) (vs : List V) : Prop := ∀ (i : Nat) (ds : List D) (a : Addr), xs[i]? = some (KV.t ds) → vs[i]? = some (V.ref a) → H a = none ∨ ∃ j, L j = some a
def rK (B : Bd) (W : WX) (as : List KX) : TA := fun σ H Q => ∃ F L ρ Qd Ed, SR B F L σ H ρ ∧ mKXs as ρ Qd Ed ∧
  (∀ xs ρ' vs F' L' H', Qd xs ρ' → SR B F' L' σ H' ρ' → Stp F L H F' L' H' → KRs B F' L' H' xs vs → xs.map KV.sh = as.map KX.sh → KNew H L xs vs → Q vs H') ∧ XOk B W F Ed
section
variable {X : Cx} {B : Bd} {W : WX} {pos : Pos} {e : Expr} {es : List Expr}
/-- one argument -/
def rK1 (B : Bd) (W : WX) (a : KX) : TE := fun σ H Q => ∃ F L ρ Qd Ed, SR B F L σ H ρ ∧ mKX a ρ Qd Ed ∧
  (∀ x ρ' v F' L' H', Qd x ρ' → SR B F' L' σ H' ρ' → Stp F L H F' L' H' → KR B F' L' H' x v → x.sh = a.sh → (∀ ds a, x = .t ds → v = .ref a → H a = none ∨ ∃ j, L j = some a) → Q v H') ∧ XOk B W F Ed
theorem dk_e {t : DE} (h : PE X e (rV B W t)) : PE X e (rK1 B W (.e t)) :=
  pe_imp h fun σ H Q ⟨F, L, ρ, Qd, Ed, S, ht, hq, hx⟩ => ⟨F, L, ρ, fun d => Qd (.d d), Ed, S, ht, fun d ρ' v F' L' H' q S' s r => hq (.d d) ρ' v F' L' H' q S' s r rfl (fun _ _ z => by cases z), hx⟩
theorem dk_t {t : DC} (h : PE X e (rC B W t)) : PE X e (rK1 B W (.t t)) := by
  refine pe_imp h fun σ H Q ⟨F, L, ρ, Qd, Ed, S, ht, hq, hx⟩ => ⟨F, L, ρ, _, Ed, S, ht, fun c ρ' v F' L' H' q S' s r => ?_, hx⟩
  cases c with
  | val d => exact False.elim q
  | own ds =>
    refine hq (.t ds) ρ' v F' L' H' q S' s r.cell rfl fun ds' a z ev => ?_
    obtain ⟨b, vs, eb, h1, h2, h3, h4, h5, h6⟩ := r
    rw [ev] at eb
    cases eb
    exact h6
theorem dk_s (i : Nat) {x : Str} (hN : X.N[i]? = some x := by rfl) (hv : Vis X.env.scope x := by first | exact Or.inl rfl | exact Or.inr (Or.inl rfl) | exact Or.inr (Or.inr rfl)) (hd : (x == ("__debug__" : Str)) = false := by decide)
    (hcd : (x == ("__classdict__" : Str)) = false := by decide) : PE X (.Name x pos) (rK1 B W (.s i)) := by
  refine pe_imp (pe_var (i := i) hN hv hd hcd) fun σ H Q ⟨F, L, ρ, Qd, Ed, S, ht, hq, hx⟩ => ?_
  have ht' : (match ρ.getD i none with | some (.own _) => Qd (.s i) ρ | _ => False) := ht
  split at ht'
  · rename_i ds e
    obtain ⟨a, vs, h1, h2, h3, h4, h5, h6⟩ := S.ow e
    exact ⟨_, h1, hq (.s i) ρ _ F L H ht' S (Stp.refl _ _ _) ⟨a, rfl, fun b q => by rw [h2] at q; cases q; rfl⟩ rfl (fun _ _ z => by cases z)⟩
  · exact ht'.elim
theorem KNew.cons {H : Hp} {L : La} {x : KV} {xs : List KV} {v : V} {vs : List V} (h1 : ∀ ds a, x = .t ds → v = .ref a → H a = none ∨ ∃ j, L j = some a) (h2 : KNew H L xs vs) : KNew H L (x :: xs) (v :: vs) := fun i ds a e1 e2 => by
  cases i with
  | zero => exact h1 ds a (by simpa using e1) (by simpa using e2)
  | succ i => exact h2 i ds a (by simpa using e1) (by simpa using e2)
theorem KNew.back {F H F1 H1 : Hp} {L L1 : La} {xs : List KV} {vs : List V} (s : Stp F L H F1 L1 H1) (h : KNew H1 L1 xs vs) : KNew H L xs vs := fun i ds a e1 e2 => by
  rcases h i ds a e1 e2 with q | ⟨j, q⟩
  · refine .inl ?_
    cases e0 : H a with
    | none => rfl
    | some o => exact absurd q (s.al a (by rw [e0]; simp))
  · exact .inr ⟨j, s.l j a q⟩
theorem dkn : PA X [] (rK B W []) := pa_imp pa_nil fun σ H Q ⟨F, L, ρ, Qd, Ed, S, ht, hq, hx⟩ => hq [] ρ [] F L H ht S (Stp.refl _ _ _) rfl rfl (fun i ds a e => by simp at e)
theorem rK_cons {a : KX} {as : List KX} {σ : L2.St} {H : Hp} {Q : List V → Hp → Prop} (h : rK B W (a :: as) σ H Q) : rK1 B W a σ H fun v H1 => rK B W as σ H1 fun vs H2 => Q (v :: vs) H2 := by
  obtain ⟨F, L, ρ, Qd, Ed, S, ht, hq, hx⟩ := h
  refine ⟨F, L, ρ, _, Ed, S, ht, fun x ρ1 v F1 L1 H1 q1 S1 s1 r1 e1 n1 => ⟨F1, L1, ρ1, _, Ed, S1, q1, fun xs ρ2 vs F2 L2 H2 q2 S2 s2 r2 e2 n2 => ?_, hx.mono s1.f⟩, hx⟩
  exact hq (x :: xs) ρ2 (v :: vs) F2 L2 H2 q2 S2 (s1.trans s2) ⟨v, vs, rfl, r1.step s2, r2⟩ (by simp [e1, e2]) (KNew.cons n1 (n2.back s1))
theorem dkc {a : KX} {as : List KX} (ha : PE X e (rK1 B W a)) (hr : PA X es (rK B W as)) (hs : starEach (e :: es) X.env = (false, eval e X.env) :: starEach es X.env := by rfl) : PA X (e :: es) (rK B W (a :: as)) :=
  pa_imp (pa_cons ha hr hs) fun σ H Q h => rK_cons h
end
/-- the cells the callee gets -/
def rsv (ρ : En) : KV → Option Cell
  | .d d => some (.val d)
  | .s i => match ρ.getD i none with
    | some (.own ds) => some (.own ds)
    | _ => none
  | .t ds => some (.own ds)
def rsvs (ρ : En) : List KV → Option (List Cell)
  | [] => some []
  | x :: xs => match rsv ρ x, rsvs ρ xs with
    | some c, some cs => some (c :: cs)
    | _, _ => none
/-- the handed lists come back -/
def putO (ρ : En) : Nat → List KV → Outs → En
  | _, [], _ => ρ
  | k, x :: xs, o => match x with
    | .s p => putO (ρ.set p (some (.own (o k)))) (k + 1) xs o
    | _ => putO ρ (k + 1) xs o
def mCall (as : List KX) (w : DSp) : DC := fun ρ Q E => mKXs as ρ (fun ks ρ1 => match rsvs ρ1 ks with
  | some cs => w cs (fun c o => Q c (putO ρ1 0 ks o)) (fun c fs o => E c fs (putO ρ1 0 ks o))
  | none => False) E
theorem rsvs_get {ρ : En} : ∀ {ks : List KV} {cs : List Cell}, rsvs ρ ks = some cs → cs.length = ks.length ∧ ∀ (i : Nat) (k : KV), ks[i]? = some k → ∃ c, cs[i]? = some c ∧ rsv ρ k = some c
  | [], cs, e => by
    cases e
    exact ⟨rfl, fun i k h => by simp at h⟩
  | x :: xs, cs, e => by
    have e' : (match rsv ρ x, rsvs ρ xs with | some c, some cs => some (c :: cs) | _, _ => none) = some cs := e
    split at e'
    · rename_i c cs' e1 e2
      cases e'
      obtain ⟨l, g⟩ := rsvs_get e2
      refine ⟨by simp [l], fun i k h => ?_⟩
      cases i with
      | zero =>
        simp at h
        subst h
        exact ⟨c, rfl, e1⟩
      | succ i =>
        obtain ⟨d, h1, h2⟩ := g i k (by simpa using h)
        exact ⟨d, by simpa using h1, h2⟩
    · cases e'
/-- no name twice among the handed ones, at most one list that no name holds -/
def slots : List KS → List Nat
  | [] => []
  | .s i :: l => i :: slots l
  | _ :: l => slots l
def tmps : List KS → Nat
  | [] => 0
  | .t :: l => tmps l + 1
  | _ :: l => tmps l
def nodupB : List Nat → Bool
  | [] => true
  | x :: xs => !xs.contains x && nodupB xs
def goodS (l : List KS) : Bool := nodupB (slots l) && decide (tmps l ≤ 1)
def iosS : Nat → List KS → List Nat
  | _, [] => []
  | k, .d :: l => iosS (k + 1) l
  | k, _ :: l => k :: iosS (k + 1) l
theorem mem_slots : ∀ {l : List KS} {i p : Nat}, l[i]? = some (.s p) → p ∈ slots l
  | [], i, p, h => by simp at h
  | x :: l, 0, p, h => by
    simp at h
    subst h
    exact List.mem_cons_self
  | x :: l, i + 1, p, h => by
    have := mem_slots (l := l) (i := i) (p := p) (by simpa using h)
    cases x with
    | d => exact this
    | s q => exact List.mem_cons_of_mem _ this
    | t => exact this
theorem slots_inj : ∀ {l : List KS} {i j p : Nat}, nodupB (slots l) = true → l[i]? = some (.s p) → l[j]? = some (.s p) → i = j
  | [], i, j, p, _, h, _ => by simp at h
  | x :: l, i, j, p, n, h1, h2 => by
    have nl : nodupB (slots l) = true := by
      cases x with
      | d => exact n
      | t => exact n
      | s q =>
        have n' : (!(slots l).contains q && nodupB (slots l)) = true := n
        rw [Bool.and_eq_true] at n'
        exact n'.2
    cases i with
    | zero =>
      cases j with
      | zero => rfl
      | succ j =>
        simp at h1
        subst h1
        have m := mem_slots (l := l) (i := j) (p := p) (by simpa using h2)
        have n' : (!(slots l).contains p && nodupB (slots l)) = true := n
        rw [Bool.and_eq_true] at n'
        rw [List.contains_iff_mem.mpr m] at n'
        cases n'.1
    | succ i =>
      cases j with
      | zero =>
        simp at h2
        subst h2
        have m := mem_slots (l := l) (i := i) (p := p) (by simpa using h1)
        have n' : (!(slots l).contains p && nodupB (slots l)) = true := n
        rw [Bool.and_eq_true] at n'
        rw [List.contains_iff_mem.mpr m] at n'
        cases n'.1
      | succ j => rw [slots_inj nl (i := i) (j := j) (p := p) (by simpa using h1) (by simpa using h2)]
theorem tmps_pos : ∀ {l : List KS} {i : Nat}, l[i]? = some .t → 0 < tmps l
  | [], i, h => by simp at h
  | x :: l, 0, h => by
    simp at h
    subst h
    exact Nat.succ_pos _
  | x :: l, i + 1, h => by
    have := tmps_pos (l := l) (i := i) (by simpa using h)
    cases x with
    | d => exact this
    | s q => exact this
    | t => exact Nat.succ_pos _
theorem tmps_inj : ∀ {l : List KS} {i j : Nat}, tmps l ≤ 1 → l[i]? = some .t → l[j]? = some .t → i = j
  | [], i, j, _, h, _ => by simp at h
  | x :: l, i, j, n, h1, h2 => by
    have nl : tmps l ≤ 1 := by
      cases x with
      | d => exact n
      | s q => exact n
      | t => exact Nat.le_of_succ_le n
    cases i with
    | zero =>
      cases j with
      | zero => rfl
      | succ j =>
        simp at h1
        subst h1
        have := tmps_pos (l := l) (i := j) (by simpa using h2)
        have n' : tmps l + 1 ≤ 1 := n
        omega
    | succ i =>
      cases j with
      | zero =>
        simp at h2
        subst h2
        have := tmps_pos (l := l) (i := i) (by simpa using h1)
        have n' : tmps l + 1 ≤ 1 := n
        omega
      | succ j => rw [tmps_inj nl (i := i) (j := j) (by simpa using h1) (by simpa using h2)]
theorem iosS_mem : ∀ {l : List KS} {k j : Nat}, j ∈ iosS k l ↔ ∃ i x, l[i]? = some x ∧ x ≠ .d ∧ j = k + i
  | [], k, j => by simp [iosS]
  | x :: l, k, j => by
    have step : (∃ i y, (x :: l)[i]? = some y ∧ y ≠ .d ∧ j = k + i) ↔ (x ≠ .d ∧ j = k) ∨ ∃ i y, l[i]? = some y ∧ y ≠ .d ∧ j = k + 1 + i := by
      constructor
      · rintro ⟨i, y, h1, h2, h3⟩
        cases i with
        | zero =>
          simp at h1
          subst h1
          exact .inl ⟨h2, h3⟩
        | succ i => exact .inr ⟨i, y, by simpa using h1, h2, by omega⟩
      · rintro (⟨h1, h2⟩ | ⟨i, y, h1, h2, h3⟩)
        · exact ⟨0, x, rfl, h1, h2⟩
        · exact ⟨i + 1, y, by simpa using h1, h2, by omega⟩
    rw [step, ← iosS_mem (l := l) (k := k + 1)]
    cases x with
    | d => simp [iosS]
    | s q => simp [iosS]
    | t => simp [iosS]
theorem putO_len (o : Outs) : ∀ (xs : List KV) (ρ : En) (k : Nat), (putO ρ k xs o).length = ρ.length
  | [], _, _ => rfl
  | .d _ :: xs, ρ, k => putO_len o xs ρ (k + 1)
  | .t _ :: xs, ρ, k => putO_len o xs ρ (k + 1)
  | .s p :: xs, ρ, k => by
    show (putO (ρ.set p _) (k + 1) xs o).length = _
    rw [putO_len o xs, List.length_set]
theorem putO_out (o : Outs) : ∀ (xs : List KV) (ρ : En) (k p : Nat), p ∉ slots (xs.map KV.sh) → (putO ρ k xs o).getD p none = ρ.getD p none
  | [], _, _, _, _ => rfl
  | .d _ :: xs, ρ, k, p, h => putO_out o xs ρ (k + 1) p h
  | .t _ :: xs, ρ, k, p, h => putO_out o xs ρ (k + 1) p h
  | .s q :: xs, ρ, k, p, h => by
    show (putO (ρ.set q _) (k + 1) xs o).getD p none = _
    have h' : p ∉ q :: slots (xs.map KV.sh) := h
    rw [putO_out o xs _ _ p fun m => h' (List.mem_cons_of_mem _ m), getD_set_ne fun e => h' (by rw [e]; exact List.mem_cons_self)]
theorem putO_in (o : Outs) : ∀ (xs : List KV) (ρ : En) (k p i : Nat), nodupB (slots (xs.map KV.sh)) = true → xs[i]? = some (.s p) → p < ρ.length → (putO ρ k xs o).getD p none = some (.own (o (k + i)))
  | [], _, _, _, _, _, h, _ => by simp at h
  | x :: xs, ρ, k, p, 0, n, h, hl => by
    simp at h
    subst h
    have n' : (!(slots (xs.map KV.sh)).contains p && nodupB (slots (xs.map KV.sh))) = true := n
    rw [Bool.and_eq_true] at n'
    show (putO (ρ.set p _) (k + 1) xs o).getD p none = _
    have m : p ∉ slots (xs.map KV.sh) := fun m => by
      rw [List.contains_iff_mem.mpr m] at n'
      cases n'.1
    rw [putO_out o xs _ _ p m, getD_set_self hl]
    rfl
  | x :: xs, ρ, k, p, i + 1, n, h, hl => by
    have e : k + (i + 1) = k + 1 + i := by omega
    rw [e]
    cases x with
    | d d => exact putO_in o xs ρ (k + 1) p i n (by simpa using h) hl
    | t d => exact putO_in o xs ρ (k + 1) p i n (by simpa using h) hl
    | s q =>
      have n' : (!(slots (xs.map KV.sh)).contains q && nodupB (slots (xs.map KV.sh))) = true := n
      rw [Bool.and_eq_true] at n'
      exact putO_in o xs (ρ.set q _) (k + 1) p i n'.2 (by simpa using h) (by rw [List.length_set]; exact hl)
/-- where an argument lies -/
def adOf (vs : List V) : Nat → Addr := fun i => match vs[i]? with
  | some (.ref a) => a
  | _ => 0
def lac : Cell → Addr → Option Addr
  | .own _, a => some a
  | _, _ => none
def laOf (cs : List Cell) (vs : List V) : La := fun i => match cs[i]? with
  | some (.own _) => some (adOf vs i)
  | _ => none
theorem sh_get {ks : List KV} {as : List KS} (h : ks.map KV.sh = as) {i : Nat} {k : KV} (e : ks[i]? = some k) : as[i]? = some k.sh := by
  rw [← h, List.getElem?_map, e]
  rfl
theorem getD_map_some {α : Type} {l : List α} {i : Nat} : (l.map some).getD i none = l[i]? := by
  rw [List.getD_eq_getElem?_getD, List.getElem?_map]
  cases l[i]? <;> rfl
section
variable {B : Bd} {F H F1 H1 : Hp} {L L1 : La} {σ : L2.St} {ρ1 : En} {ks : List KV} {vs : List V} {cs : List Cell} {as : List KS}
/-- an argument that is a list handed over: where it lies -/
def ArgAt (B : Bd) (F1 : Hp) (L1 : La) (H1 : Hp) (ρ1 : En) (a : Addr) : KV → Cell → V → Prop
  | .d d, c, v => c = .val d ∧ Rp B.K F1 d v
  | .s p, c, v => ∃ ds us, c = .own ds ∧ v = .ref a ∧ L1 p = some a ∧ ρ1.getD p none = some (.own ds) ∧ H1 a = some (.lst us) ∧ F1 a = none ∧ RpL B.K F1 ds us
  | .t ds, c, v => ∃ us, c = .own ds ∧ v = .ref a ∧ (∀ j, L1 j ≠ some a) ∧ B.H0 a = none ∧ H1 a = some (.lst us) ∧ F1 a = none ∧ RpL B.K F1 ds us
theorem arg_at (S1 : SR B F1 L1 σ H1 ρ1) (r : KRs B F1 L1 H1 ks vs) (e : rsvs ρ1 ks = some cs) {i : Nat} {k : KV} (hk : ks[i]? = some k) : ∃ c v, cs[i]? = some c ∧ vs[i]? = some v ∧ ArgAt B F1 L1 H1 ρ1 (adOf vs i) k c v := by
  obtain ⟨v, hv, rv⟩ := r.get hk
  obtain ⟨c, hc, ec⟩ := (rsvs_get e).2 i k hk
  refine ⟨c, v, hc, hv, ?_⟩
  cases k with
  | d d => cases ec; exact ⟨rfl, rv⟩
  | s p =>
    obtain ⟨a, ea, ha⟩ := rv
    subst ea
    have ead : adOf vs i = a := by unfold adOf; rw [hv]
    have ec' : (match ρ1.getD p none with | some (.own ds) => some (Cell.own ds) | _ => none) = some c := ec
    split at ec'
    · rename_i ds q
      cases ec'
      obtain ⟨b, us, h1, h2, h3, h4, h5, h6⟩ := S1.ow q
      have := ha b h2
      subst this
      rw [ead]
      exact ⟨ds, us, rfl, rfl, h2, q, h3, h4, h5⟩
    · cases ec'
  | t ds =>
    cases ec
    obtain ⟨a, us, ea, h1, h2, h3, h4, h5⟩ := rv
    subst ea
    have ead : adOf vs i = a := by unfold adOf; rw [hv]
    show ∃ us, _
    rw [ead]
    exact ⟨us, rfl, rfl, h3, h4, h1, h2, h5⟩
/-- the callee's state at its entry -/
theorem SR.enter (S1 : SR B F1 L1 σ H1 ρ1) (r : KRs B F1 L1 H1 ks vs) (e : rsvs ρ1 ks = some cs) (hs : ks.map KV.sh = as) (hg : goodS as = true) :
    SR ⟨B.K, H1, F1, iosS 0 as, adOf vs⟩ F1 (laOf cs vs) (vs.map some) H1 (cs.map some) := by
  have hlc := (rsvs_get e).1
  have hlv := r.length
  unfold goodS at hg
  rw [Bool.and_eq_true, decide_eq_true_eq] at hg
  have ofC : ∀ {i : Nat} {a : Addr}, laOf cs vs i = some a → ∃ k ds, ks[i]? = some k ∧ cs[i]? = some (.own ds) ∧ a = adOf vs i := fun {i a} h => by
    unfold laOf at h
    split at h
    · rename_i ds ec
      cases h
      have hi : i < ks.length := by rw [← hlc]; exact (List.getElem?_eq_some_iff.mp ec).1
      exact ⟨ks[i], ds, List.getElem?_eq_getElem hi, ec, rfl⟩
    · cases h
  refine ⟨by rw [List.length_map, List.length_map, hlc, hlv], S1.sub, fun i => ?_, fun i j a h1 h2 => ?_, Same.refl F1, fun a o h => .inl h, fun a o h _ => h, fun j hj => ?_, fun a h => h⟩
  · rw [getD_map_some, getD_map_some]
    by_cases hi : i < ks.length
    · obtain ⟨c, v, hc, hv, h⟩ := arg_at S1 r e (List.getElem?_eq_getElem hi)
      have hla : laOf cs vs i = lac c (adOf vs i) := by
        unfold laOf
        rw [hc]
        cases c <;> rfl
      rw [hc, hv, hla]
      have hS : as[i]? = some ks[i].sh := sh_get hs (List.getElem?_eq_getElem hi)
      generalize hkk : ks[i] = k at h hS
      cases k with
      | d d =>
        obtain ⟨rfl, h⟩ := h
        exact ⟨rfl, v, rfl, h⟩
      | s p =>
        obtain ⟨ds, us, rfl, ev, h1, h2, h3, h4, h5⟩ := h
        exact ⟨adOf vs i, us, by rw [ev], rfl, h3, h4, h5, .inl ⟨i, iosS_mem.mpr ⟨i, _, hS, by simp [KV.sh], by omega⟩, rfl⟩⟩
      | t ds =>
        obtain ⟨us, rfl, ev, h1, h2, h3, h4, h5⟩ := h
        exact ⟨adOf vs i, us, by rw [ev], rfl, h3, h4, h5, .inl ⟨i, iosS_mem.mpr ⟨i, _, hS, by simp [KV.sh], by omega⟩, rfl⟩⟩
    · have e1 : cs[i]? = none := List.getElem?_eq_none (by omega)
      have e2 : vs[i]? = none := List.getElem?_eq_none (by omega)
      rw [e1, e2]
      show laOf cs vs i = none
      unfold laOf
      rw [e1]
  · obtain ⟨k, ds, hk, hc, ea⟩ := ofC h1
    obtain ⟨k', ds', hk', hc', ea'⟩ := ofC h2
    obtain ⟨c, v, hc2, hv, h⟩ := arg_at S1 r e hk
    obtain ⟨c', v', hc2', hv', h'⟩ := arg_at S1 r e hk'
    rw [hc] at hc2
    rw [hc'] at hc2'
    cases hc2
    cases hc2'
    cases k with
    | d d => cases h.1
    | s p =>
      obtain ⟨_, _, _, _, h3, _⟩ := h
      cases k' with
      | d d => cases h'.1
      | s p' =>
        obtain ⟨_, _, _, _, h3', _⟩ := h'
        have : p = p' := S1.inj p p' a (by rw [h3, ea]) (by rw [h3', ea'])
        subst this
        exact slots_inj hg.1 (sh_get hs hk) (sh_get hs hk')
      | t ds =>
        obtain ⟨_, _, _, h3', _⟩ := h'
        exact absurd (by rw [h3, ← ea, ← ea']) (h3' p)
    | t ds =>
      obtain ⟨_, _, _, h3, _⟩ := h
      cases k' with
      | d d => cases h'.1
      | s p' =>
        obtain ⟨_, _, _, _, h3', _⟩ := h'
        exact absurd (by rw [h3', ← ea', ← ea]) (h3 p')
      | t ds' => exact tmps_inj hg.2 (sh_get hs hk) (sh_get hs hk')
  · obtain ⟨i, x, hx, hne, ej⟩ := iosS_mem.mp hj
    have ej' : j = i := by omega
    subst ej'
    have hi : j < ks.length := by
      have := (List.getElem?_eq_some_iff.mp hx).1
      rw [← hs, List.length_map] at this
      exact this
    obtain ⟨c, v, hc, hv, h⟩ := arg_at S1 r e (List.getElem?_eq_getElem hi)
    have hS := sh_get hs (List.getElem?_eq_getElem hi)
    rw [hx] at hS
    generalize hkk : ks[j] = k at h hS
    have : ∃ ds, c = .own ds := by
      cases k with
      | d d => cases hS; exact absurd rfl hne
      | s p => obtain ⟨ds, _, h1, _⟩ := h; exact ⟨ds, h1⟩
      | t ds => obtain ⟨_, h1, _⟩ := h; exact ⟨ds, h1⟩
    obtain ⟨ds, rfl⟩ := this
    unfold laOf
    rw [hc]
/-- the caller's state behind it -/
theorem SR.exit {F' H' : Hp} {o : Outs} (S1 : SR B F1 L1 σ H1 ρ1) (r : KRs B F1 L1 H1 ks vs) (e : rsvs ρ1 ks = some cs) (hs : ks.map KV.sh = as) (hg : goodS as = true) (p : Post ⟨B.K, H1, F1, iosS 0 as, adOf vs⟩ F' H' o) :
    SR B F' L1 σ H' (DL.putO ρ1 0 ks o) := by
  unfold goodS at hg
  rw [Bool.and_eq_true, decide_eq_true_eq] at hg
  -- a handed list: whose it is
  have who : ∀ j ∈ iosS 0 as, (∃ q, ks[j]? = some (.s q) ∧ L1 q = some (adOf vs j)) ∨ ((∀ i, L1 i ≠ some (adOf vs j)) ∧ B.H0 (adOf vs j) = none) := fun j hj => by
    obtain ⟨i, x, hx, hne, ej⟩ := iosS_mem.mp hj
    have ej' : j = i := by omega
    subst ej'
    have hi : j < ks.length := by
      have := (List.getElem?_eq_some_iff.mp hx).1
      rw [← hs, List.length_map] at this
      exact this
    obtain ⟨c, v, hc, hv, h⟩ := arg_at S1 r e (List.getElem?_eq_getElem hi)
    have hS := sh_get hs (List.getElem?_eq_getElem hi)
    rw [hx] at hS
    have hkk : ks[j]? = some ks[j] := List.getElem?_eq_getElem hi
    generalize ks[j] = k at h hS hkk
    cases k with
    | d d => cases hS; exact absurd rfl hne
    | s q => obtain ⟨_, _, _, _, h3, _⟩ := h; exact .inl ⟨q, hkk, h3⟩
    | t ds => obtain ⟨_, _, _, h3, h4, _⟩ := h; exact .inr ⟨h3, h4⟩
  have S0 := S1.slot
  refine ⟨by rw [putO_len]; exact S1.len, p.sub, fun i => ?_, S1.inj, S1.f0.trans p.f, fun a u h => ?_, fun a u h n => ?_, S1.io, fun a h => p.al a (S1.al a h)⟩
  · by_cases hi : ∃ j : Nat, ks[j]? = some (KV.s i)
    · obtain ⟨j, hj⟩ := hi
      obtain ⟨c, v, hc, hv, ds, us, rfl, ev, h3, h4, h5, h6, h7⟩ := arg_at S1 r e hj
      have hm : j ∈ iosS 0 as := iosS_mem.mpr ⟨j, _, sh_get hs hj, by simp [KV.sh], by omega⟩
      have hl := getD_lt h4
      rw [putO_in o ks ρ1 0 i j (by rw [hs]; exact hg.1) hj hl, Nat.zero_add]
      obtain ⟨us', g1, g2, g3⟩ := p.io j hm
      obtain ⟨_, _, f1, f2, f3, f4, f5, f6⟩ := S1.own h3
      exact ⟨_, us', f2, h3, g1, g2, g3, f6⟩
    · have nm : i ∉ slots (ks.map KV.sh) := fun hm => by
        have key : ∀ (l : List KV), i ∈ slots (l.map KV.sh) → ∃ j : Nat, l[j]? = some (KV.s i) := by
          intro l
          induction l with
          | nil => intro h; cases h
          | cons x l ih =>
            intro h
            cases x with
            | d d => obtain ⟨j, q⟩ := ih h; exact ⟨j + 1, by simpa using q⟩
            | t d => obtain ⟨j, q⟩ := ih h; exact ⟨j + 1, by simpa using q⟩
            | s q =>
              rcases List.mem_cons.mp (show i ∈ q :: slots (l.map KV.sh) from h) with e | e
              · subst e; exact ⟨0, rfl⟩
              · obtain ⟨j, q⟩ := ih e; exact ⟨j + 1, by simpa using q⟩
        exact hi (key ks hm)
      rw [putO_out o ks ρ1 0 i nm]
      have q := S0 i
      revert q
      cases ρ1.getD i none with
      | none => exact id
      | some c =>
        cases c with
        | val d => exact fun ⟨h1, v, h2, h3⟩ => ⟨h1, v, h2, h3.mono p.f⟩
        | own ds =>
          intro ⟨a, us, h1, h2, h3, h4, h5, h6⟩
          have na : ∀ j ∈ iosS 0 as, adOf vs j ≠ a := fun j hj z => by
            rcases who j hj with ⟨q, hq, hL⟩ | ⟨hL, _⟩
            · rw [z] at hL
              have := S1.inj q i a hL h2
              subst this
              exact hi ⟨j, hq⟩
            · exact hL i (by rw [h2, z])
          refine ⟨a, us, h1, h2, p.h a _ h3 na, ?_, h5.mono p.f, h6⟩
          cases e2 : F' a with
          | none => rfl
          | some u =>
            rcases p.fn a u e2 with z | z
            · rw [show F1 a = some u from z] at h4; cases h4
            · rw [show H1 a = none from z] at h3; cases h3
  · rcases p.fn a u h with z | z
    · exact S1.fn a u z
    · refine .inr ?_
      cases e0 : B.H0 a with
      | none => rfl
      | some w => exact absurd z (S1.al a (by rw [e0]; simp))
  · refine p.h a u (S1.keep a u h n) fun j hj z => ?_
    rcases who j hj with ⟨q, hq, hL⟩ | ⟨_, h0⟩
    · have hL' : L1 q = some a := by rw [hL]; exact congrArg some z
      obtain ⟨_, _, _, _, _, _, _, f6⟩ := S1.own hL'
      rcases f6 with ⟨j', hj', e'⟩ | f6
      · exact n j' hj' e'
      · rw [h] at f6; cases f6
    · have z' : adOf vs j = a := z
      rw [z', h] at h0; cases h0
theorem Stp.call {F' H' : Hp} {o : Outs} (S1 : SR B F1 L1 σ H1 ρ1) (s1 : Stp F L H F1 L1 H1) (r : KRs B F1 L1 H1 ks vs) (e : rsvs ρ1 ks = some cs) (hs : ks.map KV.sh = as) (nw : KNew H L ks vs) (p : Post ⟨B.K, H1, F1, iosS 0 as, adOf vs⟩ F' H' o) :
    Stp F L H F' L1 H' where
  f := s1.f.trans p.f
  l := s1.l
  h := fun b u hb n => p.h b u (s1.h b u hb n) fun j hj z => by
    obtain ⟨i, x, hx, hne, ej⟩ := iosS_mem.mp hj
    have ej' : j = i := by omega
    subst ej'
    have hi : j < ks.length := by
      have := (List.getElem?_eq_some_iff.mp hx).1
      rw [← hs, List.length_map] at this
      exact this
    obtain ⟨c, v, hc, hv, h⟩ := arg_at S1 r e (List.getElem?_eq_getElem hi)
    have hS := sh_get hs (List.getElem?_eq_getElem hi)
    rw [hx] at hS
    have hkk : ks[j]? = some ks[j] := List.getElem?_eq_getElem hi
    generalize ks[j] = k at h hS hkk
    have z' : adOf vs j = b := z
    cases k with
    | d d => cases hS; exact absurd rfl hne
    | s q =>
      obtain ⟨_, _, _, _, h3, _⟩ := h
      exact n q (s1.l q b (by rw [h3, z']))
    | t ds =>
      obtain ⟨_, _, ev, _⟩ := h
      rcases nw j ds b hkk (by rw [hv, ev, z']) with q | ⟨i, q⟩
      · rw [hb] at q; cases q
      · exact n i q
  fn := fun b u h => by
    rcases p.fn b u h with q | q
    · exact s1.fn b u q
    · refine .inr (.inl ?_)
      cases e0 : H b with
      | none => rfl
      | some w => exact absurd q (s1.al b (by rw [e0]; simp))
  al := fun b h => p.al b (s1.al b h)
theorem ResD.res {F' H' : Hp} (S1 : SR B F1 L1 σ H1 ρ1) (s1 : Stp F L H F1 L1 H1) {ios : List Nat} {ad : Nat → Addr} : ∀ {c : Cell} {v : V}, ResD ⟨B.K, H1, F1, ios, ad⟩ F' H' c v → ResC B F L H F' L1 H' c v
  | .val _, _, h => h
  | .own ds, _, ⟨a, us, e, h1, h2, h3, h4⟩ => by
    have h3 : H1 a = none := h3
    refine ⟨a, us, e, h1, h2, fun i q => ?_, ?_, h4, .inl ?_⟩
    · obtain ⟨_, _, _, _, f3, _⟩ := S1.own q
      rw [h3] at f3; cases f3
    · cases e0 : B.H0 a with
      | none => rfl
      | some w => exact absurd h3 (S1.al a (by rw [e0]; simp))
    · cases e0 : H a with
      | none => rfl
      | some w => exact absurd h3 (s1.al a (by rw [e0]; simp))
end
section
variable {X : Cx} {B : Bd} {W : WX} {pos : Pos} {e : Expr} {es : List Expr}
theorem call_imp {ss : List KS} {n : Nat} {ios : List Nat} {w : DSp} {ks : List KV} {vs : List V} {ρ1 : En} {F H F1 H1 : Hp} {L L1 : La} {σ : L2.St} {Qd : CQ} {Ed : DX} {Q : VK} (S1 : SR B F1 L1 σ H1 ρ1) (s1 : Stp F L H F1 L1 H1) (r : KRs B F1 L1 H1 ks vs) (hsh : ks.map KV.sh = ss) (nw : KNew H L ks vs)
    (hn : ss.length = n) (hio : iosS 0 ss = ios) (hg : goodS ss = true) (k : match rsvs ρ1 ks with | some cs => w cs (fun c o => Qd c (putO ρ1 0 ks o)) (fun c fs o => Ed c fs (putO ρ1 0 ks o)) | none => False)
    (hq : ∀ c ρ' v F' L' H', Qd c ρ' → SR B F' L' σ H' ρ' → Stp F L H F' L' H' → ResC B F L H F' L' H' c v → Q v H') (hx : XOk B W F Ed) : spD B.K n ios w vs H1 Q (WE W σ) := by
  split at k
  · rename_i cs ec
    subst hio
    refine ⟨F1, laOf cs vs, cs, adOf vs, _, _, ?_, S1.enter r ec hsh hg, k, fun c o v F' H' q p rd => ?_, fun c fs o cls dd F' H' q p ex => ?_⟩
    · rw [r.length, ← hn, ← hsh, List.length_map]
    · exact hq c _ v F' L1 H' q (S1.exit r ec hsh hg p) (Stp.call S1 s1 r ec hsh nw p) (rd.res S1 s1)
    · exact hx c fs _ cls dd σ F' L1 H' q (S1.exit r ec hsh hg p) (s1.f.trans p.f) ex
  · exact k.elim
/-- f(e, ..), f a def of the text -/
theorem dc_call {as : List KX} {n k : Nat} {ios : List Nat} {w : DSp} {f : Addr} {fd : FuncData} {ps : List Str} {x : Str} {p : Pos} (F : FnOk X.prog X.w X.K X.mg X.base (L2.CX X.prog X.w) k f fd ps (spD B.K n ios w)) (hr : Room k X.A) (tk : Takes X W) (hm : X.mg x = some (.ref f)) (hk : PySem.W.keepIn X.K (.ref f) = true)
    (hb : Binds X.K fd ps []) (ha : PA X (e :: es) (rK B W as)) (hn : (as.map KX.sh).length = n := by rfl) (hio : iosS 0 (as.map KX.sh) = ios := by rfl) (hgs : goodS (as.map KX.sh) = true := by rfl) (hg : Gl X x := by rfl) (hdb : (x == ("__debug__" : Str)) = false := by decide)
    (he : starEach (e :: es) X.env = (false, eval e X.env) :: starEach es X.env := by rfl) (hpl : (backTo pos (starEach es X.env)).any (·.1) = false := by rfl) : PE X (.Call (.Name x p) (e :: es) [] pos) (rC B W (mCall as w)) := by
  refine pe_imp (pe_callS (E := WE W) F hr hg hm hk hb (passAt tk) ha hdb he hpl) fun σ H Q ⟨F0, L, ρ, Qd, Ed, S, ht, hq, hx⟩ => ?_
  exact ⟨F0, L, ρ, _, Ed, S, ht, fun ks ρ1 vs F1 L1 H1 kk S1 s1 r hsh nw => call_imp S1 s1 r hsh nw hn hio hgs kk hq hx, hx⟩
/-- f() -/
theorem pe_call0S {CX : CXT} {k : Nat} {f : Addr} {fd : FuncData} {ps : List Str} {sp : Sp} {E : L2.St → XK} {x : Str} {p : Pos} (F : FnOk X.prog X.w X.K X.mg X.base CX k f fd ps sp) (hr : Room k X.A) (hg : Gl X x) (hm : X.mg x = some (.ref f)) (hk : PySem.W.keepIn X.K (.ref f) = true) (hb : Binds X.K fd ps []) (hx : ∀ σ, PassesAt CX X σ (E σ))
    (hdb : (x == ("__debug__" : Str)) = false := by decide) : PE X (.Call (.Name x p) [] [] pos) (fun σ H Q => sp [] H Q (E σ)) := by
  refine ⟨fun pins s σ H Q I h => ?_⟩
  refine wpAny_Call_Name_kw (ld_glob I hg hm ?_ hdb)
  exact PySem.W.callWith_K0 I.kIn hk (run_fnS (us := []) F hr hb (hx σ) I .nil h)
theorem dc_call0 {k : Nat} {w : DSp} {f : Addr} {fd : FuncData} {ps : List Str} {x : Str} {p : Pos} (F : FnOk X.prog X.w X.K X.mg X.base (L2.CX X.prog X.w) k f fd ps (spD B.K 0 [] w)) (hr : Room k X.A) (tk : Takes X W) (hm : X.mg x = some (.ref f)) (hk : PySem.W.keepIn X.K (.ref f) = true)
    (hb : Binds X.K fd ps []) (hg : Gl X x := by rfl) (hdb : (x == ("__debug__" : Str)) = false := by decide) : PE X (.Call (.Name x p) [] [] pos) (rC B W (mCall [] w)) := by
  refine pe_imp (pe_call0S (E := WE W) F hr hg hm hk hb (passAt tk) hdb) fun σ H Q ⟨F0, L, ρ, Qd, Ed, S, ht, hq, hx⟩ => ?_
  exact call_imp (ss := []) (ks := []) S (Stp.refl _ _ _) rfl rfl (fun i ds a e => by simp at e) rfl rfl rfl ht hq hx
/-! keywords alone, one for each parameter -/
def pm {α : Type} : List Nat → List α → List α
  | [], _ => []
  | j :: js, l => match l[j]? with
    | some x => x :: pm js l
    | none => pm js l
def mCallK (as : List KX) (js : List Nat) (w : DSp) : DC := fun ρ Q E => mKXs as ρ (fun ks ρ1 => match rsvs ρ1 (pm js ks) with
  | some cs => w cs (fun c o => Q c (putO ρ1 0 (pm js ks) o)) (fun c fs o => E c fs (putO ρ1 0 (pm js ks) o))
  | none => False) E
theorem pm_map {α β : Type} {f : α → β} : ∀ {js : List Nat} {l : List α}, (pm js l).map f = pm js (l.map f)
  | [], _ => rfl
  | j :: js, l => by
    unfold pm
    rw [List.getElem?_map]
    cases e : l[j]? with
    | none => exact pm_map (js := js)
    | some x =>
      show f x :: (pm js l).map f = f x :: pm js (l.map f)
      rw [pm_map (js := js)]
theorem pm_vals : ∀ {js : List Nat} {vs : List V} {us : List Value}, Vals vs us → Vals (pm js vs) (pm js us)
  | [], _, _, _ => .nil
  | j :: js, vs, us, r => by
    unfold pm
    cases e : vs[j]? with
    | none =>
      have e2 : us[j]? = none := by
        rw [List.getElem?_eq_none_iff] at e ⊢
        rw [← r.length]; exact e
      rw [e2]
      exact pm_vals r
    | some v =>
      obtain ⟨u, hu, rv⟩ := r.get e
      rw [hu]
      exact .cons rv (pm_vals r)
theorem pm_krs {F H : Hp} {L : La} : ∀ {js : List Nat} {ks : List KV} {vs : List V}, KRs B F L H ks vs → KRs B F L H (pm js ks) (pm js vs)
  | [], _, _, _ => rfl
  | j :: js, ks, vs, r => by
    unfold pm
    cases e : ks[j]? with
    | none =>
      have e2 : vs[j]? = none := by
        rw [List.getElem?_eq_none_iff] at e ⊢
        rw [r.length]; exact e
      rw [e2]
      exact pm_krs r
    | some k =>
      obtain ⟨v, hv, rv⟩ := r.get e
      rw [hv]
      exact ⟨v, _, rfl, rv, pm_krs r⟩
theorem pm_new {H : Hp} {L : La} {F H1 : Hp} {L1 : La} {ks : List KV} {vs : List V} (r : KRs B F L1 H1 ks vs) (n : KNew H L ks vs) : ∀ {js : List Nat}, KNew H L (pm js ks) (pm js vs)
  | [] => fun i ds a e => by simp [pm] at e
  | j :: js => by
    unfold pm
    cases e : ks[j]? with
    | none =>
      have e2 : vs[j]? = none := by
        rw [List.getElem?_eq_none_iff] at e ⊢
        rw [r.length]; exact e
      rw [e2]
      exact pm_new r n
    | some k =>
      obtain ⟨v, hv, rv⟩ := r.get e
      rw [hv]
      exact KNew.cons (fun ds a ek ev => n j ds a (by rw [e, ek]) (by rw [hv, ev])) (pm_new r n)
/-- how keywords alone bind -/
def BindsK (fd : FuncData) (ps ks : List Str) (js : List Nat) : Prop := ∀ (s : Shared) (ws : List Value), ws.length = ks.length → BindsTo s fd ⟨[], ks.zip ws⟩ (ps.zip (pm js ws))
theorem bindsK_of {K : PySem.W.Frag} {x qual : Str} {params : Arguments} {body : List Stmt} {scope : Scope} {kws : List (Str × V)} {f : Addr} {fd : FuncData} {ps ks : List Str} {js : List Nat} (F : FunD K x qual params body scope [] kws f fd)
    (h : ∀ (kV doc pmv : Value) (an : Option Addr) (cdv ct : Value) (ws : List Value), ws.length = ks.length → bindArgs (PySem.W.fnOf x qual params body scope .none kV doc pmv an cdv ct) ⟨[], ks.zip ws⟩ = pure (ps.zip (pm js ws))) : BindsK fd ps ks js := fun s ws hl => by
  obtain ⟨oc, od, dV, kV, doc, pmv, an, cdv, ct, osl, rfl, lk, hcd, hD, hK⟩ := F.ex
  rcases hD with ⟨_, rfl⟩ | ⟨e, _⟩
  · exact .of_eq (h kV doc pmv an cdv ct ws hl)
  · exact absurd rfl e
def rKk (B : Bd) (W : WX) (as : List KX) : TA := rK B W as
theorem dkkn : PK X [] (rK B W []) := ⟨fun pos pins s σ H Q I h => pk_nil.run pos pins s σ H Q I (by
  obtain ⟨F, L, ρ, Qd, Ed, S, ht, hq, hx⟩ := h
  exact hq [] ρ [] F L H ht S (Stp.refl _ _ _) rfl rfl (fun i ds a e => by simp at e))⟩
theorem dkkc {a : KX} {as : List KX} {kws : List Keyword} {nm : Option Str} {kpos : Pos} (ha : PE X e (rK1 B W a)) (hr : PK X kws (rK B W as)) : PK X (⟨nm, e, kpos⟩ :: kws) (rK B W (a :: as)) :=
  ⟨fun pos pins s σ H Q I h => (pk_cons ha hr).run pos pins s σ H Q I (rK_cons h)⟩
theorem dc_callK {as : List KX} {n k : Nat} {ios : List Nat} {w : DSp} {f : Addr} {fd : FuncData} {ps ks : List Str} {js : List Nat} {x : Str} {p : Pos} {kws : List Keyword} (F : FnOk X.prog X.w X.K X.mg X.base (L2.CX X.prog X.w) k f fd ps (spD B.K n ios w)) (hr : Room k X.A) (tk : Takes X W) (hm : X.mg x = some (.ref f)) (hk : PySem.W.keepIn X.K (.ref f) = true)
    (hb : BindsK fd ps ks js) (ha : PK X kws (rK B W as)) (hlk : as.length = ks.length := by rfl) (hn : (pm js (as.map KX.sh)).length = n := by rfl) (hio : iosS 0 (pm js (as.map KX.sh)) = ios := by rfl) (hgs : goodS (pm js (as.map KX.sh)) = true := by rfl) (hg : Gl X x := by rfl) (hdb : (x == ("__debug__" : Str)) = false := by decide)
    (hall : (backToKw pos (keywordEach kws X.env)).all (·.1.isSome) = true := by rfl) (hks : (backToKw pos (keywordEach kws X.env)).filterMap (·.1) = ks := by rfl)
    (hpl : ((backTo pos (starEach [] X.env)).any (·.1) || (backToKw pos (keywordEach kws X.env)).any (·.1.isNone)) = false := by rfl) : PE X (.Call (.Name x p) [] kws pos) (rC B W (mCallK as js w)) := by
  refine ⟨fun pins s σ H Q I ⟨F0, L, ρ, Qd, Ed, S, ht, hq, hx⟩ => ?_⟩
  refine wpAny_Call_Name_kw (ld_glob I hg hm ?_ hdb)
  refine PySem.W.callWith_KW0 (h₀ := X.base) I.ok.mod.kin hk hall ?_ hpl
  refine thn (ha.run pos pins s σ H (fun zs H2 => zs.length = ks.length ∧ spD B.K n ios w (pm js zs) H2 Q (WE W σ)) I ⟨F0, L, ρ, _, Ed, S, ht, fun kvs ρ1 vs F1 L1 H1 kk S1 s1 r hsh nw => ?_, hx⟩) fun ws s2 ⟨zs, H2, I2, rz, l2, q2⟩ => ⟨I2.kIn, ?_⟩
  · refine ⟨by rw [r.length, ← hlk, ← List.length_map (f := KV.sh), hsh, List.length_map], ?_⟩
    exact call_imp S1 s1 (pm_krs r) (by rw [pm_map, hsh]) (pm_new r nw) hn hio hgs kk hq hx
  · rw [hks]
    have rz2 := pm_vals (js := js) rz
    refine wpAny_call (codeAny_mono (F.run X.A X.stack s2 H2 ⟨[], ks.zip ws⟩ (pm js ws) (pm js zs) Q (WE W σ) hr I2.env0 (hb s2 ws (by rw [← rz.length, l2])) rz2 q2) fun r s' hq' => ?_)
    cases r with
    | error e => exact passAt tk σ pins H2 s2 e s' I2 hq'
    | ok fl =>
      cases fl with
      | ret u => exact I2.after hq'
      | next => exact False.elim hq'
      | brk => exact False.elim hq'
      | cont => exact False.elim hq'
end
end DL
/-! The data layer: exceptions raised; facts of the head. -/
namespace DL
open PySem PySem.Spec PyProof.Rows L2
/-! ### what the written part says of an own exception class with an own __init__ -/
def oexB (K : PySem.W.Frag) (x : Str) : Bool := (match K.lookup (He.ga K x) with
  | some ⟨.type "type", _, .cls cd, sl⟩ => (match cd.mro, sl.toList with
    | .ref C' :: bm, [_, _, _, _, some (.builtin n), _] => C' == He.ga K x && n == "ValueError.__new__" && !cd.hasDel && cd.hasDict && PySem.HandSPX.refsVE bm
    | _, _ => false)
  | _ => false) && (He.eqO (PySem.W.findIn K (.ref (He.ga K x)) "__setattr__") (some (some (.builtin "object.__setattr__"))) && (decide (PySem.W.subIn K (.ref (He.ga K x)) (.type "BaseException") = some true) && (decide (PySem.W.typeIn K (.ref (He.ga K x)) = some (.type "type")) &&
    (PySem.W.keepIn K (.ref (He.ga K x)) && (He.eqO (PySem.W.findIn K (.ref (He.ga K x)) "__init__") (some (some (.ref (He.ma K (He.ga K x) "__init__")))) && decide (PySem.W.typeIn K (.ref (He.ma K (He.ga K x) "__init__")) = some (.type "function")))))))
def noatB (K : PySem.W.Frag) (x f : Str) : Bool := He.eqO (PySem.W.findIn K (.ref (He.ga K x)) f) (some none)
/-- an own exception class, its __init__ and the field's name -/
structure Oex (K : PySem.W.Frag) (x f : Str) : Prop where
  cls : OexC K (He.ga K x)
  init : PySem.W.findIn K (.ref (He.ga K x)) "__init__" = some (some (.ref (He.ma K (He.ga K x) "__init__")))
  fn : PySem.W.typeIn K (.ref (He.ma K (He.ga K x) "__init__")) = some (.type "function")
  noat : PySem.W.findIn K (.ref (He.ga K x)) f = some none
theorem oex_ok {K : PySem.W.Frag} {x f : Str} (h : oexB K x = true) (h2 : noatB K x f = true) : Oex K x f := by
  unfold oexB at h
  simp only [Bool.and_eq_true, decide_eq_true_eq] at h
  obtain ⟨h0, hs, hsub, hty, hk, hi, hf⟩ := h
  refine ⟨⟨?_, He.eqO_ok hs, hsub, hty, hk⟩, He.eqO_ok hi, hf, He.eqO_ok h2⟩
  split at h0
  · rename_i dd cd sl ho
    split at h0
    · rename_i C' bm k0 k1 k2 k3 n k5 hm hsl
      simp only [Bool.and_eq_true, beq_iff_eq, Bool.not_eq_true'] at h0
      obtain ⟨⟨⟨⟨rfl, rfl⟩, hdel⟩, hdict⟩, hbm⟩ := h0
      obtain ⟨nm, bs, mro, ns, qn, hd, sn, sub, ab, col, del⟩ := cd
      dsimp only at hm hdel hdict
      subst hm hdel hdict
      have hsl2 : sl = #[k0, k1, k2, k3, some (.builtin "ValueError.__new__"), k5] := by
        obtain ⟨l⟩ := sl
        simp only at hsl
        rw [hsl]
      subst hsl2
      exact ⟨nm, qn, ns, bs, bm, sn, sub, ab, col, dd, k0, k1, k2, k3, k5, ho, hbm⟩
    · cases h0
  · cases h0
/-- what such an __init__ promises -/
def spIni (C : Addr) (f : Str) : Sp := fun vs H Q _ => ∃ a v, vs = [.ref a, v] ∧ H a = some (exo a C none) ∧ ∀ dx, H dx = none → dx ≠ a → Q .non (upd (upd H dx (exd dx [(f, v)])) a (exo a C (some dx)))
/-- def __init__(self, y): self.f = y -/
theorem ini_ok {K : PySem.W.Frag} {P : Program} {w : World} {mg : Str → Option Value} {base : Heap} {x qual : Str} {params : Arguments} {scope : Scope} {dvs : List V} {kws : List (Str × V)} {fa : Addr} {fd : FuncData} {f y c : Str} {p1 p2 p3 p4 : Pos}
    (Fd : FunD K x qual params [.Assign [.Attribute (.Name "self" p1) f p2] (.Name y p3) p4] scope dvs kws fa fd) (O : Oex K c f) (S : FnScope ["self", y] ["self", y] scope) (hs : scope.names.lookup ("self" : Str) = some .local) (hy : scope.names.lookup y = some .local)
    (hd : (y == ("__debug__" : Str)) = false) (hcd : (y == ("__classdict__" : Str)) = false) :
    FnOk P w K mg base (L2.CX P w) 1 fa fd ["self", y] (spIni (He.ga K c) f) := by
  refine Fd.ok S (fun vs H Q E h => ?_) fun cdv A outer s H vs Q E hr ⟨a, v, ev, ea, hq⟩ => ?_
  · obtain ⟨a, v, rfl, _⟩ := h
    rfl
  · subst ev
    refine ⟨_, pss_one (ps_ost (pe_var (i := 0) rfl (.inl hs)) (pe_var (i := 1) rfl (.inl hy) hd hcd)), ?_⟩
    exact ⟨v, rfl, .ref a, rfl, a, He.ga K c, rfl, O.cls, O.noat, .inl ⟨ea, fun dx n ne => hq dx n ne⟩⟩
/-! ### raise -/
def mRaise (c f : Str) (t : DE) : DS := fun D ρ => t ρ (fun d ρ1 => D.ex c [(f, d)] ρ1) D.ex
def mRaise0 (c : Str) : DS := fun D ρ => D.ex c [] ρ
section
variable {X : Cx} {B : Bd} {W : WX} {pos : Pos} {e : Expr}
theorem ds_raise {c f : Str} {t : DE} {fd : FuncData} {ps : List Str} {p p2 : Pos} {k : Nat} (hc : X.calm = true) (tk : Takes X W) (O : Oex X.K c f) (F : FnOk X.prog X.w X.K X.mg X.base (L2.CX X.prog X.w) k (He.ma X.K (He.ga X.K c) "__init__") fd ps (spIni (He.ga X.K c) f)) (hb : Binds X.K fd ps [])
    (hr : Room (k + 1) X.A) (hm : X.mg c = some (.ref (He.ga X.K c))) (ht : PE X e (rV B W t)) (hK : B.K = X.K := by rfl) (hg : Gl X c := by rfl) (hdb : (c == ("__debug__" : Str)) = false := by decide) (he : starEach [e] X.env = (false, eval e X.env) :: starEach [] X.env := by rfl) :
    PS X (.Raise (some (.Call (.Name c p) [e] [] p2)) none pos) (rS B W (mRaise c f t)) := by
  refine ps_imp (ps_raise hc tk (pmk_oex O.cls O.init O.fn F hr hb .nil passL hg hm (ddc ht ddn he) hdb he rfl)) fun D σ H ⟨F0, L, ρ, Dd, S, q, o⟩ => ?_
  have q' : mDs [t] ρ (fun ds ρ1 => ∃ d, ds = [d] ∧ Dd.ex c [(f, d)] ρ1) Dd.ex := by
    have e : (fun d ρ1 => Dd.ex c [(f, d)] ρ1) = fun d ρ1 => ∃ d', [d] = [d'] ∧ Dd.ex c [(f, d')] ρ1 := by
      funext d ρ1
      exact propext ⟨fun h => ⟨d, rfl, h⟩, fun ⟨d', e, h⟩ => by cases e; exact h⟩
    have q0 : t ρ (fun d ρ1 => Dd.ex c [(f, d)] ρ1) Dd.ex := q
    rw [e] at q0
    exact q0
  refine ⟨F0, L, ρ, _, Dd.ex, S, q', fun ds ρ1 vs F1 L1 H1 ⟨d, ed, k1⟩ S1 s1 r1 => ?_, o.ex⟩
  subst ed
  obtain ⟨v, r, ev, rv, rr⟩ := r1
  cases (show r = [] from rr)
  subst ev
  refine ⟨by simp, fun a ha => ⟨a, v, rfl, upd_same, fun dx hdx hne => ⟨rfl, dx, [(f, v)], upd_same, ?_, ?_, ?_⟩⟩⟩
  · rw [upd_ne hne, upd_same]
  · rw [upd_ne hne] at hdx
    exact hdx
  · have hdx1 : H1 dx = none := by
      rw [upd_ne hne] at hdx
      exact hdx
    have eH : upd (del (upd (upd (upd H1 a (exo a (He.ga X.K c) none)) dx (exd dx [(f, v)])) a (exo a (He.ga X.K c) (some dx))) a) dx (.xd [(f, v)]) = upd H1 dx (.xd [(f, v)]) := by
      funext b
      by_cases hb1 : b = dx
      · rw [hb1, upd_same, upd_same]
      · rw [upd_ne hb1, upd_ne hb1]
        by_cases hb2 : b = a
        · rw [hb2, del_same, ha]
        · rw [del_ne hb2, upd_ne hb2, upd_ne hb1, upd_ne hb2]
    rw [eH]
    have g : Grow F1 H1 F1 (upd H1 dx (.xd [(f, v)])) := ⟨Same.refl _, same_upd hdx1, fun _ _ z => .inl z⟩
    refine o.ex c [(f, d)] ρ1 _ _ σ F1 L1 _ k1 (S1.grow g (S1.sub.trans (same_upd hdx1))) s1.f ⟨by rw [hK], .inr ⟨dx, [(f, v)], rfl, upd_same, rfl, RpL.one rv⟩⟩
/-- raise C(), C without an own __init__ -/
theorem pmk_own0 {x : Str} {C : Addr} {bmB : List Value} {Bn newId initId : String} {p pos : Pos} (F : ExcBaseFacts Bn newId initId bmB) (q : PySem.W.excIn X.K C bmB newId = true) (gC : X.mg x = some (.ref C)) (kC : PySem.W.keepIn X.K (.ref C) = true) (r : Raises X (.ref C)) (hg : Gl X x)
    (hdb : (x == ("__debug__" : Str)) = false := by decide) : PMk X (.Call (.Name x p) [] [] pos) (fun _ H Q => Q (.ref C) none H) := by
  intro pins s σ H Q I h
  refine wpAny_Call_Name_kw (ld_glob I hg gC ?_ hdb)
  refine PySem.W.callWith_K0 I.kIn kC ?_
  obtain ⟨bm, N, nm, qn, bs, hdct, sn, sub, ab, col, dd, k0, k1, k2, k3, k5, mN, hC, hN, hni, T⟩ := exc_obj I.kIn q
  refine wpAny_call_exc_subT F T hC hN hni (fun h' e hm => ?_) (by show 0 ≤ sizeLine; exact Nat.zero_le _)
  exact mk_of I hm r h (I.hok.gone hm.new)
theorem ds_raise0 {c : Str} {p p2 : Pos} (hc : X.calm = true) (tk : Takes X W) (q : PySem.W.excIn X.K (He.ga X.K c) He.veBase "ValueError.__new__" = true ∧ PySem.W.keepIn X.K (.ref (He.ga X.K c)) = true ∧ PySem.W.subIn X.K (.ref (He.ga X.K c)) (.type "BaseException") = some true ∧ PySem.W.typeIn X.K (.ref (He.ga X.K c)) = some (.type "type"))
    (hm : X.mg c = some (.ref (He.ga X.K c))) (hK : B.K = X.K := by rfl) (hg : Gl X c := by rfl) (hdb : (c == ("__debug__" : Str)) = false := by decide) : PS X (.Raise (some (.Call (.Name c p) [] [] p2)) none pos) (rS B W (mRaise0 c)) := by
  refine ps_imp (ps_raise hc tk (pmk_own0 PySem.F.excBase_ValueError q.1 hm q.2.1 (raises_own q.2.2.1 q.2.2.2) hg hdb)) fun D σ H ⟨F0, L, ρ, Dd, S, k, o⟩ => ?_
  exact o.ex c [] ρ _ _ σ F0 L H k S (Same.refl _) ⟨by rw [hK], .inl ⟨rfl, rfl⟩⟩
end
/-- name = [..] on one line, the list made still at once -/
theorem ds_setLcV {X : Cx} {B : Bd} {W : WX} (i : Nat) {y : Str} {py pos : Pos} {elt tg iter : Expr} {ifs : List Expr} {scope : Scope} {spos : Pos} (own : List (Str × Nat)) {it : DI} {p : Pt} {tt : DT} {te : DE} (hc : X.calm = true) (hN : X.N.Nodup) (hi : PI X tg iter (rI B W it)) 
    (hg : ∀ (s : Shared) (H : Hp) (C : Addr) (cl : List (Str × Addr)) (fp : List Addr), PG (X.blk s H scope (compEnvC scope cl C X.env) fp) tg (rP B p)) (ht : ∀ (s : Shared) (H : Hp) (C : Addr) (cl : List (Str × Addr)) (fp : List Addr), PTs (X.blk s H scope (compEnvC scope cl C X.env) fp) ifs (rT B WF tt))
    (he : ∀ (s : Shared) (H : Hp) (C : Addr) (cl : List (Str × Addr)) (fp : List Addr), PE (X.blk s H scope (compEnvC scope cl C X.env) fp) elt (rV B WF te)) (hsw : swapsWith (.ListComp elt [⟨tg, iter, ifs, 0⟩] scope pos) (some (.Name y py)) spos.line X.env = pure true := by exact sw_true rfl rfl rfl rfl)
    (hy : X.N[i]? = some y := by rfl) (hyl : X.env.scope.names.lookup y = some .local := by rfl) (hioi : B.ios.contains i = false := by rfl) (ok : blkC X.N X.env.scope scope own = true := by rfl) (hio : ((own.map (·.2)).all fun v => !B.ios.contains v) = true := by rfl) (hp : ((ptNs p).all fun v => (own.map (·.2)).contains v) = true := by rfl)
    (hs : ∀ x, foldedSetIterable iter X.env x = pure x := by intro _; rfl) : PS X (.Assign [.Name y py] (.ListComp elt [⟨tg, iter, ifs, 0⟩] scope pos) spos) (rS B W (mAsg (.nm i) (vl (frz (mLc it p tt te (own.map (·.2))))))) := by
  refine ps_impL (ps_setLc hc hN hy hyl hsw hi (blkOk_by ok) hg ht he hs) fun D σ H hl h => ?_
  obtain ⟨F, L, ρ, Dd, S, q, o⟩ := h
  have hlt : i < σ.length := by rw [hl]; exact (List.getElem?_eq_some_iff.mp hy).1
  refine lc_imp hio hp ⟨F, L, ρ, fun c ρ1 => Dd.nx (ρ1.set i (some (.val c.toD))), Dd.ex, S, q, fun c ρ1 v F1 L1 H1 k S1 s1 r1 => ?_, o.ex⟩
  have k' : Dd.nx (ρ1.set i (some (.val c.toD))) := k
  cases c with
  | val d => exact o.nx _ _ _ _ _ k' (S1.put hioi hlt r1) s1.f
  | own ds =>
    obtain ⟨a, vs, e, h1, h2, h3, h4, h5, _⟩ := r1
    subst e
    exact o.nx _ _ _ _ _ k' ((S1.freeze h1 h2 h3 h4).put hioi hlt ⟨a, vs, rfl, upd_same, h5.mono (same_upd h2)⟩) (s1.f.trans (same_upd h2))
/-! ### names of the module: built-in types, numbers, texts -/
section
variable {X : Cx} {B : Bd} {W : WX} {pos : Pos}
theorem de_int' {x : Str} {i : Int} (h : ∃ t, X.mg x = some (.int i t)) (hg : Gl X x := by rfl) (hd : (x == ("__debug__" : Str)) = false := by decide) : PE X (.Name x pos) (rV B W (mK (.int i))) := by
  obtain ⟨t, hm⟩ := h
  exact de_glob hm (v := .int i) ⟨t, rfl⟩ (fun _ => rfl) hg hd
theorem de_str' {x z : Str} (h : ∃ t, X.mg x = some (.str z t)) (hg : Gl X x := by rfl) (hd : (x == ("__debug__" : Str)) = false := by decide) : PE X (.Name x pos) (rV B W (mK (.str z))) := by
  obtain ⟨t, hm⟩ := h
  exact de_glob hm (v := .str z) ⟨t, rfl⟩ (fun _ => rfl) hg hd
end
section
variable {X : Cx} {B : Bd} {W : WX} {pos : Pos}
theorem de_ty {x : Str} {n : String} (hm : X.mg x = none) (hv : bootBuiltins x = some (.type n) := by decide +kernel) (hg : Gl X x := by rfl) (hn : x ≠ "__name__" := by decide) (hd : (x == ("__debug__" : Str)) = false := by decide) : PE X (.Name x pos) (rV B W (mK (.ty n))) := de_K (pe_bltn hg hm hv (v := .ty n) rfl hn hd) (fun _ => rfl)
end
/-! ### the head's Hook -/
def obsM (n : Nat) (fa : List He.Fa) (fn : List He.DefD) (ex : PySem.W.Frag → Bool) (g : Addr → Option Obj) : He.AlD := ((He.obsD fa fn (He.frG g (He.asD g n))).1 && ex (He.frG g (He.asD g n)), (He.obsD fa fn (He.frG g (He.asD g n))).2)
def SaysM (fa : List He.Fa) (fn : List He.DefD) (ex : PySem.W.Frag → Bool) (K : PySem.W.Frag) : Prop := He.SaysD fa fn K ∧ ex K = true
theorem saysM_of {fa : List He.Fa} {fn : List He.DefD} {ex : PySem.W.Frag → Bool} {K : PySem.W.Frag} (e : ((He.obsD fa fn K).1 && ex K, (He.obsD fa fn K).2) = He.valD fn) : SaysM fa fn ex K := by
  have e1 : ((He.obsD fa fn K).1 && ex K) = true := by
    have z := congrArg (fun z : He.AlD => z.1) e
    exact z
  have e2 : (He.obsD fa fn K).2 = (He.valD fn).2 := by
    have z := congrArg (fun z : He.AlD => z.2) e
    exact z
  rw [Bool.and_eq_true] at e1
  exact ⟨Prod.ext e1.1 e2, e1.2⟩
def hookM (n : Nat) (fa : List He.Fa) (fn : List He.DefD) (ex : PySem.W.Frag → Bool) : PySem.W.Hook where
  α := He.AlD
  obs := fun s => obsM n fa fn ex s.heap.get?
  val := fun _ => He.valD fn
  says := fun _ h => ∃ K : PySem.W.Frag, K.In h ∧ SaysM fa fn ex K
  of := fun _ _ e => ⟨_, He.frG_in, saysM_of e⟩
  keeps := fun _ _ _ ⟨K, hK, c⟩ k => ⟨K, PySem.W.Frag.In.keeps hK k, c⟩
theorem obsM_eq {n : Nat} {fa : List He.Fa} {fn : List He.DefD} {ex : PySem.W.Frag → Bool} {g : Addr → Option Obj} {s : Shared} (h : ∀ a, g a = s.heap.get? a) : obsM n fa fn ex g = (hookM n fa fn ex).obs s := by
  have e : g = s.heap.get? := funext h
  rw [e] <;> rfl
end DL
/-! The head's Hook again, with a cheaper walk to what the globals reach. -/
namespace DL
open PySem PySem.Spec PyProof.Rows L2
/-- one address more, a number's bits told which are there -/
def addF (s : Nat × List Addr) (r : Addr) : Nat × List Addr := match Nat.testBit s.1 r with
  | true => s
  | false => (s.1 ||| (1 <<< r), r :: s.2)
def frontF (g : Addr → Option Obj) (m : Nat) (front : List Addr) : Nat × List Addr := front.foldl (fun t a => match g a with
  | some o => (He.refsD o).foldl addF t
  | none => t) (m, [])
def growF (g : Addr → Option Obj) : Nat → Nat → List Addr → List Addr → List Addr
  | 0, _, all, _ => all
  | n + 1, m, all, front => match frontF g m front with
    | (m', new) => growF g n m' (all ++ new) new
def asF (g : Addr → Option Obj) (n : Nat) : List Addr := growF g n (1 <<< mainGlobals) [mainGlobals] [mainGlobals]
def obsF (n : Nat) (fa : List He.Fa) (fn : List He.DefD) (ex : PySem.W.Frag → Bool) (g : Addr → Option Obj) : He.AlD := ((He.obsD fa fn (He.frG g (asF g n))).1 && ex (He.frG g (asF g n)), (He.obsD fa fn (He.frG g (asF g n))).2)
def hookF (n : Nat) (fa : List He.Fa) (fn : List He.DefD) (ex : PySem.W.Frag → Bool) : PySem.W.Hook where
  α := He.AlD
  obs := fun s => obsF n fa fn ex s.heap.get?
  val := fun _ => He.valD fn
  says := fun _ h => ∃ K : PySem.W.Frag, K.In h ∧ SaysM fa fn ex K
  of := fun _ _ e => ⟨_, He.frG_in, saysM_of e⟩
  keeps := fun _ _ _ ⟨K, hK, c⟩ k => ⟨K, PySem.W.Frag.In.keeps hK k, c⟩
theorem obsF_eq {n : Nat} {fa : List He.Fa} {fn : List He.DefD} {ex : PySem.W.Frag → Bool} {g : Addr → Option Obj} {s : Shared} (h : ∀ a, g a = s.heap.get? a) : obsF n fa fn ex g = (hookF n fa fn ex).obs s := by
  have e : g = s.heap.get? := funext h
  rw [e] <;> rfl
end DL
/-! The data layer: a def and its calls as one; the law's end. -/
namespace DL
open PySem PySem.Spec PyProof.Rows L2
/-- a def of the text that keeps its promise: lv how deep it calls, w what it does -/
structure DefOk (P : Program) (w : World) (K : PySem.W.Frag) (mg : Str → Option Value) (base : Heap) (lv : Nat) (x : Str) (st : Stmt) (fd : FuncData) (ps : List Str) (n : Nat) (ios : List Nat) (sp : DSp) : Prop where
  fun_ : FunD K x x (defArgs st) (defBody st) (defScope st) [] [] (He.ga K x) fd
  ok : FnOk P w K mg base (L2.CX P w) lv (He.ga K x) fd ps (spD K n ios sp)
  glo : mg x = some (.ref (He.ga K x))
  binds : Binds K fd ps []
section
variable {X : Cx} {B : Bd} {W : WX} {pos : Pos} {e : Expr} {es : List Expr}
theorem dc_callD {as : List KX} {n lv k : Nat} {ios : List Nat} {w : DSp} {fd : FuncData} {ps : List Str} {x : Str} {st : Stmt} {p : Pos} (D : DefOk X.prog X.w X.K X.mg X.base lv x st fd ps n ios w) (hr : Room k X.A) (hle : lv ≤ k) (tk : Takes X W) (ha : PA X (e :: es) (rK B W as)) (hK : B.K = X.K := by rfl)
    (hn : (as.map KX.sh).length = n := by rfl) (hio : iosS 0 (as.map KX.sh) = ios := by rfl) (hgs : goodS (as.map KX.sh) = true := by rfl) (hg : Gl X x := by rfl) (hdb : (x == ("__debug__" : Str)) = false := by decide)
    (he : starEach (e :: es) X.env = (false, eval e X.env) :: starEach es X.env := by rfl) (hpl : (backTo pos (starEach es X.env)).any (·.1) = false := by rfl) : PE X (.Call (.Name x p) (e :: es) [] pos) (rC B W (mCall as w)) :=
  dc_call (n := n) (ios := ios) (k := k) (by rw [hK]; exact D.ok.mono hle) hr tk D.glo D.fun_.kp D.binds ha hn hio hgs hg hdb he hpl
theorem dc_call0D {lv k : Nat} {w : DSp} {fd : FuncData} {ps : List Str} {x : Str} {st : Stmt} {p : Pos} (D : DefOk X.prog X.w X.K X.mg X.base lv x st fd ps 0 [] w) (hr : Room k X.A) (hle : lv ≤ k) (tk : Takes X W) (hK : B.K = X.K := by rfl)
    (hg : Gl X x := by rfl) (hdb : (x == ("__debug__" : Str)) = false := by decide) : PE X (.Call (.Name x p) [] [] pos) (rC B W (mCall [] w)) :=
  dc_call0 (k := k) (by rw [hK]; exact D.ok.mono hle) hr tk D.glo D.fun_.kp D.binds hg hdb
theorem dc_callKD {as : List KX} {n lv k : Nat} {ios : List Nat} {w : DSp} {fd : FuncData} {ps ks : List Str} {js : List Nat} {x : Str} {st : Stmt} {p : Pos} {kws : List Keyword} (D : DefOk X.prog X.w X.K X.mg X.base lv x st fd ps n ios w) (hb : BindsK fd ps ks js) (hr : Room k X.A) (hle : lv ≤ k) (tk : Takes X W) (ha : PK X kws (rK B W as)) (hK : B.K = X.K := by rfl)
    (hlk : as.length = ks.length := by rfl) (hn : (pm js (as.map KX.sh)).length = n := by rfl) (hio : iosS 0 (pm js (as.map KX.sh)) = ios := by rfl) (hgs : goodS (pm js (as.map KX.sh)) = true := by rfl) (hg : Gl X x := by rfl) (hdb : (x == ("__debug__" : Str)) = false := by decide)
    (hall : (backToKw pos (keywordEach kws X.env)).all (·.1.isSome) = true := by rfl) (hks : (backToKw pos (keywordEach kws X.env)).filterMap (·.1) = ks := by rfl)
    (hpl : ((backTo pos (starEach [] X.env)).any (·.1) || (backToKw pos (keywordEach kws X.env)).any (·.1.isNone)) = false := by rfl) : PE X (.Call (.Name x p) [] kws pos) (rC B W (mCallK as js w)) :=
  dc_callK (n := n) (ios := ios) (k := k) (by rw [hK]; exact D.ok.mono hle) hr tk D.glo D.fun_.kp hb ha hlk hn hio hgs hg hdb hall hks hpl
/-! x.append(e), x.extend(e) with their walk -/
theorem he_app (i : Nat) {x : Str} {t : DE} {p apos cpos : Pos} (he : PE X e (rV B W t)) (hN : X.N[i]? = some x := by rfl) (hv : Vis X.env.scope x := by first | exact Or.inl rfl | exact Or.inr (Or.inl rfl) | exact Or.inr (Or.inr rfl)) (hd : (x == ("__debug__" : Str)) = false := by decide)
    (hcd : (x == ("__classdict__" : Str)) = false := by decide) (hbase : attributeBase (.Name x p) "append" X.env (eval (.Name x p) X.env) = eval (.Name x p) X.env := by rfl)
    (hfew : ((backTo cpos (starEach [e] X.env)).all (fun x => !x.1) && (backToKw cpos (keywordEach [] X.env)).all (fun x => x.1.isSome)
      && decide ([e].length + ([] : List Keyword).length + (if ([] : List Keyword).isEmpty then 0 else 1) < 30)) = true := by rfl)
    (hline : (apos.endLine == cpos.line) = true := by rfl) (hs : starEach [e] X.env = (false, eval e X.env) :: starEach [] X.env := by rfl) (hplain : (backTo cpos (starEach [] X.env)).any (·.1) = false := by rfl) :
    PE X (.Call (.Attribute (.Name x p) "append" apos) [e] [] cpos) (tBM X.K "list" rAppend (tVar i) (tCons (rV B W t) tNil)) :=
  pe_bm PySem.F.plainAttrs_list PySem.F.slot_list_append PySem.F.type_list_append mt_append (pe_var (i := i) hN hv hd hcd) (pa_cons he pa_nil hs) hbase hfew hline hs hplain
theorem he_ext (i : Nat) {x : Str} {t : DE} {p apos cpos : Pos} (he : PE X e (rV B W t)) (hN : X.N[i]? = some x := by rfl) (hv : Vis X.env.scope x := by first | exact Or.inl rfl | exact Or.inr (Or.inl rfl) | exact Or.inr (Or.inr rfl)) (hd : (x == ("__debug__" : Str)) = false := by decide)
    (hcd : (x == ("__classdict__" : Str)) = false := by decide) (hbase : attributeBase (.Name x p) "extend" X.env (eval (.Name x p) X.env) = eval (.Name x p) X.env := by rfl)
    (hfew : ((backTo cpos (starEach [e] X.env)).all (fun x => !x.1) && (backToKw cpos (keywordEach [] X.env)).all (fun x => x.1.isSome)
      && decide ([e].length + ([] : List Keyword).length + (if ([] : List Keyword).isEmpty then 0 else 1) < 30)) = true := by rfl)
    (hline : (apos.endLine == cpos.line) = true := by rfl) (hs : starEach [e] X.env = (false, eval e X.env) :: starEach [] X.env := by rfl) (hplain : (backTo cpos (starEach [] X.env)).any (·.1) = false := by rfl) :
    PE X (.Call (.Attribute (.Name x p) "extend" apos) [e] [] cpos) (tBM X.K "list" rExtend (tVar i) (tCons (rV B W t) tNil)) :=
  pe_bm PySem.F.plainAttrs_list PySem.F.slot_list_extend PySem.F.type_list_extend mt_extend (pe_var (i := i) hN hv hd hcd) (pa_cons he pa_nil hs) hbase hfew hline hs hplain
theorem ds_appB (i : Nat) {x : Str} {t : DE} {p apos cpos : Pos} (he : PE X e (rV B W t)) (hN : X.N[i]? = some x := by rfl) (hv : Vis X.env.scope x := by first | exact Or.inl rfl | exact Or.inr (Or.inl rfl) | exact Or.inr (Or.inr rfl)) (hd : (x == ("__debug__" : Str)) = false := by decide)
    (hcd : (x == ("__classdict__" : Str)) = false := by decide) (hbase : attributeBase (.Name x p) "append" X.env (eval (.Name x p) X.env) = eval (.Name x p) X.env := by rfl)
    (hfew : ((backTo cpos (starEach [e] X.env)).all (fun x => !x.1) && (backToKw cpos (keywordEach [] X.env)).all (fun x => x.1.isSome)
      && decide ([e].length + ([] : List Keyword).length + (if ([] : List Keyword).isEmpty then 0 else 1) < 30)) = true := by rfl)
    (hline : (apos.endLine == cpos.line) = true := by rfl) (hs : starEach [e] X.env = (false, eval e X.env) :: starEach [] X.env := by rfl) (hplain : (backTo cpos (starEach [] X.env)).any (·.1) = false := by rfl)
    (hsw : swapsWith (.Call (.Attribute (.Name x p) "append" apos) [e] [] cpos) none pos.line X.env = pure false := by rfl) : PS X (.Expr (.Call (.Attribute (.Name x p) "append" apos) [e] [] cpos) pos) (rS B W (mApp i t)) :=
  ds_app i he hN hv hd hcd (he_app i he hN hv hd hcd hbase hfew hline hs hplain) hsw
theorem ds_extB (i : Nat) {x : Str} {t : DE} {p apos cpos : Pos} (he : PE X e (rV B W t)) (hN : X.N[i]? = some x := by rfl) (hv : Vis X.env.scope x := by first | exact Or.inl rfl | exact Or.inr (Or.inl rfl) | exact Or.inr (Or.inr rfl)) (hd : (x == ("__debug__" : Str)) = false := by decide)
    (hcd : (x == ("__classdict__" : Str)) = false := by decide) (hbase : attributeBase (.Name x p) "extend" X.env (eval (.Name x p) X.env) = eval (.Name x p) X.env := by rfl)
    (hfew : ((backTo cpos (starEach [e] X.env)).all (fun x => !x.1) && (backToKw cpos (keywordEach [] X.env)).all (fun x => x.1.isSome)
      && decide ([e].length + ([] : List Keyword).length + (if ([] : List Keyword).isEmpty then 0 else 1) < 30)) = true := by rfl)
    (hline : (apos.endLine == cpos.line) = true := by rfl) (hs : starEach [e] X.env = (false, eval e X.env) :: starEach [] X.env := by rfl) (hplain : (backTo cpos (starEach [] X.env)).any (·.1) = false := by rfl)
    (hsw : swapsWith (.Call (.Attribute (.Name x p) "extend" apos) [e] [] cpos) none pos.line X.env = pure false := by rfl) : PS X (.Expr (.Call (.Attribute (.Name x p) "extend" apos) [e] [] cpos) pos) (rS B W (mExt i t)) :=
  ds_ext i he hN hv hd hcd (he_ext i he hN hv hd hcd hbase hfew hline hs hplain) hsw
end
theorem pss_eq {X : Cx} {B : Bd} {W : WX} {st : List Stmt} {t u : DS} (e : u = t) (h : PSs X st (rS B W t)) : PSs X st (rS B W u) := by
  rw [e]
  exact h
/-! ### what the head tells -/
structure Zx (fa : List He.Fa) (fn : List He.DefD) (ex : PySem.W.Frag → Bool) (K : PySem.W.Frag) (mg : Str → Option Value) (base : Heap) : Prop where
  x : K.In base
  g : base.Ns mainGlobals mg
  c : SaysM fa fn ex K
section
variable {fa : List He.Fa} {fn : List He.DefD} {ex : PySem.W.Frag → Bool} {K : PySem.W.Frag} {mg : Str → Option Value} {base : Heap}
theorem Zx.free (Z : Zx fa fn ex K mg base) (i : Nat) {x : Str} (h : fa[i]? = some (.free x) := by rfl) : mg x = none := He.free_ok Z.x Z.g (Z.c.1.fact i h)
theorem Zx.glo (Z : Zx fa fn ex K mg base) (i : Nat) {x : Str} (h : fa[i]? = some (.glo x) := by rfl) : mg x = some (.ref (He.ga K x)) := He.glo_ok Z.x Z.g (Z.c.1.fact i h)
theorem Zx.int (Z : Zx fa fn ex K mg base) (i : Nat) {x : Str} {j : Int} (h : fa[i]? = some (.int x j) := by rfl) : ∃ t, mg x = some (.int j t) := He.int_ok Z.x Z.g (Z.c.1.fact i h)
theorem Zx.str (Z : Zx fa fn ex K mg base) (i : Nat) {x z : Str} (h : fa[i]? = some (.str x z) := by rfl) : ∃ t, mg x = some (.str z t) := He.str_ok Z.x Z.g (Z.c.1.fact i h)
theorem Zx.exc (Z : Zx fa fn ex K mg base) (i : Nat) {x : Str} (h : fa[i]? = some (.exc x) := by rfl) : PySem.W.excIn K (He.ga K x) He.veBase "ValueError.__new__" = true ∧ PySem.W.keepIn K (.ref (He.ga K x)) = true ∧ PySem.W.subIn K (.ref (He.ga K x)) (.type "BaseException") = some true ∧ PySem.W.typeIn K (.ref (He.ga K x)) = some (.type "type") := He.exc_ok (Z.c.1.fact i h)
theorem Zx.def_ (Z : Zx fa fn ex K mg base) (i : Nat) {d : He.DefD} (h : fn[i]? = some d := by rfl) : ∃ fd, FunD K d.name d.qual d.params d.body d.scope (d.dvs K) (d.kws K) (He.fAd K d.at_) fd := Z.c.1.def_ i h
end
/-- a fact of K among the extra ones -/
def exAll (es : List (PySem.W.Frag → Bool)) (K : PySem.W.Frag) : Bool := es.all fun e => e K
theorem exAll_at {es : List (PySem.W.Frag → Bool)} {K : PySem.W.Frag} (h : exAll es K = true) (i : Nat) {e : PySem.W.Frag → Bool} (he : es[i]? = some e) : e K = true := List.all_eq_true.mp h e (List.mem_of_getElem? he)
/-- the module's name x stands for a built-in function -/
def bltB (x : Str) (id : String) (K : PySem.W.Frag) : Bool := match PySem.W.nsIn K mainGlobals x with
  | some (some (.builtin j)) => decide (j = id)
  | _ => false
theorem bltB_ok {K : PySem.W.Frag} {h : Heap} {mg : Str → Option Value} {x : Str} {id : String} (X : K.In h) (G : h.Ns mainGlobals mg) (c : bltB x id K = true) : mg x = some (.builtin id) := by
  unfold bltB at c
  split at c
  · rename_i j e
    have := of_decide_eq_true c
    subst this
    exact PySem.W.mg_of X G e
  · cases c
/-- a tuple of numbers and texts that the module names -/
inductive Flat where
  | i (n : Int) | s (x : Str)
def Flat.d : Flat → D
  | .i n => .int n
  | .s x => .str x
def Flat.v : Flat → He.Dv
  | .i n => .int n
  | .s x => .str x
theorem flat_rp {K : PySem.W.Frag} {F : Hp} : ∀ fs : List Flat, RpL K F (fs.map Flat.d) ((fs.map Flat.v).map (He.Dv.v K))
  | [] => rfl
  | .i n :: fs => ⟨.int n, _, rfl, rfl, flat_rp fs⟩
  | .s x :: fs => ⟨.str x, _, rfl, rfl, flat_rp fs⟩
theorem tup_rp {K : PySem.W.Frag} {x : Str} {fs : List Flat} (h : He.tupB K x (fs.map Flat.v) = true) : ∀ F, Rp K F (.tup (fs.map Flat.d)) (.ref (He.ga K x)) := fun F => ⟨_, _, rfl, He.tupB_ok h F, flat_rp fs⟩
theorem funD_inj {K : PySem.W.Frag} {x x' q q' : Str} {pa pa' : Arguments} {b b' : List Stmt} {sc sc' : Scope} {dv dv' : List V} {kw kw' : List (Str × V)} {f : Addr} {fd fd' : FuncData} (F : FunD K x q pa b sc dv kw f fd) (F' : FunD K x' q' pa' b' sc' dv' kw' f fd') : fd = fd' := by
  obtain ⟨oc, od, _, _, _, _, _, _, _, osl, _, lk, _⟩ := F.ex
  obtain ⟨oc', od', _, _, _, _, _, _, _, osl', _, lk', _⟩ := F'.ex
  rw [lk] at lk'
  injection lk' with z
  injection z with z1 z2 z3 z4
  injection z3
/-- the law's def, over every base -/
theorem law_def_of {fa : List He.Fa} {fn : List He.DefD} {ex : PySem.W.Frag → Bool} {P : Program} {w : World} {K : PySem.W.Frag} {mg : Str → Option Value} {h : Heap} {lv : Nat} {x a : Str} {st : Stmt} {sp : DSp}
    (H : ∀ base : Heap, Zx fa fn ex K mg base → ∃ fd, DefOk P w K mg base lv x st fd [a] 1 [] sp) (X : K.In h) (G : h.Ns mainGlobals mg) (c : SaysM fa fn ex K)
    (hb : ∀ (kV doc pm : Value) (an : Option Addr) (cdv ct : Value) (us : List Value), us.length = [a].length → bindArgs (PySem.W.fnOf x x (defArgs st) (defBody st) (defScope st) .none kV doc pm an cdv ct) ⟨us, []⟩ = pure ([a].zip us)) :
    ∃ fd, mg x = some (.ref (He.ga K x)) ∧ (∀ (s : Shared) (u : Value), BindsTo s fd ⟨[u], []⟩ [(a, u)]) ∧ ∀ base : Heap, K.In base → base.Ns mainGlobals mg → FnOk P w K mg base (L2.CX P w) lv (He.ga K x) fd [a] (spD K 1 [] sp) := by
  obtain ⟨fd, D⟩ := H h ⟨X, G, c⟩
  refine ⟨fd, D.glo, fun s u => D.fun_.bindsA (ps := [a]) hb s [u] rfl, fun base X' G' => ?_⟩
  obtain ⟨fd', D'⟩ := H base ⟨X', G', c⟩
  have e := funD_inj D.fun_ D'.fun_
  subst e
  exact D'.ok
/-! ### the law's end -/
def lawD (ns : List Int) : List Cell := [.val (.fix (ns.map D.int))]
theorem law_sp {K : PySem.W.Frag} {w : DSp} {H : Hp} {a : Addr} {ns : List Int} (hS : SqL K H a (ns.map V.int)) (h : w (lawD ns) (fun c _ => c = .val (.bl true)) (fun _ _ _ => False)) : spD K 1 [] w [.ref a] H (fun v _ => v = .bl true) fun _ _ _ => False := by
  refine ⟨H, fun _ => none, lawD ns, fun _ => 0, _, _, rfl, ⟨rfl, Same.refl H, fun i => ?_, fun i j a h => (by cases h), Same.refl H, fun a o h => .inl h, fun a o h _ => h, fun j hj => (by cases hj), fun a h => h⟩, h, fun c o v F' H' q _ r => ?_, fun _ _ _ _ _ _ _ q _ _ => q⟩
  · match i with
    | 0 => exact ⟨rfl, _, rfl, a, ns.map V.int, rfl, hS, RpL.ints ns⟩
    | i + 1 =>
      show SlotR _ _ _ (([] : En).getD i none) (([] : L2.St).getD i none) _
      simp only [List.getD_nil]
      exact rfl
  · subst q
    exact r
/-- a law's end: what may be let out told at each world, the script's bits told -/
theorem walk_ofM {l : PySem.W.OpenLaw} {n k : Nat} {q : Program} {loose : List Str} {XP : (Str → Option Value) → Heap → Prop} {YP : World → Heap → Prop} {d : DefRec} {CX : World → CXT} {x : Str}
    (hn : l.most = some n) (hn2 : n ≤ sizeLine) (hdf : d.params.defaults = []) (hr : Room k callerA)
    (F : ∀ (w : World) (mg : Str → Option Value) (fa : Addr) (h : Heap), YP w h → h.Ns mainGlobals mg → mg d.name = some (.ref fa) →
      ∃ (K : PySem.W.Frag) (fd : FuncData) (sp : Sp), K.In h ∧ (∀ (s : Shared) (u : Value), BindsTo s fd ⟨[u], []⟩ [(x, u)]) ∧
        (∀ (H : Hp) (a : Addr) (ns : List Int), ns.length ≤ n → (∀ i ∈ ns, Builtin.Int.intBits i ≤ 1048576) → SqL K H a (ns.map V.int) → sp [.ref a] H (fun v _ => v = .bl true) fun _ _ _ => False) ∧
        ∀ base : Heap, K.In base → base.Ns mainGlobals mg → FnOk l.prog w K mg base (CX w) k fa fd [x] sp)
    (hCX : ∀ (w : World) (H : Hp) (s : Shared) (e : Value) (s' : Shared), CX w [] H s (fun _ _ _ => False) e s' → False) :
    PySem.W.WalkO q loose XP YP l.row.toRowW d [] (fun f vs => PySem.call f vs) := by
  refine Att.attach_callB hn hdf fun w s₀ s₁ mg mb fa o pm cd doc a vs ns G Y ho hd hcd hmg hobj hints hlen hbits hg => ?_
  obtain ⟨K, fd, sp, KX, hb, hsp, hF⟩ := F w mg fa _ Y G.T.g hmg
  exact law_call KX G.T.g G.T.b G.T.builtins G.T.nolimit hg hobj hints (Nat.le_trans hlen hn2) hr hF hb (fun H _ hS => hsp H a ns hlen hbits hS) fun H e s' => hCX w H s₁ e s'
end DL
/-! The data layer: membership. -/
namespace DL
open PySem PySem.Spec PyProof.Rows L2
/-- flat data as a value -/
def flatD : D → Option V
  | .non => some .non
  | .bl b => some (.bl b)
  | .int i => some (.int i)
  | .str x => some (.str x)
  | _ => none
def flatsD : List D → Option (List V)
  | [] => some []
  | d :: ds => match flatD d, flatsD ds with
    | some v, some vs => some (v :: vs)
    | _, _ => none
theorem flatD_ok {K : PySem.W.Frag} {F : Hp} : ∀ {d : D} {u v : V}, Rp K F d u → flatD d = some v → u = v ∧ flatV v = true
  | .non, _, _, h, e => by cases (show _ = V.non from h); cases e; exact ⟨rfl, rfl⟩
  | .bl _, _, _, h, e => by cases (show _ = V.bl _ from h); cases e; exact ⟨rfl, rfl⟩
  | .int _, _, _, h, e => by cases (show _ = V.int _ from h); cases e; exact ⟨rfl, rfl⟩
  | .str _, _, _, h, e => by cases (show _ = V.str _ from h); cases e; exact ⟨rfl, rfl⟩
  | .tup _, _, _, _, e => by cases e
  | .lst _, _, _, _, e => by cases e
  | .fix _, _, _, _, e => by cases e
  | .dic _ _, _, _, _, e => by cases e
  | .obj _ _ _, _, _, _, e => by cases e
  | .adr _, _, _, _, e => by cases e
  | .rng _ _, _, _, _, e => by cases e
  | .ty _, _, _, _, e => by cases e
theorem flatV_ok {K : PySem.W.Frag} {F H : Hp} : ∀ {d : D} {u v : V}, RpV K F H d u → flatD d = some v → u = v ∧ flatV v = true
  | .non, _, _, h, e => flatD_ok (F := F) (K := K) (d := .non) h e
  | .bl _, _, _, h, e => flatD_ok (F := F) (K := K) (d := .bl _) h e
  | .int _, _, _, h, e => flatD_ok (F := F) (K := K) (d := .int _) h e
  | .str _, _, _, h, e => flatD_ok (F := F) (K := K) (d := .str _) h e
  | .tup _, _, _, _, e => by cases e
  | .lst _, _, _, _, e => by cases e
  | .fix _, _, _, _, e => by cases e
  | .dic _ _, _, _, _, e => by cases e
  | .obj _ _ _, _, _, _, e => by cases e
  | .adr _, _, _, _, e => by cases e
  | .rng _ _, _, _, _, e => by cases e
  | .ty _, _, _, _, e => by cases e
theorem flatsD_ok {K : PySem.W.Frag} {F : Hp} : ∀ {ds : List D} {us vs : List V}, RpL K F ds us → flatsD ds = some vs → us = vs ∧ vs.all flatV = true
  | [], us, vs, h, e => by
    cases (show us = [] from h)
    cases e
    exact ⟨rfl, rfl⟩
  | d :: ds, us, vs, ⟨u, r, eu, h1, h2⟩, e => by
    subst eu
    have e' : (match flatD d, flatsD ds with | some v, some vs => some (v :: vs) | _, _ => none) = some vs := e
    split at e'
    · rename_i v ws e1 e2
      cases e'
      obtain ⟨rfl, q1⟩ := flatD_ok h1 e1
      obtain ⟨rfl, q2⟩ := flatsD_ok h2 e2
      exact ⟨rfl, by rw [List.all_cons, q1, q2]; rfl⟩
    · cases e'
/-- x in y: y a tuple of flat data; a list of whatever may be compared -/
def fInN (neg : Bool) : DOp2
  | x, .tup ds => match flatD x, flatsD ds with
    | some v, some vs => some (.val (.bl (if neg then !inV v vs else inV v vs)))
    | _, _ => none
  | x, .lst ds => if eqOk x = true ∧ eqOk (.lst ds) = true then some (.val (.bl (if neg then !((toPyL ds).any fun z => PyData.eqv z (toPy x)) else ((toPyL ds).any fun z => PyData.eqv z (toPy x))))) else none
  | _, _ => none
abbrev fIn : DOp2 := fInN false
abbrev fNin : DOp2 := fInN true
def rInA (K : PySem.W.Frag) : R2 := fun x y H Q => rIn K false x y H Q ∨ rInD K x y H Q
def rNinA (K : PySem.W.Frag) : R2 := fun x y H Q => rIn K true x y H Q ∨ rNotInD K x y H Q
theorem units65 {k : Nat} {A : Around} (r : Room k A) : A.units + 65 < cLine := by
  have := r.un
  omega
theorem op_inA {X : Cx} (hu : X.A.units + 65 < cLine) : OpR X (compareOp .In) (rInA X.K) := OpR.or op_in_seq (op_inD hu)
theorem op_ninA {X : Cx} (hu : X.A.units + 65 < cLine) : OpR X (compareOp .NotIn) (rNinA X.K) := OpR.or op_notIn_seq (op_notInD hu)
theorem inN_tup {K : PySem.W.Frag} {F H : Hp} {x : D} {ds : List D} {v1 v2 : V} {neg : Bool} {c : Cell} {Q : VK} (sb : Same F H) (h1 : RpV K F H x v1) (h2 : RpV K F H (.tup ds) v2) (e : fInN neg x (.tup ds) = some c)
    (q : ∀ v F' H', Grow F H F' H' → Same F' H' → NewR K H c v F' H' → Q v H') : rIn K neg v1 v2 H Q := by
  have e' : (match flatD x, flatsD ds with | some v, some vs => some (Cell.val (.bl (if neg then !inV v vs else inV v vs))) | _, _ => none) = some c := by cases x <;> exact e
  split at e'
  · rename_i v vs a1 a2
    cases e'
    obtain ⟨a, us, rfl, q1, r1⟩ := RpV.tup_ sb h2
    obtain ⟨rfl, f1⟩ := flatV_ok h1 a1
    obtain ⟨rfl, f2⟩ := flatsD_ok r1 a2
    exact ⟨a, _, rfl, .inr q1, f1, f2, fin_val sb q rfl⟩
  · cases e'
theorem fIn_ok {K : PySem.W.Frag} : Op2 K (rInA K) fIn := by
  intro F H d1 d2 v1 v2 c Q sb h1 h2 e q
  cases d2 <;> first | (cases d1 <;> cases e; done) | skip
  · exact .inl (inN_tup sb h1 h2 e q)
  · rename_i ds
    have e' : (if eqOk d1 = true ∧ eqOk (.lst ds) = true then some (Cell.val (.bl ((toPyL ds).any fun z => PyData.eqv z (toPy d1)))) else none) = some c := by cases d1 <;> exact e
    split at e'
    · rename_i hc
      cases e'
      exact .inr ⟨toPy d1, toPyL ds, RpV.dp sb (shaped_ hc.1) h1, RpV.dp (d := .lst ds) sb (shaped_ hc.2) h2, hc.1, hc.2, fin_val sb q rfl⟩
    · cases e'
theorem fNin_ok {K : PySem.W.Frag} : Op2 K (rNinA K) fNin := by
  intro F H d1 d2 v1 v2 c Q sb h1 h2 e q
  cases d2 <;> first | (cases d1 <;> cases e; done) | skip
  · exact .inl (inN_tup sb h1 h2 e q)
  · rename_i ds
    have e' : (if eqOk d1 = true ∧ eqOk (.lst ds) = true then some (Cell.val (.bl (!((toPyL ds).any fun z => PyData.eqv z (toPy d1))))) else none) = some c := by cases d1 <;> exact e
    split at e'
    · rename_i hc
      cases e'
      exact .inr ⟨toPy d1, toPyL ds, RpV.dp sb (shaped_ hc.1) h1, RpV.dp (d := .lst ds) sb (shaped_ hc.2) h2, hc.1, hc.2, fin_val sb q rfl⟩
    · cases e'
end DL
/-! The data layer: dict displays of constants, str of an int. -/
namespace DL
open PySem PySem.Spec PyProof.Rows L2
section
variable {X : Cx} {B : Bd} {W : WX} {pos p1 p2 : Pos}
theorem de_dic0 : PE X (.Dict [] [] pos) (rV B W (mK (.dic [] []))) := by
  refine pe_imp pe_dnewK fun σ H Q ⟨F, L, ρ, Qd, Ed, S, ht, hq, hx⟩ p hp => ?_
  obtain ⟨g, s⟩ := grow_upd (o := .dK []) S.sub hp
  exact hq (.dic [] []) ρ _ _ L _ ht (S.grow g s) g.stp ⟨p, [], rfl, upd_same, rfl, rfl⟩
theorem de_dic1 {k : Str} {i : Int} {j1 j2 : Nat} : PE X (.Dict [some (.Constant (.str k) j1 p1)] [.Constant (.int i) j2 p2] pos) (rV B W (mK (.dic [.inr k] [.int i]))) := by
  refine pe_imp (pe_disp (pps_cons pe_str pe_int pps_nil) rfl rfl (by simp) (Nat.le_of_ble_eq_true rfl)) fun σ H Q ⟨F, L, ρ, Qd, Ed, S, ht, hq, hx⟩ p hp => ?_
  refine ⟨upd_same, [(.inr k, .int i)], rfl, Nat.le_of_ble_eq_true rfl, ?_⟩
  have e : upd (upd H p (.dK [])) p (.dK (mergeK [] [(.inr k, .int i)])) = upd H p (.dK [(.inr k, .int i)]) := by
    funext b
    unfold upd
    split <;> rfl
  rw [e]
  obtain ⟨g, s⟩ := grow_upd (o := .dK [(.inr k, .int i)]) S.sub hp
  exact hq (.dic [.inr k] [.int i]) ρ _ _ L _ ht (S.grow g s) g.stp ⟨p, [.int i], rfl, upd_same, rfl, _, _, rfl, rfl, rfl⟩
end
/-! ### a display under a name -/
section
variable {X : Cx} {B : Bd} {W : WX} {e : Expr}
theorem de_eq {t u : DE} (h : u = t) (k : PE X e (rV B W t)) : PE X e (rV B W u) := by rw [h]; exact k
theorem dc_eq {t u : DC} (h : u = t) (k : PE X e (rC B W t)) : PE X e (rC B W u) := by rw [h]; exact k
end
/-! ### str -/
def gStr : D → Option Cell
  | .int i => if i.natAbs.log2 < 1920 then some (.val (.str (toString i))) else none
  | .str x => some (.val (.str x))
  | _ => none
abbrev fStr : DOpN := n1 gStr
def rStr : List V → Hp → VK → Prop := fun xs H Q => (∃ i : Int, xs = [.int i] ∧ i.natAbs.log2 < 1920 ∧ Q (.str (toString i)) H) ∨ ∃ a, xs = [.str a] ∧ Q (.str a) H
theorem fStr_ok {K : PySem.W.Frag} : OpN K rStr fStr := by
  refine n1_ok fun F H d v c Q sb h e q => ?_
  cases d <;> first | (cases e; done) | skip
  · rename_i i
    cases (show v = V.int i from h)
    simp only [gStr] at e
    split at e
    · cases e
      exact .inl ⟨i, rfl, by assumption, fin_val sb q rfl⟩
    · cases e
  · rename_i x
    cases (show v = V.str x from h)
    cases e
    exact .inr ⟨x, rfl, fin_val sb q rfl⟩
theorem call_str {X : Cx} : CallR X (.type "str") rStr := call_str_int.or SkE.call_str_str
end DL
/-! The data layer: t[::-1]. -/
namespace HT
open PySem PySem.Spec PySem.W PySem.Calls PyProof.Rows
theorem adjust_rev (n : Nat) : Builtin.Slice.sliceAdjust none none (-1) (n : Int) = ((n : Int) - 1, -1) := by
  unfold Builtin.Slice.sliceAdjust
  simp
theorem places_rev (n : Nat) : Builtin.Slice.slicePlaces ((n : Int) - 1) (-1) (-1) = n := by
  unfold Builtin.Slice.slicePlaces
  have h1 : ¬ ((-1 : Int) > 0) := by omega
  simp only [h1, if_false]
  rw [show (- -1 : Int) = 1 by decide, Int.ediv_one]
  split <;> omega
theorem pick_rev (xs : Array Value) : ((List.range xs.size).filterMap fun (m : Nat) => xs[((((xs.size : Nat) : Int) - 1) + (m : Int) * (-1)).toNat]?).toArray = xs.toList.reverse.toArray := by
  have e : (List.range xs.size).filterMap (fun (m : Nat) => xs[((((xs.size : Nat) : Int) - 1) + (m : Int) * (-1)).toNat]?) = ((List.range xs.size).map fun m => xs.size - 1 - m).filterMap (xs[·]?) := by
    rw [List.filterMap_map]
    refine congrFun (congrArg _ (funext fun m => ?_)) _
    show xs[((((xs.size : Nat) : Int) - 1) + (m : Int) * (-1)).toNat]? = xs[xs.size - 1 - m]?
    by_cases h : 0 < xs.size
    · congr 1
      omega
    · have h0 : xs.size = 0 := by omega
      rw [Array.getElem?_eq_none (by omega), Array.getElem?_eq_none (by omega)]
  rw [e]
  have e2 : (List.range xs.size).map (fun m => xs.size - 1 - m) = (List.range xs.size).reverse := by
    apply List.ext_getElem
    · simp
    · intro i h1 h2
      simp
  rw [e2, List.filterMap_reverse]
  have e3 : (List.range xs.size).filterMap (xs[·]?) = xs.toList := by
    apply List.ext_getElem?
    intro i
    have := pick_run xs 0 xs.size
    have e4 : (List.range xs.size).map (0 + ·) = List.range xs.size := by
      rw [show ((0 + ·) : Nat → Nat) = id from funext fun k => Nat.zero_add k, List.map_id]
    rw [e4, List.drop_zero, List.take_of_length_le (by rw [Array.length_toList]; exact Nat.le_refl _)] at this
    rw [this]
  rw [e3]
section
variable {prog : Program} {w : World} {A : Around} {E : Value → Shared → Prop} {s : Shared}
theorem sliceApplied_rev {sl : Addr} {n : Nat} {u : Tok} {Q : Int × Int × Nat → Shared → Prop} (hs : s.heap.IsSliceOf sl .none .none (.int (-1) u))
    (h : Q ((n : Int) - 1, -1, n) s) : wpAny (model prog w) A (Builtin.Slice.sliceApplied (.ref sl) (pure (n : Int))) Q E s := by
  obtain ⟨os, hos, hcs, hds⟩ := id hs
  unfold Builtin.Slice.sliceApplied Builtin.Slice.sliceFields
  refine wpAny_bind (wpAny_bind (wpAny_field hos hds (x := .none) rfl (wpAny_bind (wpAny_field hos hds (x := .none) rfl (wpAny_bind (wpAny_field hos hds (x := .int (-1) u) rfl (wpAny_pure ?_)))))))
  refine wpAny_bind (slicePart_int ?_)
  show wpAny _ _ (if ((-1 : Int) == 0) = true then _ else _) _ _ s
  rw [if_neg (by decide)]
  refine wpAny_bind (slicePart_none (wpAny_bind (slicePart_none (wpAny_bind (wpAny_pure ?_)))))
  show wpAny _ _ (match Builtin.Slice.sliceAdjust none none (-1) (n : Int) with | (lo, hi) => pure (lo, (-1 : Int), Builtin.Slice.slicePlaces lo hi (-1))) _ _ s
  rw [adjust_rev n]
  show wpAny _ _ (pure ((n : Int) - 1, (-1 : Int), Builtin.Slice.slicePlaces ((n : Int) - 1) (-1) (-1))) _ _ s
  rw [places_rev]
  exact wpAny_pure h
theorem getItem_tuple_rev {t sl : Addr} {items : Array Value} {u : Tok} {Q : Value → Shared → Prop} (ht : IsTup s.heap t items) (hs : s.heap.IsSliceOf sl .none .none (.int (-1) u))
    (h : Q (.ref s.heap.objs.size) { s with heap := s.heap.push { cls := .type "tuple", data := .seq items.toList.reverse.toArray } })
    (hsz : items.size ≤ sizeLine) : wpAny (model prog w) A (getItem (.ref t) (.ref sl)) Q E s := by
  have htake : sizeOk (.seq items.toList.reverse.toArray) := by
    show items.toList.reverse.toArray.size ≤ sizeLine
    rw [List.size_toArray, List.length_reverse, Array.length_toList]
    exact hsz
  obtain ⟨os, hos, hcs, hds⟩ := id hs
  have hTs : s.TypeIs (.ref sl) "slice" := ⟨os, hos, hcs⟩
  unfold getItem
  try with_reducible refine wpAny_holding ?_
  first | refine wpAny_bind (wpAny_pure ?_) | skip
  refine wpAny_bind (wpAny_sequenceKey ht.typeIs (by decide) ?_)
  refine wpAny_bind (wpAny_callSpecial?_slot (name := Str.ofString "__getitem__") ht.typeIs PyProof.Rows.slot_tuple_getitem
    (wpAny_call_entry PyProof.Rows.slot_tuple_getitem ht.typeIs entry_tuple_getitem ?_ (args_tuple_getitem _ _)))
  show wpAny _ _ (Builtin.Tuple.tupleItemsOf (.ref t) >>= _) _ _ s
  refine wpAny_bind (tupleItemsOf_ ht ?_)
  refine wpAny_bind (wpAny_typeOf hTs ?_)
  rw [if_pos (by decide)]
  refine wpAny_bind (sliceApplied_rev hs ?_)
  have hno : ¬ (((((items.size : Nat) : Int) - 1 == 0 && (-1 : Int) == 1 && items.size == items.size)) = true) := by
    intro q
    rw [Bool.and_eq_true, Bool.and_eq_true] at q
    exact absurd q.1.2 (by decide)
  show wpAny _ _ (if (((items.size : Nat) : Int) - 1 == 0 && (-1 : Int) == 1 && items.size == items.size) = true then _ else _) _ _ s
  rw [if_neg hno, pick_rev]
  first
    | exact wpAny_bind (m := Builtin.Tuple.tupleExact _) (wpAny_newObj_type (wpAny_pure ⟨_, rfl, wpAny_pure h⟩) htake)
    | exact wpAny_bind (m := Builtin.Tuple.tupleExact _) (wpAny_newObj_type (wpAny_bind (wpAny_pure (wpAny_pure ⟨_, rfl, wpAny_pure h⟩))) htake)
    | exact wpAny_bind (wpAny_bind (m := Builtin.Tuple.tupleExact _) (wpAny_newObj_type (wpAny_pure (wpAny_pure ⟨_, rfl, wpAny_pure h⟩)) htake))
    | exact wpAny_bind (wpAny_bind (m := Builtin.Tuple.tupleExact _) (wpAny_newObj_type (wpAny_pure ⟨_, rfl, wpAny_pure h⟩) htake))
end
end HT
namespace DL
open PySem PySem.Spec PyProof.Rows L2
def tRevT (K : PySem.W.Frag) (te : TE) : TE := fun σ H Q => te σ H fun x H1 => ∃ a xs, x = .ref a ∧ SqT K H1 a xs ∧ ∀ p, H1 p = none → Q (.ref p) (upd H1 p (.tup xs.reverse))
section
variable {X : Cx} {B : Bd} {W : WX} {e : Expr} {te : TE} {p1 p2 p3 pos : Pos} {j : Nat}
theorem pe_rev (he : PE X e te) : PE X (.Subscript e (.Slice none none (some (.UnaryOp .USub (.Constant (.int 1) j p1) p2)) p3) pos) (tRevT X.K te) := by
  refine ⟨fun pins s σ H Q I h => ?_⟩
  refine Subscript_ (thn (he.run pins s σ H _ I h) fun v s1 ⟨x, H1, I1, r1, q1⟩ => ?_)
  obtain ⟨a, xs, ex, hx, q⟩ := q1
  subst ex
  cases r1
  have hst : PO X (some (.UnaryOp .USub (.Constant (.int 1) j p1) p2)) (tPart (tUn (rU fun i => .int (-i)) (tC (.int 1)))) := po_some (pe_un un_neg pe_int)
  refine wpAny_Slice (thn (po_none.run pins s1 σ H1 (fun o H2 => o = none ∧ H2 = H1) I1 ⟨rfl, rfl⟩) fun vl s2 ⟨l, H2, I2, pl, el, e2⟩ => ?_)
  subst el e2
  refine thn (po_none.run pins s2 σ H2 (fun o H3 => o = none ∧ H3 = H2) I2 ⟨rfl, rfl⟩) fun vu s3 ⟨u, H3, I3, pu, eu, e3⟩ => ?_
  subst eu e3
  refine thn (hst.run pins s3 σ H3 (fun o H4 => o = some (-1) ∧ H4 = H3) I3 ⟨1, rfl, -1, rfl, rfl, rfl⟩) fun vs s4 ⟨o, H4, I4, ps, eo, e4⟩ => ?_
  subst eo e4
  cases pl
  cases pu
  obtain ⟨tk, rfl⟩ : ∃ tk, vs = Value.int (-1) tk := by
    cases ps
    exact ⟨_, rfl⟩
  have I5 : Inv X pins σ H4 { s4 with heap := s4.heap.push { cls := .type "slice", data := .fields #[.none, .none, .int (-1) tk] } } := I4.kept (t' := s4.toks) fun b ob q => Heap.get?_push_of_some _ q
  obtain ⟨its, r, ht, hz⟩ := I5.tuple hx
  have hlen := r.length
  show wpAny (model X.prog X.w) X.A (subscriptTail e (.Slice none none (some (.UnaryOp .USub (.Constant (.int 1) j p1) p2)) p3) (.ref a) (.ref s4.heap.objs.size)) (EP X pins σ Q) X.xe { s4 with heap := s4.heap.push { cls := .type "slice", data := .fields #[.none, .none, .int (-1) tk] } }
  refine tail_any (ops := [.ref a, .ref s4.heap.objs.size]) ht.typeIs (PyProof.Rows.slot_tuple_getitem.lookup) ?_ (by with_unfolding_all rfl)
  refine HT.getItem_tuple_rev ht (Heap.IsSliceOf.new _ .none .none (.int (-1) tk)) ?_ (by rw [List.size_toArray]; omega)
  refine ⟨.ref _, _, I5.laid (t' := s4.toks) (o := .tup xs.reverse) (fun b ob q => Heap.get?_push_of_some _ q) (Nat.le_refl _) ?_, rfl, q _ (I5.hok.fresh (Nat.le_refl _))⟩
  exact ⟨by rw [List.length_reverse]; exact hz, _, r.reverse, IsTup.new _ _⟩
/-! in data -/
theorem rpl_rev {K : PySem.W.Frag} {F : Hp} : ∀ {ds : List D} {vs : List V}, RpL K F ds vs → RpL K F ds.reverse vs.reverse
  | [], _, h => by
    have e : _ = [] := h
    subst e
    rfl
  | d :: ds, _, h => by
    obtain ⟨v, r, rfl, h1, h2⟩ := h
    rw [List.reverse_cons, List.reverse_cons]
    exact (rpl_rev h2).append ⟨v, [], rfl, h1, rfl⟩
def mRev (t : DE) : DE := fun ρ Q E => t ρ (fun d ρ1 => match d with
  | .tup xs => Q (.tup xs.reverse) ρ1
  | _ => False) E
theorem de_rev {t : DE} (he : PE X e (rV B W t)) (hK : B.K = X.K := by rfl) : PE X (.Subscript e (.Slice none none (some (.UnaryOp .USub (.Constant (.int 1) j p1) p2)) p3) pos) (rV B W (mRev t)) := by
  refine pe_imp (pe_rev he) fun σ H Q ⟨F, L, ρ, Qd, Ed, S, ht, hq, hx⟩ => ⟨F, L, ρ, _, Ed, S, ht, fun d ρ' v F' L' H' k S' s r => ?_, hx⟩
  cases d <;> first | (exact False.elim k) | skip
  rename_i ds
  obtain ⟨a, vs, ev, hv, hr⟩ := r
  refine ⟨a, vs, ev, by rw [← hK]; exact Same.tseq S'.sub hv, fun p hp => ?_⟩
  obtain ⟨g, sm⟩ := grow_upd (o := .tup vs.reverse) S'.sub hp
  exact hq (.tup ds.reverse) ρ' _ _ L' _ k (S'.grow g sm) (s.trans g.stp) ⟨p, _, rfl, SqT.of upd_same, (rpl_rev hr).mono g.f⟩
end
end DL
/-! The data layer: any(..) of a tuple of whole numbers. -/
namespace DL
open PySem PySem.Spec PyProof.Rows L2
theorem truth_ints {prog : Program} {w : World} {A : Around} {ns : List Int} {its : List Value} (e : IntsAre its ns) :
    TruthOf prog w A (fun i v => its.toArray[i]? = some v) (fun i => (ns.map fun x => x != 0).getD i false) := fun i v s Q E hv hq => by
  have hv' : its[i]? = some v := by simpa using hv
  obtain ⟨n, t, rfl, hn⟩ : ∃ n t, v = Value.int n t ∧ ns[i]? = some n := by
    clear hq hv
    induction e generalizing i with
    | nil => simp at hv'
    | cons n t _ ih =>
      cases i with
      | zero =>
        simp at hv'
        exact ⟨_, _, hv'.symm, rfl⟩
      | succ i => exact ih _ (by simpa using hv')
  have hg : (ns.map fun x => x != 0).getD i false = (n != 0) := by
    rw [List.getD_eq_getElem?_getD, List.getElem?_map, hn]
    rfl
  have hq' : Q ((ns.map fun x => x != 0).getD i false) s := hq
  rw [hg] at hq'
  exact PyProof.Rows.truthy_int hq'
def rAnyT (K : PySem.W.Frag) : List V → Hp → VK → Prop := fun vs H Q => ∃ (a : Addr) (ns : List Int), vs = [V.ref a] ∧ SqT K H a (ns.map V.int) ∧ Q (.bl (ns.any fun x => x != 0)) H
theorem cr_anyT {X : Cx} (hc : X.calm = true) : CallR X (.builtin "any") (rAnyT X.K) := by
  intro pins s σ H vs us Q I r h
  obtain ⟨a, ns, rfl, hs, q⟩ := h
  obtain ⟨its, rv, ht, _⟩ := I.tuple hs
  rw [Vals.ref1 r]
  have hi := intsAre_of rv
  have hl : s.heap.IsTuple a its.toArray := ht
  have hlt : a < s.heap.objs.size := by obtain ⟨_, e, _⟩ := hl; exact Heap.lt_size e
  refine call_any_walk (wpAny_pyIter_tuple hl ?_)
  refine ⟨_, _, _, _, _, _, _, rfl, Walks.tuple (A := X.A.in1) (I.ok.hd hc) _ a (Nat.ne_of_lt hlt) its.toArray, ⟨⟨_, Heap.get?_push_size _ rfl, rfl, rfl⟩, hl.push _⟩, truth_ints hi, fun h' tk hk => ?_⟩
  refine ⟨.bl _, H, I.kept fun b o eo => hk b o (fun hmem => ?_) (Heap.get?_push_of_some _ eo), ?_, q⟩
  · rcases List.mem_cons.mp hmem with e1 | hmem
    · exact absurd (e1 ▸ Heap.lt_size eo) (Nat.lt_irrefl _)
    · cases hmem
  · show Value.bool _ = Value.bool _
    have e1 : its.toArray.size = (ns.map fun x => x != 0).length := by
      rw [List.size_toArray, List.length_map]
      have := rv.length
      rw [List.length_map] at this
      omega
    rw [e1, L2.any_range, List.any_map]
    rfl
def gAnyI : D → Option Cell
  | .tup ds => (numsD ds).map fun ns => .val (.bl (ns.any fun x => x != 0))
  | _ => none
abbrev fAnyI : DOpN := n1 gAnyI
theorem fAnyI_ok {K : PySem.W.Frag} : OpN K (rAnyT K) fAnyI := by
  refine n1_ok fun F H d v c Q sb h e q => ?_
  cases d <;> first | (cases e; done) | skip
  rename_i ds
  obtain ⟨a, vs, ev, hq, hr⟩ := RpV.tup_ sb h
  have e2 : (numsD ds).map (fun ns => Cell.val (.bl (ns.any fun x => x != 0))) = some c := e
  cases en : numsD ds with
  | none => rw [en] at e2; cases e2
  | some ns =>
    rw [en] at e2
    cases e2
    have := ints_eq en
    subst this
    have e3 := hr.to_ints
    subst e3
    exact ⟨a, ns, by rw [ev], hq, fin_val sb q rfl⟩
end DL
/-! Several except clauses, with and without a name (the steps of the library's two theorems of one kind each, joined). -/
namespace L2
open PySem PySem.Spec PyProof.Rows
abbrev ClT := Addr → Value → Option Addr → TS
/-- the ends behind a clause whose name is gone -/
def goneD (D : Ends) (i : Nat) : Ends where
  nx := fun τ G => D.nx (τ.set i none) G
  rt := D.rt
  bk := fun τ G => D.bk (τ.set i none) G
  ct := fun τ G => D.ct (τ.set i none) G
/-- what a clause's suite is told -/
def hA : Option Nat → TS → Addr → Ends → St → Hp → Prop
  | none, t, _, D, τ, G => t D τ G
  | some i, t, x, D, τ, G => t (goneD D i) (τ.set i (some (.ref x))) G
/-- what the clauses wish of an exception, one behind the other -/
def wA (K : PySem.W.Frag) (W0 : WX) (D : Ends) : List (Value × Option Nat × ClT) → WX
  | [] => W0
  | (c, oi, t) :: rest => fun k dd τ G => ∃ yes, PySem.W.exmOne K k c = some yes ∧ (yes = true → ∀ x, G x = none → hA oi (t x k dd) x D τ G) ∧ (yes = false → wA K W0 D rest k dd τ G)
/-- a suite's proof, for each exception that may come -/
def SuiteOk (X : Cx) (sts : List Stmt) (t : ClT) : Prop :=
  ∀ (x : Addr) (ob : Obj) (k : Value) (dd : Option Addr) (more : List (Addr × Obj)), Zc k dd ob → (∃ fv, ob.data = .fields fv) → PSs (X.suite x ((x, ob) :: more)) sts (t x k dd)
inductive HdsA (X : Cx) : List ExceptHandler → List (Value × Option Nat × ClT) → Prop
  | nil : HdsA X [] []
  | only {y : Str} {c : Value} {t : ClT} {st : Stmt} {sts : List Stmt} {q1 q2 : Pos} {hs : List ExceptHandler} {cl : List (Value × Option Nat × ClT)} (hc : Names X y c) (ok : SuiteOk X (st :: sts) t) (rest : HdsA X hs cl) :
      HdsA X (.ExceptHandler (some (.Name y q1)) none (st :: sts) q2 :: hs) ((c, none, t) :: cl)
  | named {y z : Str} {c : Value} {i : Nat} {t : ClT} {st : Stmt} {sts : List Stmt} {q1 q2 : Pos} {hs : List ExceptHandler} {cl : List (Value × Option Nat × ClT)} (hc : Names X y c) (hi : X.N[i]? = some z) (hz : X.env.kindOf z = some .local) (ok : SuiteOk X (st :: sts) t) (rest : HdsA X hs cl) :
      HdsA X (.ExceptHandler (some (.Name y q1)) (some z) (st :: sts) q2 :: hs) ((c, some i, t) :: cl)
section
variable {X : Cx} {bd : List Stmt} {h0 : ExceptHandler} {hs : List ExceptHandler} {cl : List (Value × Option Nat × ClT)} {pos : Pos} {tb : WX → TS} {W0 : WX}
/-- a flow out of a context of the same slots -/
theorem sp_map {Y : Cx} {p1 p2 : List (Addr × Obj)} {D : Ends} {s : Shared} (m : ∀ τ G, Inv Y p1 τ G s → Inv X p2 τ G s) : ∀ {f : Flow}, SP Y p1 D f s → SP X p2 D f s
  | .next, ⟨τ, G, J, q⟩ => ⟨τ, G, m τ G J, q⟩
  | .brk, ⟨τ, G, J, q⟩ => ⟨τ, G, m τ G J, q⟩
  | .cont, ⟨τ, G, J, q⟩ => ⟨τ, G, m τ G J, q⟩
  | .ret _, ⟨u, τ, G, J, r, q⟩ => ⟨u, τ, G, m τ G J, r, q⟩
/-- the same, out of a clause with a name -/
theorem sp_gone {Y : Cx} {p1 p2 : List (Addr × Obj)} {D : Ends} {i : Nat} {s : Shared} {z : Str} {q2 : Pos} (m : ∀ τ G, Inv Y p1 τ G s → Inv X p2 τ G s) (hN : X.N.Nodup) (hi : X.N[i]? = some z) (hz : X.env.kindOf z = some .local) :
    ∀ {f : Flow}, SP Y p1 (goneD D i) f s → wpAny (model X.prog X.w) X.A (do bindName X.env z .none; unbindBehindTheSuite X.env z q2) (fun _ s2 => SP X p2 D f s2) X.xe s
  | .next, ⟨τ, G, J, q⟩ => gone_ok (m τ G J) hN hi hz fun _ J2 => ⟨_, G, J2, q⟩
  | .brk, ⟨τ, G, J, q⟩ => gone_ok (m τ G J) hN hi hz fun _ J2 => ⟨_, G, J2, q⟩
  | .cont, ⟨τ, G, J, q⟩ => gone_ok (m τ G J) hN hi hz fun _ J2 => ⟨_, G, J2, q⟩
  | .ret _, ⟨u, τ, G, J, r, q⟩ => gone_ok (m τ G J) hN hi hz fun _ J2 => ⟨u, _, G, J2, r, q⟩
theorem ps_try_manyA (e1 : X.stack = X.env :: X.outer) (e2 : X.env.frame = some X.env.locals) (hN : X.N.Nodup) (tk : Takes X W0)
    (hb : ∀ (W : WX) (more : List (Addr × Obj)) (xe : Value → Shared → Prop), Takes (X.tr more xe) W → PassesOwn (model X.prog X.w) X.A X.env xe → PSs (X.tr more xe) bd (tb W))
    (hh : HdsA X (h0 :: hs) cl) : PS X (.Try bd (h0 :: hs) [] [] pos) (fun D τ G => tb (wA X.K W0 D cl) D τ G) := by
  constructor
  intro K0 s τ G D I given
  have ok := I.ok
  have frs0 : X.A.frames = some (X.env :: X.outer) := ok.frames.trans (congrArg some e1)
  let XE : Value → Shared → Prop := fun v u1 => wpAny (model X.prog X.w) X.A (noteFrame v X.env) (fun _ u2 => wpAny (model X.prog X.w) X.A (setFlight v none) (fun _ u3 =>
    wpAny (model X.prog X.w) X.A (handleBy v X.env (h0 :: hs)) (SP X K0 D) X.xe u3) X.xe u2) X.xe u1
  have hcat : Takes (X.tr (X.pn ++ K0) XE) (wA X.K W0 D cl) := by
    intro v s' caught
    obtain ⟨x, Bx, sx, K1, τ1, G1, k, dd, rfl, J0, nb, up, sky, gx, os, ag, wish⟩ := caught
    have J : Inv X K0 τ1 G1 sx := J0.ofTry ok
    show wpAny (model X.prog X.w) X.A (noteFrame (.ref x) X.env) _ _ _
    refine Sky.land Zc.steady frs0 e2 (e1 ▸ sky) fun hp fl upp => ?_
    have there : ∀ {hq : Heap} {ob : Obj} {fv : Array Value}, hq.FunFrames Bx (X.env :: X.outer) → hq.get? x = some ob → ob.data = .fields fv → x ∉ frs (X.env :: X.outer) := by
      intro hq ob fv ff g1 g2 mm
      obtain ⟨_, ob', g3, no⟩ := ff.mem mm
      cases g1.symm.trans g3
      exact no _ g2
    obtain ⟨ob, fv, gob, zob, dob⟩ := fl.there
    have out := there fl.2.2.1 gob dob
    have x1 : x ≠ X.env.locals := fun q => out (List.mem_filterMap.mpr ⟨X.env, List.mem_cons_self, by rw [e2, q]⟩)
    have x2 : x ∉ X.fs := by
      intro mm
      obtain ⟨en, m1, m2⟩ := List.mem_filterMap.mp mm
      exact out (List.mem_filterMap.mpr ⟨en, List.mem_cons_of_mem _ m1, m2⟩)
    have JL : Inv X K0 τ1 G1 { s' with heap := hp } := J.landed nb fl.1 (up.trans upp) os ag
    have JS := JL.suite gob dob gx x1 x2
    have seen : PySem.W.Looks (model X.prog X.w) hp (typeOf (.ref x)) k := fun _ _ _ _ kp q => wpAny_typeOf_ref (kp _ _ gob) (by rw [zob.1]; exact q)
    have named : ∀ {y : Str} {c : Value} {q1 : Pos} {Q E : Value → Shared → Prop}, Names X y c → Q c { s' with heap := hp } →
        wpAny (model X.prog X.w) (X.A.mark (some (.ref x))) (eval (.Name y q1) X.env) Q E { s' with heap := hp } := by
      rintro y c q1 Q E ⟨n1, n2, n3 | ⟨n3, n4, n5⟩⟩ q
      · exact ld_glob (X := X.suite x ((x, ob) :: (X.pn ++ K0))) JS n1 n3 q n2
      · exact ld_blt (X := X.suite x ((x, ob) :: (X.pn ++ K0))) JS n1 n3 n4 q n5 n2
    have walk : ∀ {hl : List ExceptHandler} {ll : List (Value × Option Nat × ClT)}, HdsA X hl ll → wA X.K W0 D ll k dd τ1 G1 →
        wpAny (model X.prog X.w) X.A (handleBy (.ref x) X.env hl) (SP X K0 D) X.xe { s' with heap := hp } := by
      intro hl ll hk
      induction hk with
      | nil =>
        intro w
        refine wpAny_handleBy_nil ?_
        have fl0 := fl
        obtain ⟨_, _, _, _, _, T, _, _, g1, _, g2, g3, _⟩ := fl0
        unfold PySem.passOn
        refine wpAny_bind (wpAny_field g1 g2 g3 ?_)
        rw [if_neg (by simp : ¬ ((Value.ref T == Value.none) = true))]
        have on : wpAny (model X.prog X.w) X.A (setFlight (.ref x) X.env.frame) (fun _ u => wpAny (model X.prog X.w) X.A (throw (.ref x) : Sem Flow) (SP X K0 D) X.xe u) X.xe { s' with heap := hp } := by
          rw [e2]
          refine HandSPX.setFlight_upZ fl fun h4 sky4 up4 => wpAny_throw (tk _ _ ?_)
          exact ⟨x, Bx, sx, K0, τ1, G1, k, dd, rfl, J, nb, (up.trans upp).trans up4, .inr (.inr (e1.symm ▸ sky4)), gx, os, ag, w⟩
        first
          | exact wpAny_bind (wpAny_pure (wpAny_bind on))
          | exact wpAny_bind on
      | only hc sok rest ih =>
        intro w
        obtain ⟨yes, w1, w2, w3⟩ := w
        refine wpAny_handleBy_cons (codeAny_handlers_test ?_) (fun q => by cases q)
        refine named hc ((PySem.W.exm_one (M := model X.prog X.w) JL.kIn seen w1).here ?_)
        cases yes with
        | false => exact ih (w3 rfl)
        | true =>
          refine codeAny_handlers_suite (HandSPX.lands_againZ fl fun h4 fl4 up4 => ?_)
          obtain ⟨ob4, fv4, g4, z4, d4⟩ := fl4.there
          have JM : Inv X K0 τ1 G1 { s' with heap := h4 } := J.landed nb fl4.1 ((up.trans upp).trans up4) os ag
          have J4 := JM.suite g4 d4 gx x1 x2
          exact wpAny_mono ((sok x ob4 k dd (X.pn ++ K0) z4 ⟨_, d4⟩).run [] _ _ G1 _ J4 (w2 rfl x gx)) (fun _ _ q => sp_map (fun _ _ J5 => J5.unsuite ok) q) fun _ _ q => q.elim
      | named hc hi hz sok rest ih =>
        intro w
        obtain ⟨yes, w1, w2, w3⟩ := w
        refine wpAny_handleBy_cons (codeAny_handlers_test ?_) (fun q => by cases q)
        refine named hc ((PySem.W.exm_one (M := model X.prog X.w) JL.kIn seen w1).here ?_)
        cases yes with
        | false => exact ih (w3 rfl)
        | true =>
          refine codeAny_handlers_suite_as (HandSPX.lands_againZ fl fun h4 fl4 up4 => ?_)
          obtain ⟨ob4, fv4, g4, z4, d4⟩ := fl4.there
          have JM : Inv X K0 τ1 G1 { s' with heap := h4 } := J.landed nb fl4.1 ((up.trans upp).trans up4) os ag
          have J4 := JM.suite g4 d4 gx x1 x2
          refine store_ok (X := X.suite x ((x, ob4) :: (X.pn ++ K0))) (v := .ref x) J4 hN hi (.inl hz) rfl (fun s5 J5 => ?_) (.inr hz)
          exact wpAny_mono ((sok x ob4 k dd (X.pn ++ K0) z4 ⟨_, d4⟩).run [] s5 _ G1 _ J5 (w2 rfl x gx)) (fun _ _ q => sp_gone (fun _ _ J6 => J6.unsuite ok) hN hi hz q) fun _ _ q => q.elim
    exact walk hh wish
  have hbody := (hb (wA X.K W0 D cl) (X.pn ++ K0) XE hcat PassesOwn.looking).run [] s τ G D (I.toTry _) given
  refine wpAny_Try_except (wpAny_mono hbody (fun f u q => ?_) fun _ _ q => q)
  have q2 : SP X K0 D f u := sp_map (fun _ _ J5 => J5.ofTry ok) q
  cases f with
  | next => exact wpAny_execs_nil q2
  | brk => exact q2
  | cont => exact q2
  | ret _ => exact q2
end
end L2
/-! The data layer: try, with clauses that return a text and the error's field. -/
namespace DL
open PySem PySem.Spec PyProof.Rows L2
/-- a constant that a clause answers -/
inductive Lit where
  | non | bl (b : Bool) | int (i : Int) | str (x : Str)
def Lit.d : Lit → D
  | .non => .non
  | .bl b => .bl b
  | .int i => .int i
  | .str x => .str x
def Lit.v : Lit → V
  | .non => .non
  | .bl b => .bl b
  | .int i => .int i
  | .str x => .str x
theorem Lit.rp {K : PySem.W.Frag} {F : Hp} : ∀ l : Lit, Rp K F l.d l.v
  | .non => rfl
  | .bl _ => rfl
  | .int _ => rfl
  | .str _ => rfl
/-- a clause: its class, its name's slot and the field that is told, the text; or the constant alone that is told -/
abbrev Cl := Str × Option (Nat × Str) × Str × Option Lit
def tryGo (und : Str → Str → Option Bool) : List Cl → Str → List (Str × D) → En → (D → Prop) → Prop → Prop
  | [], _, _, _, _, out => out
  | (cn, o, tag, bare) :: rest, c, fs, ρ, R, out => match und c cn with
    | some true => (match o with
      | none => R (match bare with
        | some l => l.d
        | none => .tup [.str tag, .non])
      | some (i, f) => i < ρ.length ∧ c = cn ∧ ∃ d, fs.lookup f = some d ∧ R (.tup [.str tag, d]))
    | some false => tryGo und rest c fs ρ R out
    | none => False
def mTry (und : Str → Str → Option Bool) (cls : List Cl) (t : DS) : DS := fun Dd ρ => t { Dd with ex := fun c fs ρ1 => tryGo und cls c fs ρ1 (fun d => Dd.rt (.val d) ρ1) (Dd.ex c fs ρ1) } ρ
def clT (K : PySem.W.Frag) : Cl → ClT
  | (_, none, tag, some l) => fun _ _ _ => tRet (tC l.v)
  | (_, none, tag, none) => fun _ _ _ => tRet (tTup (tCons (tC (.str tag)) (tCons (tC .non) tNil)))
  | (cn, some (i, f), tag, _) => fun x k dd => tRet (tTup (tCons (tC (.str tag)) (tCons (tXf x k dd (He.ga K cn) f (tVar i)) tNil)))
abbrev clL (K : PySem.W.Frag) (cls : List Cl) : List (Value × Option Nat × ClT) := cls.map fun cl => (.ref (He.ga K cl.1), cl.2.1.map (·.1), clT K cl)
theorem lookup_rp {K : PySem.W.Frag} {F : Hp} {f : Str} {d : D} : ∀ {fs : List (Str × D)} {fv : List (Str × V)}, fv.map (·.1) = fs.map (·.1) → RpL K F (fs.map (·.2)) (fv.map (·.2)) → fs.lookup f = some d → ∃ v, fv.lookup f = some v ∧ Rp K F d v
  | [], _, _, _, h => by cases h
  | (y, e) :: fs, [], h, _, _ => by cases h
  | (y, e) :: fs, (z, u) :: fv, h, r, l => by
    rw [List.map_cons, List.map_cons] at h
    injection h with h1 h2
    have h1' : z = y := h1
    subst h1'
    obtain ⟨v, vs, e1, e2, e3⟩ := r
    rw [List.map_cons] at e1
    injection e1 with e4 e5
    rw [List.lookup_cons] at l ⊢
    cases hy : f == z with
    | true =>
      rw [hy] at l
      cases l
      exact ⟨u, rfl, by have e6 : u = v := e4; rw [e6]; exact e2⟩
    | false =>
      rw [hy] at l
      exact lookup_rp h2 (e5 ▸ e3) l
section
variable {B : Bd} {W : WX} {F F' : Hp} {L' : La} {H' : Hp} {σ' : L2.St} {ρ' : En} {Dd : DEnds} {D : Ends}
theorem wA_of {und : Str → Str → Option Bool} {K : PySem.W.Frag} (hK : B.K = K) (hund : ∀ c cn b, und c cn = some b → PySem.W.exmOne K (.ref (He.ga K c)) (.ref (He.ga K cn)) = some b)
    (o : EOk B W F Dd D) (S : SR B F' L' σ' H' ρ') (sm : Same F F') {c : Str} {fs : List (Str × DL.D)} {k : Value} {dd : Option Addr} (r : ExcR B.K F' H' c fs k dd) :
    ∀ cls : List Cl, tryGo und cls c fs ρ' (fun d => Dd.rt (.val d) ρ') (Dd.ex c fs ρ') → wA K W D (clL K cls) k dd σ' H'
  | [], q => o.ex c fs ρ' k dd σ' F' L' H' q S sm r
  | (cn, oi, tag, bare) :: rest, q => by
    have ek : k = .ref (He.ga B.K c) := r.1
    unfold tryGo at q
    cases hu : und c cn with
    | none => rw [hu] at q; exact q.elim
    | some b =>
      have hx := hund c cn b hu
      rw [hu] at q
      refine ⟨b, by rw [ek, hK]; exact hx, fun eb x hxn => ?_, fun eb => ?_⟩
      · subst eb
        have tell : ∀ (d : DL.D) (v : V), Dd.rt (.val (.tup [.str tag, d])) ρ' → Rp B.K F' d v → ([V.str tag, v].length ≤ sizeLine ∧ ∀ p, H' p = none → D.rt (.ref p) (upd H' p (.tup [.str tag, v]))) := by
          intro d v q2 rv
          refine ⟨by rw [sizeLine_eq]; exact Nat.le_of_ble_eq_true rfl, fun p hp => ?_⟩
          obtain ⟨g, s⟩ := grow_upd (o := .tup [.str tag, v]) S.sub hp
          exact o.rt _ ρ' _ _ _ L' _ q2 (S.grow g s) (sm.trans g.f) ⟨p, _, rfl, SqT.of upd_same, ⟨_, _, rfl, rfl, _, _, rfl, rv.mono g.f, rfl⟩⟩
        cases oi with
        | none =>
          cases bare with
          | some l => exact o.rt _ ρ' _ _ _ L' _ q S sm l.rp
          | none => exact tell .non .non q rfl
        | some w =>
          obtain ⟨i, f⟩ := w
          obtain ⟨hi, hc, d, hl, q2⟩ := q
          subst hc
          rcases r.2 with ⟨e1, _⟩ | ⟨da, fv, e1, e2, e3, e4⟩
          · rw [e1] at hl
            cases hl
          · obtain ⟨v, hv, rv⟩ := lookup_rp e3 e4 hl
            refine ⟨.ref x, ?_, rfl, by rw [ek, hK], da, fv, v, e1, e2, hv, tell d v q2 rv⟩
            rw [S.len] at hi
            rw [List.getElem?_set_self hi]
      · subst eb
        exact wA_of hK hund o S sm r rest q
end
section
variable {X : Cx} {B : Bd} {W : WX} {pos : Pos} {bd : List Stmt} {h0 : ExceptHandler} {hs : List ExceptHandler} {t : DS}
theorem ds_try {und : Str → Str → Option Bool} {cls : List Cl} (e1 : X.stack = X.env :: X.outer) (e2 : X.env.frame = some X.env.locals) (hN : X.N.Nodup) (tk : Takes X W) (hund : ∀ c cn b, und c cn = some b → PySem.W.exmOne X.K (.ref (He.ga X.K c)) (.ref (He.ga X.K cn)) = some b)
    (hb : ∀ (W' : WX) (more : List (Addr × Obj)) (xe : Value → Shared → Prop), Takes (X.tr more xe) W' → PassesOwn (model X.prog X.w) X.A X.env xe → PSs (X.tr more xe) bd (rS B W' t))
    (hh : HdsA X (h0 :: hs) (clL X.K cls)) (hK : B.K = X.K := by rfl) : PS X (.Try bd (h0 :: hs) [] [] pos) (rS B W (mTry und cls t)) :=
  ps_imp (ps_try_manyA (tb := fun W' => rS B W' t) e1 e2 hN tk hb hh) fun D σ H ⟨F, L, ρ, Dd, S, q, o⟩ =>
    ⟨F, L, ρ, _, S, q, ⟨o.nx, o.rt, o.bk, o.ct, fun c fs ρ' k dd σ' F' L' H' e S' s' r => wA_of hK hund o S' s' r cls e⟩⟩
theorem nm_of {y : Str} {c : Value} (hm : X.mg y = some c) (hg : Gl X y := by rfl) (hd : (y == ("__debug__" : Str)) = false := by decide) : Names X y c := ⟨hg, hd, .inl hm⟩
theorem cl_nil : HdsA X [] (clL X.K []) := .nil
theorem cl_only {y tag : Str} {p1 p2 p3 p4 q1 q2 : Pos} {j1 j2 j3 : Nat} {hds : List ExceptHandler} {cls : List Cl} (hc : Names X y (.ref (He.ga X.K y))) (rest : HdsA X hds (clL X.K cls)) :
    HdsA X (.ExceptHandler (some (.Name y q1)) none [.Return (some (.Tuple [.Constant (.str tag) j1 p1, .Constant .none j2 p2] j3 p3)) p4] q2 :: hds) (clL X.K ((y, none, tag, none) :: cls)) :=
  .only hc (fun x ob k dd more hz hf => pss_one (ps_ret (pe_tup (pa_cons pe_str (pa_cons pe_non pa_nil))))) rest
theorem cl_bare {y tag : Str} {p1 p4 q1 q2 : Pos} {j1 : Nat} {hds : List ExceptHandler} {cls : List Cl} (hc : Names X y (.ref (He.ga X.K y))) (rest : HdsA X hds (clL X.K cls)) :
    HdsA X (.ExceptHandler (some (.Name y q1)) none [.Return (some (.Constant (.str tag) j1 p1)) p4] q2 :: hds) (clL X.K ((y, none, tag, some (.str tag)) :: cls)) :=
  .only hc (fun x ob k dd more hz hf => pss_one (ps_ret pe_str)) rest
theorem cl_bl {y : Str} {b : Bool} {p1 p4 q1 q2 : Pos} {j1 : Nat} {hds : List ExceptHandler} {cls : List Cl} (hc : Names X y (.ref (He.ga X.K y))) (rest : HdsA X hds (clL X.K cls)) :
    HdsA X (.ExceptHandler (some (.Name y q1)) none [.Return (some (.Constant (.bool b) j1 p1)) p4] q2 :: hds) (clL X.K ((y, none, "", some (.bl b)) :: cls)) :=
  .only hc (fun x ob k dd more hz hf => pss_one (ps_ret pe_bl)) rest
theorem cl_int {y : Str} {b : Int} {p1 p4 q1 q2 : Pos} {j1 : Nat} {hds : List ExceptHandler} {cls : List Cl} (hc : Names X y (.ref (He.ga X.K y))) (rest : HdsA X hds (clL X.K cls)) :
    HdsA X (.ExceptHandler (some (.Name y q1)) none [.Return (some (.Constant (.int b) j1 p1)) p4] q2 :: hds) (clL X.K ((y, none, "", some (.int b)) :: cls)) :=
  .only hc (fun x ob k dd more hz hf => pss_one (ps_ret pe_int)) rest
theorem cl_non {y : Str} {p1 p4 q1 q2 : Pos} {j1 : Nat} {hds : List ExceptHandler} {cls : List Cl} (hc : Names X y (.ref (He.ga X.K y))) (rest : HdsA X hds (clL X.K cls)) :
    HdsA X (.ExceptHandler (some (.Name y q1)) none [.Return (some (.Constant .none j1 p1)) p4] q2 :: hds) (clL X.K ((y, none, "", some .non) :: cls)) :=
  .only hc (fun x ob k dd more hz hf => pss_one (ps_ret pe_non)) rest
theorem cl_named {y z f tag : Str} {i : Nat} {p1 p2 p3 p4 p5 q1 q2 : Pos} {j1 j3 : Nat} {hds : List ExceptHandler} {cls : List Cl} (hc : Names X y (.ref (He.ga X.K y))) (T : XfC X.K (He.ga X.K y)) (hno : PySem.W.findIn X.K (.ref (He.ga X.K y)) f = some none) (rest : HdsA X hds (clL X.K cls))
    (hi : X.N[i]? = some z := by rfl) (hz : X.env.kindOf z = some .local := by rfl) (hzd : (z == ("__debug__" : Str)) = false := by decide) (hzc : (z == ("__classdict__" : Str)) = false := by decide) (hv : Vis X.env.scope z := by exact Or.inl rfl) (hb : attributeBase (.Name z p5) f X.env (eval (.Name z p5) X.env) = eval (.Name z p5) X.env := by rfl) :
    HdsA X (.ExceptHandler (some (.Name y q1)) (some z) [.Return (some (.Tuple [.Constant (.str tag) j1 p1, .Attribute (.Name z p5) f p2] j3 p3)) p4] q2 :: hds) (clL X.K ((y, some (i, f), tag, none) :: cls)) :=
  .named hc hi hz (fun x ob k dd more hzc2 hf => pss_one (ps_ret (pe_tup (pa_cons pe_str (pa_cons (pe_xf T hno hzc2 hf (pe_var hi hv hzd hzc) hb) pa_nil))))) rest
end
/-! which class stands under which -/
def undT (tbl : List ((Str × Str) × Bool)) (c cn : Str) : Option Bool := (tbl.find? fun p => p.1 == (c, cn)).map (·.2)
def undB (tbl : List ((Str × Str) × Bool)) (K : PySem.W.Frag) : Bool := tbl.all fun p => decide (PySem.W.exmOne K (.ref (He.ga K p.1.1)) (.ref (He.ga K p.1.2)) = some p.2)
theorem undB_ok {tbl : List ((Str × Str) × Bool)} {K : PySem.W.Frag} (h : undB tbl K = true) : ∀ c cn b, undT tbl c cn = some b → PySem.W.exmOne K (.ref (He.ga K c)) (.ref (He.ga K cn)) = some b := by
  intro c cn b e
  unfold undT at e
  obtain ⟨p, hp, rfl⟩ := Option.map_eq_some_iff.mp e
  have hm := List.mem_of_find?_eq_some hp
  have he := List.find?_some hp
  have h2 := List.all_eq_true.mp h p hm
  have e2 : p.1 = (c, cn) := eq_of_beq he
  have h3 := of_decide_eq_true h2
  rw [e2] at h3
  exact h3
end DL
/-! The data layer: instances that are only read; their attributes, their methods, how they are made. -/
namespace DL
open PySem PySem.Spec PyProof.Rows L2
/-! ### an attribute -/
def mFld (c : Str) (ks : List Str) (i : Nat) (t : DE) : DE := fun ρ Q E => t ρ (fun d ρ1 => ∃ ds v, d = .obj c ks ds ∧ ds[i]? = some v ∧ Q v ρ1) E
/-- where an attribute's name stands -/
def LkAt (ks : List Str) (f : Str) (i : Nat) : Prop := ∀ vs : List V, ks.length = vs.length → (ks.zip vs).lookup f = vs[i]?
def NoLk (ks : List Str) (f : Str) : Prop := ∀ vs : List V, ks.length = vs.length → (ks.zip vs).lookup f = none
section
variable {X : Cx} {B : Bd} {W : WX} {pos : Pos} {e o : Expr} {es : List Expr}
theorem de_fld (i : Nat) {c f : Str} {ks : List Str} {t : DE} (he : PE X e (rV B W t)) (cl : Cls X.K (He.ga X.K c)) (na : NoAttr X.K (He.ga X.K c) f) (hl : LkAt ks f i) (hb : attributeBase e f X.env (eval e X.env) = eval e X.env := by rfl) (hK : B.K = X.K := by rfl) :
    PE X (.Attribute e f pos) (rV B W (mFld c ks i t)) := by
  refine pe_imp (pe_fld he hb) fun σ H Q ⟨F, L, ρ, Qd, Ed, S, ht, hq, hx⟩ => ?_
  refine ⟨F, L, ρ, fun d ρ1 => ∃ ds v, d = .obj c ks ds ∧ ds[i]? = some v ∧ Qd v ρ1, Ed, S, ht, fun d ρ' v F' L' H' ⟨ds, w, ed, hw, q⟩ S' s r => ?_, hx⟩
  subst ed
  obtain ⟨a, dx, vs, ev, ea, hlen, rr⟩ := r
  obtain ⟨u, hu, ru⟩ := rr.get hw
  rw [hK] at ea
  exact ⟨a, _, dx, _, u, ev, S'.sub _ _ ea, cl, na, (hl vs hlen).trans hu, hq w ρ' u F' L' H' q S' s ru⟩
/-! ### a method -/
theorem pe_methS {CX : CXT} {k : Nat} {f C : Addr} {fd : FuncData} {ps : List Str} {sp : Sp} {E : L2.St → XK} {m : Str} {apos : Pos} {ta : TE} {t : TA} {pl : Sem Bool} (he : PE X o ta) (c : Cls X.K C) (hm : Meth X.K C m f) (F : FnOk X.prog X.w X.K X.mg X.base CX k f fd ps sp) (hr : Room k X.A) (hb : Binds X.K fd ps []) (hx : ∀ σ, PassesAt CX X σ (E σ))
    (ha : PA X (e :: es) t) (hst : starEach (e :: es) X.env = (false, eval e X.env) :: starEach es X.env := by rfl) (hpl : (backTo pos (starEach es X.env)).any (·.1) = false := by rfl)
    (ht : eval (.Call (.Attribute o m apos) (e :: es) [] pos) X.env = (do
      let ov ← eval o X.env
      standAt apos.atName
      let (f, first) ← holding [ov] (getMethod ov m pl)
      callWith pos f first (backTo pos (starEach (e :: es) X.env)) (backToKw pos (keywordEach [] X.env))) := by rfl) :
    PE X (.Call (.Attribute o m apos) (e :: es) [] pos) (fun σ H Q => ta σ H fun x H1 => ∃ a dx fs, x = .ref a ∧ H1 a = some (.ins C dx fs) ∧ fs.lookup m = none ∧ t σ H1 fun vs H2 => sp (x :: vs) H2 Q (E σ)) := by
  refine ⟨fun pins s σ H Q I h => ?_⟩
  refine PySem.W.methodCall_KW (pl := pl) (thn (he.run pins s σ H _ I h) fun u s1 ⟨x, H1, I1, rx, a, dx, fs, ex, ea, l, q⟩ => ?_) ht
  subst ex
  obtain rfl : u = Value.ref a := rx
  refine getmeth_ok I1 ea c hm l ?_
  refine PySem.W.callWith_K (first := [.ref a]) (h₀ := X.base) I.ok.mod.kin hm.kp (thn (ha.run pos pins s1 σ H1 _ I1 q) fun us s2 ⟨vs, H2, I2, r, q2⟩ => ⟨I2.kIn, ?_⟩) hst hpl
  exact run_fnS (us := .ref a :: us) (vs := .ref a :: vs) F hr hb (hx σ) I2 (.cons rfl r) q2
theorem pe_meth0S {CX : CXT} {k : Nat} {f C : Addr} {fd : FuncData} {ps : List Str} {sp : Sp} {E : L2.St → XK} {m : Str} {apos : Pos} {ta : TE} {pl : Sem Bool} (he : PE X o ta) (c : Cls X.K C) (hm : Meth X.K C m f) (F : FnOk X.prog X.w X.K X.mg X.base CX k f fd ps sp) (hr : Room k X.A) (hb : Binds X.K fd ps []) (hx : ∀ σ, PassesAt CX X σ (E σ))
    (ht : eval (.Call (.Attribute o m apos) [] [] pos) X.env = (do
      let ov ← eval o X.env
      standAt apos.atName
      let (f, first) ← holding [ov] (getMethod ov m pl)
      callWith pos f first (backTo pos (starEach [] X.env)) (backToKw pos (keywordEach [] X.env))) := by rfl) :
    PE X (.Call (.Attribute o m apos) [] [] pos) (fun σ H Q => ta σ H fun x H1 => ∃ a dx fs, x = .ref a ∧ H1 a = some (.ins C dx fs) ∧ fs.lookup m = none ∧ sp [x] H1 Q (E σ)) := by
  refine ⟨fun pins s σ H Q I h => ?_⟩
  refine PySem.W.methodCall_KW (pl := pl) (thn (he.run pins s σ H _ I h) fun u s1 ⟨x, H1, I1, rx, a, dx, fs, ex, ea, l, q⟩ => ?_) ht
  subst ex
  obtain rfl : u = Value.ref a := rx
  refine getmeth_ok I1 ea c hm l ?_
  exact PySem.W.callWith_K0 (first := [.ref a]) I1.kIn hm.kp (run_fnS (us := [.ref a]) (vs := [.ref a]) F hr hb (hx σ) I1 (.cons rfl .nil) q)
/-- a method of the text: where it stands, what it does -/
structure MethOk (P : Program) (w : World) (K : PySem.W.Frag) (mg : Str → Option Value) (base : Heap) (lv : Nat) (c m : Str) (fd : FuncData) (ps : List Str) (n : Nat) (ios : List Nat) (sp : DSp) : Prop where
  ok : FnOk P w K mg base (L2.CX P w) lv (He.ma K (He.ga K c) m) fd ps (spD K n ios sp)
  binds : Binds K fd ps []
  cls : Cls K (He.ga K c)
  meth : Meth K (He.ga K c) m (He.ma K (He.ga K c) m)
def mMeth (c : Str) (ks : List Str) (to : DE) (as : List KX) (w : DSp) : DC := fun ρ Q E => to ρ (fun d ρ1 => ∃ ds, d = .obj c ks ds ∧ mKXs as ρ1 (fun kv ρ2 => match rsvs ρ2 (.d d :: kv) with
  | some cs => w cs (fun c o => Q c (putO ρ2 0 (.d d :: kv) o)) (fun c fs o => E c fs (putO ρ2 0 (.d d :: kv) o))
  | none => False) E) E
theorem KRs.consD {F H : Hp} {L : La} {d : D} {v : V} {ks : List KV} {vs : List V} (h : Rp B.K F d v) (r : KRs B F L H ks vs) : KRs B F L H (.d d :: ks) (v :: vs) := ⟨v, vs, rfl, h, r⟩
theorem dc_meth {to : DE} {as : List KX} {n lv k : Nat} {ios : List Nat} {w : DSp} {fd : FuncData} {ps : List Str} {c m : Str} {ks : List Str} {apos : Pos} {pl : Sem Bool} (hto : PE X o (rV B W to)) (M : MethOk X.prog X.w X.K X.mg X.base lv c m fd ps n ios w) (nl : NoLk ks m) (hr : Room k X.A) (hle : lv ≤ k) (tk : Takes X W)
    (ha : PA X (e :: es) (rK B W as)) (hK : B.K = X.K := by rfl) (hn : (KS.d :: as.map KX.sh).length = n := by rfl) (hio : iosS 0 (KS.d :: as.map KX.sh) = ios := by rfl) (hgs : goodS (KS.d :: as.map KX.sh) = true := by rfl)
    (hst : starEach (e :: es) X.env = (false, eval e X.env) :: starEach es X.env := by rfl) (hpl : (backTo pos (starEach es X.env)).any (·.1) = false := by rfl)
    (ht : eval (.Call (.Attribute o m apos) (e :: es) [] pos) X.env = (do
      let ov ← eval o X.env
      standAt apos.atName
      let (f, first) ← holding [ov] (getMethod ov m pl)
      callWith pos f first (backTo pos (starEach (e :: es) X.env)) (backToKw pos (keywordEach [] X.env))) := by rfl) :
    PE X (.Call (.Attribute o m apos) (e :: es) [] pos) (rC B W (mMeth c ks to as w)) := by
  refine pe_imp (pe_methS (E := WE W) hto M.cls M.meth (M.ok.mono hle) hr M.binds (passAt tk) ha hst hpl ht) fun σ H Q ⟨F0, L, ρ, Qd, Ed, S, ht, hq, hx⟩ => ?_
  refine ⟨F0, L, ρ, _, Ed, S, ht, fun d ρ1 v F1 L1 H1 ⟨ds, ed, kk⟩ S1 s1 r => ?_, hx⟩
  subst ed
  have r0 := r
  obtain ⟨a, dx, vs, ev, ea, hlen, rr⟩ := r
  rw [hK] at ea
  refine ⟨a, dx, _, ev, S1.sub _ _ ea, nl vs hlen, F1, L1, ρ1, _, Ed, S1, kk, fun kv ρ2 us F2 L2 H2 k2 S2 s2 r2 hsh nw => ?_, hx.mono s1.f⟩
  rw [← hK]
  refine call_imp (ks := .d (.obj c ks ds) :: kv) (vs := v :: us) (ss := KS.d :: as.map KX.sh) S2 (s1.trans s2) (KRs.consD (r0.mono s2.f) r2) (by rw [List.map_cons, hsh]; rfl) ?_ hn hio hgs k2 hq hx
  exact KNew.cons (fun ds a e => by cases e) (nw.back s1)
theorem dc_meth0 {to : DE} {lv k : Nat} {w : DSp} {fd : FuncData} {ps : List Str} {c m : Str} {ks : List Str} {apos : Pos} {pl : Sem Bool} (hto : PE X o (rV B W to)) (M : MethOk X.prog X.w X.K X.mg X.base lv c m fd ps 1 [] w) (nl : NoLk ks m) (hr : Room k X.A) (hle : lv ≤ k) (tk : Takes X W)
    (hK : B.K = X.K := by rfl)
    (ht : eval (.Call (.Attribute o m apos) [] [] pos) X.env = (do
      let ov ← eval o X.env
      standAt apos.atName
      let (f, first) ← holding [ov] (getMethod ov m pl)
      callWith pos f first (backTo pos (starEach [] X.env)) (backToKw pos (keywordEach [] X.env))) := by rfl) :
    PE X (.Call (.Attribute o m apos) [] [] pos) (rC B W (mMeth c ks to [] w)) := by
  refine pe_imp (pe_meth0S (E := WE W) hto M.cls M.meth (M.ok.mono hle) hr M.binds (passAt tk) ht) fun σ H Q ⟨F0, L, ρ, Qd, Ed, S, ht, hq, hx⟩ => ?_
  refine ⟨F0, L, ρ, _, Ed, S, ht, fun d ρ1 v F1 L1 H1 ⟨ds, ed, kk⟩ S1 s1 r => ?_, hx⟩
  subst ed
  have r0 := r
  obtain ⟨a, dx, vs, ev, ea, hlen, rr⟩ := r
  rw [hK] at ea
  refine ⟨a, dx, _, ev, S1.sub _ _ ea, nl vs hlen, ?_⟩
  rw [← hK]
  exact call_imp (ks := [.d (.obj c ks ds)]) (vs := [v]) (ss := [KS.d]) S1 s1 (KRs.consD r0 rfl) rfl (KNew.cons (fun ds a e => by cases e) (fun i ds a e => by simp at e)) rfl rfl rfl kk hq hx
end
/-! ### made -/
/-- the heap without an instance and its dict -/
def hide (H : Hp) (x dx : Addr) : Hp := fun b => if b = x ∨ b = dx then none else H b
/-- what an __init__ promises: all attributes are stored, in order; nothing leaves -/
def spIn (K : PySem.W.Frag) (c : Str) (ks : List Str) (n : Nat) (w : DSp) : Sp := fun vs H Q E => ∃ x dx us F L cs Qd ad, vs = .ref x :: us ∧ us.length = n ∧ H x = some (.ins (He.ga K c) dx []) ∧ H dx = some (.own x) ∧ dx ≠ x ∧ F x = none ∧ F dx = none ∧
  SR ⟨K, hide H x dx, F, [], ad⟩ F L (us.map some) H (cs.map some) ∧ w cs Qd (fun _ _ _ => False) ∧
  (∀ ds o F' H' fv, Qd (.val (.obj c ks ds)) o → Post ⟨K, hide H x dx, F, [], ad⟩ F' H' o → H' x = some (.ins (He.ga K c) dx (ks.zip fv)) → ks.length = fv.length → RpL K F' ds fv → F' x = none → Q .non H')
theorem spIn_len {K : PySem.W.Frag} {c : Str} {ks : List Str} {n : Nat} {w : DSp} : ∀ vs H Q E, spIn K c ks n w vs H Q E → vs.length = n + 1 := fun _ _ _ _ ⟨_, _, us, _, _, _, _, _, e, h, _⟩ => by subst e; rw [List.length_cons, h]
section
variable {B : Bd} {F H F' H' : Hp} {L : La} {σ : L2.St} {ρ : En}
/-- a thing that no name holds is made still -/
theorem SR.freezeO {a : Addr} {o : HO} (S : SR B F L σ H ρ) (h : H a = some o) (f : F a = none) (n : ∀ i, L i ≠ some a) (h0 : B.H0 a = none) : SR B (upd F a o) L σ H ρ where
  len := S.len
  sub := fun b o e => by
    by_cases hb : b = a
    · subst hb; rw [upd_same] at e; rw [← e]; exact h
    · rw [upd_ne hb] at e; exact S.sub b o e
  slot := fun i => by
    have q := S.slot i
    revert q
    cases ρ.getD i none with
    | none => exact id
    | some c =>
      cases c with
      | val d => exact fun ⟨h1, v, h2, h3⟩ => ⟨h1, v, h2, h3.mono (same_upd f)⟩
      | own ds =>
        intro ⟨b, ws, h1, h2, h3, h4, h5, h6⟩
        have hb : b ≠ a := fun z => n i (by rw [h2, z])
        exact ⟨b, ws, h1, h2, h3, by rw [upd_ne hb]; exact h4, h5.mono (same_upd f), h6⟩
  inj := S.inj
  f0 := S.f0.trans (same_upd f)
  fn := fun b o e => by
    by_cases hb : b = a
    · rw [hb]; exact .inr h0
    · rw [upd_ne hb] at e; exact S.fn b o e
  keep := S.keep
  io := S.io
  al := S.al
theorem Stp.freezeO {L' : La} {a : Addr} {o : HO} (s : Stp F L H F' L' H') (f : F' a = none) (nw : H a = none ∨ ∃ i, L i = some a) : Stp F L H (upd F' a o) L' H' where
  f := s.f.trans (same_upd f)
  l := s.l
  h := s.h
  fn := fun b o e => by
    by_cases hb : b = a
    · rw [hb]; exact .inr nw
    · rw [upd_ne hb] at e; exact s.fn b o e
  al := s.al
theorem hide_upd {x dx : Addr} {o o2 : HO} (hx : H x = none) (hd : H dx = none) : hide (upd (upd H dx o) x o2) x dx = H := by
  funext b
  unfold hide
  by_cases h1 : b = x
  · rw [if_pos (.inl h1), h1, hx]
  · by_cases h2 : b = dx
    · rw [if_pos (.inr h2), h2, hd]
    · rw [if_neg (by simp [h1, h2]), upd_ne h1, upd_ne h2]
end
/-- an __init__ of the text -/
structure InitOk (P : Program) (w : World) (K : PySem.W.Frag) (mg : Str → Option Value) (base : Heap) (lv : Nat) (c : Str) (ks : List Str) (fd : FuncData) (ps : List Str) (n : Nat) (sp : DSp) : Prop where
  ok : FnOk P w K mg base (L2.CX P w) lv (He.ma K (He.ga K c) "__init__") fd ps (spIn K c ks n sp)
  binds : Binds K fd ps []
  mkr : Mk K (He.ga K c) (He.ma K (He.ga K c) "__init__")
  glo : mg c = some (.ref (He.ga K c))
def mMake (as : List KX) (w : DSp) : DC := fun ρ Q E => mKXs as ρ (fun kv ρ1 => match rsvs ρ1 kv with
  | some cs => w cs (fun c o => Q c (putO ρ1 0 kv o)) (fun _ _ _ => False)
  | none => False) E
section
variable {X : Cx} {B : Bd} {W : WX} {pos : Pos} {e : Expr} {es : List Expr}
theorem pass_no {P : Program} {w : World} {X : Cx} : Passes (L2.CX P w) X (fun _ _ _ => False) := fun _ _ _ _ _ _ _ ⟨_, _, _, _, _, _, _, _, _, _, _, _, z⟩ => z.elim
theorem dc_make {as : List KX} {n lv k : Nat} {w : DSp} {fd : FuncData} {ps : List Str} {c : Str} {ks : List Str} {p : Pos} (I : InitOk X.prog X.w X.K X.mg X.base lv c ks fd ps n w) (hr : Room k X.A) (hle : lv + 1 ≤ k) (ha : PA X (e :: es) (rK B W as)) (hK : B.K = X.K := by rfl)
    (hn : as.length = n := by rfl) (hio : iosS 0 (as.map KX.sh) = [] := by rfl) (hgs : goodS (as.map KX.sh) = true := by rfl) (hg : Gl X c := by rfl) (hdb : (c == ("__debug__" : Str)) = false := by decide)
    (he : starEach (e :: es) X.env = (false, eval e X.env) :: starEach es X.env := by rfl) (hpl : (backTo pos (starEach es X.env)).any (·.1) = false := by rfl) : PE X (.Call (.Name c p) (e :: es) [] pos) (rC B W (mMake as w)) := by
  refine pe_imp (pe_make (E := fun _ _ _ => False) I.mkr I.ok (hr.mono hle) hg I.glo I.binds .nil pass_no ha hdb he hpl) fun σ H Q ⟨F0, L, ρ, Qd, Ed, S, ht, hq, hx⟩ => ?_
  refine ⟨F0, L, ρ, _, Ed, S, ht, fun kv ρ1 vs F1 L1 H1 kk S1 s1 r hsh nw => ?_, hx⟩
  intro x dx hx0 hd0 hne
  have kk' : match rsvs ρ1 kv with
    | some cs => w cs (fun c o => Qd c (putO ρ1 0 kv o)) (fun _ _ _ => False)
    | none => False := kk
  split at kk'
  · rename_i cs ec
    rw [List.append_nil]
    have hh := hide_upd (H := H1) (o := .own x) (o2 := .ins (He.ga X.K c) dx []) hx0 hd0
    have fx : F1 x = none := by
      cases z : F1 x with
      | none => rfl
      | some o => rw [S1.sub x o z] at hx0; cases hx0
    have fdx : F1 dx = none := by
      cases z : F1 dx with
      | none => rfl
      | some o => rw [S1.sub dx o z] at hd0; cases hd0
    have hs1 : Same H1 (upd (upd H1 dx (.own x)) x (.ins (He.ga X.K c) dx [])) := (same_upd hd0).trans (same_upd (by rw [upd_ne (fun z => hne z.symm)]; exact hx0))
    have en := S1.enter r ec hsh hgs
    rw [hio, hK] at en
    have hb0 : B.H0 x = none := by
      cases z : B.H0 x with
      | none => rfl
      | some o => exact absurd hx0 (S1.al x (by rw [z]; simp))
    refine ⟨x, dx, vs, F1, laOf cs vs, cs, _, adOf vs, rfl, ?_, upd_same, by rw [upd_ne hne, upd_same], hne, fx, fdx, ?_, kk', ?_⟩
    · rw [r.length, ← hn, ← List.length_map (f := KX.sh) (as := as), ← hsh, List.length_map]
    · rw [hh]
      exact en.grow ⟨Same.refl _, hs1, fun _ _ z => .inl z⟩ (en.sub.trans hs1)
    · intro ds o F' H' fv q p hx' hl rr fx'
      rw [hh] at p
      refine ⟨rfl, ?_⟩
      have p' : Post ⟨B.K, H1, F1, iosS 0 (as.map KX.sh), adOf vs⟩ F' H' o := by rw [hio, hK]; exact p
      have S2 := S1.exit r ec hsh hgs p'
      have st := Stp.call S1 s1 r ec hsh nw p'
      have nl : ∀ i, L1 i ≠ some x := fun i z => by
        obtain ⟨_, _, _, _, h, _⟩ := S1.own z
        rw [hx0] at h
        cases h
      refine hq (.val (.obj c ks ds)) _ (.ref x) _ L1 H' q (S2.freezeO hx' fx' nl hb0) (st.freezeO fx' (.inl ?_)) ⟨x, dx, fv, rfl, ?_, hl, ?_⟩
      · cases z : H x with
        | none => rfl
        | some o => exact absurd hx0 (s1.al x (by rw [z]; simp))
      · rw [upd_same, hK]
      · rw [hK]
        exact rr.mono (same_upd fx')
  · exact kk'.elim
end
end DL
/-! The data layer: an __init__ that stores its attributes in order. -/
namespace DL
open PySem PySem.Spec PyProof.Rows L2
/-- the state while an instance at x is made: ks are stored, as ds -/
structure IR (B : Bd) (x dx C : Addr) (ks : List Str) (ds : List D) (F : Hp) (L : La) (σ : L2.St) (H : Hp) (ρ : En) : Prop where
  S : SR B F L σ H ρ
  at_ : ∃ fv, H x = some (.ins C dx (ks.zip fv)) ∧ ks.length = fv.length ∧ RpL B.K F ds fv
  fx : F x = none
  hx : B.H0 x = none
  io : B.ios = []
section
variable {B : Bd} {x dx C : Addr} {ks KS : List Str} {ds : List D} {F H F' H' F1 H1 : Hp} {L L' L1 : La} {σ σ' σ1 : L2.St} {ρ ρ' ρ1 : En}
theorem IR.nl (I : IR B x dx C ks ds F L σ H ρ) (i : Nat) : L i ≠ some x := fun z => by
  obtain ⟨_, _, _, _, h, _⟩ := I.S.own z
  obtain ⟨fv, h2, _⟩ := I.at_
  rw [h2] at h
  cases h
theorem IR.step (I : IR B x dx C ks ds F L σ H ρ) (S' : SR B F' L' σ H' ρ') (s : Stp F L H F' L' H') : IR B x dx C ks ds F' L' σ H' ρ' where
  S := S'
  at_ := by
    obtain ⟨fv, h1, h2, h3⟩ := I.at_
    exact ⟨fv, s.h _ _ h1 I.nl, h2, h3.mono s.f⟩
  fx := by
    obtain ⟨fv, h1, h2, h3⟩ := I.at_
    cases z : F' x with
    | none => rfl
    | some o =>
      rcases s.fn x o z with q | q | ⟨i, q⟩
      · rw [I.fx] at q; cases q
      · rw [h1] at q; cases q
      · exact absurd q (I.nl i)
  hx := I.hx
  io := I.io
def noOwns (ρ : En) : Bool := ρ.all fun c => !isOwn c
theorem SR.rebase {ad : Nat → Addr} (S : SR B F L σ H ρ) (n : noOwns ρ = true) : SR ⟨B.K, H, F, [], ad⟩ F L σ H ρ where
  len := S.len
  sub := S.sub
  slot := fun i => by
    have q := S.slot i
    cases e : ρ.getD i none with
    | none => rw [e] at q; exact q
    | some c =>
      rw [e] at q
      cases c with
      | val d => exact q
      | own ds =>
        have := List.all_eq_true.mp n _ (List.mem_of_getElem? (getD_some e))
        cases this
  inj := S.inj
  f0 := Same.refl F
  fn := fun a o h => .inl h
  keep := fun a o h _ => h
  io := fun j hj => by cases hj
  al := fun a h => h
theorem IR.unbase {ad : Nat → Addr} (h0 : IR B x dx C ks ds F1 L1 σ1 H1 ρ1) (S : SR ⟨B.K, H1, F1, [], ad⟩ F L σ H ρ) : IR B x dx C ks ds F L σ H ρ where
  S := {
    len := S.len
    sub := S.sub
    slot := fun i => by
      have q := S.slot i
      cases e : ρ.getD i none with
      | none => rw [e] at q; exact q
      | some c =>
        rw [e] at q
        cases c with
        | val d => exact q
        | own ds =>
          obtain ⟨a, vs, h1, h2, h3, h4, h5, h6⟩ := q
          refine ⟨a, vs, h1, h2, h3, h4, h5, .inr ?_⟩
          rcases h6 with ⟨j, hj, _⟩ | h6
          · cases hj
          · cases z : B.H0 a with
            | none => rfl
            | some o => exact absurd h6 (h0.S.al a (by rw [z]; simp))
    inj := S.inj
    f0 := h0.S.f0.trans S.f0
    fn := fun a o e => by
      rcases S.fn a o e with q | q
      · exact h0.S.fn a o q
      · refine .inr ?_
        cases z : B.H0 a with
        | none => rfl
        | some o => exact absurd q (h0.S.al a (by rw [z]; simp))
    keep := fun a o e n => S.keep a o (h0.S.keep a o e n) fun j hj => by cases hj
    io := fun j hj => by rw [h0.io] at hj; cases hj
    al := fun a e => S.al a (h0.S.al a e) }
  at_ := by
    obtain ⟨fv, h1, h2, h3⟩ := h0.at_
    exact ⟨fv, S.keep _ _ h1 fun j hj => (by cases hj), h2, h3.mono S.f0⟩
  fx := by
    obtain ⟨fv, h1, h2, h3⟩ := h0.at_
    cases z : F x with
    | none => rfl
    | some o =>
      rcases S.fn x o z with q | q
      · have q' : F1 x = some o := q
        rw [h0.fx] at q'
        cases q'
      · have q' : H1 x = none := q
        rw [h1] at q'
        cases q'
  hx := h0.hx
  io := h0.io
def shl (L : La) : La := fun i => match i with
  | 0 => none
  | i + 1 => L i
theorem SR.first {d : D} {v : V} (S : SR B F L σ H ρ) (io : B.ios = []) (r : Rp B.K F d v) : SR B F (shl L) (some v :: σ) H (some (.val d) :: ρ) where
  len := by rw [List.length_cons, List.length_cons, S.len]
  sub := S.sub
  slot := fun i => by
    cases i with
    | zero => exact ⟨rfl, v, rfl, r⟩
    | succ i => exact S.slot i
  inj := fun i j a h1 h2 => by
    cases i with
    | zero => cases h1
    | succ i =>
      cases j with
      | zero => cases h2
      | succ j => exact congrArg (· + 1) (S.inj i j a h1 h2)
  f0 := S.f0
  fn := S.fn
  keep := S.keep
  io := fun j hj => by rw [io] at hj; cases hj
  al := S.al
end
/-! ### the statements' readings -/
abbrev MI := (List D → En → Prop) → List D → En → Prop
abbrev MJ := (List D → En → Prop) → En → Prop
def rIn (B : Bd) (x dx C : Addr) (ks KS : List Str) (t : MI) : TS := fun D σ H => ∃ F L ρ ds N, IR B x dx C ks ds F L σ H ρ ∧ t N ds ρ ∧ (∀ ds' ρ' F' L' σ' H', N ds' ρ' → IR B x dx C KS ds' F' L' σ' H' ρ' → D.nx σ' H')
def rJn (B B' : Bd) (x dx C : Addr) (KS : List Str) (t : MJ) : TS := fun D σ H => ∃ F L ρ N, SR B' F L σ H ρ ∧ t N ρ ∧ (∀ ds' ρ' F' L' σ' H', N ds' ρ' → IR B x dx C KS ds' F' L' σ' H' ρ' → D.nx σ' H')
def mEnd : MI := fun N ds ρ => N ds ρ
def mSto (x : Addr) (te : DE) (u : MI) : MI := fun N ds ρ => te ρ (fun d ρ1 => ρ1.getD 0 none = some (.val (.adr x)) ∧ u N (ds ++ [d]) ρ1) noX
def mEnt (t : List D → MJ) : MI := fun N ds ρ => noOwns ρ = true ∧ t ds N ρ
def mJq (t : DS) (u : MJ) : MJ := fun N ρ => t ⟨fun ρ' => u N ρ', fun _ _ => False, fun _ => False, fun _ => False, noX⟩ ρ
def mJe (u : MI) (ds : List D) : MJ := fun N ρ => u N ds ρ
def mSelf (x : Addr) (ds : List D) (i : Nat) : DE := fun ρ Q _ => ρ.getD 0 none = some (.val (.adr x)) ∧ ∃ d, ds[i]? = some d ∧ Q d ρ
/-- where a store puts an attribute -/
def PutAt (ks : List Str) (f : Str) : Prop := ∀ (fv : List V) (v : V), ks.length = fv.length → putF f v (ks.zip fv) = (ks ++ [f]).zip (fv ++ [v])
section
variable {X : Cx} {B B' : Bd} {W : WX} {pos : Pos} {e : Expr} {es : List Expr} {x dx C : Addr} {ks KS : List Str} {l : List Stmt} {st : Stmt}
theorem di_nil : PSs X [] (rIn B x dx C KS KS mEnd) := pss_imp pss_nil fun D σ H ⟨F, L, ρ, ds, N, I, q, o⟩ => o ds ρ F L σ H q I
theorem di_cons {f : Str} {p p' : Pos} {te : DE} {u : MI} (he : PE X e (rV B W te)) (cl : Cls X.K C) (na : NoAttr X.K C f) (hp : PutAt ks f) (rest : PSs X l (rIn B x dx C (ks ++ [f]) KS u)) (hN : X.N[0]? = some ("self" : Str) := by rfl) (hv : Vis X.env.scope "self" := by first | exact Or.inl rfl | exact Or.inr (Or.inl rfl) | exact Or.inr (Or.inr rfl))
    (hk : ks.length < 1000 := by decide) (hs : swapsWith e (some (.Attribute (.Name "self" p) f p')) pos.line X.env = pure false := by rfl) : PSs X (.Assign [.Attribute (.Name "self" p) f p'] e pos :: l) (rIn B x dx C ks KS (mSto x te u)) := by
  refine pss_imp (pss_cons (ps_fld (pe_var (i := 0) hN hv) he hs) rest) fun D σ H ⟨F, L, ρ, ds, N, I, q, o⟩ => ?_
  refine ⟨F, L, ρ, _, noX, I.S, q, fun d ρ' v F' L' H' ⟨e0, q'⟩ S' s r => ?_, noX_ok⟩
  obtain ⟨h1, w, h2, h3⟩ := S'.val e0
  cases (show w = V.ref x from h3)
  have I' := I.step S' s
  obtain ⟨fv, g1, g2, g3⟩ := I'.at_
  refine ⟨.ref x, h2, x, C, dx, _, rfl, g1, cl, na, ?_, ?_⟩
  · rw [List.length_zip]
    omega
  · rw [hp fv v g2]
    refine ⟨F', L', ρ', ds ++ [d], N, ⟨S'.poke I'.fx I'.nl I'.hx, ⟨fv ++ [v], upd_same, ?_, g3.append (RpL.one r)⟩, I'.fx, I'.hx, I'.io⟩, q', o⟩
    rw [List.length_append, List.length_append, g2]
    rfl
theorem di_enter {tM : List D → MJ} (h : ∀ (F1 : Hp) (L1 : La) (σ1 : L2.St) (H1 : Hp) (ρ1 : En) (ds : List D) (ad : Nat → Addr), IR B x dx C ks ds F1 L1 σ1 H1 ρ1 → PSs X l (rJn B ⟨B.K, H1, F1, [], ad⟩ x dx C KS (tM ds))) : PSs X l (rIn B x dx C ks KS (mEnt tM)) :=
  ⟨fun pins s σ H D I ⟨F, L, ρ, ds, N, J, ⟨hn, q⟩, o⟩ => (h F L σ H ρ ds (fun _ => 0) J).run pins s σ H D I ⟨F, L, ρ, N, J.S.rebase hn, q, o⟩⟩
theorem dj_cons {t : DS} {u : MJ} (h1 : PS X st (rS B' W t)) (h2 : PSs X l (rJn B B' x dx C KS u)) : PSs X (st :: l) (rJn B B' x dx C KS (mJq t u)) :=
  pss_imp (pss_cons h1 h2) fun D σ H ⟨F, L, ρ, N, S, q, o⟩ => ⟨F, L, ρ, _, S, q, ⟨fun ρ' σ' F' L' H' k S' z => ⟨F', L', ρ', N, S', k, o⟩, fun _ _ _ _ _ _ _ z => False.elim z, fun _ _ _ _ _ z => False.elim z, fun _ _ _ _ _ z => False.elim z, noX_ok⟩⟩
theorem dj_leave {F1 : Hp} {L1 : La} {σ1 : L2.St} {H1 : Hp} {ρ1 : En} {ds : List D} {ad : Nat → Addr} {u : MI} (h0 : IR B x dx C ks ds F1 L1 σ1 H1 ρ1) (h : PSs X l (rIn B x dx C ks KS u)) : PSs X l (rJn B ⟨B.K, H1, F1, [], ad⟩ x dx C KS (mJe u ds)) :=
  pss_imp h fun D σ H ⟨F, L, ρ, N, S, q, o⟩ => ⟨F, L, ρ, ds, N, h0.unbase S, q, o⟩
theorem de_self (i : Nat) {f : Str} {p : Pos} {F1 : Hp} {L1 : La} {σ1 : L2.St} {H1 : Hp} {ρ1 : En} {ds : List D} {ad : Nat → Addr} (h0 : IR B x dx C ks ds F1 L1 σ1 H1 ρ1) (cl : Cls X.K C) (na : NoAttr X.K C f) (hl : LkAt ks f i) (hN : X.N[0]? = some ("self" : Str) := by rfl) (hv : Vis X.env.scope "self" := by first | exact Or.inl rfl | exact Or.inr (Or.inl rfl) | exact Or.inr (Or.inr rfl))
    (hb : attributeBase (.Name "self" p) f X.env (eval (.Name "self" p) X.env) = eval (.Name "self" p) X.env := by rfl) : PE X (.Attribute (.Name "self" p) f pos) (rV ⟨B.K, H1, F1, [], ad⟩ W (mSelf x ds i)) := by
  refine pe_imp (pe_fld (pe_var (i := 0) hN hv) hb) fun σ H Q ⟨F, L, ρ, Qd, Ed, S, ⟨e0, d, hd, q⟩, hq, hx⟩ => ?_
  obtain ⟨h1, w, h2, h3⟩ := S.val e0
  cases (show w = V.ref x from h3)
  obtain ⟨fv, g1, g2, g3⟩ := h0.at_
  obtain ⟨u, hu, ru⟩ := g3.get hd
  exact ⟨.ref x, h2, x, C, dx, _, u, rfl, S.keep _ _ g1 fun j hj => (by cases hj), cl, na, (hl fv g2).trans hu, hq d ρ u F L H q S (Stp.refl _ _ _) (ru.mono S.f0)⟩
end
/-- an __init__, as what C(..) does -/
def wIn (c : Str) (KS : List Str) (k : Nat) (tb : Addr → MI) : DSp := fun cs Qd _ => ∀ x, tb x (fun ds ρ => Qd (.val (.obj c KS ds)) (outsOf ρ)) [] (some (.val (.adr x)) :: (cs.map some ++ List.replicate k none))
theorem init_ok {K : PySem.W.Frag} {P : Program} {w : World} {mg : Str → Option Value} {base : Heap} {nm qual c : Str} {KS : List Str} {params : Arguments} {body : List Stmt} {scope : Scope} {f : Addr} {fd : FuncData} {N ps : List Str} {k : Nat} (n : Nat) {tb : Addr → MI}
    (Fd : FunD K nm qual params body scope [] [] f fd) (S : FnScope N ("self" :: ps) scope) (hn : ps.length = n)
    (hb : ∀ (cdv : Value) (A : Around) (outer : List Env) (s : Shared) (H F : Hp) (E : XK) (ad : Nat → Addr) (x dx : Addr), Room k (A.deeper (envOfC qual scope s.heap.objs.size f cdv)) → Takes (cxOf (L2.CX P w) P w K mg base N qual scope f cdv A outer s H E) (fun cls d _ H' => E cls d H') →
      PSs (cxOf (L2.CX P w) P w K mg base N qual scope f cdv A outer s H E) body (rIn ⟨K, hide H x dx, F, [], ad⟩ x dx (He.ga K c) [] KS (tb x))) : FnOk P w K mg base (L2.CX P w) (k + 1) f fd ("self" :: ps) (spIn K c KS n (wIn c KS (N.length - (n + 1)) tb)) := by
  refine Fd.ok S (fun vs H Q E h => by rw [spIn_len _ _ _ _ h, List.length_cons, hn]) fun cdv A outer s H vs Q E hr ⟨x, dx, us, F, L, cs, Qd, ad, ev, hl, hx, hdx, hne, fx, fdx, hS, hw, hq⟩ => ?_
  subst ev
  have hhx : hide H x dx x = none := if_pos (.inl rfl)
  refine ⟨_, hb cdv A outer s H F E ad x dx hr (takes_of rfl rfl rfl rfl), F, shl L, _, [], _, ⟨?_, ⟨[], hx, rfl, rfl⟩, fx, hhx, rfl⟩, hw x, fun ds' ρ' F' L' σ' H' q I => ?_⟩
  · have := (hS.first rfl (d := .adr x) (v := .ref x) rfl).pad (N.length - (n + 1))
    unfold L2.start
    rw [List.length_cons, hl]
    exact this
  · obtain ⟨fv, g1, g2, g3⟩ := I.at_
    exact hq ds' _ F' H' fv q I.S.post g1 g2 g3 I.fx
end DL
/-! The data layer: range objects, comprehensions with two sources. -/
namespace DL
open PySem PySem.Spec PyProof.Rows L2
/-! ### range objects -/
theorem cr_range1 {X : Cx} : CallR X (.type "range") (fun vs H Q => ∃ i, vs = [V.int i] ∧ ∀ p, H p = none → Q (.ref p) (upd H p (.rng 0 i))) := by
  intro pins s σ H vs us Q I r h
  obtain ⟨i, rfl, q⟩ := h
  cases r with
  | cons r rr =>
    cases rr
    obtain ⟨t, rfl⟩ := r
    refine call_range_1 ⟨.ref s.heap.objs.size, upd H s.heap.objs.size (.rng 0 i), I.laid (t' := s.toks + 1 + 1) (fun b o e => Heap.get?_push_of_some _ e) (Nat.le_refl _) ?_, rfl, q _ (I.hok.fresh (Nat.le_refl _))⟩
    exact ⟨_, _, _, Heap.get?_push_size _ rfl⟩
def rRg1 : List V → Hp → VK → Prop := fun vs H Q => ∃ i, vs = [V.int i] ∧ ∀ p, H p = none → Q (.ref p) (upd H p (.rng 0 i))
def gRg1 : D → Option Cell
  | .int i => some (.val (.rng 0 i))
  | _ => none
abbrev fRg1 : DOpN := n1 gRg1
theorem fRg1_ok {K : PySem.W.Frag} : OpN K rRg1 fRg1 := by
  refine n1_ok fun F H d v c Q sb h e q => ?_
  unfold gRg1 at e
  split at e
  · cases e
    rename_i i
    cases (show v = V.int i from h)
    refine ⟨i, rfl, fun p hp => ?_⟩
    obtain ⟨g1, g2⟩ := grow_upd (o := .rng 0 i) sb hp
    exact q _ _ _ g1 g2 ⟨p, rfl, upd_same⟩
  · cases e
theorem call_rg1 {X : Cx} : CallR X (.type "range") rRg1 := cr_range1
def rRg2 : List V → Hp → VK → Prop := fun vs H Q => ∃ i j, vs = [V.int i, V.int j] ∧ ∀ p, H p = none → Q (.ref p) (upd H p (.rng i j))
def gRg2 : D → D → Option Cell
  | .int i, .int j => some (.val (.rng i j))
  | _, _ => none
abbrev fRg2 : DOpN := n2 gRg2
theorem fRg2_ok {K : PySem.W.Frag} : OpN K rRg2 fRg2 := by
  refine n2_ok fun F H d d2 v v2 c Q sb h h2 e q => ?_
  unfold gRg2 at e
  split at e
  · cases e
    rename_i i j
    cases (show v = V.int i from h)
    cases (show v2 = V.int j from h2)
    refine ⟨i, j, rfl, fun p hp => ?_⟩
    obtain ⟨g1, g2⟩ := grow_upd (o := .rng i j) sb hp
    exact q _ _ _ g1 g2 ⟨p, rfl, upd_same⟩
  · cases e
theorem call_rg2 {X : Cx} : CallR X (.type "range") rRg2 := cr_range2
/-- a range object, walked -/
def iRngV (tl : TE) : TI := fun σ H R => tl σ H fun x H1 => ∃ a lo hi, x = .ref a ∧ H1 a = some (.rng lo hi) ∧ -(2 ^ 62) ≤ lo ∧ lo < 2 ^ 62 ∧ -(2 ^ 62) ≤ hi ∧ hi < 2 ^ 62 ∧ R (Itr lo (hi - lo).toNat) H1
theorem pi_rngV {X : Cx} {tg l : Expr} {tl : TE} (hl : PE X l tl) : PI X tg l (iRngV tl) := by
  refine ⟨fun pins s σ H R I h => ?_⟩
  refine thn (hl.run pins s σ H _ I h) fun v s1 ⟨x, H1, I1, r1, q1⟩ => ?_
  obtain ⟨a, lo, hi, e, ha, h1, h2, h3, h4, q⟩ := q1
  subst e
  cases r1
  obtain ⟨t, u, v, ho⟩ := I1.hok a _ ha
  refine wpAny_pyIter_range (show IsRange s1.heap a lo hi 1 t u v from ho) (small_one h1 h2 h3 h4) ?_
  refine ⟨s1.heap.objs.size, [s1.heap.objs.size], _, _, H1, rfl, I1.kept (t' := s1.toks) fun b o e => Heap.get?_push_of_some _ e, turn_range _ lo (hi - lo).toNat, ?_, fun b hb => ?_, q⟩
  · have e1 : lo + ((0 : Nat) : Int) * 1 = lo := by simp
    have e2 : (((hi - lo).toNat : Nat) : Int) - ((0 : Nat) : Int) = Builtin.Range.rangeSize lo hi 1 := by rw [rangeSize_one]; split <;> omega
    show IsRangeIter _ _ (lo + ((0 : Nat) : Int) * 1) ((((hi - lo).toNat : Nat) : Int) - ((0 : Nat) : Int)) 1
    rw [e1, e2]
    exact Heap.get?_push_size _ rfl
  · have e : b = s1.heap.objs.size := by simpa using hb
    subst e
    exact I1.fpOk (Nat.le_refl _) (I1.hok.fresh (Nat.le_refl _))
def iRgO (t : DE) : DI := fun ρ Q E => t ρ (fun d ρ1 => match d with
  | .rng lo hi => lim62 lo ∧ lim62 hi ∧ Q (rangeD lo (hi - lo).toNat) ρ1
  | _ => False) E
theorem di_rgO {X : Cx} {B : Bd} {W : WX} {tg e : Expr} {t : DE} (he : PE X e (rV B W t)) : PI X tg e (rI B W (iRgO t)) := by
  refine pi_imp (pi_rngV he) fun σ H R ⟨F, L, ρ, Qd, Ed, S, ht, hq, hx⟩ => ⟨F, L, ρ, _, Ed, S, ht, fun d ρ' v F' L' H' k S' s r => ?_, hx⟩
  split at k
  · rename_i lo hi
    obtain ⟨⟨l1, l2⟩, ⟨l3, l4⟩, k⟩ := k
    obtain ⟨a, ev, q⟩ := r
    subst ev
    exact ⟨a, lo, hi, rfl, S'.sub _ _ q, l1, l2, l3, l4, hq _ ρ' F' L' H' _ k S' s gives_range⟩
  · exact k.elim
/-! ### comprehensions with two sources -/
def lcGo2 (p : Pt) (tt : DT) (it1 : DI) (p1 : Pt) (tt1 : DT) (te : DE) (vs vs1 : List Nat) : List D → List D → En → (List D → En → Prop) → Prop
  | [], acc, ρ, Q => Q acc ρ
  | d :: ds, acc, ρ, Q => ptGo p d ρ fun ρ1 => tt ρ1 (fun b ρ2 => if b = true then it1 ρ2 (fun items ρ3 => lcGo p1 tt1 te vs1 items acc (wipeE ρ3 vs1) fun acc2 ρ4 => lcGo2 p tt it1 p1 tt1 te vs vs1 ds acc2 (wipeE ρ4 vs) Q) noX else lcGo2 p tt it1 p1 tt1 te vs vs1 ds acc (wipeE ρ2 vs) Q) noX
def mLc2 (it : DI) (p : Pt) (tt : DT) (it1 : DI) (p1 : Pt) (tt1 : DT) (te : DE) (vs vs1 : List Nat) : DC := fun ρ Q E => it ρ (fun items ρ1 => noOwn ρ1 vs = true ∧ lcGo2 p tt it1 p1 tt1 te vs vs1 items [] (wipeE ρ1 vs) fun acc ρ2 => Q (.own acc) (backE ρ2 ρ1 vs)) E
theorem on_step {F L H F' L' H'} {D : Addr} {av : List V} (s : Stp F L H F' L' H') (h1 : H D = some (.lst av)) (h2 : F D = none) (h3 : ∀ i, L i ≠ some D) : H' D = some (.lst av) ∧ F' D = none ∧ ∀ i, L' i ≠ some D := by
  refine ⟨s.h _ _ h1 h3, ?_, fun i e => h3 i (s.l i _ e)⟩
  cases e : F' D with
  | none => rfl
  | some o =>
    rcases s.fn D o e with z | z | ⟨i, z⟩
    · rw [h2] at z; cases z
    · rw [h1] at z; cases z
    · exact absurd z (h3 i)
theorem stp_put {F1 L1 H1 F L H} {D : Addr} {o : HO} (st : Stp F1 L1 H1 F L H) (hD : H1 D = none) : Stp F1 L1 H1 F L (upd H D o) :=
  ⟨st.f, fun i a h => st.l i a h, fun b o e n => by rw [upd_ne (ne_of_none e hD)]; exact st.h b o e n, st.fn, fun b e => by rw [upd_ne (fun z => e (by rw [z]; exact hD))]; exact st.al b e⟩
theorem stp_less {F L H L'} (l : ∀ i a, L' i = some a → L i = some a) : Stp F L H F L' H := ⟨Same.refl _, l, fun _ _ e _ => e, fun _ _ e => .inl e, fun _ e => e⟩
theorem lc_in {B : Bd} {it : DI} {p : Pt} {tt : DT} {te : DE} {vs : List Nat} (hio : (vs.all fun v => !B.ios.contains v) = true) (hp : ((ptNs p).all fun v => vs.contains v) = true) {σ : L2.St} {D : Addr} {F0 : Hp} {L0 : La} {H0 : Hp} (h0 : B.H0 D = none) (hD0 : H0 D = none)
    {F : Hp} {L : La} {H : Hp} {ρ : En} {acc : List DL.D} {av : List V} (S : SR B F L σ H ρ) (s0 : Stp F0 L0 H0 F L H) (d1 : H D = some (.lst av)) (d2 : F D = none) (d3 : ∀ i, L i ≠ some D) (r0 : RpL B.K F acc av) {Kn : List DL.D → En → Prop}
    (ht : it ρ (fun items ρ3 => lcGo p tt te vs items acc (wipeE ρ3 vs) Kn) noX) {Nx : Hp → Prop}
    (hN : ∀ F L ρ acc av H, SR B F L (L2.wipe σ vs) H ρ → Stp F0 L0 H0 F L H → H D = some (.lst av) → F D = none → (∀ i, L i ≠ some D) → RpL B.K F acc av → Kn acc ρ → Nx H) :
    rI B WF it σ H fun J H1 => ∃ W1 : Nat → Nat → Hp → Prop, (∃ m, W1 0 m H1) ∧ ∀ j k H, W1 j k H → (J.stop j H ∧ Nx H) ∨ (J.go j H ∧ ∃ Nx1 : Hp → Prop, (∀ H', Nx1 H' → ∃ k', k' < k ∧ W1 (j + 1) k' H') ∧ ∀ x H', J.yld j H x H' → rP B p x (L2.wipe σ vs) H' fun σ3 H5 => L2.wipe σ3 vs = L2.wipe σ vs ∧ rT B WF tt σ3 H5 fun b H6 =>
      if b = true then rV B WF te σ3 H6 fun y H7 => ∃ acc, H7 D = some (.lst acc) ∧ acc.length < sizeLine ∧ Nx1 (upd H7 D (.lst (acc ++ [y]))) else Nx1 H6) := by
  have hpv : ∀ i ∈ ptNs p, i ∈ vs := fun i hi => List.contains_iff_mem.mp (List.all_eq_true.mp hp i hi)
  refine ⟨F, L, ρ, _, noX, S, ht, fun items ρ1 F1 L1 H1 J k S1 s1 gv => ?_, noX_ok⟩
  obtain ⟨e1, e2, e3⟩ := on_step s1 d1 d2 d3
  obtain ⟨Lw, Sw, lw⟩ := S1.wipe hio
  have sw := (s0.trans s1).trans (stp_less lw)
  refine ⟨fun i m H => m = items.length - i ∧ i ≤ items.length ∧ ∃ F L ρ acc av, SR B F L (L2.wipe σ vs) H ρ ∧ Stp F0 L0 H0 F L H ∧ Same F1 F ∧ H D = some (.lst av) ∧ F D = none ∧ (∀ i, L i ≠ some D) ∧ RpL B.K F acc av ∧
    lcGo p tt te vs (items.drop i) acc ρ Kn, ⟨items.length, rfl, Nat.zero_le _, F1, Lw, _, acc, av, Sw, sw, Same.refl _, e1, e2, fun i e => e3 i (lw i _ e), r0.mono s1.f, k⟩, ?_⟩
  rintro i m H2 ⟨rfl, hi, F2, L2', ρ2, acc, av, S2, s2, m2, hD2, fD2, lD2, racc, k2⟩
  by_cases hlt : i < items.length
  · rw [List.drop_eq_getElem_cons hlt] at k2
    have subF : Same F1 H2 := m2.trans S2.sub
    refine .inr ⟨gv.go i H2 subF hlt, fun H => items.length - (i + 1) = items.length - (i + 1) ∧ i + 1 ≤ items.length ∧ ∃ F L ρ acc av, SR B F L (L2.wipe σ vs) H ρ ∧ Stp F0 L0 H0 F L H ∧ Same F1 F ∧ H D = some (.lst av) ∧ F D = none ∧ (∀ i, L i ≠ some D) ∧ RpL B.K F acc av ∧
      lcGo p tt te vs (items.drop (i + 1)) acc ρ Kn, fun H' h => ⟨_, by omega, h⟩, fun x H' y => ?_⟩
    obtain ⟨F3, d, g3, sb3, ed, rd⟩ := gv.yld i F2 H2 x H' m2 S2.sub hlt y
    rw [List.getElem?_eq_getElem hlt] at ed
    cases ed
    have S3 := S2.grow g3 sb3
    refine ⟨F3, L2', ρ2, _, items[i], S3, rd, k2, fun ρ4 σ4 L4 q4 S4 l4 w4 => ⟨?_, F3, L4, ρ4, _, noX, S4, q4, fun b ρ5 F5 L5 H5 q5 S5 s5 => ?_, noX_ok⟩⟩
    · rw [w4 vs hpv, wipe_idem fun _ h => h]
    have s3 : Stp F0 L0 H0 F3 L4 H' := (s2.trans g3.stp).trans (stp_less l4)
    have hw4 : L2.wipe σ4 vs = L2.wipe σ vs := by rw [w4 vs hpv, wipe_idem fun _ h => h]
    have hD3 : H' D = some (.lst av) := g3.h _ _ hD2
    have fD3 : F3 D = none := g3.none (by rw [hD2]; simp) fD2
    have lD4 : ∀ i, L4 i ≠ some D := fun i e => lD2 i (l4 i _ e)
    cases b with
    | false =>
      obtain ⟨d1, d2, d3⟩ := on_step s5 hD3 fD3 lD4
      obtain ⟨L6, S6, l6⟩ := S5.wipe hio
      rw [hw4] at S6
      exact ⟨rfl, hlt, F5, L6, _, acc, av, S6, (s3.trans s5).trans (stp_less l6), m2.trans (g3.f.trans s5.f), d1, d2, fun i e => d3 i (l6 i _ e), racc.mono (g3.f.trans s5.f), q5⟩
    | true =>
      refine ⟨F5, L5, ρ5, _, noX, S5, q5, fun x ρ6 xv F6 L6 H6 ⟨hz, q6⟩ S6 s6 rx => ?_, noX_ok⟩
      obtain ⟨d1, d2, d3⟩ := on_step (s5.trans s6) hD3 fD3 lD4
      have r6 := racc.mono (g3.f.trans (s5.f.trans s6.f))
      refine ⟨av, d1, by rw [← racc.length]; exact hz, rfl, hlt, ?_⟩
      obtain ⟨L7, S7, l7⟩ := (S6.poke (o := .lst (av ++ [xv])) d2 d3 h0).wipe hio
      rw [hw4] at S7
      refine ⟨F6, L7, _, acc ++ [x], av ++ [xv], S7, ?_, m2.trans (g3.f.trans (s5.f.trans s6.f)), upd_same, d2, fun i e => d3 i (l7 i _ e), r6.append (RpL.one rx), q6⟩
      exact (stp_put ((s3.trans s5).trans s6) hD0).trans (stp_less l7)
  · have e : i = items.length := by omega
    subst e
    rw [List.drop_length] at k2
    exact .inl ⟨gv.stop H2 (m2.trans S2.sub), hN F2 L2' ρ2 acc av H2 S2 s2 hD2 fD2 lD2 racc k2⟩
theorem wipe_wipe {σ σ2 : L2.St} {vs vs1 : List Nat} (h : L2.wipe σ2 vs = L2.wipe σ vs) (hv : ∀ i ∈ vs1, i ∈ vs) : L2.wipe (L2.wipe σ2 vs1) vs = L2.wipe σ vs := by
  rw [wipe_idem hv, h]
theorem lc2_imp {B : Bd} {W : WX} {it it1 : DI} {p p1 : Pt} {tt tt1 : DT} {te : DE} {vs vs1 : List Nat} (hio : (vs.all fun v => !B.ios.contains v) = true) (hp : ((ptNs p).all fun v => vs.contains v) = true) (hv1 : ∀ i ∈ vs1, i ∈ vs) (hp1 : ((ptNs p1).all fun v => vs1.contains v) = true) {σ : L2.St} {H : Hp} {Q : VK} (h : rC B W (mLc2 it p tt it1 p1 tt1 te vs vs1) σ H Q) :
    tLc2 (rI B W it) (rP B p) (rT B WF tt) (rI B WF it1) (rP B p1) (rT B WF tt1) (rV B WF te) vs vs1 σ H Q := by
  obtain ⟨F, L, ρ, Qd, Ed, S, ht, hq, hx⟩ := h
  refine ⟨F, L, ρ, _, Ed, S, ht, fun items ρ1 F1 L1 H1 J ⟨kn, k⟩ S1 s1 gv D hD => ?_, hx⟩
  have hpv : ∀ i ∈ ptNs p, i ∈ vs := fun i hi => List.contains_iff_mem.mp (List.all_eq_true.mp hp i hi)
  have hio1 : (vs1.all fun v => !B.ios.contains v) = true := List.all_eq_true.mpr fun v hv => List.all_eq_true.mp hio v (hv1 v hv)
  have fD : F1 D = none := S1.sub.free hD
  have lD : ∀ i, L1 i ≠ some D := fun i e => by
    obtain ⟨_, _, _, _, q3, _⟩ := S1.own e
    rw [hD] at q3; cases q3
  have h0 : B.H0 D = none := by
    cases e : B.H0 D with
    | none => rfl
    | some o => exact absurd hD (S1.al D (by rw [e]; simp))
  obtain ⟨Lw, Sw, lw⟩ := (S1.poke (o := .lst []) fD lD h0).wipe hio
  refine ⟨fun i m H => m = items.length - i ∧ i ≤ items.length ∧ ∃ F L ρ acc av, SR B F L (L2.wipe σ vs) H ρ ∧ Stp F1 L1 H1 F L H ∧ H D = some (.lst av) ∧ F D = none ∧ (∀ i, L i ≠ some D) ∧ RpL B.K F acc av ∧
    lcGo2 p tt it1 p1 tt1 te vs vs1 (items.drop i) acc ρ fun acc ρ2 => Qd (.own acc) (backE ρ2 ρ1 vs), ⟨items.length, rfl, Nat.zero_le _, F1, Lw, _, [], [], Sw, ?_, upd_same, fD, fun i e => lD i (lw i _ e), rfl, k⟩, ?_⟩
  · exact (stp_put (Stp.refl _ _ _) hD).trans (stp_less lw)
  rintro i m H2 ⟨rfl, hi, F2, L2', ρ2, acc, av, S2, s2, hD2, fD2, lD2, racc, k2⟩
  by_cases hlt : i < items.length
  · rw [List.drop_eq_getElem_cons hlt] at k2
    have subF : Same F1 H2 := s2.f.trans S2.sub
    refine .inr ⟨gv.go i H2 subF hlt, fun H => items.length - (i + 1) = items.length - (i + 1) ∧ i + 1 ≤ items.length ∧ ∃ F L ρ acc av, SR B F L (L2.wipe σ vs) H ρ ∧ Stp F1 L1 H1 F L H ∧ H D = some (.lst av) ∧ F D = none ∧ (∀ i, L i ≠ some D) ∧ RpL B.K F acc av ∧
      lcGo2 p tt it1 p1 tt1 te vs vs1 (items.drop (i + 1)) acc ρ fun acc ρ2 => Qd (.own acc) (backE ρ2 ρ1 vs), fun H' h => ⟨_, by omega, h⟩, fun x H' y => ?_⟩
    obtain ⟨F3, d, g3, sb3, ed, rd⟩ := gv.yld i F2 H2 x H' s2.f S2.sub hlt y
    rw [List.getElem?_eq_getElem hlt] at ed
    cases ed
    have S3 := S2.grow g3 sb3
    refine ⟨F3, L2', ρ2, _, items[i], S3, rd, k2, fun ρ4 σ4 L4 q4 S4 l4 w4 => ⟨?_, F3, L4, ρ4, _, noX, S4, q4, fun b ρ5 F5 L5 H5 q5 S5 s5 => ?_, noX_ok⟩⟩
    · rw [w4 vs hpv, wipe_idem fun _ h => h]
    have s3 : Stp F1 L1 H1 F3 L4 H' := (s2.trans g3.stp).trans (stp_less l4)
    have hw4 : L2.wipe σ4 vs = L2.wipe σ vs := by rw [w4 vs hpv, wipe_idem fun _ h => h]
    have hD3 : H' D = some (.lst av) := g3.h _ _ hD2
    have fD3 : F3 D = none := g3.none (by rw [hD2]; simp) fD2
    have lD4 : ∀ i, L4 i ≠ some D := fun i e => lD2 i (l4 i _ e)
    obtain ⟨d1, d2, d3⟩ := on_step s5 hD3 fD3 lD4
    cases b with
    | false =>
      obtain ⟨L6, S6, l6⟩ := S5.wipe hio
      rw [hw4] at S6
      exact ⟨rfl, hlt, F5, L6, _, acc, av, S6, (s3.trans s5).trans (stp_less l6), d1, d2, fun i e => d3 i (l6 i _ e), racc.mono (g3.f.trans s5.f), q5⟩
    | true =>
      refine lc_in hio1 hp1 h0 hD S5 (s3.trans s5) d1 d2 d3 (racc.mono (g3.f.trans s5.f)) q5 fun F6 L6 ρ6 acc6 av6 H6 S6 s6 c1 c2 c3 r6 q6 => ?_
      obtain ⟨L7, S7, l7⟩ := S6.wipe hio
      rw [wipe_wipe hw4 hv1] at S7
      exact ⟨rfl, hlt, F6, L7, _, acc6, av6, S7, s6.trans (stp_less l7), c1, c2, fun i e => c3 i (l7 i _ e), r6, q6⟩
  · have e : i = items.length := by omega
    subst e
    rw [List.drop_length] at k2
    refine .inl ⟨gv.stop H2 (s2.f.trans S2.sub), hq (.own acc) _ _ F2 L2' H2 k2 (S1.back kn S2 s2.f) (s1.trans s2) ⟨D, av, rfl, hD2, fD2, lD2, h0, racc, .inl ?_⟩⟩
    cases e : H D with
    | none => rfl
    | some o => exact absurd hD (s1.al D (by rw [e]; simp))
section
variable {X : Cx} {B : Bd} {W : WX} {pos : Pos}
theorem dc_lc2 {elt tg iter tg1 iter1 : Expr} {ifs ifs1 : List Expr} {scope : Scope} (own : List (Str × Nat)) (vs1 : List Nat) {it it1 : DI} {p p1 : Pt} {tt tt1 : DT} {te : DE} (hc : X.calm = true) (hN : X.N.Nodup) (hi : PI X tg iter (rI B W it))
    (hg : ∀ (s : Shared) (H : Hp) (C : Addr) (cl : List (Str × Addr)) (fp : List Addr), PG (X.blk s H scope (compEnvC scope cl C X.env) fp) tg (rP B p)) (ht : ∀ (s : Shared) (H : Hp) (C : Addr) (cl : List (Str × Addr)) (fp : List Addr), PTs (X.blk s H scope (compEnvC scope cl C X.env) fp) ifs (rT B WF tt))
    (hi1 : ∀ (s : Shared) (H : Hp) (C : Addr) (cl : List (Str × Addr)) (fp : List Addr), PI (X.blk s H scope (compEnvC scope cl C X.env) fp) tg1 iter1 (rI B WF it1))
    (hg1 : ∀ (s : Shared) (H : Hp) (C : Addr) (cl : List (Str × Addr)) (fp : List Addr), PG (X.blk s H scope (compEnvC scope cl C X.env) fp) tg1 (rP B p1)) (ht1 : ∀ (s : Shared) (H : Hp) (C : Addr) (cl : List (Str × Addr)) (fp : List Addr), PTs (X.blk s H scope (compEnvC scope cl C X.env) fp) ifs1 (rT B WF tt1))
    (he : ∀ (s : Shared) (H : Hp) (C : Addr) (cl : List (Str × Addr)) (fp : List Addr), PE (X.blk s H scope (compEnvC scope cl C X.env) fp) elt (rV B WF te)) (ok : blkC X.N X.env.scope scope own = true := by rfl) (hio : ((own.map (·.2)).all fun v => !B.ios.contains v) = true := by rfl) (hp : ((ptNs p).all fun v => (own.map (·.2)).contains v) = true := by rfl)
    (hv1 : (vs1.all fun v => (own.map (·.2)).contains v) = true := by rfl) (hp1 : ((ptNs p1).all fun v => vs1.contains v) = true := by rfl)
    (hs : ∀ x, foldedSetIterable iter X.env x = pure x := by intro _; rfl) (hs1 : ∀ env x, foldedSetIterable iter1 env x = pure x := by intro _ _; rfl) : PE X (.ListComp elt [⟨tg, iter, ifs, 0⟩, ⟨tg1, iter1, ifs1, 0⟩] scope pos) (rC B W (mLc2 it p tt it1 p1 tt1 te (own.map (·.2)) vs1)) :=
  have hv : ∀ i ∈ vs1, i ∈ own.map (·.2) := fun i hi => List.contains_iff_mem.mp (List.all_eq_true.mp hv1 i hi)
  pe_imp (pe_lc2 hc hN hi (blkOk_by ok) hv hg ht hi1 hg1 ht1 he hs hs1) fun _ _ _ h => lc2_imp hio hp hv hp1 h
theorem ds_setLc2 (i : Nat) {y : Str} {py : Pos} {elt tg iter tg1 iter1 : Expr} {ifs ifs1 : List Expr} {scope : Scope} {spos : Pos} (own : List (Str × Nat)) (vs1 : List Nat) {it it1 : DI} {p p1 : Pt} {tt tt1 : DT} {te : DE} (hc : X.calm = true) (hN : X.N.Nodup) (hi : PI X tg iter (rI B W it))
    (hg : ∀ (s : Shared) (H : Hp) (C : Addr) (cl : List (Str × Addr)) (fp : List Addr), PG (X.blk s H scope (compEnvC scope cl C X.env) fp) tg (rP B p)) (ht : ∀ (s : Shared) (H : Hp) (C : Addr) (cl : List (Str × Addr)) (fp : List Addr), PTs (X.blk s H scope (compEnvC scope cl C X.env) fp) ifs (rT B WF tt))
    (hi1 : ∀ (s : Shared) (H : Hp) (C : Addr) (cl : List (Str × Addr)) (fp : List Addr), PI (X.blk s H scope (compEnvC scope cl C X.env) fp) tg1 iter1 (rI B WF it1))
    (hg1 : ∀ (s : Shared) (H : Hp) (C : Addr) (cl : List (Str × Addr)) (fp : List Addr), PG (X.blk s H scope (compEnvC scope cl C X.env) fp) tg1 (rP B p1)) (ht1 : ∀ (s : Shared) (H : Hp) (C : Addr) (cl : List (Str × Addr)) (fp : List Addr), PTs (X.blk s H scope (compEnvC scope cl C X.env) fp) ifs1 (rT B WF tt1))
    (he : ∀ (s : Shared) (H : Hp) (C : Addr) (cl : List (Str × Addr)) (fp : List Addr), PE (X.blk s H scope (compEnvC scope cl C X.env) fp) elt (rV B WF te)) (hsw : swapsWith (.ListComp elt [⟨tg, iter, ifs, 0⟩, ⟨tg1, iter1, ifs1, 0⟩] scope pos) (some (.Name y py)) spos.line X.env = pure true := by exact sw_true rfl rfl rfl rfl)
    (hy : X.N[i]? = some y := by rfl) (hyl : X.env.scope.names.lookup y = some .local := by rfl) (hioi : B.ios.contains i = false := by rfl) (ok : blkC X.N X.env.scope scope own = true := by rfl) (hio : ((own.map (·.2)).all fun v => !B.ios.contains v) = true := by rfl) (hp : ((ptNs p).all fun v => (own.map (·.2)).contains v) = true := by rfl)
    (hv1 : (vs1.all fun v => (own.map (·.2)).contains v) = true := by rfl) (hp1 : ((ptNs p1).all fun v => vs1.contains v) = true := by rfl)
    (hs : ∀ x, foldedSetIterable iter X.env x = pure x := by intro _; rfl) (hs1 : ∀ env x, foldedSetIterable iter1 env x = pure x := by intro _ _; rfl) : PS X (.Assign [.Name y py] (.ListComp elt [⟨tg, iter, ifs, 0⟩, ⟨tg1, iter1, ifs1, 0⟩] scope pos) spos) (rS B W (mAsg (.nm i) (mLc2 it p tt it1 p1 tt1 te (own.map (·.2)) vs1))) := by
  have hv : ∀ i ∈ vs1, i ∈ own.map (·.2) := fun i hi => List.contains_iff_mem.mp (List.all_eq_true.mp hv1 i hi)
  refine ps_impL (ps_setLc2 hc hN hy hyl hsw hi (blkOk_by ok) hv hg ht hi1 hg1 ht1 he hs hs1) fun D σ H hl h => ?_
  obtain ⟨F, L, ρ, Dd, S, q, o⟩ := h
  have hlt : i < σ.length := by rw [hl]; exact (List.getElem?_eq_some_iff.mp hy).1
  refine lc2_imp hio hp hv hp1 ⟨F, L, ρ, _, Dd.ex, S, q, fun c ρ1 v F1 L1 H1 k S1 s1 r1 => ?_, o.ex⟩
  have k' : Dd.nx (ρ1.set i (some c)) := k
  cases c with
  | val d => exact o.nx _ _ _ _ _ k' (S1.put hioi hlt r1) s1.f
  | own ds =>
    obtain ⟨a, vs, e, h1, h2, h3, h4, h5, _⟩ := r1
    subst e
    exact o.nx _ _ _ _ _ k' (S1.putO hioi hlt h1 h2 h3 h4 h5) s1.f
theorem ds_setLcV2 (i : Nat) {y : Str} {py : Pos} {elt tg iter tg1 iter1 : Expr} {ifs ifs1 : List Expr} {scope : Scope} {spos : Pos} (own : List (Str × Nat)) (vs1 : List Nat) {it it1 : DI} {p p1 : Pt} {tt tt1 : DT} {te : DE} (hc : X.calm = true) (hN : X.N.Nodup) (hi : PI X tg iter (rI B W it))
    (hg : ∀ (s : Shared) (H : Hp) (C : Addr) (cl : List (Str × Addr)) (fp : List Addr), PG (X.blk s H scope (compEnvC scope cl C X.env) fp) tg (rP B p)) (ht : ∀ (s : Shared) (H : Hp) (C : Addr) (cl : List (Str × Addr)) (fp : List Addr), PTs (X.blk s H scope (compEnvC scope cl C X.env) fp) ifs (rT B WF tt))
    (hi1 : ∀ (s : Shared) (H : Hp) (C : Addr) (cl : List (Str × Addr)) (fp : List Addr), PI (X.blk s H scope (compEnvC scope cl C X.env) fp) tg1 iter1 (rI B WF it1))
    (hg1 : ∀ (s : Shared) (H : Hp) (C : Addr) (cl : List (Str × Addr)) (fp : List Addr), PG (X.blk s H scope (compEnvC scope cl C X.env) fp) tg1 (rP B p1)) (ht1 : ∀ (s : Shared) (H : Hp) (C : Addr) (cl : List (Str × Addr)) (fp : List Addr), PTs (X.blk s H scope (compEnvC scope cl C X.env) fp) ifs1 (rT B WF tt1))
    (he : ∀ (s : Shared) (H : Hp) (C : Addr) (cl : List (Str × Addr)) (fp : List Addr), PE (X.blk s H scope (compEnvC scope cl C X.env) fp) elt (rV B WF te)) (hsw : swapsWith (.ListComp elt [⟨tg, iter, ifs, 0⟩, ⟨tg1, iter1, ifs1, 0⟩] scope pos) (some (.Name y py)) spos.line X.env = pure true := by exact sw_true rfl rfl rfl rfl)
    (hy : X.N[i]? = some y := by rfl) (hyl : X.env.scope.names.lookup y = some .local := by rfl) (hioi : B.ios.contains i = false := by rfl) (ok : blkC X.N X.env.scope scope own = true := by rfl) (hio : ((own.map (·.2)).all fun v => !B.ios.contains v) = true := by rfl) (hp : ((ptNs p).all fun v => (own.map (·.2)).contains v) = true := by rfl)
    (hv1 : (vs1.all fun v => (own.map (·.2)).contains v) = true := by rfl) (hp1 : ((ptNs p1).all fun v => vs1.contains v) = true := by rfl)
    (hs : ∀ x, foldedSetIterable iter X.env x = pure x := by intro _; rfl) (hs1 : ∀ env x, foldedSetIterable iter1 env x = pure x := by intro _ _; rfl) : PS X (.Assign [.Name y py] (.ListComp elt [⟨tg, iter, ifs, 0⟩, ⟨tg1, iter1, ifs1, 0⟩] scope pos) spos) (rS B W (mAsg (.nm i) (vl (frz (mLc2 it p tt it1 p1 tt1 te (own.map (·.2)) vs1))))) := by
  have hv : ∀ i ∈ vs1, i ∈ own.map (·.2) := fun i hi => List.contains_iff_mem.mp (List.all_eq_true.mp hv1 i hi)
  refine ps_impL (ps_setLc2 hc hN hy hyl hsw hi (blkOk_by ok) hv hg ht hi1 hg1 ht1 he hs hs1) fun D σ H hl h => ?_
  obtain ⟨F, L, ρ, Dd, S, q, o⟩ := h
  have hlt : i < σ.length := by rw [hl]; exact (List.getElem?_eq_some_iff.mp hy).1
  refine lc2_imp hio hp hv hp1 ⟨F, L, ρ, fun c ρ1 => Dd.nx (ρ1.set i (some (.val c.toD))), Dd.ex, S, q, fun c ρ1 v F1 L1 H1 k S1 s1 r1 => ?_, o.ex⟩
  have k' : Dd.nx (ρ1.set i (some (.val c.toD))) := k
  cases c with
  | val d => exact o.nx _ _ _ _ _ k' (S1.put hioi hlt r1) s1.f
  | own ds =>
    obtain ⟨a, vs, e, h1, h2, h3, h4, h5, _⟩ := r1
    subst e
    exact o.nx _ _ _ _ _ k' ((S1.freeze h1 h2 h3 h4).put hioi hlt ⟨a, vs, rfl, upd_same, h5.mono (same_upd h2)⟩) (s1.f.trans (same_upd h2))
end
/-! ### displays with stars: (*xs, y, ..) -/
abbrev DK := En → (List D → En → Prop) → DX → Prop
def kN : DK := fun ρ Q _ => Q [] ρ
def kC (t : DE) (k : DK) : DK := fun ρ Q E => t ρ (fun d ρ1 => k ρ1 (fun ds => Q (d :: ds)) E) E
def kS (t : DE) (k : DK) : DK := fun ρ Q E => t ρ (fun d ρ1 => match seqOf d with
  | some xs => k ρ1 (fun ds => Q (xs ++ ds)) E
  | none => False) E
def rDx (B : Bd) (W : WX) (k : DK) : TA := fun σ H Q => ∃ F L ρ Qd Ed, SR B F L σ H ρ ∧ k ρ Qd Ed ∧
  (∀ ds ρ' vs F' L' H', Qd ds ρ' → SR B F' L' σ H' ρ' → Stp F L H F' L' H' → RpL B.K F' ds vs → Q vs H') ∧ XOk B W F Ed
section
variable {X : Cx} {B : Bd} {W : WX} {pos p : Pos} {e : Expr} {es : List Expr} {t : DE} {k : DK}
theorem dxn : PA X [] (rDx B W kN) := pa_imp pa_nil fun σ H Q ⟨F, L, ρ, Qd, Ed, S, ht, hq, hx⟩ => hq [] ρ [] F L H ht S (Stp.refl _ _ _) rfl
theorem dxc (ha : PE X e (rV B W t)) (hr : PA X es (rDx B W k)) (hs : starEach (e :: es) X.env = (false, eval e X.env) :: starEach es X.env := by rfl) : PA X (e :: es) (rDx B W (kC t k)) :=
  pa_imp (pa_cons ha hr hs) fun σ H Q ⟨F, L, ρ, Qd, Ed, S, ht, hq, hx⟩ =>
    ⟨F, L, ρ, _, Ed, S, ht, fun d ρ1 v F1 L1 H1 q1 S1 s1 r1 => ⟨F1, L1, ρ1, _, Ed, S1, q1, fun ds ρ2 vs F2 L2 H2 q2 S2 s2 r2 => hq (d :: ds) ρ2 (v :: vs) F2 L2 H2 q2 S2 (s1.trans s2) ⟨v, vs, rfl, r1.mono s2.f, r2⟩, hx.mono s1.f⟩, hx⟩
theorem dxs (ha : PE X e (rV B W t)) (hr : PA X es (rDx B W k)) (hK : B.K = X.K := by rfl) (hs : starEach (.Starred e p :: es) X.env = (true, eval e X.env) :: starEach es X.env := by rfl) : PA X (.Starred e p :: es) (rDx B W (kS t k)) :=
  pa_imp (StX.pa_star ha hr hs) fun σ H Q ⟨F, L, ρ, Qd, Ed, S, ht, hq, hx⟩ =>
    ⟨F, L, ρ, _, Ed, S, ht, fun d ρ1 v F1 L1 H1 q1 S1 s1 r1 => by
      split at q1
      · rename_i xs e
        obtain ⟨a, vs, b, ev, q, rl⟩ := seqOf_ok r1 e
        subst ev
        refine ⟨a, vs, rfl, ?_, F1, L1, ρ1, _, Ed, S1, q1, fun ds ρ2 us F2 L2 H2 q2 S2 s2 r2 => hq (xs ++ ds) ρ2 (vs ++ us) F2 L2 H2 q2 S2 (s1.trans s2) ((rl.mono s2.f).append r2), hx.mono s1.f⟩
        cases b with
        | true => exact .inr (hK ▸ S1.sub.seq q)
        | false => exact .inl (hK ▸ Same.tseq S1.sub q)
      · exact q1.elim, hx⟩
def mTupK (k : DK) : DE := fun ρ Q E => k ρ (fun ds ρ1 => ds.length ≤ sizeLine ∧ Q (.tup ds) ρ1) E
theorem de_tupK {j : Nat} (h : PA X es (rDx B W k)) : PE X (.Tuple es j pos) (rV B W (mTupK k)) := by
  refine pe_imp (pe_tup h) fun σ H Q ⟨F, L, ρ, Qd, Ed, S, ht, hq, hx⟩ => ⟨F, L, ρ, _, Ed, S, ht, fun ds ρ1 vs F1 L1 H1 ⟨hl, k⟩ S1 s1 r1 => ⟨by rw [← r1.length]; exact hl, fun p hp => ?_⟩, hx⟩
  obtain ⟨g, s⟩ := grow_upd (o := .tup vs) S1.sub hp
  exact hq (.tup ds) ρ1 _ _ L1 _ k (S1.grow g s) (s1.trans g.stp) ⟨p, vs, rfl, SqT.of upd_same, r1.mono g.f⟩
end
end DL
/-! The data layer: dicts: k in d, d[k], len(d). -/
namespace DL
open PySem PySem.Spec PyProof.Rows L2
def keyD : D → Option Key
  | .int i => some (.inl i)
  | .str x => some (.inr x)
  | _ => none
def lookK : List Key → List D → Key → Option D
  | k :: ks, d :: ds, j => if k = j then some d else lookK ks ds j
  | _, _, _ => none
theorem keyD_ok {K : PySem.W.Frag} {F H : Hp} {d : D} {v : V} {k : Key} (h : RpV K F H d v) (e : keyD d = some k) : v = kV k := by
  cases d <;> first | (cases e; done) | skip
  · cases e
    exact h
  · cases e
    exact h
theorem lookK_ok {K : PySem.W.Frag} {F : Hp} {j : Key} : ∀ {ks : List Key} {ds : List D} {vs : List V}, RpL K F ds vs → (match lookK ks ds j with
    | some d => ∃ v, valV (ks.zip vs) j = some v ∧ Rp K F d v
    | none => ks.length = ds.length → valV (ks.zip vs) j = none)
  | [], _, _, _ => fun _ => rfl
  | k :: ks, [], _, _ => by
    intro h
    simp at h
  | k :: ks, d :: ds, _, h => by
    obtain ⟨v, r, rfl, h1, h2⟩ := h
    have ih := lookK_ok (ks := ks) (j := j) h2
    unfold lookK
    rw [List.zip_cons_cons]
    by_cases e : k = j
    · rw [if_pos e]
      exact ⟨v, valV_pos (p := (k, v)) e, h1⟩
    · rw [if_neg e, valV_neg (p := (k, v)) e]
      cases hl : lookK ks ds j with
      | some d => rw [hl] at ih; exact ih
      | none =>
        rw [hl] at ih
        intro hn
        exact ih (by simpa using hn)
def fInK : DOp2
  | x, .dic ks ds => (keyD x).map fun k => .val (.bl (lookK ks ds k).isSome)
  | x, y => fIn x y
def rInK (K : PySem.W.Frag) : R2 := fun y x H Q => rInA K y x H Q ∨ ∃ a ov, x = .ref a ∧ DGet H a y ov ∧ Q (.bl ov.isSome) H
theorem op_inK {X : Cx} (hu : X.A.units + 65 < cLine) : OpR X (compareOp .In) (rInK X.K) := OpR.or (op_inA hu) (by
  intro pins s σ H y x v u Q I ry rx h
  obtain ⟨a, ov, rfl, g, q⟩ := h
  cases rx
  exact d_in (by omega) I g ry fun s3 I3 => ⟨.bl ov.isSome, H, I3, rfl, q⟩)
theorem fInK_ok {K : PySem.W.Frag} : Op2 K (rInK K) fInK := by
  intro F H d1 d2 v1 v2 c Q sb h1 h2 e q
  cases d2 <;> first | (exact .inl (fIn_ok F H _ _ v1 v2 c Q sb h1 h2 e q)) | skip
  rename_i ks ds
  have e' : ((keyD d1).map fun k => Cell.val (.bl (lookK ks ds k).isSome)) = some c := e
  cases ek : keyD d1 with
  | none => rw [ek] at e'; cases e'
  | some k =>
    rw [ek] at e'
    cases e'
    obtain ⟨a, vs, rfl, ha, hl, hr⟩ := (show Rp K F (.dic ks ds) v2 from h2)
    rw [keyD_ok h1 ek]
    refine .inr ⟨a, valV (ks.zip vs) k, rfl, DGet.k (sb _ _ ha), ?_⟩
    have ok := lookK_ok (ks := ks) (j := k) hr
    have es : (valV (ks.zip vs) k).isSome = (lookK ks ds k).isSome := by
      cases hlk : lookK ks ds k with
      | some d =>
        rw [hlk] at ok
        obtain ⟨v, hv, _⟩ := ok
        rw [hv]
        rfl
      | none =>
        rw [hlk] at ok
        rw [ok (by rw [hl, ← hr.length])]
        rfl
    rw [es]
    exact fin_val sb q rfl
def fIxK : DOp2
  | .dic ks ds, y => (keyD y).bind fun k => (lookK ks ds k).map .val
  | x, y => fIx x y
def rIxK (K : PySem.W.Frag) : R2 := fun x y H Q => rIx K x y H Q ∨ ∃ a v, x = .ref a ∧ DGet H a y (some v) ∧ Q v H
theorem ix_seqK {X : Cx} (hu : X.A.units + 65 < cLine) : IxR X (rIxK X.K) := ix_seq.or (by
  intro value slice pins s σ H x y v u Q I rx ry h hs
  obtain ⟨a, z, rfl, g, q⟩ := h
  cases rx
  exact tail_any (dict_typeIs I g) PySem.F.slot_dict_getitem.lookup (d_getItem (by omega) I g ry fun w' s3 I3 rw' => ⟨z, H, I3, rw', q⟩) hs)
theorem fIxK_ok {K : PySem.W.Frag} : Op2 K (rIxK K) fIxK := by
  intro F H d1 d2 v1 v2 c Q sb h1 h2 e q
  cases d1 <;> first | (exact .inl (fIx_ok F H _ _ v1 v2 c Q sb h1 h2 e q)) | skip
  rename_i ks ds
  have e' : ((keyD d2).bind fun k => (lookK ks ds k).map Cell.val) = some c := e
  cases ek : keyD d2 with
  | none => rw [ek] at e'; cases e'
  | some k =>
    rw [ek] at e'
    have e2 : (lookK ks ds k).map Cell.val = some c := e'
    obtain ⟨a, vs, rfl, ha, hl, hr⟩ := (show Rp K F (.dic ks ds) v1 from h1)
    rw [keyD_ok h2 ek]
    have ok := lookK_ok (ks := ks) (j := k) hr
    cases hlk : lookK ks ds k with
    | none => rw [hlk] at e2; cases e2
    | some d =>
      rw [hlk] at e2 ok
      cases e2
      obtain ⟨v, hv, rv⟩ := ok
      refine .inr ⟨a, v, rfl, ?_, fin_val sb q rv⟩
      rw [← hv]
      exact DGet.k (sb _ _ ha)
def gLenK : D → Option Cell
  | .dic ks _ => some (.val (.int (ks.length : Nat)))
  | d => gLen d
abbrev fLenK : DOpN := n1 gLenK
def rLenK (K : PySem.W.Frag) : List V → Hp → VK → Prop := fun xs H Q => rLen K xs H Q ∨ ∃ a kvs, xs = [V.ref a] ∧ H a = some (.dK kvs) ∧ Q (.int kvs.length) H
theorem call_lenK {X : Cx} : CallR X (.builtin "len") (rLenK X.K) := call_len.or call_lenD
theorem fLenK_ok {K : PySem.W.Frag} : OpN K (rLenK K) fLenK := by
  refine n1_ok fun F H d v c Q sb h e q => ?_
  cases d <;> first | (exact .inl (fLen_ok F H [_] [v] c Q sb ⟨v, [], rfl, h, rfl⟩ e q)) | skip
  rename_i ks ds
  cases e
  obtain ⟨a, vs, rfl, ha, hl, hr⟩ := (show Rp K F (.dic ks ds) v from h)
  refine .inr ⟨a, _, rfl, sb _ _ ha, ?_⟩
  have en : (ks.zip vs).length = ks.length := by rw [List.length_zip]; omega
  rw [en]
  exact fin_val sb q rfl
end DL
namespace L2
open PySem PySem.Spec PyProof.Rows
section
variable {X : Cx}
theorem ps_setDc {i : Nat} {y : Str} {py : Pos} {kx vx tg iter : Expr} {ifs : List Expr} {scope : Scope} {own : List (Str × Nat)} {pos spos : Pos} {wi : TI} {g : TG} {tt : TT} {tk tv : TE} (hc : X.calm = true) (hN : X.N.Nodup) (hy : X.N[i]? = some y) (hyl : X.env.scope.names.lookup y = some .local)
    (hsw : swapsWith (.DictComp kx vx [⟨tg, iter, ifs, 0⟩] scope pos) (some (.Name y py)) spos.line X.env = pure true) (hi : PI X tg iter wi) (ok : BlkOk X.N X.env.scope scope own)
    (hg : ∀ (s : Shared) (H : Hp) (C : Addr) (cl : List (Str × Addr)) (fp : List Addr), PG (X.blk s H scope (compEnvC scope cl C X.env) fp) tg g) (ht : ∀ (s : Shared) (H : Hp) (C : Addr) (cl : List (Str × Addr)) (fp : List Addr), PTs (X.blk s H scope (compEnvC scope cl C X.env) fp) ifs tt)
    (hk : ∀ (s : Shared) (H : Hp) (C : Addr) (cl : List (Str × Addr)) (fp : List Addr), PE (X.blk s H scope (compEnvC scope cl C X.env) fp) kx tk)
    (he : ∀ (s : Shared) (H : Hp) (C : Addr) (cl : List (Str × Addr)) (fp : List Addr), PE (X.blk s H scope (compEnvC scope cl C X.env) fp) vx tv) (hs : ∀ x, foldedSetIterable iter X.env x = pure x := by intro _; rfl) :
    PS X (.Assign [.Name y py] (.DictComp kx vx [⟨tg, iter, ifs, 0⟩] scope pos) spos) (tAsg (tDc wi g tt tk tv (own.map (·.2))) (gName i)) := by
  refine ⟨fun pins s σ H D I h => ?_⟩
  rw [exec_Assign_Name_used _ _ _ _ hsw]
  refine wpAny_bind (wpAny_standAt (wpAny_bind ?_))
  show wpAny _ X.A (do let _ ← comprehension (.DictComp kx vx [⟨tg, iter, ifs, 0⟩] scope pos) scope X.env (firstIterPos [⟨tg, iter, ifs, 0⟩] pos) newDict false (eval iter X.env) (some (assign (.Name y py) X.env))) _ _ s
  have h : tDc wi g tt tk tv (own.map (·.2)) σ H (fun x H1 => gName i x σ H1 D.nx) := h
  refine wpAny_bind (thn (dc_core (Qf := fun _ s' => SP X pins D .next s') hc hN I hi ok hg ht hk he hs h fun L C s' m H' I' q hn f => ?_) fun _ s' hq => wpAny_pure (wpAny_pure hq))
  show wpAny _ _ (assign (.Name y py) X.env (.ref L)) _ _ _
  refine wpAny_assign_Name (store_ok2 (v := V.ref L) I' hN hy (.inl hyl) rfl (fun s2 I2 ⟨a, sb, ha⟩ => ?_) (.inr hyl))
  obtain ⟨f0, f1, f2, f3, f4, f5⟩ := f
  have haC : C ≠ a := by
    rcases ha with z | z
    · rw [z]; exact f1
    · exact fun e => f4 y a z e.symm
  refine ⟨m, hn.sameBut sb haC, fun h3 sb3 => ?_⟩
  exact ⟨_, H', I2.turned (t' := s2.toks) (fun b o hb e => (sb3.2 b hb).trans e) f0 f1 f3 f4 f5, q⟩
theorem sw_trueD {kx vx : Expr} {gs : List Comprehension} {scope : Scope} {pos py : Pos} {y : Str} {l : Nat} {env : Env} (hk : env.scope.kind = .function) (hy : env.scope.names.lookup y = some .local) (hl : (py.line == pos.line) = true)
    (ha : (scope.names.any fun (n, k) => n == y && (k == .local || k == .cell)) = false) : swapsWith (.DictComp kx vx gs scope pos) (some (.Name y py)) l env = pure true := by
  have ky : env.kindOf y = some .local := hy
  have hb : env.blockKind = .function := by unfold Env.blockKind; rw [hk]; rfl
  unfold swapsWith
  simp only [hb, ky, ha, Expr.pos, hl]
  rfl
end
end L2
/-! The data layer: dicts that are only read: comprehensions, displays of one pair, get, not in. -/
namespace DL
open PySem PySem.Spec PyProof.Rows L2
def putD (acc : List (Key × D)) (k : Key) (d : D) : List (Key × D) :=
  if (acc.any fun p => decide (p.1 = k)) = true then acc.map (fun p => if p.1 = k then (p.1, d) else p) else acc ++ [(k, d)]
abbrev dicD (acc : List (Key × D)) : D := .dic (acc.map (·.1)) (acc.map (·.2))
def AccR (K : PySem.W.Frag) (F : Hp) : List (Key × D) → List (Key × V) → Prop
  | [], kvs => kvs = []
  | p :: acc, kvs => ∃ v r, kvs = (p.1, v) :: r ∧ Rp K F p.2 v ∧ AccR K F acc r
section
variable {K : PySem.W.Frag} {F F' : Hp}
theorem AccR.mono (s : Same F F') : ∀ {acc : List (Key × D)} {kvs : List (Key × V)}, AccR K F acc kvs → AccR K F' acc kvs
  | [], _, h => h
  | _ :: _, _, ⟨v, r, e, h1, h2⟩ => ⟨v, r, e, h1.mono s, AccR.mono s h2⟩
theorem AccR.any (k : Key) : ∀ {acc : List (Key × D)} {kvs : List (Key × V)}, AccR K F acc kvs → (acc.any fun p => decide (p.1 = k)) = kvs.any fun p => decide (p.1 = k)
  | [], _, h => by cases (show _ = [] from h); rfl
  | p :: acc, _, ⟨v, r, e, h1, h2⟩ => by
    subst e
    rw [List.any_cons, List.any_cons, AccR.any k h2]
theorem AccR.len : ∀ {acc : List (Key × D)} {kvs : List (Key × V)}, AccR K F acc kvs → acc.length = kvs.length
  | [], _, h => by cases (show _ = [] from h); rfl
  | p :: acc, _, ⟨v, r, e, h1, h2⟩ => by
    subst e
    rw [List.length_cons, List.length_cons, AccR.len h2]
theorem AccR.map {k : Key} {d : D} {v : V} (hd : Rp K F d v) : ∀ {acc : List (Key × D)} {kvs : List (Key × V)}, AccR K F acc kvs → AccR K F (acc.map fun p => if p.1 = k then (p.1, d) else p) (kvs.map fun p => if p.1 = k then (p.1, v) else p)
  | [], _, h => by cases (show _ = [] from h); rfl
  | p :: acc, _, ⟨w, r, e, h1, h2⟩ => by
    subst e
    rw [List.map_cons, List.map_cons]
    by_cases hk : p.1 = k
    · rw [if_pos hk, if_pos (show (p.1, w).1 = k from hk)]
      exact ⟨v, _, rfl, hd, AccR.map hd h2⟩
    · rw [if_neg hk, if_neg (show ¬ (p.1, w).1 = k from hk)]
      exact ⟨w, _, rfl, h1, AccR.map hd h2⟩
theorem AccR.snoc {k : Key} {d : D} {v : V} (hd : Rp K F d v) : ∀ {acc : List (Key × D)} {kvs : List (Key × V)}, AccR K F acc kvs → AccR K F (acc ++ [(k, d)]) (kvs ++ [(k, v)])
  | [], _, h => by cases (show _ = [] from h); exact ⟨v, [], rfl, hd, rfl⟩
  | p :: acc, _, ⟨w, r, e, h1, h2⟩ => by
    subst e
    exact ⟨w, _, rfl, h1, AccR.snoc hd h2⟩
theorem AccR.put {k : Key} {d : D} {v : V} (hd : Rp K F d v) {acc : List (Key × D)} {kvs : List (Key × V)} (h : AccR K F acc kvs) : AccR K F (putD acc k d) (putK kvs k v) := by
  unfold putD putK
  rw [h.any k]
  split
  · exact h.map hd
  · exact h.snoc hd
theorem AccR.keys : ∀ {acc : List (Key × D)} {kvs : List (Key × V)}, AccR K F acc kvs → (acc.map (·.1)).zip (kvs.map (·.2)) = kvs
  | [], _, h => by cases (show _ = [] from h); rfl
  | p :: acc, _, ⟨w, r, e, h1, h2⟩ => by
    subst e
    rw [List.map_cons, List.map_cons, List.zip_cons_cons, AccR.keys h2]
theorem AccR.rpl : ∀ {acc : List (Key × D)} {kvs : List (Key × V)}, AccR K F acc kvs → RpL K F (acc.map (·.2)) (kvs.map (·.2))
  | [], _, h => by cases (show _ = [] from h); rfl
  | p :: acc, _, ⟨w, r, e, h1, h2⟩ => by
    subst e
    exact ⟨w, _, rfl, h1, AccR.rpl h2⟩
theorem AccR.rp {acc : List (Key × D)} {kvs : List (Key × V)} {a : Addr} (h : AccR K F acc kvs) (ha : F a = some (.dK kvs)) : Rp K F (dicD acc) (.ref a) :=
  ⟨a, kvs.map (·.2), rfl, by rw [h.keys]; exact ha, by rw [List.length_map, List.length_map, h.len], h.rpl⟩
end
section
variable {B : Bd} {F H F' H' : Hp} {L : La} {σ : L2.St} {ρ : En}
/-- anything that no name holds is made still -/
theorem SR.freezeA {a : Addr} {o : HO} (S : SR B F L σ H ρ) (h : H a = some o) (f : F a = none) (n : ∀ i, L i ≠ some a) (h0 : B.H0 a = none) : SR B (upd F a o) L σ H ρ where
  len := S.len
  sub := fun b o e => by
    by_cases hb : b = a
    · subst hb; rw [upd_same] at e; rw [← e]; exact h
    · rw [upd_ne hb] at e; exact S.sub b o e
  slot := fun i => by
    have q := S.slot i
    revert q
    cases ρ.getD i none with
    | none => exact id
    | some c =>
      cases c with
      | val d => exact fun ⟨h1, v, h2, h3⟩ => ⟨h1, v, h2, h3.mono (same_upd f)⟩
      | own ds =>
        intro ⟨b, ws, h1, h2, h3, h4, h5, h6⟩
        have hb : b ≠ a := fun z => n i (by rw [h2, z])
        exact ⟨b, ws, h1, h2, h3, by rw [upd_ne hb]; exact h4, h5.mono (same_upd f), h6⟩
  inj := S.inj
  f0 := S.f0.trans (same_upd f)
  fn := fun b o e => by
    by_cases hb : b = a
    · rw [hb]; exact .inr h0
    · rw [upd_ne hb] at e; exact S.fn b o e
  keep := S.keep
  io := S.io
  al := S.al
theorem Stp.freezeA {L' : La} {a : Addr} {o : HO} (s : Stp F L H F' L' H') (f : F' a = none) (nw : H a = none ∨ ∃ i, L i = some a) : Stp F L H (upd F' a o) L' H' where
  f := s.f.trans (same_upd f)
  l := s.l
  h := s.h
  fn := fun b o e => by
    by_cases hb : b = a
    · rw [hb]; exact .inr nw
    · rw [upd_ne hb] at e; exact s.fn b o e
  al := s.al
end
/-! ### {k: v for ..} -/
def dcGo (p : Pt) (tt : DT) (tk tv : DE) (vs : List Nat) : List D → List (Key × D) → En → (List (Key × D) → En → Prop) → Prop
  | [], acc, ρ, Q => Q acc ρ
  | d :: ds, acc, ρ, Q => ptGo p d ρ fun ρ1 => tt ρ1 (fun b ρ2 => if b = true then tk ρ2 (fun x ρ3 => tv ρ3 (fun y ρ4 => ∃ k, keyD x = some k ∧ acc.length < sizeLine ∧ dcGo p tt tk tv vs ds (putD acc k y) (wipeE ρ4 vs) Q) noX) noX else dcGo p tt tk tv vs ds acc (wipeE ρ2 vs) Q) noX
def mDc (it : DI) (p : Pt) (tt : DT) (tk tv : DE) (vs : List Nat) : DE := fun ρ Q E => it ρ (fun items ρ1 => noOwn ρ1 vs = true ∧ dcGo p tt tk tv vs items [] (wipeE ρ1 vs) fun acc ρ2 => Q (dicD acc) (backE ρ2 ρ1 vs)) E
theorem keyD_rp {K : PySem.W.Frag} {F : Hp} {d : D} {v : V} {k : Key} (h : Rp K F d v) (e : keyD d = some k) : v = kV k := by
  cases d <;> first | (cases e; done) | skip
  · cases e
    exact h
  · cases e
    exact h
theorem on_stepA {F L H F' L' H'} {D : Addr} {o : HO} (s : Stp F L H F' L' H') (h1 : H D = some o) (h2 : F D = none) (h3 : ∀ i, L i ≠ some D) : H' D = some o ∧ F' D = none ∧ ∀ i, L' i ≠ some D := by
  refine ⟨s.h _ _ h1 h3, ?_, fun i e => h3 i (s.l i _ e)⟩
  cases e : F' D with
  | none => rfl
  | some o =>
    rcases s.fn D o e with z | z | ⟨i, z⟩
    · rw [h2] at z; cases z
    · rw [h1] at z; cases z
    · exact absurd z (h3 i)
theorem dc_imp {B : Bd} {W : WX} {it : DI} {p : Pt} {tt : DT} {tk tv : DE} {vs : List Nat} (hio : (vs.all fun v => !B.ios.contains v) = true) (hp : ((ptNs p).all fun v => vs.contains v) = true) {σ : L2.St} {H : Hp} {Q : VK} (h : rV B W (mDc it p tt tk tv vs) σ H Q) :
    tDc (rI B W it) (rP B p) (rT B WF tt) (rV B WF tk) (rV B WF tv) vs σ H Q := by
  obtain ⟨F, L, ρ, Qd, Ed, S, ht, hq, hx⟩ := h
  refine ⟨F, L, ρ, _, Ed, S, ht, fun items ρ1 F1 L1 H1 J ⟨kn, k⟩ S1 s1 gv D hD => ?_, hx⟩
  have hpv : ∀ i ∈ ptNs p, i ∈ vs := fun i hi => List.contains_iff_mem.mp (List.all_eq_true.mp hp i hi)
  have fD : F1 D = none := S1.sub.free hD
  have lD : ∀ i, L1 i ≠ some D := fun i e => by
    obtain ⟨_, _, _, _, q3, _⟩ := S1.own e
    rw [hD] at q3; cases q3
  have h0 : B.H0 D = none := by
    cases e : B.H0 D with
    | none => rfl
    | some o => exact absurd hD (S1.al D (by rw [e]; simp))
  obtain ⟨Lw, Sw, lw⟩ := (S1.poke (o := .dK []) fD lD h0).wipe hio
  refine ⟨fun i m H => m = items.length - i ∧ i ≤ items.length ∧ ∃ F L ρ acc av, SR B F L (L2.wipe σ vs) H ρ ∧ Stp F1 L1 H1 F L H ∧ H D = some (.dK av) ∧ F D = none ∧ (∀ i, L i ≠ some D) ∧ AccR B.K F acc av ∧
    dcGo p tt tk tv vs (items.drop i) acc ρ fun acc ρ2 => Qd (dicD acc) (backE ρ2 ρ1 vs), ⟨items.length, rfl, Nat.zero_le _, F1, Lw, _, [], [], Sw, ?_, upd_same, fD, fun i e => lD i (lw i _ e), rfl, k⟩, ?_⟩
  · exact (stp_put (Stp.refl _ _ _) hD).trans (stp_less lw)
  rintro i m H2 ⟨rfl, hi, F2, L2', ρ2, acc, av, S2, s2, hD2, fD2, lD2, racc, k2⟩
  by_cases hlt : i < items.length
  · rw [List.drop_eq_getElem_cons hlt] at k2
    have subF : Same F1 H2 := s2.f.trans S2.sub
    refine .inr ⟨gv.go i H2 subF hlt, fun H => items.length - (i + 1) = items.length - (i + 1) ∧ i + 1 ≤ items.length ∧ ∃ F L ρ acc av, SR B F L (L2.wipe σ vs) H ρ ∧ Stp F1 L1 H1 F L H ∧ H D = some (.dK av) ∧ F D = none ∧ (∀ i, L i ≠ some D) ∧ AccR B.K F acc av ∧
      dcGo p tt tk tv vs (items.drop (i + 1)) acc ρ fun acc ρ2 => Qd (dicD acc) (backE ρ2 ρ1 vs), fun H' h => ⟨_, by omega, h⟩, fun x H' y => ?_⟩
    obtain ⟨F3, d, g3, sb3, ed, rd⟩ := gv.yld i F2 H2 x H' s2.f S2.sub hlt y
    rw [List.getElem?_eq_getElem hlt] at ed
    cases ed
    have S3 := S2.grow g3 sb3
    refine ⟨F3, L2', ρ2, _, items[i], S3, rd, k2, fun ρ4 σ4 L4 q4 S4 l4 w4 => ⟨?_, F3, L4, ρ4, _, noX, S4, q4, fun b ρ5 F5 L5 H5 q5 S5 s5 => ?_, noX_ok⟩⟩
    · rw [w4 vs hpv, wipe_idem fun _ h => h]
    have s3 : Stp F1 L1 H1 F3 L4 H' := (s2.trans g3.stp).trans (stp_less l4)
    have hw4 : L2.wipe σ4 vs = L2.wipe σ vs := by rw [w4 vs hpv, wipe_idem fun _ h => h]
    have hD3 : H' D = some (.dK av) := g3.h _ _ hD2
    have fD3 : F3 D = none := g3.none (by rw [hD2]; simp) fD2
    have lD4 : ∀ i, L4 i ≠ some D := fun i e => lD2 i (l4 i _ e)
    cases b with
    | false =>
      obtain ⟨d1, d2, d3⟩ := on_stepA s5 hD3 fD3 lD4
      obtain ⟨L6, S6, l6⟩ := S5.wipe hio
      rw [hw4] at S6
      exact ⟨rfl, hlt, F5, L6, _, acc, av, S6, (s3.trans s5).trans (stp_less l6), d1, d2, fun i e => d3 i (l6 i _ e), racc.mono (g3.f.trans s5.f), q5⟩
    | true =>
      refine ⟨F5, L5, ρ5, _, noX, S5, q5, fun x ρ6 xv F6 L6 H6 q6 S6 s6 rx => ⟨F6, L6, ρ6, _, noX, S6, q6, fun y ρ7 yv F7 L7 H7 ⟨kk, hk, hz, q7⟩ S7 s7 ry => ?_, noX_ok⟩, noX_ok⟩
      have s57 := (s5.trans s6).trans s7
      obtain ⟨d1, d2, d3⟩ := on_stepA s57 hD3 fD3 lD4
      have r7 := racc.mono (g3.f.trans s57.f)
      refine ⟨av, kk, keyD_rp rx hk, d1, by rw [← racc.len]; exact hz, rfl, hlt, ?_⟩
      obtain ⟨L8, S8, l8⟩ := (S7.poke (o := .dK (putK av kk yv)) d2 d3 h0).wipe hio
      rw [hw4] at S8
      exact ⟨F7, L8, _, putD acc kk y, putK av kk yv, S8, (stp_put (s3.trans s57) hD).trans (stp_less l8), upd_same, d2, fun i e => d3 i (l8 i _ e), r7.put ry, q7⟩
  · have e : i = items.length := by omega
    subst e
    rw [List.drop_length] at k2
    have Sb := S1.back kn S2 s2.f
    have nD : H D = none := by
      cases e : H D with
      | none => rfl
      | some o => exact absurd hD (s1.al D (by rw [e]; simp))
    refine .inl ⟨gv.stop H2 (s2.f.trans S2.sub), hq (dicD acc) _ _ _ L2' H2 k2 (Sb.freezeA hD2 fD2 lD2 h0) ((s1.trans s2).freezeA fD2 (.inl nD)) ?_⟩
    exact (racc.mono (same_upd fD2)).rp upd_same
section
variable {X : Cx} {B : Bd} {W : WX} {pos : Pos}
theorem de_dc {kx vx tg iter : Expr} {ifs : List Expr} {scope : Scope} (own : List (Str × Nat)) {it : DI} {p : Pt} {tt : DT} {tk tv : DE} (hc : X.calm = true) (hN : X.N.Nodup) (hi : PI X tg iter (rI B W it))
    (hg : ∀ (s : Shared) (H : Hp) (C : Addr) (cl : List (Str × Addr)) (fp : List Addr), PG (X.blk s H scope (compEnvC scope cl C X.env) fp) tg (rP B p)) (ht : ∀ (s : Shared) (H : Hp) (C : Addr) (cl : List (Str × Addr)) (fp : List Addr), PTs (X.blk s H scope (compEnvC scope cl C X.env) fp) ifs (rT B WF tt))
    (hk : ∀ (s : Shared) (H : Hp) (C : Addr) (cl : List (Str × Addr)) (fp : List Addr), PE (X.blk s H scope (compEnvC scope cl C X.env) fp) kx (rV B WF tk))
    (he : ∀ (s : Shared) (H : Hp) (C : Addr) (cl : List (Str × Addr)) (fp : List Addr), PE (X.blk s H scope (compEnvC scope cl C X.env) fp) vx (rV B WF tv)) (ok : blkC X.N X.env.scope scope own = true := by rfl) (hio : ((own.map (·.2)).all fun v => !B.ios.contains v) = true := by rfl) (hp : ((ptNs p).all fun v => (own.map (·.2)).contains v) = true := by rfl)
    (hs : ∀ x, foldedSetIterable iter X.env x = pure x := by intro _; rfl) : PE X (.DictComp kx vx [⟨tg, iter, ifs, 0⟩] scope pos) (rV B W (mDc it p tt tk tv (own.map (·.2)))) :=
  pe_imp (pe_dc hc hN hi (blkOk_by ok) hg ht hk he hs) fun _ _ _ h => dc_imp hio hp h
theorem ds_setDcV (i : Nat) {y : Str} {py : Pos} {kx vx tg iter : Expr} {ifs : List Expr} {scope : Scope} {spos : Pos} (own : List (Str × Nat)) {it : DI} {p : Pt} {tt : DT} {tk tv : DE} (hc : X.calm = true) (hN : X.N.Nodup) (hi : PI X tg iter (rI B W it))
    (hg : ∀ (s : Shared) (H : Hp) (C : Addr) (cl : List (Str × Addr)) (fp : List Addr), PG (X.blk s H scope (compEnvC scope cl C X.env) fp) tg (rP B p)) (ht : ∀ (s : Shared) (H : Hp) (C : Addr) (cl : List (Str × Addr)) (fp : List Addr), PTs (X.blk s H scope (compEnvC scope cl C X.env) fp) ifs (rT B WF tt))
    (hk : ∀ (s : Shared) (H : Hp) (C : Addr) (cl : List (Str × Addr)) (fp : List Addr), PE (X.blk s H scope (compEnvC scope cl C X.env) fp) kx (rV B WF tk))
    (he : ∀ (s : Shared) (H : Hp) (C : Addr) (cl : List (Str × Addr)) (fp : List Addr), PE (X.blk s H scope (compEnvC scope cl C X.env) fp) vx (rV B WF tv)) (hsw : swapsWith (.DictComp kx vx [⟨tg, iter, ifs, 0⟩] scope pos) (some (.Name y py)) spos.line X.env = pure true := by exact sw_trueD rfl rfl rfl rfl)
    (hy : X.N[i]? = some y := by rfl) (hyl : X.env.scope.names.lookup y = some .local := by rfl) (hioi : B.ios.contains i = false := by rfl) (ok : blkC X.N X.env.scope scope own = true := by rfl) (hio : ((own.map (·.2)).all fun v => !B.ios.contains v) = true := by rfl) (hp : ((ptNs p).all fun v => (own.map (·.2)).contains v) = true := by rfl)
    (hs : ∀ x, foldedSetIterable iter X.env x = pure x := by intro _; rfl) : PS X (.Assign [.Name y py] (.DictComp kx vx [⟨tg, iter, ifs, 0⟩] scope pos) spos) (rS B W (mAsg (.nm i) (vl (mDc it p tt tk tv (own.map (·.2)))))) := by
  refine ps_impL (ps_setDc hc hN hy hyl hsw hi (blkOk_by ok) hg ht hk he hs) fun D σ H hl h => ?_
  obtain ⟨F, L, ρ, Dd, S, q, o⟩ := h
  have hlt : i < σ.length := by rw [hl]; exact (List.getElem?_eq_some_iff.mp hy).1
  refine dc_imp hio hp ⟨F, L, ρ, fun d ρ1 => Dd.nx (ρ1.set i (some (.val d))), Dd.ex, S, q, fun d ρ1 v F1 L1 H1 k S1 s1 r1 => ?_, o.ex⟩
  exact o.nx _ _ _ _ _ k (S1.put hioi hlt r1) s1.f
/-! ### {k: v} -/
def mDic1 (tk tv : DE) : DE := fun ρ Q E => tk ρ (fun x ρ1 => tv ρ1 (fun y ρ2 => ∃ k, keyD x = some k ∧ Q (.dic [k] [y]) ρ2) E) E
theorem de_dicE {kx vx : Expr} {tk tv : DE} (hk : PE X kx (rV B W tk)) (hv : PE X vx (rV B W tv)) : PE X (.Dict [some kx] [vx] pos) (rV B W (mDic1 tk tv)) := by
  refine pe_imp (pe_disp (pps_cons hk hv pps_nil) rfl rfl (by simp) (Nat.le_of_ble_eq_true rfl)) fun σ H Q ⟨F, L, ρ, Qd, Ed, S, ht, hq, hx⟩ p hp => ?_
  have fD : F p = none := S.sub.free hp
  have lD : ∀ i, L i ≠ some p := fun i e => by
    obtain ⟨_, _, _, _, q3, _⟩ := S.own e
    rw [hp] at q3; cases q3
  have h0 : B.H0 p = none := by
    cases e : B.H0 p with
    | none => rfl
    | some o => exact absurd hp (S.al p (by rw [e]; simp))
  have S0 := S.poke (o := .dK []) fD lD h0
  have s0 : Stp F L H F L (upd H p (.dK [])) := stp_put (Stp.refl _ _ _) hp
  refine ⟨F, L, ρ, _, Ed, S0, ht, fun x ρ1 xv F1 L1 H1 q1 S1 s1 rx => ⟨F1, L1, ρ1, _, Ed, S1, q1, fun y ρ2 yv F2 L2' H2 ⟨k, hkk, q2⟩ S2 s2 ry => ?_, hx.mono s1.f⟩, hx⟩
  obtain ⟨d1, d2, d3⟩ := on_stepA (s1.trans s2) upd_same fD lD
  refine ⟨d1, [(k, yv)], by rw [keyD_rp rx hkk]; rfl, Nat.le_of_ble_eq_true rfl, ?_⟩
  have S3 := S2.poke (o := .dK (mergeK [] [(k, yv)])) d2 d3 h0
  have s3 : Stp F L H F2 L2' (upd H2 p (.dK (mergeK [] [(k, yv)]))) := stp_put ((s0.trans s1).trans s2) hp
  exact hq _ _ _ _ L2' _ q2 (S3.freezeA upd_same d2 d3 h0) (s3.freezeA d2 (.inl hp)) ⟨p, [yv], rfl, upd_same, rfl, RpL.one (ry.mono (same_upd d2))⟩
/-! ### d.get(k, x), d.get(k) -/
def mGet2 (td tk tx : DE) : DE := fun ρ Q E => td ρ (fun d ρ1 => match d with
  | .dic ks ds => tk ρ1 (fun x ρ2 => tx ρ2 (fun y ρ3 => match keyD x with
    | some k => Q ((lookK ks ds k).getD y) ρ3
    | none => False) E) E
  | _ => False) E
def mGet1 (td tk : DE) : DE := fun ρ Q E => td ρ (fun d ρ1 => match d with
  | .dic ks ds => tk ρ1 (fun x ρ2 => match keyD x with
    | some k => Q ((lookK ks ds k).getD .non) ρ2
    | none => False) E
  | _ => False) E
theorem isD_dK {H : Hp} {a : Addr} {kvs : List (Key × V)} (h : H a = some (.dK kvs)) : IsD H a := .inl ⟨kvs, .inl h⟩
theorem dic_get {K : PySem.W.Frag} {F H : Hp} (sb : Same F H) {ks : List Key} {ds : List D} {v : V} {k : Key} (h : Rp K F (.dic ks ds) v) : ∃ a vs, v = .ref a ∧ F a = some (.dK (ks.zip vs)) ∧ DGet H a (kV k) (valV (ks.zip vs) k) ∧ (match lookK ks ds k with | some d => ∃ w, valV (ks.zip vs) k = some w ∧ Rp K F d w | none => valV (ks.zip vs) k = none) := by
  obtain ⟨a, vs, e, ha, hl, hr⟩ := h
  refine ⟨a, vs, e, ha, DGet.k (sb _ _ ha), ?_⟩
  have ok := lookK_ok (ks := ks) (j := k) hr
  cases q : lookK ks ds k with
  | some d => rw [q] at ok; exact ok
  | none =>
    rw [q] at ok
    exact ok (by rw [hl, ← hr.length])
theorem de_get2 {o e f : Expr} {apos cpos : Pos} {td tk tx : DE} (hu : X.A.units + 65 < cLine) (ho : PE X o (rV B W td)) (he : PE X e (rV B W tk)) (hf : PE X f (rV B W tx)) (m : M2 X o "get" apos e f cpos) : PE X (.Call (.Attribute o "get" apos) [e, f] [] cpos) (rV B W (mGet2 td tk tx)) := by
  refine pe_imp (pe_dget2 (by omega) ho he hf m) fun σ H Q ⟨F, L, ρ, Qd, Ed, S, ht, hq, hx⟩ => ⟨F, L, ρ, _, Ed, S, ht, fun d ρ1 v F1 L1 H1 k1 S1 s1 rd => ?_, hx⟩
  split at k1
  · rename_i ks ds
    obtain ⟨a, vs, rfl, ha, hl, hr⟩ := rd
    refine ⟨a, rfl, isD_dK (S1.sub _ _ ha), F1, L1, ρ1, _, Ed, S1, k1, fun x ρ2 xv F2 L2' H2 k2 S2 s2 rx => ⟨F2, L2', ρ2, _, Ed, S2, k2, fun y ρ3 yv F3 L3 H3 k3 S3 s3 ry => ?_, (hx.mono s1.f).mono s2.f⟩, hx.mono s1.f⟩
    split at k3
    · rename_i k ek
      have rd3 : Rp B.K F3 (.dic ks ds) (.ref a) := ⟨a, vs, rfl, s3.f _ _ (s2.f _ _ ha), hl, (hr.mono s2.f).mono s3.f⟩
      obtain ⟨a2, vs2, ea, ha2, g, ok⟩ := dic_get (k := k) S3.sub rd3
      cases ea
      refine ⟨_, (keyD_rp rx ek) ▸ g, ?_⟩
      refine hq _ ρ3 _ F3 L3 H3 k3 S3 ((s1.trans s2).trans s3) ?_
      cases q : lookK ks ds k with
      | some d =>
        rw [q] at ok
        obtain ⟨w, ew, rw_⟩ := ok
        rw [ew]
        exact rw_
      | none =>
        rw [q] at ok
        rw [ok]
        exact ry
    · exact k3.elim
  · exact k1.elim
theorem de_get1 {o e : Expr} {apos cpos : Pos} {td tk : DE} (hu : X.A.units + 65 < cLine) (ho : PE X o (rV B W td)) (he : PE X e (rV B W tk)) (m : M1 X o "get" apos e cpos) : PE X (.Call (.Attribute o "get" apos) [e] [] cpos) (rV B W (mGet1 td tk)) := by
  refine pe_imp (pe_dget1 (by omega) ho he m) fun σ H Q ⟨F, L, ρ, Qd, Ed, S, ht, hq, hx⟩ => ⟨F, L, ρ, _, Ed, S, ht, fun d ρ1 v F1 L1 H1 k1 S1 s1 rd => ?_, hx⟩
  split at k1
  · rename_i ks ds
    obtain ⟨a, vs, rfl, ha, hl, hr⟩ := rd
    refine ⟨a, rfl, isD_dK (S1.sub _ _ ha), F1, L1, ρ1, _, Ed, S1, k1, fun x ρ2 xv F2 L2' H2 k2 S2 s2 rx => ?_, hx.mono s1.f⟩
    split at k2
    · rename_i k ek
      have rd2 : Rp B.K F2 (.dic ks ds) (.ref a) := ⟨a, vs, rfl, s2.f _ _ ha, hl, hr.mono s2.f⟩
      obtain ⟨a2, vs2, ea, ha2, g, ok⟩ := dic_get (k := k) S2.sub rd2
      cases ea
      refine ⟨_, (keyD_rp rx ek) ▸ g, ?_⟩
      refine hq _ ρ2 _ F2 L2' H2 k2 S2 (s1.trans s2) ?_
      cases q : lookK ks ds k with
      | some d =>
        rw [q] at ok
        obtain ⟨w, ew, rw_⟩ := ok
        rw [ew]
        exact rw_
      | none =>
        rw [q] at ok
        rw [ok]
        exact (rfl : Rp B.K F2 .non .non)
    · exact k2.elim
  · exact k1.elim
end
/-! ### k not in d -/
def fNinK : DOp2
  | x, .dic ks ds => (keyD x).map fun k => .val (.bl (!(lookK ks ds k).isSome))
  | x, y => fNin x y
def rNinK (K : PySem.W.Frag) : R2 := fun y x H Q => rNinA K y x H Q ∨ ∃ a ov, x = .ref a ∧ DGet H a y ov ∧ Q (.bl (!ov.isSome)) H
theorem op_ninK {X : Cx} (hu : X.A.units + 65 < cLine) : OpR X (compareOp .NotIn) (rNinK X.K) := OpR.or (op_ninA hu) (by
  intro pins s σ H y x v u Q I ry rx h
  obtain ⟨a, ov, rfl, g, q⟩ := h
  cases rx
  exact d_notIn (by omega) I g ry fun s3 I3 => ⟨.bl (!ov.isSome), H, I3, rfl, q⟩)
theorem fNinK_ok {K : PySem.W.Frag} : Op2 K (rNinK K) fNinK := by
  intro F H d1 d2 v1 v2 c Q sb h1 h2 e q
  cases d2 <;> first | (exact .inl (fNin_ok F H _ _ v1 v2 c Q sb h1 h2 e q)) | skip
  rename_i ks ds
  have e' : ((keyD d1).map fun k => Cell.val (.bl (!(lookK ks ds k).isSome))) = some c := e
  cases ek : keyD d1 with
  | none => rw [ek] at e'; cases e'
  | some k =>
    rw [ek] at e'
    cases e'
    obtain ⟨a, vs, rfl, ha, g, ok⟩ := dic_get (k := k) sb (show Rp K F (.dic ks ds) v2 from h2)
    rw [keyD_ok h1 ek]
    refine .inr ⟨a, valV (ks.zip vs) k, rfl, g, ?_⟩
    have es : (valV (ks.zip vs) k).isSome = (lookK ks ds k).isSome := by
      cases hlk : lookK ks ds k with
      | some d =>
        rw [hlk] at ok
        obtain ⟨v, hv, _⟩ := ok
        rw [hv]
        rfl
      | none =>
        rw [hlk] at ok
        rw [ok]
        rfl
    rw [es]
    exact fin_val sb q rfl
end DL
/-! law k71: mirrors of its defs, their derivations (printed by a program of mine). -/
namespace Lk71
open PySem PySem.Spec PyProof.Rows L2 DL
abbrev top (i : Nat) : Stmt := PySem.Challenge.pw_packtags_k71_bells_refused.main.body.getD i (.Pass ⟨0, 0, 0, 0⟩)
def tblU : List ((Str × Str) × Bool) := [((("PackError" : Str), ("InvalidBells" : Str)), false), ((("PackError" : Str), ("InvalidNumber" : Str)), false), ((("PackError" : Str), ("PackError" : Str)), true), ((("InvalidNumber" : Str), ("InvalidBells" : Str)), false), ((("InvalidNumber" : Str), ("InvalidNumber" : Str)), true), ((("InvalidNumber" : Str), ("PackError" : Str)), true), ((("InvalidBells" : Str), ("InvalidBells" : Str)), true), ((("InvalidBells" : Str), ("InvalidNumber" : Str)), false), ((("InvalidBells" : Str), ("PackError" : Str)), true)]
@[irreducible] def und : Str → Str → Option Bool := undT tblU
theorem und_PackError_InvalidBells : und "PackError" "InvalidBells" = some false := by unfold und; decide +kernel
theorem und_PackError_InvalidNumber : und "PackError" "InvalidNumber" = some false := by unfold und; decide +kernel
theorem und_PackError_PackError : und "PackError" "PackError" = some true := by unfold und; decide +kernel
theorem und_InvalidNumber_InvalidBells : und "InvalidNumber" "InvalidBells" = some false := by unfold und; decide +kernel
theorem und_InvalidNumber_InvalidNumber : und "InvalidNumber" "InvalidNumber" = some true := by unfold und; decide +kernel
theorem und_InvalidNumber_PackError : und "InvalidNumber" "PackError" = some true := by unfold und; decide +kernel
theorem und_InvalidBells_InvalidBells : und "InvalidBells" "InvalidBells" = some true := by unfold und; decide +kernel
theorem und_InvalidBells_InvalidNumber : und "InvalidBells" "InvalidNumber" = some false := by unfold und; decide +kernel
theorem und_InvalidBells_PackError : und "InvalidBells" "PackError" = some true := by unfold und; decide +kernel
abbrev k_Steads : List Str := ["many", "rows", "pairs", "idle"]
theorem lk_Steads_many : LkAt k_Steads "many" 0 := fun vs h => match vs, h with | [_, _, _, _], _ => rfl
theorem lk_Steads_rows : LkAt k_Steads "rows" 1 := fun vs h => match vs, h with | [_, _, _, _], _ => rfl
theorem lk_Steads_pairs : LkAt k_Steads "pairs" 2 := fun vs h => match vs, h with | [_, _, _, _], _ => rfl
theorem lk_Steads_idle : LkAt k_Steads "idle" 3 := fun vs h => match vs, h with | [_, _, _, _], _ => rfl
theorem nl_Steads_walk : NoLk k_Steads "walk" := fun vs h => match vs, h with | [_, _, _, _], _ => rfl
theorem nl_Steads_amounts : NoLk k_Steads "amounts" := fun vs h => match vs, h with | [_, _, _, _], _ => rfl
theorem pa_Steads_0 : PutAt [] "many" := fun fv v h => match fv, h with | [], _ => rfl
theorem pa_Steads_1 : PutAt ["many"] "rows" := fun fv v h => match fv, h with | [_], _ => rfl
theorem pa_Steads_2 : PutAt ["many", "rows"] "pairs" := fun fv v h => match fv, h with | [_, _], _ => rfl
theorem pa_Steads_3 : PutAt ["many", "rows", "pairs"] "idle" := fun fv v h => match fv, h with | [_, _, _], _ => rfl
theorem lks_Steads_2_rows : LkAt ["many", "rows"] "rows" 1 := fun vs h => match vs, h with | [_, _], _ => rfl
/-! ### mirrors -/
@[irreducible] def m_law_well_1 : DS := mAsg (.nm 3) (vl (frz (mOp2 fMod (.e (frz (mOpN fInt [.e (frz (mOp2 fAdd (.e (frz (mOp2 fAdd (.e (frz (mOp2 fMul (.e (mVar 3)) (.e (mK (.int 44497)))))) (.e (frz (mOp2 fMod (.e (frz (mOpN fInt [.e (mVar 4)]))) (.e (mK (.int 2147483587))))))))) (.e (mK (.int 29)))))]))) (.e (mK (.int 2147483563))))))
@[irreducible] def m_law_well_2 : DS := mRet (mLst [frz (mIf (mOrT (asT (mOp2 fLt (.e (mVar 2)) (.e (mK (.int 0))))) (asT (mOp2 fGe (.e (mVar 2)) (.e (frz (mOp2 fPow (.e (mK (.int 10))) (.e (mK (.int 18))))))))) (mOpN fAbs [.e (mVar 2)]) (vl (mK (.int 0)))), mVar 3, mK (.int 0)])
@[irreducible] def m_law_well_3 : DS := mSeq (mFor (iSq (frz (mOp2 fAdd (.e (frz (mSl (.e (mVar 0)) none (some (mK (.int 8)))))) (.e (frz (mLst [mVar 2])))))) (.nm 4) (m_law_well_1)) (m_law_well_2)
@[irreducible] def m_law_well_4 : DS := mSeq (mAsg (.nm 3) (vl (frz (mOp2 fAdd (.e (mK (.int 52027))) (.e (frz (mOp2 fMul (.e (mK (.int 6971))) (.e (mVar 1))))))))) (m_law_well_3)
def m_law_well : DS := mSeq (mAsg (.nm 2) (vl (frz (mIf (asT (mOp2 fLt (.e (mVar 1)) (.e (frz (mOpN fLen [.e (mVar 0)]))))) (mOpN fInt [.e (frz (mOp2 fIx (.e (mVar 0)) (.e (mVar 1))))]) (vl (mK (.int 0))))))) (m_law_well_4)
@[irreducible] def w_law_well : DSp := wDef 3 m_law_well
def m_law_take_iv_1 : DS := mRet (mOp2 fMod (.e (frz (mOpN fInt [.e (frz (mOp2 fDiv (.e (frz (mOp2 fIx (.s 0) (.e (mK (.int 1)))))) (.e (mK (.int 128)))))]))) (.e (mVar 1)))
def m_law_take_iv_2 : DS := mSeq (mAsg (.sub 0 (mK (.int 1))) (vl (frz (mOp2 fMod (.e (frz (mOpN fInt [.e (frz (mOp2 fAdd (.e (frz (mOp2 fAdd (.e (frz (mOp2 fMul (.e (frz (mOp2 fIx (.s 0) (.e (mK (.int 1)))))) (.e (mK (.int 39373)))))) (.e (frz (mOp2 fMul (.e (frz (mOp2 fIx (.s 0) (.e (mK (.int 2)))))) (.e (mK (.int 30323))))))))) (.e (mK (.int 11)))))]))) (.e (mK (.int 2147483543))))))) (m_law_take_iv_1)
def m_law_take_iv_3 : DS := mSeq (mAsg (.sub 0 (mK (.int 2))) (vl (frz (mOp2 fAdd (.e (frz (mOp2 fIx (.s 0) (.e (mK (.int 2)))))) (.e (mK (.int 1))))))) (m_law_take_iv_2)
def m_law_take_iv : DS := mSeq (mIfS (asT (mOp2 fGt (.e (frz (mOp2 fIx (.s 0) (.e (mK (.int 0)))))) (.e (mK (.int 0))))) (mSeq (mAsg (.tp [.sub 0 (mK (.int 0)), .nm 2]) (vl (frz (mOpN fDivmod [.e (frz (mOp2 fIx (.s 0) (.e (mK (.int 0))))), .e (mVar 1)])))) (mRet (vl (mVar 2)))) (mNext)) (m_law_take_iv_3)
@[irreducible] def w_law_take_iv : DSp := wDef 1 m_law_take_iv
def m_law_of_iv : DS := mRet (mOp2 fIx (.e (mVar 1)) (.e (frz (mCall [.s 0, .e (frz (mOpN fLen [.e (mVar 1)]))] w_law_take_iv))))
@[irreducible] def w_law_of_iv : DSp := wDef 0 m_law_of_iv
@[irreducible] def m_law_bells_iv_1 : DS := mApp 2 (mTup [frz (mOp2 fAdd (.e (frz (mOp2 fAdd (.e (mVar 3)) (.e (frz (mOp2 fMul (.e (mVar 5)) (.e (frz (mOp2 fSub (.e (frz (mCall [.s 0, .e (mK (.int 7))] w_law_take_iv))) (.e (mK (.int 3)))))))))))) (.e (frz (mCall [.s 0, .e (mTup [mK (.int 0), mK (.int 0), mK (.int 0), mK (.int 0), mK (.int 1)])] w_law_of_iv)))), mVar 5])
@[irreducible] def m_law_bells_iv_2 : DS := mSeq (mAsg (.nm 5) (vl (frz (mOp2 fAdd (.e (mK (.int 1))) (.e (frz (mCall [.s 0, .e (frz (mCall [.s 0, .e (mTup [mK (.int 4), mK (.int 12), mVar 1])] w_law_of_iv))] w_law_take_iv))))))) (m_law_bells_iv_1)
@[irreducible] def m_law_bells_iv_3 : DS := mSeq (mFor (iRg1 (frz (mOp2 fAdd (.e (mK (.int 1))) (.e (frz (mCall [.s 0, .e (mK (.int 6))] w_law_take_iv)))))) (.nm 4) (m_law_bells_iv_2)) (mRet (mOpN fTuple [.e (mStill 2)]))
def m_law_bells_iv : DS := mSeq (mPar [.nm 2, .nm 3] [mLst [], vl (frz (mOp2 fSub (.e (frz (mCall [.s 0, .e (mK (.int 400))] w_law_take_iv))) (.e (mK (.int 200)))))]) (m_law_bells_iv_3)
@[irreducible] def w_law_bells_iv : DSp := wDef 4 m_law_bells_iv
def m_is_whole : DS := mRet (mAndV (.e (frz (mOpN fIsi [.e (mVar 0), .e (mK (.ty "int"))]))) (vl (mNotV (.e (frz (mOpN fIsi [.e (mVar 0), .e (mK (.ty "bool"))]))))))
@[irreducible] def w_is_whole : DSp := wDef 0 m_is_whole
def m_is_between : DS := mRet (mAndV (.e (frz (mCall [.e (mVar 0)] w_is_whole))) (mChain fLe fLe (.e (mVar 1)) (.e (mVar 0)) (.e (mVar 2))))
@[irreducible] def w_is_between : DSp := wDef 0 m_is_between
def m_is_tuple_of : DS := mRet (mAndV (.e (frz (mOpN fIsi [.e (mVar 0), .e (mK (.ty "tuple"))]))) (mOp2 fEq (.e (frz (mOpN fLen [.e (mVar 0)]))) (.e (mVar 1))))
@[irreducible] def w_is_tuple_of : DSp := wDef 0 m_is_tuple_of
@[irreducible] def m_is_bell_1 : DS := mRet (mCall [.e (frz (mOp2 fIx (.e (mVar 0)) (.e (mK (.int 1))))), .e (mK (.int 1)), .e (mK (.int 9999))] w_is_between)
def m_is_bell : DS := mSeq (mIfS (mOrT (mNot (mTru (.e (frz (mCall [.e (mVar 0), .e (mK (.int 2))] w_is_tuple_of))))) (mNot (mTru (.e (frz (mCall [.e (frz (mOp2 fIx (.e (mVar 0)) (.e (mK (.int 0))))), .e (frz (mOp1 fNeg (.e (mK (.int 9999))))), .e (mK (.int 9999))] w_is_between)))))) (mRet (vl (mK (.bl false)))) (mNext)) (m_is_bell_1)
@[irreducible] def w_is_bell : DSp := wDef 0 m_is_bell
@[irreducible] def m_wrong_in_bells_1 : DS := mRet (mSl (.e (frz (mLc (iEn (mVar 0)) (.tp [.nm 1, .nm 2]) (mNot (mTru (.e (frz (mCall [.e (mVar 2)] w_is_bell))))) (mVar 1) [1, 2]))) none (some (mK (.int 1))))
def m_wrong_in_bells : DS := mSeq (mIfS (mOrT (mNot (mTru (.e (frz (mOpN fIsi [.e (mVar 0), .e (mK (.ty "tuple"))]))))) (mNot (asT (mChain fLe fLe (.e (mK (.int 1))) (.e (frz (mOpN fLen [.e (mVar 0)]))) (.e (mK (.int 8))))))) (mRet (mLst [mK .non])) (mNext)) (m_wrong_in_bells_1)
@[irreducible] def w_wrong_in_bells : DSp := wDef 2 m_wrong_in_bells
def m_check_bells : DS := mFor (iSq (frz (mCall [.e (mVar 0)] w_wrong_in_bells))) (.nm 1) (mRaise "InvalidBells" "index" (mVar 1))
@[irreducible] def w_check_bells : DSp := wDef 1 m_check_bells
def m_unit : DS := mRet (mOpN fTuple [.e (frz (mLc (iRg1 (mVar 0)) (.nm 2) (mYes) (frz (mOpN fInt [.e (frz (mOp2 fEq (.e (mVar 2)) (.e (mVar 1))))])) [2]))])
@[irreducible] def w_unit : DSp := wDef 1 m_unit
def m_pairs_of : DS := mRet (mLc (iEn (mVar 0)) (.tp [.nm 1, .nm 2]) (mYes) (mTup [mVar 2, frz (mCall [.e (frz (mOpN fLen [.e (mVar 0)])), .e (mVar 1)] w_unit)]) [1, 2])
@[irreducible] def w_pairs_of : DSp := wDef 2 m_pairs_of
@[irreducible] def m_nearest_to_nought_1 : DS := mIfS (mAndT (asT (mOp2 fNe (.e (mVar 5)) (.e (mK (.int 0))))) (mOrT (asT (mOp2 fIsN (.e (mVar 2)) (.e (mK .non)))) (asT (mOp2 fLt (.e (mVar 5)) (.e (frz (mOpN fAbs [.e (frz (mOp2 fIx (.e (frz (mOp2 fIx (.e (frz (mOp2 fIx (.e (mVar 0)) (.e (mVar 2))))) (.e (mK (.int 0)))))) (.e (mVar 1))))]))))))) (mAsg (.nm 2) (vl (mVar 3))) (mNext)
@[irreducible] def m_nearest_to_nought_2 : DS := mSeq (mAsg (.nm 5) (vl (frz (mOpN fAbs [.e (frz (mOp2 fIx (.e (frz (mOp2 fIx (.e (mVar 4)) (.e (mK (.int 0)))))) (.e (mVar 1))))])))) (m_nearest_to_nought_1)
@[irreducible] def m_nearest_to_nought_3 : DS := mSeq (mFor (iEn (mVar 0)) (.tp [.nm 3, .nm 4]) (m_nearest_to_nought_2)) (mRet (vl (mVar 2)))
def m_nearest_to_nought : DS := mSeq (mAsg (.nm 2) (vl (mK .non))) (m_nearest_to_nought_3)
@[irreducible] def w_nearest_to_nought : DSp := wDef 4 m_nearest_to_nought
def m_is_alone : DS := mRet (mOpN fAll [.e (frz (mLc (iEn (mVar 0)) (.tp [.nm 3, .nm 4]) (mYes) (frz (mOrV (.e (frz (mOp2 fEq (.e (mVar 3)) (.e (mVar 1))))) (mOp2 fEq (.e (frz (mOp2 fIx (.e (frz (mOp2 fIx (.e (mVar 4)) (.e (mK (.int 0)))))) (.e (mVar 2))))) (.e (mK (.int 0)))))) [3, 4]))])
@[irreducible] def w_is_alone : DSp := wDef 2 m_is_alone
def m_row_less : DS := mRet (mOpN fTuple [.e (frz (mLc (iZp2 (mVar 0) (mVar 1)) (.tp [.nm 3, .nm 4]) (mYes) (frz (mOp2 fSub (.e (mVar 3)) (.e (frz (mOp2 fMul (.e (mVar 2)) (.e (mVar 4))))))) [3, 4]))])
@[irreducible] def w_row_less : DSp := wDef 2 m_row_less
def m_pair_less : DS := mRet (vl (mTup [frz (mCall [.e (frz (mOp2 fIx (.e (mVar 0)) (.e (mK (.int 0))))), .e (frz (mOp2 fIx (.e (mVar 1)) (.e (mK (.int 0))))), .e (mVar 2)] w_row_less), frz (mCall [.e (frz (mOp2 fIx (.e (mVar 0)) (.e (mK (.int 1))))), .e (frz (mOp2 fIx (.e (mVar 1)) (.e (mK (.int 1))))), .e (mVar 2)] w_row_less)]))
@[irreducible] def w_pair_less : DSp := wDef 0 m_pair_less
@[irreducible] def m_lessened_1 : DS := mApp 4 (frz (mIf (asT (mOp2 fEq (.e (mVar 5)) (.e (mVar 1)))) (vl (mVar 6)) (mCall [.e (mVar 6), .e (mVar 3), .e (frz (mOp2 fDiv (.e (frz (mOp2 fIx (.e (frz (mOp2 fIx (.e (mVar 6)) (.e (mK (.int 0)))))) (.e (mVar 2))))) (.e (frz (mOp2 fIx (.e (frz (mOp2 fIx (.e (mVar 3)) (.e (mK (.int 0)))))) (.e (mVar 2)))))))] w_pair_less)))
@[irreducible] def m_lessened_2 : DS := mSeq (mFor (iEn (mVar 0)) (.tp [.nm 5, .nm 6]) (m_lessened_1)) (mRet (mMove 4))
def m_lessened : DS := mSeq (mPar [.nm 3, .nm 4] [vl (frz (mOp2 fIx (.e (mVar 0)) (.e (mVar 1)))), mLst []]) (m_lessened_2)
@[irreducible] def w_lessened : DSp := wDef 4 m_lessened
def m_row_times : DS := mRet (mOpN fTuple [.e (frz (mLc (iSq (mVar 0)) (.nm 2) (mYes) (frz (mOp2 fMul (.e (mVar 2)) (.e (mVar 1)))) [2]))])
@[irreducible] def w_row_times : DSp := wDef 1 m_row_times
def m_turned_pair : DS := mRet (vl (mTup [frz (mCall [.e (frz (mOp2 fIx (.e (mVar 0)) (.e (mK (.int 0))))), .e (frz (mOp1 fNeg (.e (mK (.int 1)))))] w_row_times), frz (mCall [.e (frz (mOp2 fIx (.e (mVar 0)) (.e (mK (.int 1))))), .e (frz (mOp1 fNeg (.e (mK (.int 1)))))] w_row_times)]))
@[irreducible] def w_turned_pair : DSp := wDef 0 m_turned_pair
@[irreducible] def m_parted_at_1 : DS := mAsg (.nm 2) (vl (frz (mCall [.e (mVar 0), .e (mVar 1)] w_nearest_to_nought)))
@[irreducible] def m_parted_at_2 : DS := mSeq (mAsg (.nm 0) (vl (frz (mCall [.e (mVar 0), .e (mVar 2), .e (mVar 1)] w_lessened)))) (m_parted_at_1)
@[irreducible] def m_parted_at_3 : DS := mRet (vl (mTup [frz (mLst [mVar 3]), frz (mOp2 fAdd (.e (frz (mSl (.e (mVar 0)) none (some (mVar 2))))) (.e (frz (mSl (.e (mVar 0)) (some (frz (mOp2 fAdd (.e (mVar 2)) (.e (mK (.int 1)))))) none))))]))
@[irreducible] def m_parted_at_4 : DS := mSeq (mAsg (.nm 3) (vl (frz (mIf (asT (mOp2 fGt (.e (frz (mOp2 fIx (.e (frz (mOp2 fIx (.e (frz (mOp2 fIx (.e (mVar 0)) (.e (mVar 2))))) (.e (mK (.int 0)))))) (.e (mVar 1))))) (.e (mK (.int 0))))) (mOp2 fIx (.e (mVar 0)) (.e (mVar 2))) (mCall [.e (frz (mOp2 fIx (.e (mVar 0)) (.e (mVar 2))))] w_turned_pair))))) (m_parted_at_3)
@[irreducible] def m_parted_at_5 : DS := mSeq (mWhile (mNot (mTru (.e (frz (mCall [.e (mVar 0), .e (mVar 2), .e (mVar 1)] w_is_alone))))) (m_parted_at_2)) (m_parted_at_4)
@[irreducible] def m_parted_at_6 : DS := mSeq (mIfS (asT (mOp2 fIsN (.e (mVar 2)) (.e (mK .non)))) (mRet (vl (mTup [frz (mLst []), mVar 0]))) (mNext)) (m_parted_at_5)
def m_parted_at : DS := mSeq (mAsg (.nm 2) (vl (frz (mCall [.e (mVar 0), .e (mVar 1)] w_nearest_to_nought)))) (m_parted_at_6)
@[irreducible] def w_parted_at : DSp := wDef 2 m_parted_at
def m_head_place : DS := mRet (mOp2 fIx (.e (frz (mLc (iEn (mVar 0)) (.tp [.nm 1, .nm 2]) (asT (mOp2 fNe (.e (mVar 2)) (.e (mK (.int 0))))) (mVar 1) [1, 2]))) (.e (mK (.int 0))))
@[irreducible] def w_head_place : DSp := wDef 2 m_head_place
@[irreducible] def m_smoothed_1 : DS := mAsg (.sub 1 (mVar 4)) (vl (frz (mCall [.e (frz (mOp2 fIx (.s 1) (.e (mVar 4)))), .e (frz (mOp2 fIx (.s 1) (.e (mVar 2)))), .e (mVar 5)] w_pair_less)))
@[irreducible] def m_smoothed_2 : DS := mSeq (mAsg (.nm 5) (vl (frz (mOp2 fDiv (.e (frz (mOp2 fIx (.e (frz (mOp2 fIx (.e (frz (mOp2 fIx (.s 1) (.e (mVar 4))))) (.e (mK (.int 0)))))) (.e (mVar 3))))) (.e (frz (mOp2 fIx (.e (frz (mOp2 fIx (.e (frz (mOp2 fIx (.s 1) (.e (mVar 2))))) (.e (mK (.int 0)))))) (.e (mVar 3))))))))) (m_smoothed_1)
@[irreducible] def m_smoothed_3 : DS := mSeq (mAsg (.nm 3) (vl (frz (mCall [.e (frz (mOp2 fIx (.e (frz (mOp2 fIx (.s 1) (.e (mVar 2))))) (.e (mK (.int 0)))))] w_head_place)))) (mFor (iRg1 (mVar 2)) (.nm 4) (m_smoothed_2))
@[irreducible] def m_smoothed_4 : DS := mSeq (mFor (iRg1 (frz (mOpN fLen [.s 1]))) (.nm 2) (m_smoothed_3)) (mRet (mMove 1))
def m_smoothed : DS := mSeq (mAsg (.nm 1) (mOpN fList [.e (mVar 0)])) (m_smoothed_4)
@[irreducible] def w_smoothed : DSp := wDef 5 m_smoothed
def m_Steads_init_1 : DS := mSeq (mAsg (.tp [.nm 6, .nm 3]) (vl (frz (mCall [.e (mVar 3), .e (mVar 5)] w_parted_at)))) (mExt 4 (mVar 6))
def m_Steads_init (x : Addr) : MI := mSto x (mVar 1) (mSto x (frz (mOpN fTuple [.e (mVar 2)])) (mEnt (fun ds => mJq (mPar [.nm 3, .nm 4] [vl (frz (mCall [.e (mSelf x ds 1)] w_pairs_of)), mLst []]) (mJq (mFor (iRg1 (mVar 1)) (.nm 5) (m_Steads_init_1)) (mJe (mSto x (frz (mCall [.e (mStill 4)] w_smoothed)) (mSto x (frz (mLc (iSq (mVar 3)) (.tp [.nm 7, .nm 8]) (mYes) (mVar 8) [7, 8])) (mEnd))) ds)))))
@[irreducible] def w_Steads_init : DSp := wIn "Steads" k_Steads 6 m_Steads_init
@[irreducible] def m_Steads_walk_1 : DS := mAsg (.nm 3) (vl (frz (mCall [.e (mVar 3), .e (mVar 4), .e (mVar 7)] w_row_less)))
@[irreducible] def m_Steads_walk_2 : DS := mSeq (mAsg (.nm 7) (vl (frz (mOp2 fDiv (.e (frz (mOp2 fIx (.e (mVar 3)) (.e (mVar 6))))) (.e (frz (mOp2 fIx (.e (mVar 4)) (.e (mVar 6))))))))) (mSeq (mApp 2 (mVar 7)) (m_Steads_walk_1))
@[irreducible] def m_Steads_walk_3 : DS := mSeq (mAsg (.nm 6) (vl (frz (mCall [.e (mVar 4)] w_head_place)))) (m_Steads_walk_2)
@[irreducible] def m_Steads_walk_4 : DS := mRet (vl (mTup [frz (mOpN fTuple [.e (mStill 2)]), mVar 3]))
@[irreducible] def m_Steads_walk_5 : DS := mSeq (mFor (iSq (mFld ("Steads" : Str) k_Steads 2 (mVar 0))) (.tp [.nm 4, .nm 5]) (m_Steads_walk_3)) (m_Steads_walk_4)
def m_Steads_walk : DS := mSeq (mPar [.nm 2, .nm 3] [mLst [], vl (frz (mOpN fTuple [.e (mVar 1)]))]) (m_Steads_walk_5)
@[irreducible] def w_Steads_walk : DSp := wDef 6 m_Steads_walk
def m_are_noughts : DS := mRet (mOpN fAll [.e (frz (mLc (iSq (mVar 0)) (.nm 1) (mYes) (frz (mOp2 fEq (.e (mVar 1)) (.e (mK (.int 0))))) [1]))])
@[irreducible] def w_are_noughts : DSp := wDef 1 m_are_noughts
def m_noughts : DS := mRet (mOpN fTuple [.e (frz (mLc (iRg1 (mVar 0)) (.nm 1) (mYes) (mK (.int 0)) [1]))])
@[irreducible] def w_noughts : DSp := wDef 1 m_noughts
def m_row_sum : DS := mRet (mOpN fTuple [.e (frz (mLc (iZp2 (mVar 0) (mVar 1)) (.tp [.nm 2, .nm 3]) (mYes) (frz (mOp2 fAdd (.e (mVar 2)) (.e (mVar 3)))) [2, 3]))])
@[irreducible] def w_row_sum : DSp := wDef 2 m_row_sum
@[irreducible] def m_Steads_amounts_1 : DS := mAsg (.nm 4) (vl (frz (mCall [.e (mVar 4), .e (frz (mCall [.e (mVar 7), .e (mVar 5)] w_row_times))] w_row_sum)))
@[irreducible] def m_Steads_amounts_2 : DS := mSeq (mFor (iZp2 (mVar 2) (mFld ("Steads" : Str) k_Steads 2 (mVar 0))) (.tp [.nm 5, .tp [.nm 6, .nm 7]]) (m_Steads_amounts_1)) (mRet (vl (mVar 4)))
@[irreducible] def m_Steads_amounts_3 : DS := mSeq (mAsg (.nm 4) (vl (frz (mCall [.e (frz (mOpN fLen [.e (mFld ("Steads" : Str) k_Steads 1 (mVar 0))]))] w_noughts)))) (m_Steads_amounts_2)
@[irreducible] def m_Steads_amounts_4 : DS := mSeq (mIfS (mNot (mTru (.e (frz (mCall [.e (mVar 3)] w_are_noughts))))) (mRet (vl (mK .non))) (mNext)) (m_Steads_amounts_3)
def m_Steads_amounts : DS := mSeq (mAsg (.tp [.nm 2, .nm 3]) (vl (frz (mMeth ("Steads" : Str) k_Steads (mVar 0) [.e (mVar 1)] w_Steads_walk)))) (m_Steads_amounts_4)
@[irreducible] def w_Steads_amounts : DSp := wDef 6 m_Steads_amounts
def m_multiple_of : DS := mRet (mOp2 fMul (.e (frz (mOp2 fDiv (.e (mVar 0)) (.e (frz (mOpN fGcd [.e (mVar 0), .e (mVar 1)])))))) (.e (mVar 1)))
@[irreducible] def w_multiple_of : DSp := wDef 0 m_multiple_of
@[irreducible] def m_joint_1 : DS := mRet (vl (mTup [frz (mOp2 fMod (.e (frz (mOpN fInt [.e (frz (mOp2 fAdd (.e (frz (mOp2 fIx (.e (mVar 0)) (.e (mK (.int 0)))))) (.e (frz (mOp2 fMul (.e (frz (mOp2 fIx (.e (mVar 2)) (.e (mK (.int 0)))))) (.e (frz (mOp2 fIx (.e (mVar 0)) (.e (mK (.int 1)))))))))))]))) (.e (mVar 3))), mVar 3]))
@[irreducible] def m_joint_2 : DS := mSeq (mAsg (.nm 3) (vl (frz (mCall [.e (frz (mOp2 fIx (.e (mVar 0)) (.e (mK (.int 1))))), .e (frz (mOp2 fIx (.e (mVar 1)) (.e (mK (.int 1)))))] w_multiple_of)))) (m_joint_1)
@[irreducible] def m_joint_3 : DS := mSeq (mIfS (asT (mOp2 fIsN (.e (mVar 2)) (.e (mK .non)))) (mRet (vl (mK .non))) (mNext)) (m_joint_2)
def m_joint : DS := mSeq (mAsg (.nm 2) (vl (frz (mMeth ("Steads" : Str) k_Steads (frz (mMake [.e (mK (.int 1)), .e (frz (mLst [mTup [frz (mOp2 fIx (.e (mVar 0)) (.e (mK (.int 1))))], mTup [frz (mOp2 fIx (.e (mVar 1)) (.e (mK (.int 1))))]]))] w_Steads_init)) [.e (mTup [frz (mOp2 fSub (.e (frz (mOp2 fIx (.e (mVar 1)) (.e (mK (.int 0)))))) (.e (frz (mOp2 fIx (.e (mVar 0)) (.e (mK (.int 0)))))))])] w_Steads_amounts)))) (m_joint_3)
@[irreducible] def w_joint : DSp := wDef 2 m_joint
def m_together_by_1 : DS := mAsg (.nm 1) (vl (frz (mIf (asT (mOp2 fNotN (.e (mVar 1)) (.e (mK .non)))) (mCall [.e (mVar 1), .e (mVar 2)] w_joint) (vl (mK .non)))))
def m_together_by_2 : DS := mSeq (mFor (iSq (mVar 0)) (.nm 2) (m_together_by_1)) (mRet (vl (mVar 1)))
def m_together_by : DS := mSeq (mAsg (.nm 1) (vl (mTup [mK (.int 0), mK (.int 1)]))) (m_together_by_2)
@[irreducible] def w_together_by : DSp := wDef 2 m_together_by
def m_together_1 : DS := mRet (mCall [.e (mVar 0)] w_together_by)
def m_together : DS := mSeq (mDrop (mCall [.e (mVar 0)] w_check_bells)) (m_together_1)
@[irreducible] def w_together : DSp := wDef 0 m_together
def m_divisor_of_1 : DS := mAsg (.nm 1) (vl (frz (mOpN fGcd [.e (mVar 1), .e (mVar 2)])))
def m_divisor_of_2 : DS := mSeq (mFor (iSq (mVar 0)) (.nm 2) (m_divisor_of_1)) (mRet (vl (mVar 1)))
def m_divisor_of : DS := mSeq (mAsg (.nm 1) (vl (mK (.int 0)))) (m_divisor_of_2)
@[irreducible] def w_divisor_of : DSp := wDef 2 m_divisor_of
def m_never_together_1 : DS := mRet (mOp2 fNe (.e (frz (mOp2 fMod (.e (frz (mOpN fInt [.e (mVar 3)]))) (.e (frz (mCall [.e (frz (mLst [frz (mOp2 fIx (.e (frz (mOp2 fIx (.e (mVar 0)) (.e (mVar 1))))) (.e (mK (.int 1)))), frz (mOp2 fIx (.e (frz (mOp2 fIx (.e (mVar 0)) (.e (mVar 2))))) (.e (mK (.int 1))))]))] w_divisor_of)))))) (.e (mK (.int 0))))
def m_never_together : DS := mSeq (mAsg (.nm 3) (vl (frz (mOp2 fSub (.e (frz (mOp2 fIx (.e (frz (mOp2 fIx (.e (mVar 0)) (.e (mVar 1))))) (.e (mK (.int 0)))))) (.e (frz (mOp2 fIx (.e (frz (mOp2 fIx (.e (mVar 0)) (.e (mVar 2))))) (.e (mK (.int 0)))))))))) (m_never_together_1)
@[irreducible] def w_never_together : DSp := wDef 1 m_never_together
@[irreducible] def m_apart_by_1 : DS := mRet (mIf (asT (mOp2 fNe (.e (mVar 2)) (.e (frz (mLst []))))) (mOp2 fIx (.e (mVar 2)) (.e (mK (.int 0)))) (vl (mK .non)))
@[irreducible] def m_apart_by_2 : DS := mSeq (mAsg (.nm 2) (vl (frz (mLc2 (iRgO (mVar 1)) (.nm 3) (mYes) (iRgO (mVar 1)) (.nm 4) (mAndT (asT (mOp2 fLt (.e (mVar 3)) (.e (mVar 4)))) (mTru (.e (frz (mCall [.e (mVar 0), .e (mVar 3), .e (mVar 4)] w_never_together))))) (mTup [mVar 3, mVar 4]) [3, 4] [4])))) (m_apart_by_1)
def m_apart_by : DS := mSeq (mAsg (.nm 1) (vl (frz (mOpN fRg1 [.e (frz (mOpN fLen [.e (mVar 0)]))])))) (m_apart_by_2)
@[irreducible] def w_apart_by : DSp := wDef 4 m_apart_by
def m_apart : DS := mSeq (mDrop (mCall [.e (mVar 0)] w_check_bells)) (mRet (mCall [.e (mVar 0)] w_apart_by))
@[irreducible] def w_apart : DSp := wDef 0 m_apart
def m_check_time : DS := mIfS (mNot (mTru (.e (frz (mCall [.e (mVar 0)] w_is_whole))))) (mRaise "InvalidNumber" "given" (mVar 0)) (mNext)
@[irreducible] def w_check_time : DSp := wDef 0 m_check_time
def m_ringing_by : DS := mRet (mOpN fTuple [.e (frz (mLc (iEn (mVar 0)) (.tp [.nm 2, .tp [.nm 3, .nm 4]]) (asT (mOp2 fEq (.e (frz (mOp2 fMod (.e (frz (mOpN fInt [.e (frz (mOp2 fSub (.e (mVar 1)) (.e (mVar 3))))]))) (.e (mVar 4))))) (.e (mK (.int 0))))) (mVar 2) [2, 3, 4]))])
@[irreducible] def w_ringing_by : DSp := wDef 3 m_ringing_by
def m_ringing_1 : DS := mRet (mCall [.e (mVar 0), .e (mVar 1)] w_ringing_by)
def m_ringing_2 : DS := mSeq (mDrop (mCall [.e (mVar 1)] w_check_time)) (m_ringing_1)
def m_ringing : DS := mSeq (mDrop (mCall [.e (mVar 0)] w_check_bells)) (m_ringing_2)
@[irreducible] def w_ringing : DSp := wDef 0 m_ringing
def m_next_time_by_1 : DS := mRet (mIf (asT (mOp2 fNotN (.e (mVar 2)) (.e (mK .non)))) (mOp2 fAdd (.e (mVar 1)) (.e (frz (mOp2 fMod (.e (frz (mOpN fInt [.e (frz (mOp2 fSub (.e (frz (mOp2 fIx (.e (mVar 2)) (.e (mK (.int 0)))))) (.e (mVar 1))))]))) (.e (frz (mOp2 fIx (.e (mVar 2)) (.e (mK (.int 1)))))))))) (vl (mK .non)))
def m_next_time_by : DS := mSeq (mAsg (.nm 2) (vl (frz (mCall [.e (mVar 0)] w_together_by)))) (m_next_time_by_1)
@[irreducible] def w_next_time_by : DSp := wDef 1 m_next_time_by
def m_next_time_1 : DS := mRet (mCall [.e (mVar 0), .e (mVar 1)] w_next_time_by)
def m_next_time_2 : DS := mSeq (mDrop (mCall [.e (mVar 1)] w_check_time)) (m_next_time_1)
def m_next_time : DS := mSeq (mDrop (mCall [.e (mVar 0)] w_check_bells)) (m_next_time_2)
@[irreducible] def w_next_time : DSp := wDef 0 m_next_time
def m_law_done_1 : DS := mRet (mIf (asT (mOp2 fEq (.e (mVar 0)) (.e (mK (.int 2))))) (mCall [.e (mVar 1), .e (mVar 2)] w_ringing) (mCallK [.e (mVar 2), .e (mVar 1)] [1, 0] w_next_time))
def m_law_done : DS := mSeq (mIfS (asT (mOp2 fLt (.e (mVar 0)) (.e (mK (.int 2))))) (mRet (mIf (asT (mOp2 fEq (.e (mVar 0)) (.e (mK (.int 0))))) (mCall [.e (mVar 1)] w_together) (mCallK [.e (mVar 1)] [0] w_apart))) (mNext)) (m_law_done_1)
@[irreducible] def w_law_done : DSp := wDef 0 m_law_done
@[irreducible] def m_law_said_1 : DS := mRet (vl (mTup [mK (.str "told"), mK .non]))
def m_law_said : DS := mSeq (mTry und [(("InvalidBells" : Str), some (3, ("index" : Str)), ("bells" : Str), none), (("InvalidNumber" : Str), some (3, ("given" : Str)), ("time" : Str), none), (("PackError" : Str), none, ("other" : Str), none)] (mDrop (mCall [.e (mVar 0), .e (mVar 1), .e (mVar 2)] w_law_done))) (m_law_said_1)
@[irreducible] def w_law_said : DSp := wDef 1 m_law_said
def m_law_same_1 (w : DSp) : DS := mRet (mAndV (.e (frz (mOpN fIsi [.e (mVar 1), .e (mK (.ty "dict"))]))) (mAndV (.e (frz (mOpN fIsi [.e (mVar 0), .e (mK (.ty "dict"))]))) (mAndV (.e (frz (mOp2 fEq (.e (frz (mOpN fLen [.e (mVar 0)]))) (.e (frz (mOpN fLen [.e (mVar 1)])))))) (mOp2 fEq (.e (mVar 0)) (.e (mVar 1))))))
def m_law_same_2 (w : DSp) : DS := mSeq (mIfS (mTru (.e (frz (mOpN fIsi [.e (mVar 1), .e (mK (.ty "str"))])))) (mRet (mAndV (.e (frz (mOpN fIsi [.e (mVar 0), .e (mK (.ty "str"))]))) (mOp2 fEq (.e (mVar 0)) (.e (mVar 1))))) (mNext)) (m_law_same_1 w)
def m_law_same_3 (w : DSp) : DS := mSeq (mIfS (mTru (.e (frz (mOpN fIsi [.e (mVar 1), .e (mK (.ty "int"))])))) (mRet (mAndV (.e (frz (mOpN fIsi [.e (mVar 0), .e (mK (.ty "int"))]))) (mOp2 fEq (.e (mVar 0)) (.e (mVar 1))))) (mNext)) (m_law_same_2 w)
def m_law_same_4 (w : DSp) : DS := mSeq (mIfS (mOrT (mTru (.e (frz (mOpN fIsi [.e (mVar 1), .e (mK (.ty "bool"))])))) (mTru (.e (frz (mOpN fIsi [.e (mVar 0), .e (mK (.ty "bool"))]))))) (mRet (mAndV (.e (frz (mOpN fIsi [.e (mVar 1), .e (mK (.ty "bool"))]))) (mAndV (.e (frz (mOpN fIsi [.e (mVar 0), .e (mK (.ty "bool"))]))) (mOp2 fEq (.e (mVar 1)) (.e (mVar 0)))))) (mNext)) (m_law_same_3 w)
def m_law_same_5 (w : DSp) : DS := mSeq (mIfS (mOrT (asT (mOp2 fIsN (.e (mVar 1)) (.e (mK .non)))) (asT (mOp2 fIsN (.e (mVar 0)) (.e (mK .non))))) (mRet (mAndV (.e (frz (mOp2 fIsN (.e (mVar 1)) (.e (mK .non))))) (mOp2 fIsN (.e (mVar 0)) (.e (mK .non))))) (mNext)) (m_law_same_4 w)
def m_law_same_6 (w : DSp) : DS := mSeq (mIfS (mTru (.e (frz (mOpN fIsi [.e (mVar 1), .e (mTup [mK (.ty "tuple"), mK (.ty "list")])])))) (mRet (mAndV (.e (frz (mOp2 fEq (.e (frz (mOpN fLen [.e (mVar 0)]))) (.e (frz (mOpN fLen [.e (mVar 1)])))))) (mOpN fAll [.e (frz (mLc (iRg1 (frz (mOpN fLen [.e (mVar 1)]))) (.nm 2) (mYes) (frz (mCall [.e (frz (mOp2 fIx (.e (mVar 0)) (.e (mVar 2)))), .e (frz (mOp2 fIx (.e (mVar 1)) (.e (mVar 2))))] (w))) [2]))]))) (mNext)) (m_law_same_5 w)
def m_law_same (w : DSp) : DS := mSeq (mIfS (mOrT (mAndT (mTru (.e (frz (mOpN fIsi [.e (mVar 1), .e (mK (.ty "tuple"))])))) (mNot (mTru (.e (frz (mOpN fIsi [.e (mVar 0), .e (mK (.ty "tuple"))])))))) (mAndT (mTru (.e (frz (mOpN fIsi [.e (mVar 1), .e (mK (.ty "list"))])))) (mNot (mTru (.e (frz (mOpN fIsi [.e (mVar 0), .e (mK (.ty "list"))]))))))) (mRet (vl (mK (.bl false)))) (mNext)) (m_law_same_6 w)
def w_law_same : Nat → DSp
  | 0 => fun _ _ _ => False
  | r + 1 => wDef 1 (m_law_same (w_law_same r))
@[irreducible] def v_law_same : DSp := w_law_same 8
@[irreducible] def x_law_right_i_1 : DE := mTup [mK .non, mK (.int 7), mK (.str ""), mTup [], frz (mOpN fList [.e (mVar 1)]), frz (mSl (.e (frz (mOp2 fMul (.e (mVar 1)) (.e (mK (.int 9)))))) none (some (mK (.int 9)))), mK (.dic [] []), mK (.bl true)]
@[irreducible] def x_law_right_i_2 : DC := mLst [mK .non, mK (.int 3), mTup [], mTup [mVar 3], mTup [mVar 3, mVar 4, mK (.int 0)], frz (mLst [mVar 3, mVar 4]), mTup [mVar 3, mK (.int 0)], mTup [mVar 3, frz (mOp1 fNeg (.e (mK (.int 1))))], mTup [mVar 3, mK (.int 10000)], mTup [mK (.int 10000), mVar 4], mTup [frz (mOp1 fNeg (.e (mK (.int 10000)))), mVar 4], mTup [mK (.bl true), mVar 4]]
@[irreducible] def x_law_right_i_3 : DC := mLst [mTup [mVar 3, mK (.bl true)], mTup [mK .non, mVar 4], mTup [mVar 3, mK .non], mTup [mK (.str "1"), mVar 4], mTup [frz (mOp2 fPow (.e (mK (.int 10))) (.e (mK (.int 30)))), mVar 4], mTup [mVar 3, frz (mOp2 fPow (.e (mK (.int 10))) (.e (mK (.int 30))))]]
@[irreducible] def x_law_right_i_4 : DE := mTup [mK .non, mK (.str "0"), mK (.bl true), mTup [mK (.int 0)], frz (mLst []), mTup [mK (.int 1), mK (.int 2)]]
@[irreducible] def m_law_right_i_1 : DS := mIfS (asT (mOp2 fNe (.e (frz (mCall [.e (mVar 5), .e (mVar 1), .e (mVar 6)] w_law_said))) (.e (mTup [mK (.str "told"), mK .non])))) (mRet (vl (mK (.bl false)))) (mNext)
@[irreducible] def m_law_right_i_2 : DS := mIfS (mNot (mTru (.e (frz (mCall [.e (frz (mCall [.e (mVar 5), .e (mVar 7), .e (frz (mCall [.s 0, .e (mTup [mK (.int 0), mK .non])] w_law_of_iv))] w_law_said)), .e (mTup [mK (.str "bells"), mK .non])] v_law_same))))) (mRet (vl (mK (.bl false)))) (mNext)
@[irreducible] def m_law_right_i_3 : DS := mIfS (mNot (mTru (.e (frz (mCall [.e (frz (mCall [.e (mVar 5), .e (mVar 9), .e (frz (mCall [.s 0, .e (mTup [mK (.int 0), mK .non])] w_law_of_iv))] w_law_said)), .e (mTup [mK (.str "bells"), mVar 2])] v_law_same))))) (mRet (vl (mK (.bl false)))) (mNext)
@[irreducible] def m_law_right_i_4 : DS := mSeq (mAsg (.nm 9) (vl (frz (mOp2 fAdd (.e (frz (mOp2 fAdd (.e (frz (mSl (.e (mVar 1)) none (some (mVar 2))))) (.e (mTup [mVar 7]))))) (.e (frz (mSl (.e (mVar 1)) (some (frz (mOp2 fAdd (.e (mVar 2)) (.e (mK (.int 1)))))) none))))))) (m_law_right_i_3)
@[irreducible] def m_law_right_i_5 : DS := mIfS (mAndT (asT (mOp2 fGt (.e (mVar 5)) (.e (mK (.int 1))))) (mNot (mTru (.e (frz (mCall [.e (frz (mCall [.e (mVar 5), .e (mVar 1), .e (mVar 7)] w_law_said)), .e (mTup [mK (.str "time"), mVar 7])] v_law_same)))))) (mRet (vl (mK (.bl false)))) (mNext)
@[irreducible] def m_law_right_i_6 : DS := mSeq (mIfS (mNot (mTru (.e (frz (mCall [.e (frz (mCall [.e (mVar 5), .e (frz (mSl (.e (frz (mOp2 fAdd (.e (frz (mOp2 fAdd (.e (frz (mOp2 fAdd (.e (frz (mSl (.e (mVar 1)) none (some (mVar 2))))) (.e (mTup [mK .non]))))) (.e (frz (mSl (.e (mVar 1)) (some (frz (mOp2 fAdd (.e (mVar 2)) (.e (mK (.int 1)))))) none)))))) (.e (mTup [mTup []]))))) none (some (mK (.int 8))))), .e (mK .non)] w_law_said)), .e (mTup [mK (.str "bells"), mVar 2])] v_law_same))))) (mRet (vl (mK (.bl false)))) (mNext)) (mFor (iSq (x_law_right_i_4)) (.nm 7) (m_law_right_i_5))
@[irreducible] def m_law_right_i_7 : DS := mSeq (mFor (iSq (frz (mOp2 fAdd (.e (mVar 8)) (.e (frz (x_law_right_i_3)))))) (.nm 7) (m_law_right_i_4)) (m_law_right_i_6)
@[irreducible] def m_law_right_i_8 : DS := mSeq (mAsg (.nm 8) (vl (frz (x_law_right_i_2)))) (m_law_right_i_7)
@[irreducible] def m_law_right_i_9 : DS := mSeq (mFor (iSq (x_law_right_i_1)) (.nm 7) (m_law_right_i_2)) (m_law_right_i_8)
@[irreducible] def m_law_right_i_10 : DS := mSeq (mFor (iSq (mTup [mK (.int 0), frz (mOp1 fNeg (.e (mK (.int 5)))), frz (mOp2 fPow (.e (mK (.int 10))) (.e (mK (.int 39)))), frz (mOp1 fNeg (.e (frz (mOp2 fPow (.e (mK (.int 10))) (.e (mK (.int 39)))))))])) (.nm 6) (m_law_right_i_1)) (m_law_right_i_9)
@[irreducible] def m_law_right_i_11 : DS := mSeq (mFor (iRg1 (mK (.int 4))) (.nm 5) (m_law_right_i_10)) (mRet (vl (mK (.bl true))))
@[irreducible] def m_law_right_i_12 : DS := mSeq (mAsg (.tp [.nm 3, .nm 4]) (vl (frz (mOp2 fIx (.e (mVar 1)) (.e (mVar 2)))))) (m_law_right_i_11)
@[irreducible] def m_law_right_i_13 : DS := mSeq (mAsg (.nm 2) (vl (frz (mCall [.s 0, .e (frz (mOpN fLen [.e (mVar 1)]))] w_law_take_iv)))) (m_law_right_i_12)
@[irreducible] def m_law_right_i_14 : DS := mSeq (mAsg (.nm 1) (vl (frz (mSl (.e (mVar 1)) none (some (frz (mOp2 fAdd (.e (mK (.int 1))) (.e (frz (mCall [.s 0, .e (mK (.int 8))] w_law_take_iv)))))))))) (m_law_right_i_13)
def m_law_right_i : DS := mSeq (mAsg (.nm 1) (vl (frz (mOp2 fAdd (.e (frz (mCall [.s 0, .e (mK (.int 99))] w_law_bells_iv))) (.e (mTup [mTup [mK (.int 9999), mK (.int 9999)], mTup [frz (mOp1 fNeg (.e (mK (.int 9999)))), mK (.int 1)]])))))) (m_law_right_i_14)
@[irreducible] def w_law_right_i : DSp := wDef 9 m_law_right_i
def m_law : DS := mRet (mOpN fAll [.e (frz (mLc (iRg1 (frz (mOpN fMax [.e (mK (.int 2)), .e (frz (mOpN fMin [.e (frz (mOpN fLen [.e (mVar 0)])), .e (mK (.int 4))]))]))) (.nm 1) (mYes) (frz (mCall [.t (mCall [.e (mVar 0), .e (mVar 1)] w_law_well)] w_law_right_i)) [1]))])
@[irreducible] def w_law : DSp := wDef 1 m_law
/-! ### the head -/
def d_law_well : He.DefD := ⟨("_law_well", none), "_law_well", "_law_well", defArgs (top 50), defBody (top 50), defScope (top 50), [], []⟩
def d_law_take : He.DefD := ⟨("_law_take", none), "_law_take", "_law_take", defArgs (top 51), defBody (top 51), defScope (top 51), [], []⟩
def d_law_of : He.DefD := ⟨("_law_of", none), "_law_of", "_law_of", defArgs (top 52), defBody (top 52), defScope (top 52), [], []⟩
def d_law_bells : He.DefD := ⟨("_law_bells", none), "_law_bells", "_law_bells", defArgs (top 54), defBody (top 54), defScope (top 54), [], []⟩
def d_is_whole : He.DefD := ⟨("is_whole", none), "is_whole", "is_whole", defArgs (top 3), defBody (top 3), defScope (top 3), [], []⟩
def d_is_between : He.DefD := ⟨("is_between", none), "is_between", "is_between", defArgs (top 4), defBody (top 4), defScope (top 4), [], []⟩
def d_is_tuple_of : He.DefD := ⟨("is_tuple_of", none), "is_tuple_of", "is_tuple_of", defArgs (top 5), defBody (top 5), defScope (top 5), [], []⟩
def d_is_bell : He.DefD := ⟨("is_bell", none), "is_bell", "is_bell", defArgs (top 30), defBody (top 30), defScope (top 30), [], []⟩
def d_wrong_in_bells : He.DefD := ⟨("wrong_in_bells", none), "wrong_in_bells", "wrong_in_bells", defArgs (top 31), defBody (top 31), defScope (top 31), [], []⟩
def d_check_bells : He.DefD := ⟨("check_bells", none), "check_bells", "check_bells", defArgs (top 43), defBody (top 43), defScope (top 43), [], []⟩
def d_unit : He.DefD := ⟨("unit", none), "unit", "unit", defArgs (top 13), defBody (top 13), defScope (top 13), [], []⟩
def d_pairs_of : He.DefD := ⟨("pairs_of", none), "pairs_of", "pairs_of", defArgs (top 17), defBody (top 17), defScope (top 17), [], []⟩
def d_nearest_to_nought : He.DefD := ⟨("nearest_to_nought", none), "nearest_to_nought", "nearest_to_nought", defArgs (top 18), defBody (top 18), defScope (top 18), [], []⟩
def d_is_alone : He.DefD := ⟨("is_alone", none), "is_alone", "is_alone", defArgs (top 20), defBody (top 20), defScope (top 20), [], []⟩
def d_row_less : He.DefD := ⟨("row_less", none), "row_less", "row_less", defArgs (top 10), defBody (top 10), defScope (top 10), [], []⟩
def d_pair_less : He.DefD := ⟨("pair_less", none), "pair_less", "pair_less", defArgs (top 15), defBody (top 15), defScope (top 15), [], []⟩
def d_lessened : He.DefD := ⟨("lessened", none), "lessened", "lessened", defArgs (top 19), defBody (top 19), defScope (top 19), [], []⟩
def d_row_times : He.DefD := ⟨("row_times", none), "row_times", "row_times", defArgs (top 9), defBody (top 9), defScope (top 9), [], []⟩
def d_turned_pair : He.DefD := ⟨("turned_pair", none), "turned_pair", "turned_pair", defArgs (top 16), defBody (top 16), defScope (top 16), [], []⟩
def d_parted_at : He.DefD := ⟨("parted_at", none), "parted_at", "parted_at", defArgs (top 21), defBody (top 21), defScope (top 21), [], []⟩
def d_head_place : He.DefD := ⟨("head_place", none), "head_place", "head_place", defArgs (top 22), defBody (top 22), defScope (top 22), [], []⟩
def d_smoothed : He.DefD := ⟨("smoothed", none), "smoothed", "smoothed", defArgs (top 23), defBody (top 23), defScope (top 23), [], []⟩
def d_Steads___init : He.DefD := ⟨("Steads", some "__init__"), "__init__", "Steads.__init__", defArgs (inClass (top 24) 0), defBody (inClass (top 24) 0), defScope (inClass (top 24) 0), [], []⟩
def d_Steads_walk : He.DefD := ⟨("Steads", some "walk"), "walk", "Steads.walk", defArgs (inClass (top 24) 2), defBody (inClass (top 24) 2), defScope (inClass (top 24) 2), [], []⟩
def d_are_noughts : He.DefD := ⟨("are_noughts", none), "are_noughts", "are_noughts", defArgs (top 11), defBody (top 11), defScope (top 11), [], []⟩
def d_noughts : He.DefD := ⟨("noughts", none), "noughts", "noughts", defArgs (top 12), defBody (top 12), defScope (top 12), [], []⟩
def d_row_sum : He.DefD := ⟨("row_sum", none), "row_sum", "row_sum", defArgs (top 8), defBody (top 8), defScope (top 8), [], []⟩
def d_Steads_amounts : He.DefD := ⟨("Steads", some "amounts"), "amounts", "Steads.amounts", defArgs (inClass (top 24) 5), defBody (inClass (top 24) 5), defScope (inClass (top 24) 5), [], []⟩
def d_multiple_of : He.DefD := ⟨("multiple_of", none), "multiple_of", "multiple_of", defArgs (top 7), defBody (top 7), defScope (top 7), [], []⟩
def d_joint : He.DefD := ⟨("joint", none), "joint", "joint", defArgs (top 34), defBody (top 34), defScope (top 34), [], []⟩
def d_together_by : He.DefD := ⟨("together_by", none), "together_by", "together_by", defArgs (top 35), defBody (top 35), defScope (top 35), [], []⟩
def d_together : He.DefD := ⟨("together", none), "together", "together", defArgs (top 45), defBody (top 45), defScope (top 45), [], []⟩
def d_divisor_of : He.DefD := ⟨("divisor_of", none), "divisor_of", "divisor_of", defArgs (top 6), defBody (top 6), defScope (top 6), [], []⟩
def d_never_together : He.DefD := ⟨("never_together", none), "never_together", "never_together", defArgs (top 32), defBody (top 32), defScope (top 32), [], []⟩
def d_apart_by : He.DefD := ⟨("apart_by", none), "apart_by", "apart_by", defArgs (top 33), defBody (top 33), defScope (top 33), [], []⟩
def d_apart : He.DefD := ⟨("apart", none), "apart", "apart", defArgs (top 46), defBody (top 46), defScope (top 46), [], []⟩
def d_check_time : He.DefD := ⟨("check_time", none), "check_time", "check_time", defArgs (top 44), defBody (top 44), defScope (top 44), [], []⟩
def d_ringing_by : He.DefD := ⟨("ringing_by", none), "ringing_by", "ringing_by", defArgs (top 36), defBody (top 36), defScope (top 36), [], []⟩
def d_ringing : He.DefD := ⟨("ringing", none), "ringing", "ringing", defArgs (top 47), defBody (top 47), defScope (top 47), [], []⟩
def d_next_time_by : He.DefD := ⟨("next_time_by", none), "next_time_by", "next_time_by", defArgs (top 37), defBody (top 37), defScope (top 37), [], []⟩
def d_next_time : He.DefD := ⟨("next_time", none), "next_time", "next_time", defArgs (top 48), defBody (top 48), defScope (top 48), [], []⟩
def d_law_done : He.DefD := ⟨("_law_done", none), "_law_done", "_law_done", defArgs (top 55), defBody (top 55), defScope (top 55), [], []⟩
def d_law_said : He.DefD := ⟨("_law_said", none), "_law_said", "_law_said", defArgs (top 56), defBody (top 56), defScope (top 56), [], []⟩
def d_law_same : He.DefD := ⟨("_law_same", none), "_law_same", "_law_same", defArgs (top 53), defBody (top 53), defScope (top 53), [], []⟩
def d_law_right : He.DefD := ⟨("_law_right", none), "_law_right", "_law_right", defArgs (top 57), defBody (top 57), defScope (top 57), [], []⟩
def d_law : He.DefD := ⟨("law", none), "law", "law", defArgs (top 58), defBody (top 58), defScope (top 58), [], []⟩
def d_InvalidBells : He.DefD := ⟨("InvalidBells", some "__init__"), "__init__", "InvalidBells.__init__", defArgs (inClass (top 41) 0), defBody (inClass (top 41) 0), defScope (inClass (top 41) 0), [], []⟩
def d_InvalidNumber : He.DefD := ⟨("InvalidNumber", some "__init__"), "__init__", "InvalidNumber.__init__", defArgs (inClass (top 40) 0), defBody (inClass (top 40) 0), defScope (inClass (top 40) 0), [], []⟩
def fn : List He.DefD := [d_law_well, d_law_take, d_law_of, d_law_bells, d_is_whole, d_is_between, d_is_tuple_of, d_is_bell, d_wrong_in_bells, d_check_bells, d_unit, d_pairs_of, d_nearest_to_nought, d_is_alone, d_row_less, d_pair_less, d_lessened, d_row_times, d_turned_pair, d_parted_at, d_head_place, d_smoothed, d_Steads___init, d_Steads_walk, d_are_noughts, d_noughts, d_row_sum, d_Steads_amounts, d_multiple_of, d_joint, d_together_by, d_together, d_divisor_of, d_never_together, d_apart_by, d_apart, d_check_time, d_ringing_by, d_ringing, d_next_time_by, d_next_time, d_law_done, d_law_said, d_law_same, d_law_right, d_law, d_InvalidBells, d_InvalidNumber]
def fa : List He.Fa := [.free "len", .free "min", .free "max", .free "range", .free "int", .free "abs", .free "divmod", .free "tuple", .int "MOST_BELLS" 8, .free "isinstance", .free "enumerate", .int "FIRST" 0, .int "MOST_TIME" 9999, .free "bool", .int "EVERY" 1, .glo "InvalidBells", .cls "Steads", .noat "Steads" "many", .noat "Steads" "rows", .free "all", .free "zip", .noat "Steads" "pairs", .free "list", .noat "Steads" "idle", .glo "Steads", .mkr "Steads", .meth "Steads" "walk", .meth "Steads" "amounts", .glo "InvalidNumber", .glo "PackError", .free "str", .free "dict", .glo "_law_well", .glo "_law_take", .glo "_law_of", .glo "_law_bells", .glo "is_whole", .glo "is_between", .glo "is_tuple_of", .glo "is_bell", .glo "wrong_in_bells", .glo "check_bells", .glo "unit", .glo "pairs_of", .glo "nearest_to_nought", .glo "is_alone", .glo "row_less", .glo "pair_less", .glo "lessened", .glo "row_times", .glo "turned_pair", .glo "parted_at", .glo "head_place", .glo "smoothed", .glo "are_noughts", .glo "noughts", .glo "row_sum", .glo "multiple_of", .glo "joint", .glo "together_by", .glo "together", .glo "divisor_of", .glo "never_together", .glo "apart_by", .glo "apart", .glo "check_time", .glo "ringing_by", .glo "ringing", .glo "next_time_by", .glo "next_time", .glo "_law_done", .glo "_law_said", .glo "_law_same", .glo "_law_right", .glo "law"]
def exs : List (PySem.W.Frag → Bool) := [fun K => oexB K "InvalidBells", fun K => noatB K "InvalidBells" "index", fun K => oexB K "InvalidNumber", fun K => noatB K "InvalidNumber" "given", bltB "gcd" "math.gcd", fun K => xfB K (He.ga K "InvalidBells"), fun K => xfB K (He.ga K "InvalidNumber"), undB tblU]
abbrev ZZ (K : PySem.W.Frag) (mg : Str → Option Value) (base : Heap) : Prop := Zx fa fn (exAll exs) K mg base
section
variable {P : Program} {w : World} {K : PySem.W.Frag} {mg : Str → Option Value} {base : Heap}
theorem f_len (Z : ZZ K mg base) : mg "len" = none := Z.free 0
theorem f_min (Z : ZZ K mg base) : mg "min" = none := Z.free 1
theorem f_max (Z : ZZ K mg base) : mg "max" = none := Z.free 2
theorem f_range (Z : ZZ K mg base) : mg "range" = none := Z.free 3
theorem f_int (Z : ZZ K mg base) : mg "int" = none := Z.free 4
theorem f_abs (Z : ZZ K mg base) : mg "abs" = none := Z.free 5
theorem f_divmod (Z : ZZ K mg base) : mg "divmod" = none := Z.free 6
theorem f_tuple (Z : ZZ K mg base) : mg "tuple" = none := Z.free 7
theorem c_MOST_BELLS (Z : ZZ K mg base) : ∃ t, mg "MOST_BELLS" = some (.int 8 t) := Z.int 8
theorem f_isinstance (Z : ZZ K mg base) : mg "isinstance" = none := Z.free 9
theorem f_enumerate (Z : ZZ K mg base) : mg "enumerate" = none := Z.free 10
theorem c_FIRST (Z : ZZ K mg base) : ∃ t, mg "FIRST" = some (.int 0 t) := Z.int 11
theorem c_MOST_TIME (Z : ZZ K mg base) : ∃ t, mg "MOST_TIME" = some (.int 9999 t) := Z.int 12
theorem f_bool (Z : ZZ K mg base) : mg "bool" = none := Z.free 13
theorem c_EVERY (Z : ZZ K mg base) : ∃ t, mg "EVERY" = some (.int 1 t) := Z.int 14
theorem g_InvalidBells (Z : ZZ K mg base) : mg "InvalidBells" = some (.ref (He.ga K "InvalidBells")) := Z.glo 15
theorem cls_Steads (Z : ZZ K mg base) : Cls K (He.ga K "Steads") := He.cls_ok (Z.c.1.fact 16 rfl)
theorem na_Steads_many (Z : ZZ K mg base) : NoAttr K (He.ga K "Steads") "many" := He.noat_ok (Z.c.1.fact 17 rfl)
theorem na_Steads_rows (Z : ZZ K mg base) : NoAttr K (He.ga K "Steads") "rows" := He.noat_ok (Z.c.1.fact 18 rfl)
theorem f_all (Z : ZZ K mg base) : mg "all" = none := Z.free 19
theorem f_zip (Z : ZZ K mg base) : mg "zip" = none := Z.free 20
theorem na_Steads_pairs (Z : ZZ K mg base) : NoAttr K (He.ga K "Steads") "pairs" := He.noat_ok (Z.c.1.fact 21 rfl)
theorem f_list (Z : ZZ K mg base) : mg "list" = none := Z.free 22
theorem na_Steads_idle (Z : ZZ K mg base) : NoAttr K (He.ga K "Steads") "idle" := He.noat_ok (Z.c.1.fact 23 rfl)
theorem g_Steads (Z : ZZ K mg base) : mg "Steads" = some (.ref (He.ga K "Steads")) := Z.glo 24
theorem mk_Steads (Z : ZZ K mg base) : Mk K (He.ga K "Steads") (He.ma K (He.ga K "Steads") "__init__") := He.mkr_ok (Z.c.1.fact 25 rfl)
theorem mt_Steads_walk (Z : ZZ K mg base) : Meth K (He.ga K "Steads") "walk" (He.ma K (He.ga K "Steads") "walk") := He.meth_ok (Z.c.1.fact 26 rfl)
theorem mt_Steads_amounts (Z : ZZ K mg base) : Meth K (He.ga K "Steads") "amounts" (He.ma K (He.ga K "Steads") "amounts") := He.meth_ok (Z.c.1.fact 27 rfl)
theorem g_InvalidNumber (Z : ZZ K mg base) : mg "InvalidNumber" = some (.ref (He.ga K "InvalidNumber")) := Z.glo 28
theorem g_PackError (Z : ZZ K mg base) : mg "PackError" = some (.ref (He.ga K "PackError")) := Z.glo 29
theorem f_str (Z : ZZ K mg base) : mg "str" = none := Z.free 30
theorem f_dict (Z : ZZ K mg base) : mg "dict" = none := Z.free 31
theorem g__law_well (Z : ZZ K mg base) : mg "_law_well" = some (.ref (He.ga K "_law_well")) := Z.glo 32
theorem g__law_take (Z : ZZ K mg base) : mg "_law_take" = some (.ref (He.ga K "_law_take")) := Z.glo 33
theorem g__law_of (Z : ZZ K mg base) : mg "_law_of" = some (.ref (He.ga K "_law_of")) := Z.glo 34
theorem g__law_bells (Z : ZZ K mg base) : mg "_law_bells" = some (.ref (He.ga K "_law_bells")) := Z.glo 35
theorem g_is_whole (Z : ZZ K mg base) : mg "is_whole" = some (.ref (He.ga K "is_whole")) := Z.glo 36
theorem g_is_between (Z : ZZ K mg base) : mg "is_between" = some (.ref (He.ga K "is_between")) := Z.glo 37
theorem g_is_tuple_of (Z : ZZ K mg base) : mg "is_tuple_of" = some (.ref (He.ga K "is_tuple_of")) := Z.glo 38
theorem g_is_bell (Z : ZZ K mg base) : mg "is_bell" = some (.ref (He.ga K "is_bell")) := Z.glo 39
theorem g_wrong_in_bells (Z : ZZ K mg base) : mg "wrong_in_bells" = some (.ref (He.ga K "wrong_in_bells")) := Z.glo 40
theorem g_check_bells (Z : ZZ K mg base) : mg "check_bells" = some (.ref (He.ga K "check_bells")) := Z.glo 41
theorem g_unit (Z : ZZ K mg base) : mg "unit" = some (.ref (He.ga K "unit")) := Z.glo 42
theorem g_pairs_of (Z : ZZ K mg base) : mg "pairs_of" = some (.ref (He.ga K "pairs_of")) := Z.glo 43
theorem g_nearest_to_nought (Z : ZZ K mg base) : mg "nearest_to_nought" = some (.ref (He.ga K "nearest_to_nought")) := Z.glo 44
theorem g_is_alone (Z : ZZ K mg base) : mg "is_alone" = some (.ref (He.ga K "is_alone")) := Z.glo 45
theorem g_row_less (Z : ZZ K mg base) : mg "row_less" = some (.ref (He.ga K "row_less")) := Z.glo 46
theorem g_pair_less (Z : ZZ K mg base) : mg "pair_less" = some (.ref (He.ga K "pair_less")) := Z.glo 47
theorem g_lessened (Z : ZZ K mg base) : mg "lessened" = some (.ref (He.ga K "lessened")) := Z.glo 48
theorem g_row_times (Z : ZZ K mg base) : mg "row_times" = some (.ref (He.ga K "row_times")) := Z.glo 49
theorem g_turned_pair (Z : ZZ K mg base) : mg "turned_pair" = some (.ref (He.ga K "turned_pair")) := Z.glo 50
theorem g_parted_at (Z : ZZ K mg base) : mg "parted_at" = some (.ref (He.ga K "parted_at")) := Z.glo 51
theorem g_head_place (Z : ZZ K mg base) : mg "head_place" = some (.ref (He.ga K "head_place")) := Z.glo 52
theorem g_smoothed (Z : ZZ K mg base) : mg "smoothed" = some (.ref (He.ga K "smoothed")) := Z.glo 53
theorem g_are_noughts (Z : ZZ K mg base) : mg "are_noughts" = some (.ref (He.ga K "are_noughts")) := Z.glo 54
theorem g_noughts (Z : ZZ K mg base) : mg "noughts" = some (.ref (He.ga K "noughts")) := Z.glo 55
theorem g_row_sum (Z : ZZ K mg base) : mg "row_sum" = some (.ref (He.ga K "row_sum")) := Z.glo 56
theorem g_multiple_of (Z : ZZ K mg base) : mg "multiple_of" = some (.ref (He.ga K "multiple_of")) := Z.glo 57
theorem g_joint (Z : ZZ K mg base) : mg "joint" = some (.ref (He.ga K "joint")) := Z.glo 58
theorem g_together_by (Z : ZZ K mg base) : mg "together_by" = some (.ref (He.ga K "together_by")) := Z.glo 59
theorem g_together (Z : ZZ K mg base) : mg "together" = some (.ref (He.ga K "together")) := Z.glo 60
theorem g_divisor_of (Z : ZZ K mg base) : mg "divisor_of" = some (.ref (He.ga K "divisor_of")) := Z.glo 61
theorem g_never_together (Z : ZZ K mg base) : mg "never_together" = some (.ref (He.ga K "never_together")) := Z.glo 62
theorem g_apart_by (Z : ZZ K mg base) : mg "apart_by" = some (.ref (He.ga K "apart_by")) := Z.glo 63
theorem g_apart (Z : ZZ K mg base) : mg "apart" = some (.ref (He.ga K "apart")) := Z.glo 64
theorem g_check_time (Z : ZZ K mg base) : mg "check_time" = some (.ref (He.ga K "check_time")) := Z.glo 65
theorem g_ringing_by (Z : ZZ K mg base) : mg "ringing_by" = some (.ref (He.ga K "ringing_by")) := Z.glo 66
theorem g_ringing (Z : ZZ K mg base) : mg "ringing" = some (.ref (He.ga K "ringing")) := Z.glo 67
theorem g_next_time_by (Z : ZZ K mg base) : mg "next_time_by" = some (.ref (He.ga K "next_time_by")) := Z.glo 68
theorem g_next_time (Z : ZZ K mg base) : mg "next_time" = some (.ref (He.ga K "next_time")) := Z.glo 69
theorem g__law_done (Z : ZZ K mg base) : mg "_law_done" = some (.ref (He.ga K "_law_done")) := Z.glo 70
theorem g__law_said (Z : ZZ K mg base) : mg "_law_said" = some (.ref (He.ga K "_law_said")) := Z.glo 71
theorem g__law_same (Z : ZZ K mg base) : mg "_law_same" = some (.ref (He.ga K "_law_same")) := Z.glo 72
theorem g__law_right (Z : ZZ K mg base) : mg "_law_right" = some (.ref (He.ga K "_law_right")) := Z.glo 73
theorem g_law (Z : ZZ K mg base) : mg "law" = some (.ref (He.ga K "law")) := Z.glo 74
theorem o_InvalidBells (Z : ZZ K mg base) : Oex K "InvalidBells" "index" := oex_ok (exAll_at Z.c.2 0 rfl) (exAll_at Z.c.2 1 rfl)
theorem o_InvalidNumber (Z : ZZ K mg base) : Oex K "InvalidNumber" "given" := oex_ok (exAll_at Z.c.2 2 rfl) (exAll_at Z.c.2 3 rfl)
theorem gcd (Z : ZZ K mg base) : mg "gcd" = some (.builtin "math.gcd") := bltB_ok Z.x Z.g (exAll_at Z.c.2 4 rfl)
theorem xf_InvalidBells (Z : ZZ K mg base) : XfC K (He.ga K "InvalidBells") := xfB_ok (exAll_at Z.c.2 5 rfl)
theorem xf_InvalidNumber (Z : ZZ K mg base) : XfC K (He.ga K "InvalidNumber") := xfB_ok (exAll_at Z.c.2 6 rfl)
theorem und_ok (Z : ZZ K mg base) : ∀ c cn b, und c cn = some b → PySem.W.exmOne K (.ref (He.ga K c)) (.ref (He.ga K cn)) = some b := by
  rw [und]
  exact undB_ok (exAll_at Z.c.2 7 rfl)
theorem ini_InvalidBells (Z : ZZ K mg base) : ∃ fd, FnOk P w K mg base (L2.CX P w) 1 (He.ma K (He.ga K "InvalidBells") "__init__") fd ["self", "index"] (spIni (He.ga K "InvalidBells") "index") ∧ Binds K fd ["self", "index"] [] := by
  obtain ⟨fd, F⟩ := Z.def_ 46 (d := d_InvalidBells)
  exact ⟨fd, ini_ok F (o_InvalidBells Z) ⟨rfl, rfl, rfl, by decide +kernel, rfl, by decide +kernel, by decide +kernel⟩ rfl rfl rfl rfl, FunD.bindsN F fun _ _ _ _ _ _ us hl => match us, hl with | [_, _], _ => rfl⟩
theorem ini_InvalidNumber (Z : ZZ K mg base) : ∃ fd, FnOk P w K mg base (L2.CX P w) 1 (He.ma K (He.ga K "InvalidNumber") "__init__") fd ["self", "given"] (spIni (He.ga K "InvalidNumber") "given") ∧ Binds K fd ["self", "given"] [] := by
  obtain ⟨fd, F⟩ := Z.def_ 47 (d := d_InvalidNumber)
  exact ⟨fd, ini_ok F (o_InvalidNumber Z) ⟨rfl, rfl, rfl, by decide +kernel, rfl, by decide +kernel, by decide +kernel⟩ rfl rfl rfl rfl, FunD.bindsN F fun _ _ _ _ _ _ us hl => match us, hl with | [_, _], _ => rfl⟩
theorem sc_law_well : FnScope ["script", "lap", "own", "stir", "each"] ["script", "lap"] (defScope (top 50)) := ⟨rfl, rfl, rfl, by decide +kernel, rfl, by decide +kernel, by decide +kernel⟩
theorem sc_law_take : FnScope ["well", "many", "digit"] ["well", "many"] (defScope (top 51)) := ⟨rfl, rfl, rfl, by decide +kernel, rfl, by decide +kernel, by decide +kernel⟩
theorem sc_law_of : FnScope ["well", "things"] ["well", "things"] (defScope (top 52)) := ⟨rfl, rfl, rfl, by decide +kernel, rfl, by decide +kernel, by decide +kernel⟩
theorem sc_law_bells : FnScope ["well", "most", "found", "base", "turn", "every"] ["well", "most"] (defScope (top 54)) := ⟨rfl, rfl, rfl, by decide +kernel, rfl, by decide +kernel, by decide +kernel⟩
theorem sc_is_whole : FnScope ["value"] ["value"] (defScope (top 3)) := ⟨rfl, rfl, rfl, by decide +kernel, rfl, by decide +kernel, by decide +kernel⟩
theorem sc_is_between : FnScope ["value", "low", "high"] ["value", "low", "high"] (defScope (top 4)) := ⟨rfl, rfl, rfl, by decide +kernel, rfl, by decide +kernel, by decide +kernel⟩
theorem sc_is_tuple_of : FnScope ["value", "many"] ["value", "many"] (defScope (top 5)) := ⟨rfl, rfl, rfl, by decide +kernel, rfl, by decide +kernel, by decide +kernel⟩
theorem sc_is_bell : FnScope ["value"] ["value"] (defScope (top 30)) := ⟨rfl, rfl, rfl, by decide +kernel, rfl, by decide +kernel, by decide +kernel⟩
theorem sc_wrong_in_bells : FnScope ["value", "at", "bell"] ["value"] (defScope (top 31)) := ⟨rfl, rfl, rfl, by decide +kernel, rfl, by decide +kernel, by decide +kernel⟩
theorem sc_check_bells : FnScope ["bells", "index"] ["bells"] (defScope (top 43)) := ⟨rfl, rfl, rfl, by decide +kernel, rfl, by decide +kernel, by decide +kernel⟩
theorem sc_unit : FnScope ["many", "place", "each"] ["many", "place"] (defScope (top 13)) := ⟨rfl, rfl, rfl, by decide +kernel, rfl, by decide +kernel, by decide +kernel⟩
theorem sc_pairs_of : FnScope ["rows", "at", "row"] ["rows"] (defScope (top 17)) := ⟨rfl, rfl, rfl, by decide +kernel, rfl, by decide +kernel, by decide +kernel⟩
theorem sc_nearest_to_nought : FnScope ["pairs", "good", "found", "place", "pair", "size"] ["pairs", "good"] (defScope (top 18)) := ⟨rfl, rfl, rfl, by decide +kernel, rfl, by decide +kernel, by decide +kernel⟩
theorem sc_is_alone : FnScope ["pairs", "place", "good", "at", "pair"] ["pairs", "place", "good"] (defScope (top 20)) := ⟨rfl, rfl, rfl, by decide +kernel, rfl, by decide +kernel, by decide +kernel⟩
theorem sc_row_less : FnScope ["row", "other", "number", "each", "much"] ["row", "other", "number"] (defScope (top 10)) := ⟨rfl, rfl, rfl, by decide +kernel, rfl, by decide +kernel, by decide +kernel⟩
theorem sc_pair_less : FnScope ["pair", "other", "number"] ["pair", "other", "number"] (defScope (top 15)) := ⟨rfl, rfl, rfl, by decide +kernel, rfl, by decide +kernel, by decide +kernel⟩
theorem sc_lessened : FnScope ["pairs", "place", "good", "by", "found", "at", "pair"] ["pairs", "place", "good"] (defScope (top 19)) := ⟨rfl, rfl, rfl, by decide +kernel, rfl, by decide +kernel, by decide +kernel⟩
theorem sc_row_times : FnScope ["row", "number", "each"] ["row", "number"] (defScope (top 9)) := ⟨rfl, rfl, rfl, by decide +kernel, rfl, by decide +kernel, by decide +kernel⟩
theorem sc_turned_pair : FnScope ["pair"] ["pair"] (defScope (top 16)) := ⟨rfl, rfl, rfl, by decide +kernel, rfl, by decide +kernel, by decide +kernel⟩
theorem sc_parted_at : FnScope ["pairs", "good", "place", "head"] ["pairs", "good"] (defScope (top 21)) := ⟨rfl, rfl, rfl, by decide +kernel, rfl, by decide +kernel, by decide +kernel⟩
theorem sc_head_place : FnScope ["row", "place", "number"] ["row"] (defScope (top 22)) := ⟨rfl, rfl, rfl, by decide +kernel, rfl, by decide +kernel, by decide +kernel⟩
theorem sc_smoothed : FnScope ["pairs", "found", "at", "place", "ahead", "number"] ["pairs"] (defScope (top 23)) := ⟨rfl, rfl, rfl, by decide +kernel, rfl, by decide +kernel, by decide +kernel⟩
theorem sc_Steads___init : FnScope ["self", "many", "rows", "left", "found", "good", "head", "_", "amounts"] ["self", "many", "rows"] (defScope (inClass (top 24) 0)) := ⟨rfl, rfl, rfl, by decide +kernel, rfl, by decide +kernel, by decide +kernel⟩
theorem sc_Steads_walk : FnScope ["self", "order", "numbers", "left", "row", "_", "place", "number"] ["self", "order"] (defScope (inClass (top 24) 2)) := ⟨rfl, rfl, rfl, by decide +kernel, rfl, by decide +kernel, by decide +kernel⟩
theorem sc_are_noughts : FnScope ["row", "each"] ["row"] (defScope (top 11)) := ⟨rfl, rfl, rfl, by decide +kernel, rfl, by decide +kernel, by decide +kernel⟩
theorem sc_noughts : FnScope ["many", "_"] ["many"] (defScope (top 12)) := ⟨rfl, rfl, rfl, by decide +kernel, rfl, by decide +kernel, by decide +kernel⟩
theorem sc_row_sum : FnScope ["one", "two", "first", "second"] ["one", "two"] (defScope (top 8)) := ⟨rfl, rfl, rfl, by decide +kernel, rfl, by decide +kernel, by decide +kernel⟩
theorem sc_Steads_amounts : FnScope ["self", "order", "numbers", "left", "found", "number", "_", "amounts"] ["self", "order"] (defScope (inClass (top 24) 5)) := ⟨rfl, rfl, rfl, by decide +kernel, rfl, by decide +kernel, by decide +kernel⟩
theorem sc_multiple_of : FnScope ["one", "two"] ["one", "two"] (defScope (top 7)) := ⟨rfl, rfl, rfl, by decide +kernel, rfl, by decide +kernel, by decide +kernel⟩
theorem sc_joint : FnScope ["bell", "other", "amounts", "every"] ["bell", "other"] (defScope (top 34)) := ⟨rfl, rfl, rfl, by decide +kernel, rfl, by decide +kernel, by decide +kernel⟩
theorem sc_together_by : FnScope ["bells", "found", "bell"] ["bells"] (defScope (top 35)) := ⟨rfl, rfl, rfl, by decide +kernel, rfl, by decide +kernel, by decide +kernel⟩
theorem sc_together : FnScope ["bells"] ["bells"] (defScope (top 45)) := ⟨rfl, rfl, rfl, by decide +kernel, rfl, by decide +kernel, by decide +kernel⟩
theorem sc_divisor_of : FnScope ["numbers", "found", "number"] ["numbers"] (defScope (top 6)) := ⟨rfl, rfl, rfl, by decide +kernel, rfl, by decide +kernel, by decide +kernel⟩
theorem sc_never_together : FnScope ["bells", "one", "two", "gap"] ["bells", "one", "two"] (defScope (top 32)) := ⟨rfl, rfl, rfl, by decide +kernel, rfl, by decide +kernel, by decide +kernel⟩
theorem sc_apart_by : FnScope ["bells", "many", "pairs", "one", "two"] ["bells"] (defScope (top 33)) := ⟨rfl, rfl, rfl, by decide +kernel, rfl, by decide +kernel, by decide +kernel⟩
theorem sc_apart : FnScope ["bells"] ["bells"] (defScope (top 46)) := ⟨rfl, rfl, rfl, by decide +kernel, rfl, by decide +kernel, by decide +kernel⟩
theorem kb_apart_bells {f : Addr} {fd : FuncData} (F : FunD K "apart" "apart" (defArgs (top 46)) (defBody (top 46)) (defScope (top 46)) [] [] f fd) : BindsK fd ["bells"] ["bells"] [0] := bindsK_of F fun _ _ _ _ _ _ ws hl => match ws, hl with | [_], _ => rfl
theorem sc_check_time : FnScope ["time"] ["time"] (defScope (top 44)) := ⟨rfl, rfl, rfl, by decide +kernel, rfl, by decide +kernel, by decide +kernel⟩
theorem sc_ringing_by : FnScope ["bells", "time", "at", "first", "every"] ["bells", "time"] (defScope (top 36)) := ⟨rfl, rfl, rfl, by decide +kernel, rfl, by decide +kernel, by decide +kernel⟩
theorem sc_ringing : FnScope ["bells", "time"] ["bells", "time"] (defScope (top 47)) := ⟨rfl, rfl, rfl, by decide +kernel, rfl, by decide +kernel, by decide +kernel⟩
theorem sc_next_time_by : FnScope ["bells", "time", "found"] ["bells", "time"] (defScope (top 37)) := ⟨rfl, rfl, rfl, by decide +kernel, rfl, by decide +kernel, by decide +kernel⟩
theorem sc_next_time : FnScope ["bells", "time"] ["bells", "time"] (defScope (top 48)) := ⟨rfl, rfl, rfl, by decide +kernel, rfl, by decide +kernel, by decide +kernel⟩
theorem kb_next_time_time_bells {f : Addr} {fd : FuncData} (F : FunD K "next_time" "next_time" (defArgs (top 48)) (defBody (top 48)) (defScope (top 48)) [] [] f fd) : BindsK fd ["bells", "time"] ["time", "bells"] [1, 0] := bindsK_of F fun _ _ _ _ _ _ ws hl => match ws, hl with | [_, _], _ => rfl
theorem sc_law_done : FnScope ["way", "bells", "time"] ["way", "bells", "time"] (defScope (top 55)) := ⟨rfl, rfl, rfl, by decide +kernel, rfl, by decide +kernel, by decide +kernel⟩
theorem sc_law_said : FnScope ["way", "bells", "time", "e"] ["way", "bells", "time"] (defScope (top 56)) := ⟨rfl, rfl, rfl, by decide +kernel, rfl, by decide +kernel, by decide +kernel⟩
theorem sc_law_same : FnScope ["told", "due", "at"] ["told", "due"] (defScope (top 53)) := ⟨rfl, rfl, rfl, by decide +kernel, rfl, by decide +kernel, by decide +kernel⟩
theorem sc_law_right : FnScope ["well", "bells", "at", "first", "every", "way", "time", "bad", "odds", "some"] ["well"] (defScope (top 57)) := ⟨rfl, rfl, rfl, by decide +kernel, rfl, by decide +kernel, by decide +kernel⟩
theorem sc_law : FnScope ["script", "lap"] ["script"] (defScope (top 58)) := ⟨rfl, rfl, rfl, by decide +kernel, rfl, by decide +kernel, by decide +kernel⟩
theorem ok_law_well (Z : ZZ K mg base) : ∃ fd, DefOk P w K mg base 2 "_law_well" (top 50) fd ["script", "lap"] 2 [] w_law_well := by
  obtain ⟨fd, F⟩ := Z.def_ 0 (d := d_law_well)
  rw [w_law_well]
  refine ⟨fd, F, def_ok (k := 1) 2 [] F sc_law_well rfl fun cdv A outer s H F0 E ad hr tk => ?_, Z.glo 32, FunD.bindsN F fun _ _ _ _ _ _ us hl => match us, hl with | [_, _], _ => rfl⟩
  have nd := sc_law_well.nd
  exact (dss_cons (ds_set 2 (dc_val (de_frz (dc_if (dt_cmp op_lt fLt_ok (dx_e (de_var 1)) (dx_e (de_frz (dc_callB call_len fLen_ok (f_len Z) (da_cons (dx_e (de_var 0)) da_nil))))) (dc_callTy call_int1 fInt_ok (f_int Z) (da_cons (dx_e (de_frz (dc_ix ix_seq fIx_ok (dx_e (de_var 0)) (dx_e (de_var 1))))) da_nil)) (dc_val de_int)))) nd) (pss_eq (m_law_well_4.eq_1) (dss_cons (ds_set 3 (dc_val (de_frz (dc_bin op_addD fAdd_ok (dx_e de_int) (dx_e (de_frz (dc_bin op_mulD fMul_ok (dx_e de_int) (dx_e (de_var 1)))))))) nd) (pss_eq (m_law_well_3.eq_1) (dss_cons (ds_for (passes_of rfl) rfl (di_sq (de_frz (dc_bin op_addD fAdd_ok (dx_e (de_frz (dc_slice (dx_e (de_var 0)) do_none (do_some de_int)))) (dx_e (de_frz (dc_lst (ddc (de_var 2) ddn))))))) (dg_nm 4 nd) (pss_eq (m_law_well_1.eq_1) (dss_one (ds_set 3 (dc_val (de_frz (dc_bin op_modN fMod_ok (dx_e (de_frz (dc_callTy call_int1 fInt_ok (f_int Z) (da_cons (dx_e (de_frz (dc_bin op_addD fAdd_ok (dx_e (de_frz (dc_bin op_addD fAdd_ok (dx_e (de_frz (dc_bin op_mulD fMul_ok (dx_e (de_var 3)) (dx_e de_int)))) (dx_e (de_frz (dc_bin op_modN fMod_ok (dx_e (de_frz (dc_callTy call_int1 fInt_ok (f_int Z) (da_cons (dx_e (de_var 4)) da_nil)))) (dx_e de_int))))))) (dx_e de_int)))) da_nil)))) (dx_e de_int)))) nd)))) (pss_eq (m_law_well_2.eq_1) (dss_one (ds_ret (dc_lst (ddc (de_frz (dc_if (dt_w (dw_or (dt_cmp op_lt fLt_ok (dx_e (de_var 2)) (dx_e de_int)) (dw_or1 (dt_cmp op_ge fGe_ok (dx_e (de_var 2)) (dx_e (de_frz (dc_bin op_pow fPow_ok (dx_e de_int) (dx_e de_int)))))))) (dc_callB call_abs fAbs_ok (f_abs Z) (da_cons (dx_e (de_var 2)) da_nil)) (dc_val de_int))) (ddc (de_var 3) (ddc de_int ddn))))))))))))
theorem ok_law_take_iv (Z : ZZ K mg base) : ∃ fd, DefOk P w K mg base 2 "_law_take" (top 51) fd ["well", "many"] 2 [0] w_law_take_iv := by
  obtain ⟨fd, F⟩ := Z.def_ 1 (d := d_law_take)
  rw [w_law_take_iv]
  refine ⟨fd, F, def_ok (k := 1) 2 [0] F sc_law_take rfl fun cdv A outer s H F0 E ad hr tk => ?_, Z.glo 33, FunD.bindsN F fun _ _ _ _ _ _ us hl => match us, hl with | [_, _], _ => rfl⟩
  have nd := sc_law_take.nd
  exact (dss_cons (ds_if (dt_cmp op_gt fGt_ok (dx_e (de_frz (dc_ix ix_seq fIx_ok (dx_s 0) (dx_e de_int)))) (dx_e de_int)) (dss_cons (ds_asg (dc_val (de_frz (dc_callB call_divmodW fDivmod_ok (f_divmod Z) (da_cons (dx_e (de_frz (dc_ix ix_seq fIx_ok (dx_s 0) (dx_e de_int)))) (da_cons (dx_e (de_var 1)) da_nil))))) (dg_tp rfl (dgs_cons (dg_sub 0 de_int) (dgs_cons (dg_nm 2 nd) dgs_nil)))) (dss_one (ds_ret (dc_val (de_var 2))))) dss_nil) (dss_cons (ds_asg (dc_val (de_frz (dc_bin op_addD fAdd_ok (dx_e (de_frz (dc_ix ix_seq fIx_ok (dx_s 0) (dx_e de_int)))) (dx_e de_int)))) (dg_sub 0 de_int)) (dss_cons (ds_asg (dc_val (de_frz (dc_bin op_modN fMod_ok (dx_e (de_frz (dc_callTy call_int1 fInt_ok (f_int Z) (da_cons (dx_e (de_frz (dc_bin op_addD fAdd_ok (dx_e (de_frz (dc_bin op_addD fAdd_ok (dx_e (de_frz (dc_bin op_mulD fMul_ok (dx_e (de_frz (dc_ix ix_seq fIx_ok (dx_s 0) (dx_e de_int)))) (dx_e de_int)))) (dx_e (de_frz (dc_bin op_mulD fMul_ok (dx_e (de_frz (dc_ix ix_seq fIx_ok (dx_s 0) (dx_e de_int)))) (dx_e de_int))))))) (dx_e de_int)))) da_nil)))) (dx_e de_int)))) (dg_sub 0 de_int)) (dss_one (ds_ret (dc_bin op_modN fMod_ok (dx_e (de_frz (dc_callTy call_int1 fInt_ok (f_int Z) (da_cons (dx_e (de_frz (dc_bin op_fdivD fDiv_ok (dx_e (de_frz (dc_ix ix_seq fIx_ok (dx_s 0) (dx_e de_int)))) (dx_e de_int)))) da_nil)))) (dx_e (de_var 1))))))))
theorem ok_law_of_iv (Z : ZZ K mg base) : ∃ fd, DefOk P w K mg base 3 "_law_of" (top 52) fd ["well", "things"] 2 [0] w_law_of_iv := by
  obtain ⟨_, D_law_take_iv⟩ := ok_law_take_iv (P := P) (w := w) Z
  obtain ⟨fd, F⟩ := Z.def_ 2 (d := d_law_of)
  rw [w_law_of_iv]
  refine ⟨fd, F, def_ok (k := 2) 2 [0] F sc_law_of rfl fun cdv A outer s H F0 E ad hr tk => ?_, Z.glo 34, FunD.bindsN F fun _ _ _ _ _ _ us hl => match us, hl with | [_, _], _ => rfl⟩
  have nd := sc_law_of.nd
  exact (dss_one (ds_ret (dc_ix ix_seq fIx_ok (dx_e (de_var 1)) (dx_e (de_frz (dc_callD D_law_take_iv hr (by decide) tk (dkc (dk_s 0) (dkc (dk_e (de_frz (dc_callB call_len fLen_ok (f_len Z) (da_cons (dx_e (de_var 1)) da_nil)))) dkn))))))))
theorem ok_law_bells_iv (Z : ZZ K mg base) : ∃ fd, DefOk P w K mg base 4 "_law_bells" (top 54) fd ["well", "most"] 2 [0] w_law_bells_iv := by
  obtain ⟨_, D_law_take_iv⟩ := ok_law_take_iv (P := P) (w := w) Z
  obtain ⟨_, D_law_of_iv⟩ := ok_law_of_iv (P := P) (w := w) Z
  obtain ⟨fd, F⟩ := Z.def_ 3 (d := d_law_bells)
  rw [w_law_bells_iv]
  refine ⟨fd, F, def_ok (k := 3) 2 [0] F sc_law_bells rfl fun cdv A outer s H F0 E ad hr tk => ?_, Z.glo 35, FunD.bindsN F fun _ _ _ _ _ _ us hl => match us, hl with | [_, _], _ => rfl⟩
  have nd := sc_law_bells.nd
  exact (dss_cons (ds_par2 2 3 rfl nd (dcs_cons (dc_lst ddn) (dcs_cons (dc_val (de_frz (dc_bin op_sub fSub_ok (dx_e (de_frz (dc_callD D_law_take_iv hr (by decide) tk (dkc (dk_s 0) (dkc (dk_e de_int) dkn))))) (dx_e de_int)))) dcs_nil))) (pss_eq (m_law_bells_iv_3.eq_1) (dss_cons (ds_for (passes_of rfl) rfl (di_rg1 (f_range Z) (de_frz (dc_bin op_addD fAdd_ok (dx_e de_int) (dx_e (de_frz (dc_callD D_law_take_iv hr (by decide) tk (dkc (dk_s 0) (dkc (dk_e de_int) dkn)))))))) (dg_nm 4 nd) (pss_eq (m_law_bells_iv_2.eq_1) (dss_cons (ds_set 5 (dc_val (de_frz (dc_bin op_addD fAdd_ok (dx_e de_int) (dx_e (de_frz (dc_callD D_law_take_iv hr (by decide) tk (dkc (dk_s 0) (dkc (dk_e (de_frz (dc_callD D_law_of_iv hr (by decide) tk (dkc (dk_s 0) (dkc (dk_e (de_tup (ddc de_int (ddc de_int (ddc (de_var 1) ddn))))) dkn))))) dkn)))))))) nd) (pss_eq (m_law_bells_iv_1.eq_1) (dss_one (ds_appB 2 (de_tup (ddc (de_frz (dc_bin op_addD fAdd_ok (dx_e (de_frz (dc_bin op_addD fAdd_ok (dx_e (de_var 3)) (dx_e (de_frz (dc_bin op_mulD fMul_ok (dx_e (de_var 5)) (dx_e (de_frz (dc_bin op_sub fSub_ok (dx_e (de_frz (dc_callD D_law_take_iv hr (by decide) tk (dkc (dk_s 0) (dkc (dk_e de_int) dkn))))) (dx_e de_int)))))))))) (dx_e (de_frz (dc_callD D_law_of_iv hr (by decide) tk (dkc (dk_s 0) (dkc (dk_e (de_tup (ddc de_int (ddc de_int (ddc de_int (ddc de_int (ddc de_int ddn))))))) dkn))))))) (ddc (de_var 5) ddn))))))))) (dss_one (ds_ret (dc_callTy call_tuple_of fTuple_ok (f_tuple Z) (da_cons (dx_e (de_still 2)) da_nil)))))))
theorem ok_is_whole (Z : ZZ K mg base) : ∃ fd, DefOk P w K mg base 2 "is_whole" (top 3) fd ["value"] 1 [] w_is_whole := by
  obtain ⟨fd, F⟩ := Z.def_ 4 (d := d_is_whole)
  rw [w_is_whole]
  refine ⟨fd, F, def_ok (k := 1) 1 [] F sc_is_whole rfl fun cdv A outer s H F0 E ad hr tk => ?_, Z.glo 36, FunD.bindsN F fun _ _ _ _ _ _ us hl => match us, hl with | [_], _ => rfl⟩
  have nd := sc_is_whole.nd
  exact (dss_one (ds_ret (dc_and (dx_e (de_frz (dc_callB cr_isi fIsi_ok (f_isinstance Z) (da_cons (dx_e (de_var 0)) (da_cons (dx_e (de_ty (f_int Z))) da_nil))))) (dc_one (dc_val (de_not (dx_e (de_frz (dc_callB cr_isi fIsi_ok (f_isinstance Z) (da_cons (dx_e (de_var 0)) (da_cons (dx_e (de_ty (f_bool Z))) da_nil)))))))))))
theorem ok_is_between (Z : ZZ K mg base) : ∃ fd, DefOk P w K mg base 3 "is_between" (top 4) fd ["value", "low", "high"] 3 [] w_is_between := by
  obtain ⟨_, D_is_whole⟩ := ok_is_whole (P := P) (w := w) Z
  obtain ⟨fd, F⟩ := Z.def_ 5 (d := d_is_between)
  rw [w_is_between]
  refine ⟨fd, F, def_ok (k := 2) 3 [] F sc_is_between rfl fun cdv A outer s H F0 E ad hr tk => ?_, Z.glo 37, FunD.bindsN F fun _ _ _ _ _ _ us hl => match us, hl with | [_, _, _], _ => rfl⟩
  have nd := sc_is_between.nd
  exact (dss_one (ds_ret (dc_and (dx_e (de_frz (dc_callD D_is_whole hr (by decide) tk (dkc (dk_e (de_var 0)) dkn)))) (dc_one (dc_chain op_le op_le fLe_ok fLe_ok (dx_e (de_var 1)) (dx_e (de_var 0)) (dx_e (de_var 2)))))))
theorem ok_is_tuple_of (Z : ZZ K mg base) : ∃ fd, DefOk P w K mg base 2 "is_tuple_of" (top 5) fd ["value", "many"] 2 [] w_is_tuple_of := by
  obtain ⟨fd, F⟩ := Z.def_ 6 (d := d_is_tuple_of)
  rw [w_is_tuple_of]
  refine ⟨fd, F, def_ok (k := 1) 2 [] F sc_is_tuple_of rfl fun cdv A outer s H F0 E ad hr tk => ?_, Z.glo 38, FunD.bindsN F fun _ _ _ _ _ _ us hl => match us, hl with | [_, _], _ => rfl⟩
  have nd := sc_is_tuple_of.nd
  exact (dss_one (ds_ret (dc_and (dx_e (de_frz (dc_callB cr_isi fIsi_ok (f_isinstance Z) (da_cons (dx_e (de_var 0)) (da_cons (dx_e (de_ty (f_tuple Z))) da_nil))))) (dc_one (dc_cmp (op_eqD hr.units) fEq_ok (dx_e (de_frz (dc_callB call_len fLen_ok (f_len Z) (da_cons (dx_e (de_var 0)) da_nil)))) (dx_e (de_var 1)))))))
theorem ok_is_bell (Z : ZZ K mg base) : ∃ fd, DefOk P w K mg base 4 "is_bell" (top 30) fd ["value"] 1 [] w_is_bell := by
  obtain ⟨_, D_is_between⟩ := ok_is_between (P := P) (w := w) Z
  obtain ⟨_, D_is_tuple_of⟩ := ok_is_tuple_of (P := P) (w := w) Z
  obtain ⟨fd, F⟩ := Z.def_ 7 (d := d_is_bell)
  rw [w_is_bell]
  refine ⟨fd, F, def_ok (k := 3) 1 [] F sc_is_bell rfl fun cdv A outer s H F0 E ad hr tk => ?_, Z.glo 39, FunD.bindsN F fun _ _ _ _ _ _ us hl => match us, hl with | [_], _ => rfl⟩
  have nd := sc_is_bell.nd
  exact (dss_cons (ds_if (dt_w (dw_or (dt_not (dt_tru (dx_e (de_frz (dc_callD D_is_tuple_of hr (by decide) tk (dkc (dk_e (de_var 0)) (dkc (dk_e de_int) dkn))))))) (dw_or1 (dt_not (dt_tru (dx_e (de_frz (dc_callD D_is_between hr (by decide) tk (dkc (dk_e (de_frz (dc_ix ix_seq fIx_ok (dx_e (de_var 0)) (dx_e (de_int' (c_FIRST Z)))))) (dkc (dk_e (de_frz (dc_un un_neg fNeg_ok (dx_e (de_int' (c_MOST_TIME Z)))))) (dkc (dk_e (de_int' (c_MOST_TIME Z))) dkn))))))))))) (dss_one (ds_ret (dc_val de_bl))) dss_nil) (pss_eq (m_is_bell_1.eq_1) (dss_one (ds_ret (dc_callD D_is_between hr (by decide) tk (dkc (dk_e (de_frz (dc_ix ix_seq fIx_ok (dx_e (de_var 0)) (dx_e (de_int' (c_EVERY Z)))))) (dkc (dk_e de_int) (dkc (dk_e (de_int' (c_MOST_TIME Z))) dkn))))))))
theorem ok_wrong_in_bells (Z : ZZ K mg base) : ∃ fd, DefOk P w K mg base 5 "wrong_in_bells" (top 31) fd ["value"] 1 [] w_wrong_in_bells := by
  obtain ⟨_, D_is_bell⟩ := ok_is_bell (P := P) (w := w) Z
  obtain ⟨fd, F⟩ := Z.def_ 8 (d := d_wrong_in_bells)
  rw [w_wrong_in_bells]
  refine ⟨fd, F, def_ok (k := 4) 1 [] F sc_wrong_in_bells rfl fun cdv A outer s H F0 E ad hr tk => ?_, Z.glo 40, FunD.bindsN F fun _ _ _ _ _ _ us hl => match us, hl with | [_], _ => rfl⟩
  have nd := sc_wrong_in_bells.nd
  exact (dss_cons (ds_if (dt_w (dw_or (dt_not (dt_tru (dx_e (de_frz (dc_callB cr_isi fIsi_ok (f_isinstance Z) (da_cons (dx_e (de_var 0)) (da_cons (dx_e (de_ty (f_tuple Z))) da_nil))))))) (dw_or1 (dt_not (dt_chain op_le op_le fLe_ok fLe_ok (dx_e de_int) (dx_e (de_frz (dc_callB call_len fLen_ok (f_len Z) (da_cons (dx_e (de_var 0)) da_nil)))) (dx_e (de_int' (c_MOST_BELLS Z)))))))) (dss_one (ds_ret (dc_lst (ddc de_non ddn)))) dss_nil) (pss_eq (m_wrong_in_bells_1.eq_1) (dss_one (ds_ret (dc_slice (dx_e (de_frz (dc_lc [("at", 1), ("bell", 2)] rfl nd (di_en (f_enumerate Z) (de_var 0)) (fun _ _ _ _ _ => (dp_tp rfl (dps_cons (dp_nm 1 nd) (dps_cons (dp_nm 2 nd) dps_nil)))) (fun _ _ _ _ _ => (dts_one (dt_not (dt_tru (dx_e (de_frz (dc_callD D_is_bell hr (by decide) takes0 (dkc (dk_e (de_var 2)) dkn)))))))) (fun _ _ _ _ _ => (de_var 1))))) do_none (do_some de_int))))))
theorem ok_check_bells (Z : ZZ K mg base) : ∃ fd, DefOk P w K mg base 6 "check_bells" (top 43) fd ["bells"] 1 [] w_check_bells := by
  obtain ⟨_, D_wrong_in_bells⟩ := ok_wrong_in_bells (P := P) (w := w) Z
  obtain ⟨_, F_InvalidBells, b_InvalidBells⟩ := ini_InvalidBells (P := P) (w := w) Z
  obtain ⟨fd, F⟩ := Z.def_ 9 (d := d_check_bells)
  rw [w_check_bells]
  refine ⟨fd, F, def_ok (k := 5) 1 [] F sc_check_bells rfl fun cdv A outer s H F0 E ad hr tk => ?_, Z.glo 41, FunD.bindsN F fun _ _ _ _ _ _ us hl => match us, hl with | [_], _ => rfl⟩
  have nd := sc_check_bells.nd
  exact (dss_one (ds_for (passes_of rfl) rfl (di_sq (de_frz (dc_callD D_wrong_in_bells hr (by decide) tk (dkc (dk_e (de_var 0)) dkn)))) (dg_nm 1 nd) (dss_one (ds_raise rfl tk (o_InvalidBells Z) F_InvalidBells b_InvalidBells (hr.mono (by decide)) (g_InvalidBells Z) (de_var 1)))))
theorem ok_unit (Z : ZZ K mg base) : ∃ fd, DefOk P w K mg base 2 "unit" (top 13) fd ["many", "place"] 2 [] w_unit := by
  obtain ⟨fd, F⟩ := Z.def_ 10 (d := d_unit)
  rw [w_unit]
  refine ⟨fd, F, def_ok (k := 1) 2 [] F sc_unit rfl fun cdv A outer s H F0 E ad hr tk => ?_, Z.glo 42, FunD.bindsN F fun _ _ _ _ _ _ us hl => match us, hl with | [_, _], _ => rfl⟩
  have nd := sc_unit.nd
  exact (dss_one (ds_ret (dc_callTy call_tuple_of fTuple_ok (f_tuple Z) (da_cons (dx_e (de_frz (dc_lc [("each", 2)] rfl nd (di_rg1 (f_range Z) (de_var 0)) (fun _ _ _ _ _ => (dp_nm 2 nd)) (fun _ _ _ _ _ => dts_nil) (fun _ _ _ _ _ => (de_frz (dc_callTy call_int1 fInt_ok (f_int Z) (da_cons (dx_e (de_frz (dc_cmp (op_eqD hr.units) fEq_ok (dx_e (de_var 2)) (dx_e (de_var 1))))) da_nil))))))) da_nil))))
theorem ok_pairs_of (Z : ZZ K mg base) : ∃ fd, DefOk P w K mg base 3 "pairs_of" (top 17) fd ["rows"] 1 [] w_pairs_of := by
  obtain ⟨_, D_unit⟩ := ok_unit (P := P) (w := w) Z
  obtain ⟨fd, F⟩ := Z.def_ 11 (d := d_pairs_of)
  rw [w_pairs_of]
  refine ⟨fd, F, def_ok (k := 2) 1 [] F sc_pairs_of rfl fun cdv A outer s H F0 E ad hr tk => ?_, Z.glo 43, FunD.bindsN F fun _ _ _ _ _ _ us hl => match us, hl with | [_], _ => rfl⟩
  have nd := sc_pairs_of.nd
  exact (dss_one (ds_ret (dc_lc [("at", 1), ("row", 2)] rfl nd (di_en (f_enumerate Z) (de_var 0)) (fun _ _ _ _ _ => (dp_tp rfl (dps_cons (dp_nm 1 nd) (dps_cons (dp_nm 2 nd) dps_nil)))) (fun _ _ _ _ _ => dts_nil) (fun _ _ _ _ _ => (de_tup (ddc (de_var 2) (ddc (de_frz (dc_callD D_unit hr (by decide) takes0 (dkc (dk_e (de_frz (dc_callB call_len fLen_ok (f_len Z) (da_cons (dx_e (de_var 0)) da_nil)))) (dkc (dk_e (de_var 1)) dkn)))) ddn)))))))
theorem ok_nearest_to_nought (Z : ZZ K mg base) : ∃ fd, DefOk P w K mg base 2 "nearest_to_nought" (top 18) fd ["pairs", "good"] 2 [] w_nearest_to_nought := by
  obtain ⟨fd, F⟩ := Z.def_ 12 (d := d_nearest_to_nought)
  rw [w_nearest_to_nought]
  refine ⟨fd, F, def_ok (k := 1) 2 [] F sc_nearest_to_nought rfl fun cdv A outer s H F0 E ad hr tk => ?_, Z.glo 44, FunD.bindsN F fun _ _ _ _ _ _ us hl => match us, hl with | [_, _], _ => rfl⟩
  have nd := sc_nearest_to_nought.nd
  exact (dss_cons (ds_set 2 (dc_val de_non) nd) (pss_eq (m_nearest_to_nought_3.eq_1) (dss_cons (ds_for (passes_of rfl) rfl (di_en (f_enumerate Z) (de_var 0)) (dg_tp rfl (dgs_cons (dg_nm 3 nd) (dgs_cons (dg_nm 4 nd) dgs_nil))) (pss_eq (m_nearest_to_nought_2.eq_1) (dss_cons (ds_set 5 (dc_val (de_frz (dc_callB call_abs fAbs_ok (f_abs Z) (da_cons (dx_e (de_frz (dc_ix ix_seq fIx_ok (dx_e (de_frz (dc_ix ix_seq fIx_ok (dx_e (de_var 4)) (dx_e de_int)))) (dx_e (de_var 1))))) da_nil)))) nd) (pss_eq (m_nearest_to_nought_1.eq_1) (dss_one (ds_if (dt_w (dw_and (dt_cmp (op_neD hr.units) fNe_ok (dx_e (de_var 5)) (dx_e de_int)) (dw_and1 (dt_w (dw_or (dt_cmp op_isN fIsN_ok (dx_e (de_var 2)) (dx_e de_non)) (dw_or1 (dt_cmp op_lt fLt_ok (dx_e (de_var 5)) (dx_e (de_frz (dc_callB call_abs fAbs_ok (f_abs Z) (da_cons (dx_e (de_frz (dc_ix ix_seq fIx_ok (dx_e (de_frz (dc_ix ix_seq fIx_ok (dx_e (de_frz (dc_ix ix_seq fIx_ok (dx_e (de_var 0)) (dx_e (de_var 2))))) (dx_e de_int)))) (dx_e (de_var 1))))) da_nil))))))))))) (dss_one (ds_set 2 (dc_val (de_var 3)) nd)) dss_nil)))))) (dss_one (ds_ret (dc_val (de_var 2)))))))
theorem ok_is_alone (Z : ZZ K mg base) : ∃ fd, DefOk P w K mg base 2 "is_alone" (top 20) fd ["pairs", "place", "good"] 3 [] w_is_alone := by
  obtain ⟨fd, F⟩ := Z.def_ 13 (d := d_is_alone)
  rw [w_is_alone]
  refine ⟨fd, F, def_ok (k := 1) 3 [] F sc_is_alone rfl fun cdv A outer s H F0 E ad hr tk => ?_, Z.glo 45, FunD.bindsN F fun _ _ _ _ _ _ us hl => match us, hl with | [_, _, _], _ => rfl⟩
  have nd := sc_is_alone.nd
  exact (dss_one (ds_ret (dc_callB (cr_all rfl) fAll_ok (f_all Z) (da_cons (dx_e (de_frz (dc_lc [("at", 3), ("pair", 4)] rfl nd (di_en (f_enumerate Z) (de_var 0)) (fun _ _ _ _ _ => (dp_tp rfl (dps_cons (dp_nm 3 nd) (dps_cons (dp_nm 4 nd) dps_nil)))) (fun _ _ _ _ _ => dts_nil) (fun _ _ _ _ _ => (de_frz (dc_or (dx_e (de_frz (dc_cmp (op_eqD hr.units) fEq_ok (dx_e (de_var 3)) (dx_e (de_var 1))))) (dc_one (dc_cmp (op_eqD hr.units) fEq_ok (dx_e (de_frz (dc_ix ix_seq fIx_ok (dx_e (de_frz (dc_ix ix_seq fIx_ok (dx_e (de_var 4)) (dx_e de_int)))) (dx_e (de_var 2))))) (dx_e de_int))))))))) da_nil))))
theorem ok_row_less (Z : ZZ K mg base) : ∃ fd, DefOk P w K mg base 2 "row_less" (top 10) fd ["row", "other", "number"] 3 [] w_row_less := by
  obtain ⟨fd, F⟩ := Z.def_ 14 (d := d_row_less)
  rw [w_row_less]
  refine ⟨fd, F, def_ok (k := 1) 3 [] F sc_row_less rfl fun cdv A outer s H F0 E ad hr tk => ?_, Z.glo 46, FunD.bindsN F fun _ _ _ _ _ _ us hl => match us, hl with | [_, _, _], _ => rfl⟩
  have nd := sc_row_less.nd
  exact (dss_one (ds_ret (dc_callTy call_tuple_of fTuple_ok (f_tuple Z) (da_cons (dx_e (de_frz (dc_lc [("each", 3), ("much", 4)] rfl nd (di_zp2 (f_zip Z) (de_var 0) (de_var 1)) (fun _ _ _ _ _ => (dp_tp rfl (dps_cons (dp_nm 3 nd) (dps_cons (dp_nm 4 nd) dps_nil)))) (fun _ _ _ _ _ => dts_nil) (fun _ _ _ _ _ => (de_frz (dc_bin op_sub fSub_ok (dx_e (de_var 3)) (dx_e (de_frz (dc_bin op_mulD fMul_ok (dx_e (de_var 2)) (dx_e (de_var 4))))))))))) da_nil))))
theorem ok_pair_less (Z : ZZ K mg base) : ∃ fd, DefOk P w K mg base 3 "pair_less" (top 15) fd ["pair", "other", "number"] 3 [] w_pair_less := by
  obtain ⟨_, D_row_less⟩ := ok_row_less (P := P) (w := w) Z
  obtain ⟨fd, F⟩ := Z.def_ 15 (d := d_pair_less)
  rw [w_pair_less]
  refine ⟨fd, F, def_ok (k := 2) 3 [] F sc_pair_less rfl fun cdv A outer s H F0 E ad hr tk => ?_, Z.glo 47, FunD.bindsN F fun _ _ _ _ _ _ us hl => match us, hl with | [_, _, _], _ => rfl⟩
  have nd := sc_pair_less.nd
  exact (dss_one (ds_ret (dc_val (de_tup (ddc (de_frz (dc_callD D_row_less hr (by decide) tk (dkc (dk_e (de_frz (dc_ix ix_seq fIx_ok (dx_e (de_var 0)) (dx_e de_int)))) (dkc (dk_e (de_frz (dc_ix ix_seq fIx_ok (dx_e (de_var 1)) (dx_e de_int)))) (dkc (dk_e (de_var 2)) dkn))))) (ddc (de_frz (dc_callD D_row_less hr (by decide) tk (dkc (dk_e (de_frz (dc_ix ix_seq fIx_ok (dx_e (de_var 0)) (dx_e de_int)))) (dkc (dk_e (de_frz (dc_ix ix_seq fIx_ok (dx_e (de_var 1)) (dx_e de_int)))) (dkc (dk_e (de_var 2)) dkn))))) ddn))))))
theorem ok_lessened (Z : ZZ K mg base) : ∃ fd, DefOk P w K mg base 4 "lessened" (top 19) fd ["pairs", "place", "good"] 3 [] w_lessened := by
  obtain ⟨_, D_pair_less⟩ := ok_pair_less (P := P) (w := w) Z
  obtain ⟨fd, F⟩ := Z.def_ 16 (d := d_lessened)
  rw [w_lessened]
  refine ⟨fd, F, def_ok (k := 3) 3 [] F sc_lessened rfl fun cdv A outer s H F0 E ad hr tk => ?_, Z.glo 48, FunD.bindsN F fun _ _ _ _ _ _ us hl => match us, hl with | [_, _, _], _ => rfl⟩
  have nd := sc_lessened.nd
  exact (dss_cons (ds_par2 3 4 rfl nd (dcs_cons (dc_val (de_frz (dc_ix ix_seq fIx_ok (dx_e (de_var 0)) (dx_e (de_var 1))))) (dcs_cons (dc_lst ddn) dcs_nil))) (pss_eq (m_lessened_2.eq_1) (dss_cons (ds_for (passes_of rfl) rfl (di_en (f_enumerate Z) (de_var 0)) (dg_tp rfl (dgs_cons (dg_nm 5 nd) (dgs_cons (dg_nm 6 nd) dgs_nil))) (pss_eq (m_lessened_1.eq_1) (dss_one (ds_appB 4 (de_frz (dc_if (dt_cmp (op_eqD hr.units) fEq_ok (dx_e (de_var 5)) (dx_e (de_var 1))) (dc_val (de_var 6)) (dc_callD D_pair_less hr (by decide) tk (dkc (dk_e (de_var 6)) (dkc (dk_e (de_var 3)) (dkc (dk_e (de_frz (dc_bin op_fdivD fDiv_ok (dx_e (de_frz (dc_ix ix_seq fIx_ok (dx_e (de_frz (dc_ix ix_seq fIx_ok (dx_e (de_var 6)) (dx_e de_int)))) (dx_e (de_var 2))))) (dx_e (de_frz (dc_ix ix_seq fIx_ok (dx_e (de_frz (dc_ix ix_seq fIx_ok (dx_e (de_var 3)) (dx_e de_int)))) (dx_e (de_var 2)))))))) dkn)))))))))) (dss_one (ds_ret (dc_move 4))))))
theorem ok_row_times (Z : ZZ K mg base) : ∃ fd, DefOk P w K mg base 2 "row_times" (top 9) fd ["row", "number"] 2 [] w_row_times := by
  obtain ⟨fd, F⟩ := Z.def_ 17 (d := d_row_times)
  rw [w_row_times]
  refine ⟨fd, F, def_ok (k := 1) 2 [] F sc_row_times rfl fun cdv A outer s H F0 E ad hr tk => ?_, Z.glo 49, FunD.bindsN F fun _ _ _ _ _ _ us hl => match us, hl with | [_, _], _ => rfl⟩
  have nd := sc_row_times.nd
  exact (dss_one (ds_ret (dc_callTy call_tuple_of fTuple_ok (f_tuple Z) (da_cons (dx_e (de_frz (dc_lc [("each", 2)] rfl nd (di_sq (de_var 0)) (fun _ _ _ _ _ => (dp_nm 2 nd)) (fun _ _ _ _ _ => dts_nil) (fun _ _ _ _ _ => (de_frz (dc_bin op_mulD fMul_ok (dx_e (de_var 2)) (dx_e (de_var 1)))))))) da_nil))))
theorem ok_turned_pair (Z : ZZ K mg base) : ∃ fd, DefOk P w K mg base 3 "turned_pair" (top 16) fd ["pair"] 1 [] w_turned_pair := by
  obtain ⟨_, D_row_times⟩ := ok_row_times (P := P) (w := w) Z
  obtain ⟨fd, F⟩ := Z.def_ 18 (d := d_turned_pair)
  rw [w_turned_pair]
  refine ⟨fd, F, def_ok (k := 2) 1 [] F sc_turned_pair rfl fun cdv A outer s H F0 E ad hr tk => ?_, Z.glo 50, FunD.bindsN F fun _ _ _ _ _ _ us hl => match us, hl with | [_], _ => rfl⟩
  have nd := sc_turned_pair.nd
  exact (dss_one (ds_ret (dc_val (de_tup (ddc (de_frz (dc_callD D_row_times hr (by decide) tk (dkc (dk_e (de_frz (dc_ix ix_seq fIx_ok (dx_e (de_var 0)) (dx_e de_int)))) (dkc (dk_e (de_frz (dc_un un_neg fNeg_ok (dx_e de_int)))) dkn)))) (ddc (de_frz (dc_callD D_row_times hr (by decide) tk (dkc (dk_e (de_frz (dc_ix ix_seq fIx_ok (dx_e (de_var 0)) (dx_e de_int)))) (dkc (dk_e (de_frz (dc_un un_neg fNeg_ok (dx_e de_int)))) dkn)))) ddn))))))
theorem ok_parted_at (Z : ZZ K mg base) : ∃ fd, DefOk P w K mg base 5 "parted_at" (top 21) fd ["pairs", "good"] 2 [] w_parted_at := by
  obtain ⟨_, D_nearest_to_nought⟩ := ok_nearest_to_nought (P := P) (w := w) Z
  obtain ⟨_, D_is_alone⟩ := ok_is_alone (P := P) (w := w) Z
  obtain ⟨_, D_lessened⟩ := ok_lessened (P := P) (w := w) Z
  obtain ⟨_, D_turned_pair⟩ := ok_turned_pair (P := P) (w := w) Z
  obtain ⟨fd, F⟩ := Z.def_ 19 (d := d_parted_at)
  rw [w_parted_at]
  refine ⟨fd, F, def_ok (k := 4) 2 [] F sc_parted_at rfl fun cdv A outer s H F0 E ad hr tk => ?_, Z.glo 51, FunD.bindsN F fun _ _ _ _ _ _ us hl => match us, hl with | [_, _], _ => rfl⟩
  have nd := sc_parted_at.nd
  exact (dss_cons (ds_set 2 (dc_val (de_frz (dc_callD D_nearest_to_nought hr (by decide) tk (dkc (dk_e (de_var 0)) (dkc (dk_e (de_var 1)) dkn))))) nd) (pss_eq (m_parted_at_6.eq_1) (dss_cons (ds_if (dt_cmp op_isN fIsN_ok (dx_e (de_var 2)) (dx_e de_non)) (dss_one (ds_ret (dc_val (de_tup (ddc (de_frz (dc_lst ddn)) (ddc (de_var 0) ddn)))))) dss_nil) (pss_eq (m_parted_at_5.eq_1) (dss_cons (ds_while (passes_of rfl) (dt_not (dt_tru (dx_e (de_frz (dc_callD D_is_alone hr (by decide) tk (dkc (dk_e (de_var 0)) (dkc (dk_e (de_var 2)) (dkc (dk_e (de_var 1)) dkn)))))))) (pss_eq (m_parted_at_2.eq_1) (dss_cons (ds_set 0 (dc_val (de_frz (dc_callD D_lessened hr (by decide) tk (dkc (dk_e (de_var 0)) (dkc (dk_e (de_var 2)) (dkc (dk_e (de_var 1)) dkn)))))) nd) (pss_eq (m_parted_at_1.eq_1) (dss_one (ds_set 2 (dc_val (de_frz (dc_callD D_nearest_to_nought hr (by decide) tk (dkc (dk_e (de_var 0)) (dkc (dk_e (de_var 1)) dkn))))) nd)))))) (pss_eq (m_parted_at_4.eq_1) (dss_cons (ds_set 3 (dc_val (de_frz (dc_if (dt_cmp op_gt fGt_ok (dx_e (de_frz (dc_ix ix_seq fIx_ok (dx_e (de_frz (dc_ix ix_seq fIx_ok (dx_e (de_frz (dc_ix ix_seq fIx_ok (dx_e (de_var 0)) (dx_e (de_var 2))))) (dx_e de_int)))) (dx_e (de_var 1))))) (dx_e de_int)) (dc_ix ix_seq fIx_ok (dx_e (de_var 0)) (dx_e (de_var 2))) (dc_callD D_turned_pair hr (by decide) tk (dkc (dk_e (de_frz (dc_ix ix_seq fIx_ok (dx_e (de_var 0)) (dx_e (de_var 2))))) dkn))))) nd) (pss_eq (m_parted_at_3.eq_1) (dss_one (ds_ret (dc_val (de_tup (ddc (de_frz (dc_lst (ddc (de_var 3) ddn))) (ddc (de_frz (dc_bin op_addD fAdd_ok (dx_e (de_frz (dc_slice (dx_e (de_var 0)) do_none (do_some (de_var 2))))) (dx_e (de_frz (dc_slice (dx_e (de_var 0)) (do_some (de_frz (dc_bin op_addD fAdd_ok (dx_e (de_var 2)) (dx_e de_int)))) do_none))))) ddn))))))))))))))
theorem ok_head_place (Z : ZZ K mg base) : ∃ fd, DefOk P w K mg base 2 "head_place" (top 22) fd ["row"] 1 [] w_head_place := by
  obtain ⟨fd, F⟩ := Z.def_ 20 (d := d_head_place)
  rw [w_head_place]
  refine ⟨fd, F, def_ok (k := 1) 1 [] F sc_head_place rfl fun cdv A outer s H F0 E ad hr tk => ?_, Z.glo 52, FunD.bindsN F fun _ _ _ _ _ _ us hl => match us, hl with | [_], _ => rfl⟩
  have nd := sc_head_place.nd
  exact (dss_one (ds_ret (dc_ix ix_seq fIx_ok (dx_e (de_frz (dc_lc [("place", 1), ("number", 2)] rfl nd (di_en (f_enumerate Z) (de_var 0)) (fun _ _ _ _ _ => (dp_tp rfl (dps_cons (dp_nm 1 nd) (dps_cons (dp_nm 2 nd) dps_nil)))) (fun _ _ _ _ _ => (dts_one (dt_cmp (op_neD hr.units) fNe_ok (dx_e (de_var 2)) (dx_e de_int)))) (fun _ _ _ _ _ => (de_var 1))))) (dx_e de_int))))
theorem ok_smoothed (Z : ZZ K mg base) : ∃ fd, DefOk P w K mg base 4 "smoothed" (top 23) fd ["pairs"] 1 [] w_smoothed := by
  obtain ⟨_, D_head_place⟩ := ok_head_place (P := P) (w := w) Z
  obtain ⟨_, D_pair_less⟩ := ok_pair_less (P := P) (w := w) Z
  obtain ⟨fd, F⟩ := Z.def_ 21 (d := d_smoothed)
  rw [w_smoothed]
  refine ⟨fd, F, def_ok (k := 3) 1 [] F sc_smoothed rfl fun cdv A outer s H F0 E ad hr tk => ?_, Z.glo 53, FunD.bindsN F fun _ _ _ _ _ _ us hl => match us, hl with | [_], _ => rfl⟩
  have nd := sc_smoothed.nd
  exact (dss_cons (ds_set 1 (dc_callTy call_list_of fList_ok (f_list Z) (da_cons (dx_e (de_var 0)) da_nil)) nd) (pss_eq (m_smoothed_4.eq_1) (dss_cons (ds_for (passes_of rfl) rfl (di_rg1 (f_range Z) (de_frz (dc_callB call_len fLen_ok (f_len Z) (da_cons (dx_s 1) da_nil)))) (dg_nm 2 nd) (pss_eq (m_smoothed_3.eq_1) (dss_cons (ds_set 3 (dc_val (de_frz (dc_callD D_head_place hr (by decide) tk (dkc (dk_e (de_frz (dc_ix ix_seq fIx_ok (dx_e (de_frz (dc_ix ix_seq fIx_ok (dx_s 1) (dx_e (de_var 2))))) (dx_e de_int)))) dkn)))) nd) (dss_one (ds_for (passes_of rfl) rfl (di_rg1 (f_range Z) (de_var 2)) (dg_nm 4 nd) (pss_eq (m_smoothed_2.eq_1) (dss_cons (ds_set 5 (dc_val (de_frz (dc_bin op_fdivD fDiv_ok (dx_e (de_frz (dc_ix ix_seq fIx_ok (dx_e (de_frz (dc_ix ix_seq fIx_ok (dx_e (de_frz (dc_ix ix_seq fIx_ok (dx_s 1) (dx_e (de_var 4))))) (dx_e de_int)))) (dx_e (de_var 3))))) (dx_e (de_frz (dc_ix ix_seq fIx_ok (dx_e (de_frz (dc_ix ix_seq fIx_ok (dx_e (de_frz (dc_ix ix_seq fIx_ok (dx_s 1) (dx_e (de_var 2))))) (dx_e de_int)))) (dx_e (de_var 3)))))))) nd) (pss_eq (m_smoothed_1.eq_1) (dss_one (ds_asg (dc_val (de_frz (dc_callD D_pair_less hr (by decide) tk (dkc (dk_e (de_frz (dc_ix ix_seq fIx_ok (dx_s 1) (dx_e (de_var 4))))) (dkc (dk_e (de_frz (dc_ix ix_seq fIx_ok (dx_s 1) (dx_e (de_var 2))))) (dkc (dk_e (de_var 5)) dkn)))))) (dg_sub 1 (de_var 4)))))))))))) (dss_one (ds_ret (dc_move 1))))))
theorem ok_Steads_init (Z : ZZ K mg base) : ∃ fd, InitOk P w K mg base 6 "Steads" k_Steads fd ["self", "many", "rows"] 2 w_Steads_init := by
  obtain ⟨_, D_pairs_of⟩ := ok_pairs_of (P := P) (w := w) Z
  obtain ⟨_, D_parted_at⟩ := ok_parted_at (P := P) (w := w) Z
  obtain ⟨_, D_smoothed⟩ := ok_smoothed (P := P) (w := w) Z
  obtain ⟨fd, F⟩ := Z.def_ 22 (d := d_Steads___init)
  rw [w_Steads_init]
  refine ⟨fd, init_ok (k := 5) 2 F sc_Steads___init rfl fun cdv A outer s H F0 E ad x dx hr tk => ?_, FunD.bindsN F fun _ _ _ _ _ _ us hl => match us, hl with | [_, _, _], _ => rfl, mk_Steads Z, g_Steads Z⟩
  have nd := sc_Steads___init.nd
  exact (di_cons (W := fun cls d _ H => E cls d H) (de_var 1) (cls_Steads Z) (na_Steads_many Z) pa_Steads_0 (di_cons (W := fun cls d _ H => E cls d H) (de_frz (dc_callTy call_tuple_of fTuple_ok (f_tuple Z) (da_cons (dx_e (de_var 2)) da_nil))) (cls_Steads Z) (na_Steads_rows Z) pa_Steads_1 (di_enter fun F1 L1 σ1 H1 ρ1 ds ad h0 => (dj_cons (ds_par2 3 4 rfl nd (dcs_cons (dc_val (de_frz (dc_callD D_pairs_of hr (by decide) tk (dkc (dk_e (de_self 1 h0 (cls_Steads Z) (na_Steads_rows Z) lks_Steads_2_rows)) dkn)))) (dcs_cons (dc_lst ddn) dcs_nil))) (dj_cons (ds_for (passes_of rfl) rfl (di_rg1 (f_range Z) (de_var 1)) (dg_nm 5 nd) (dss_cons (ds_asg (dc_val (de_frz (dc_callD D_parted_at hr (by decide) tk (dkc (dk_e (de_var 3)) (dkc (dk_e (de_var 5)) dkn))))) (dg_tp rfl (dgs_cons (dg_nm 6 nd) (dgs_cons (dg_nm 3 nd) dgs_nil)))) (dss_one (ds_extB 4 (de_var 6))))) (dj_leave h0 (di_cons (W := fun cls d _ H => E cls d H) (de_frz (dc_callD D_smoothed hr (by decide) tk (dkc (dk_e (de_still 4)) dkn))) (cls_Steads Z) (na_Steads_pairs Z) pa_Steads_2 (di_cons (W := fun cls d _ H => E cls d H) (de_frz (dc_lc [("_", 7), ("amounts", 8)] rfl nd (di_sq (de_var 3)) (fun _ _ _ _ _ => (dp_tp rfl (dps_cons (dp_nm 7 nd) (dps_cons (dp_nm 8 nd) dps_nil)))) (fun _ _ _ _ _ => dts_nil) (fun _ _ _ _ _ => (de_var 8)))) (cls_Steads Z) (na_Steads_idle Z) pa_Steads_3 di_nil))))))))
theorem ok_Steads_walk (Z : ZZ K mg base) : ∃ fd, MethOk P w K mg base 3 "Steads" "walk" fd ["self", "order"] 2 [] w_Steads_walk := by
  obtain ⟨_, D_head_place⟩ := ok_head_place (P := P) (w := w) Z
  obtain ⟨_, D_row_less⟩ := ok_row_less (P := P) (w := w) Z
  obtain ⟨fd, F⟩ := Z.def_ 23 (d := d_Steads_walk)
  rw [w_Steads_walk]
  refine ⟨fd, def_ok (k := 2) 2 [] F sc_Steads_walk rfl fun cdv A outer s H F0 E ad hr tk => ?_, FunD.bindsN F fun _ _ _ _ _ _ us hl => match us, hl with | [_, _], _ => rfl, cls_Steads Z, mt_Steads_walk Z⟩
  have nd := sc_Steads_walk.nd
  exact (dss_cons (ds_par2 2 3 rfl nd (dcs_cons (dc_lst ddn) (dcs_cons (dc_val (de_frz (dc_callTy call_tuple_of fTuple_ok (f_tuple Z) (da_cons (dx_e (de_var 1)) da_nil)))) dcs_nil))) (pss_eq (m_Steads_walk_5.eq_1) (dss_cons (ds_for (passes_of rfl) rfl (di_sq (de_fld 2 (de_var 0) (cls_Steads Z) (na_Steads_pairs Z) lk_Steads_pairs)) (dg_tp rfl (dgs_cons (dg_nm 4 nd) (dgs_cons (dg_nm 5 nd) dgs_nil))) (pss_eq (m_Steads_walk_3.eq_1) (dss_cons (ds_set 6 (dc_val (de_frz (dc_callD D_head_place hr (by decide) tk (dkc (dk_e (de_var 4)) dkn)))) nd) (pss_eq (m_Steads_walk_2.eq_1) (dss_cons (ds_set 7 (dc_val (de_frz (dc_bin op_fdivD fDiv_ok (dx_e (de_frz (dc_ix ix_seq fIx_ok (dx_e (de_var 3)) (dx_e (de_var 6))))) (dx_e (de_frz (dc_ix ix_seq fIx_ok (dx_e (de_var 4)) (dx_e (de_var 6)))))))) nd) (dss_cons (ds_appB 2 (de_var 7)) (pss_eq (m_Steads_walk_1.eq_1) (dss_one (ds_set 3 (dc_val (de_frz (dc_callD D_row_less hr (by decide) tk (dkc (dk_e (de_var 3)) (dkc (dk_e (de_var 4)) (dkc (dk_e (de_var 7)) dkn)))))) nd))))))))) (pss_eq (m_Steads_walk_4.eq_1) (dss_one (ds_ret (dc_val (de_tup (ddc (de_frz (dc_callTy call_tuple_of fTuple_ok (f_tuple Z) (da_cons (dx_e (de_still 2)) da_nil))) (ddc (de_var 3) ddn))))))))))
theorem ok_are_noughts (Z : ZZ K mg base) : ∃ fd, DefOk P w K mg base 2 "are_noughts" (top 11) fd ["row"] 1 [] w_are_noughts := by
  obtain ⟨fd, F⟩ := Z.def_ 24 (d := d_are_noughts)
  rw [w_are_noughts]
  refine ⟨fd, F, def_ok (k := 1) 1 [] F sc_are_noughts rfl fun cdv A outer s H F0 E ad hr tk => ?_, Z.glo 54, FunD.bindsN F fun _ _ _ _ _ _ us hl => match us, hl with | [_], _ => rfl⟩
  have nd := sc_are_noughts.nd
  exact (dss_one (ds_ret (dc_callB (cr_all rfl) fAll_ok (f_all Z) (da_cons (dx_e (de_frz (dc_lc [("each", 1)] rfl nd (di_sq (de_var 0)) (fun _ _ _ _ _ => (dp_nm 1 nd)) (fun _ _ _ _ _ => dts_nil) (fun _ _ _ _ _ => (de_frz (dc_cmp (op_eqD hr.units) fEq_ok (dx_e (de_var 1)) (dx_e de_int))))))) da_nil))))
theorem ok_noughts (Z : ZZ K mg base) : ∃ fd, DefOk P w K mg base 2 "noughts" (top 12) fd ["many"] 1 [] w_noughts := by
  obtain ⟨fd, F⟩ := Z.def_ 25 (d := d_noughts)
  rw [w_noughts]
  refine ⟨fd, F, def_ok (k := 1) 1 [] F sc_noughts rfl fun cdv A outer s H F0 E ad hr tk => ?_, Z.glo 55, FunD.bindsN F fun _ _ _ _ _ _ us hl => match us, hl with | [_], _ => rfl⟩
  have nd := sc_noughts.nd
  exact (dss_one (ds_ret (dc_callTy call_tuple_of fTuple_ok (f_tuple Z) (da_cons (dx_e (de_frz (dc_lc [("_", 1)] rfl nd (di_rg1 (f_range Z) (de_var 0)) (fun _ _ _ _ _ => (dp_nm 1 nd)) (fun _ _ _ _ _ => dts_nil) (fun _ _ _ _ _ => de_int)))) da_nil))))
theorem ok_row_sum (Z : ZZ K mg base) : ∃ fd, DefOk P w K mg base 2 "row_sum" (top 8) fd ["one", "two"] 2 [] w_row_sum := by
  obtain ⟨fd, F⟩ := Z.def_ 26 (d := d_row_sum)
  rw [w_row_sum]
  refine ⟨fd, F, def_ok (k := 1) 2 [] F sc_row_sum rfl fun cdv A outer s H F0 E ad hr tk => ?_, Z.glo 56, FunD.bindsN F fun _ _ _ _ _ _ us hl => match us, hl with | [_, _], _ => rfl⟩
  have nd := sc_row_sum.nd
  exact (dss_one (ds_ret (dc_callTy call_tuple_of fTuple_ok (f_tuple Z) (da_cons (dx_e (de_frz (dc_lc [("first", 2), ("second", 3)] rfl nd (di_zp2 (f_zip Z) (de_var 0) (de_var 1)) (fun _ _ _ _ _ => (dp_tp rfl (dps_cons (dp_nm 2 nd) (dps_cons (dp_nm 3 nd) dps_nil)))) (fun _ _ _ _ _ => dts_nil) (fun _ _ _ _ _ => (de_frz (dc_bin op_addD fAdd_ok (dx_e (de_var 2)) (dx_e (de_var 3)))))))) da_nil))))
theorem ok_Steads_amounts (Z : ZZ K mg base) : ∃ fd, MethOk P w K mg base 4 "Steads" "amounts" fd ["self", "order"] 2 [] w_Steads_amounts := by
  obtain ⟨_, D_Steads_walk⟩ := ok_Steads_walk (P := P) (w := w) Z
  obtain ⟨_, D_are_noughts⟩ := ok_are_noughts (P := P) (w := w) Z
  obtain ⟨_, D_noughts⟩ := ok_noughts (P := P) (w := w) Z
  obtain ⟨_, D_row_times⟩ := ok_row_times (P := P) (w := w) Z
  obtain ⟨_, D_row_sum⟩ := ok_row_sum (P := P) (w := w) Z
  obtain ⟨fd, F⟩ := Z.def_ 27 (d := d_Steads_amounts)
  rw [w_Steads_amounts]
  refine ⟨fd, def_ok (k := 3) 2 [] F sc_Steads_amounts rfl fun cdv A outer s H F0 E ad hr tk => ?_, FunD.bindsN F fun _ _ _ _ _ _ us hl => match us, hl with | [_, _], _ => rfl, cls_Steads Z, mt_Steads_amounts Z⟩
  have nd := sc_Steads_amounts.nd
  exact (dss_cons (ds_asg (dc_val (de_frz (dc_meth (de_var 0) D_Steads_walk nl_Steads_walk hr (by decide) tk (dkc (dk_e (de_var 1)) dkn)))) (dg_tp rfl (dgs_cons (dg_nm 2 nd) (dgs_cons (dg_nm 3 nd) dgs_nil)))) (pss_eq (m_Steads_amounts_4.eq_1) (dss_cons (ds_if (dt_not (dt_tru (dx_e (de_frz (dc_callD D_are_noughts hr (by decide) tk (dkc (dk_e (de_var 3)) dkn)))))) (dss_one (ds_ret (dc_val de_non))) dss_nil) (pss_eq (m_Steads_amounts_3.eq_1) (dss_cons (ds_set 4 (dc_val (de_frz (dc_callD D_noughts hr (by decide) tk (dkc (dk_e (de_frz (dc_callB call_len fLen_ok (f_len Z) (da_cons (dx_e (de_fld 1 (de_var 0) (cls_Steads Z) (na_Steads_rows Z) lk_Steads_rows)) da_nil)))) dkn)))) nd) (pss_eq (m_Steads_amounts_2.eq_1) (dss_cons (ds_for (passes_of rfl) rfl (di_zp2 (f_zip Z) (de_var 2) (de_fld 2 (de_var 0) (cls_Steads Z) (na_Steads_pairs Z) lk_Steads_pairs)) (dg_tp rfl (dgs_cons (dg_nm 5 nd) (dgs_cons (dg_tp rfl (dgs_cons (dg_nm 6 nd) (dgs_cons (dg_nm 7 nd) dgs_nil))) dgs_nil))) (pss_eq (m_Steads_amounts_1.eq_1) (dss_one (ds_set 4 (dc_val (de_frz (dc_callD D_row_sum hr (by decide) tk (dkc (dk_e (de_var 4)) (dkc (dk_e (de_frz (dc_callD D_row_times hr (by decide) tk (dkc (dk_e (de_var 7)) (dkc (dk_e (de_var 5)) dkn))))) dkn))))) nd)))) (dss_one (ds_ret (dc_val (de_var 4)))))))))))
theorem ok_multiple_of (Z : ZZ K mg base) : ∃ fd, DefOk P w K mg base 2 "multiple_of" (top 7) fd ["one", "two"] 2 [] w_multiple_of := by
  obtain ⟨fd, F⟩ := Z.def_ 28 (d := d_multiple_of)
  rw [w_multiple_of]
  refine ⟨fd, F, def_ok (k := 1) 2 [] F sc_multiple_of rfl fun cdv A outer s H F0 E ad hr tk => ?_, Z.glo 57, FunD.bindsN F fun _ _ _ _ _ _ us hl => match us, hl with | [_, _], _ => rfl⟩
  have nd := sc_multiple_of.nd
  exact (dss_one (ds_ret (dc_bin op_mulD fMul_ok (dx_e (de_frz (dc_bin op_fdivD fDiv_ok (dx_e (de_var 0)) (dx_e (de_frz (dc_callF cr_gcd fGcd_ok (gcd Z) (da_cons (dx_e (de_var 0)) (da_cons (dx_e (de_var 1)) da_nil)))))))) (dx_e (de_var 1)))))
theorem ok_joint (Z : ZZ K mg base) : ∃ fd, DefOk P w K mg base 8 "joint" (top 34) fd ["bell", "other"] 2 [] w_joint := by
  obtain ⟨_, D_Steads_init⟩ := ok_Steads_init (P := P) (w := w) Z
  obtain ⟨_, D_Steads_amounts⟩ := ok_Steads_amounts (P := P) (w := w) Z
  obtain ⟨_, D_multiple_of⟩ := ok_multiple_of (P := P) (w := w) Z
  obtain ⟨fd, F⟩ := Z.def_ 29 (d := d_joint)
  rw [w_joint]
  refine ⟨fd, F, def_ok (k := 7) 2 [] F sc_joint rfl fun cdv A outer s H F0 E ad hr tk => ?_, Z.glo 58, FunD.bindsN F fun _ _ _ _ _ _ us hl => match us, hl with | [_, _], _ => rfl⟩
  have nd := sc_joint.nd
  exact (dss_cons (ds_set 2 (dc_val (de_frz (dc_meth (de_frz (dc_make D_Steads_init hr (by decide) (dkc (dk_e de_int) (dkc (dk_e (de_frz (dc_lst (ddc (de_tup (ddc (de_frz (dc_ix ix_seq fIx_ok (dx_e (de_var 0)) (dx_e (de_int' (c_EVERY Z))))) ddn)) (ddc (de_tup (ddc (de_frz (dc_ix ix_seq fIx_ok (dx_e (de_var 1)) (dx_e (de_int' (c_EVERY Z))))) ddn)) ddn))))) dkn)))) D_Steads_amounts nl_Steads_amounts hr (by decide) tk (dkc (dk_e (de_tup (ddc (de_frz (dc_bin op_sub fSub_ok (dx_e (de_frz (dc_ix ix_seq fIx_ok (dx_e (de_var 1)) (dx_e (de_int' (c_FIRST Z)))))) (dx_e (de_frz (dc_ix ix_seq fIx_ok (dx_e (de_var 0)) (dx_e (de_int' (c_FIRST Z)))))))) ddn))) dkn)))) nd) (pss_eq (m_joint_3.eq_1) (dss_cons (ds_if (dt_cmp op_isN fIsN_ok (dx_e (de_var 2)) (dx_e de_non)) (dss_one (ds_ret (dc_val de_non))) dss_nil) (pss_eq (m_joint_2.eq_1) (dss_cons (ds_set 3 (dc_val (de_frz (dc_callD D_multiple_of hr (by decide) tk (dkc (dk_e (de_frz (dc_ix ix_seq fIx_ok (dx_e (de_var 0)) (dx_e (de_int' (c_EVERY Z)))))) (dkc (dk_e (de_frz (dc_ix ix_seq fIx_ok (dx_e (de_var 1)) (dx_e (de_int' (c_EVERY Z)))))) dkn))))) nd) (pss_eq (m_joint_1.eq_1) (dss_one (ds_ret (dc_val (de_tup (ddc (de_frz (dc_bin op_modN fMod_ok (dx_e (de_frz (dc_callTy call_int1 fInt_ok (f_int Z) (da_cons (dx_e (de_frz (dc_bin op_addD fAdd_ok (dx_e (de_frz (dc_ix ix_seq fIx_ok (dx_e (de_var 0)) (dx_e (de_int' (c_FIRST Z)))))) (dx_e (de_frz (dc_bin op_mulD fMul_ok (dx_e (de_frz (dc_ix ix_seq fIx_ok (dx_e (de_var 2)) (dx_e de_int)))) (dx_e (de_frz (dc_ix ix_seq fIx_ok (dx_e (de_var 0)) (dx_e (de_int' (c_EVERY Z)))))))))))) da_nil)))) (dx_e (de_var 3)))) (ddc (de_var 3) ddn))))))))))))
theorem ok_together_by (Z : ZZ K mg base) : ∃ fd, DefOk P w K mg base 9 "together_by" (top 35) fd ["bells"] 1 [] w_together_by := by
  obtain ⟨_, D_joint⟩ := ok_joint (P := P) (w := w) Z
  obtain ⟨fd, F⟩ := Z.def_ 30 (d := d_together_by)
  rw [w_together_by]
  refine ⟨fd, F, def_ok (k := 8) 1 [] F sc_together_by rfl fun cdv A outer s H F0 E ad hr tk => ?_, Z.glo 59, FunD.bindsN F fun _ _ _ _ _ _ us hl => match us, hl with | [_], _ => rfl⟩
  have nd := sc_together_by.nd
  exact (dss_cons (ds_set 1 (dc_val (de_tup (ddc de_int (ddc de_int ddn)))) nd) (dss_cons (ds_for (passes_of rfl) rfl (di_sq (de_var 0)) (dg_nm 2 nd) (dss_one (ds_set 1 (dc_val (de_frz (dc_if (dt_cmp op_notN fNotN_ok (dx_e (de_var 1)) (dx_e de_non)) (dc_callD D_joint hr (by decide) tk (dkc (dk_e (de_var 1)) (dkc (dk_e (de_var 2)) dkn))) (dc_val de_non)))) nd))) (dss_one (ds_ret (dc_val (de_var 1))))))
theorem ok_together (Z : ZZ K mg base) : ∃ fd, DefOk P w K mg base 10 "together" (top 45) fd ["bells"] 1 [] w_together := by
  obtain ⟨_, D_check_bells⟩ := ok_check_bells (P := P) (w := w) Z
  obtain ⟨_, D_together_by⟩ := ok_together_by (P := P) (w := w) Z
  obtain ⟨fd, F⟩ := Z.def_ 31 (d := d_together)
  rw [w_together]
  refine ⟨fd, F, def_ok (k := 9) 1 [] F sc_together rfl fun cdv A outer s H F0 E ad hr tk => ?_, Z.glo 60, FunD.bindsN F fun _ _ _ _ _ _ us hl => match us, hl with | [_], _ => rfl⟩
  have nd := sc_together.nd
  exact (dss_cons (ds_expr (dc_callD D_check_bells hr (by decide) tk (dkc (dk_e (de_var 0)) dkn))) (dss_one (ds_ret (dc_callD D_together_by hr (by decide) tk (dkc (dk_e (de_var 0)) dkn)))))
theorem ok_divisor_of (Z : ZZ K mg base) : ∃ fd, DefOk P w K mg base 2 "divisor_of" (top 6) fd ["numbers"] 1 [] w_divisor_of := by
  obtain ⟨fd, F⟩ := Z.def_ 32 (d := d_divisor_of)
  rw [w_divisor_of]
  refine ⟨fd, F, def_ok (k := 1) 1 [] F sc_divisor_of rfl fun cdv A outer s H F0 E ad hr tk => ?_, Z.glo 61, FunD.bindsN F fun _ _ _ _ _ _ us hl => match us, hl with | [_], _ => rfl⟩
  have nd := sc_divisor_of.nd
  exact (dss_cons (ds_set 1 (dc_val de_int) nd) (dss_cons (ds_for (passes_of rfl) rfl (di_sq (de_var 0)) (dg_nm 2 nd) (dss_one (ds_set 1 (dc_val (de_frz (dc_callF cr_gcd fGcd_ok (gcd Z) (da_cons (dx_e (de_var 1)) (da_cons (dx_e (de_var 2)) da_nil))))) nd))) (dss_one (ds_ret (dc_val (de_var 1))))))
theorem ok_never_together (Z : ZZ K mg base) : ∃ fd, DefOk P w K mg base 3 "never_together" (top 32) fd ["bells", "one", "two"] 3 [] w_never_together := by
  obtain ⟨_, D_divisor_of⟩ := ok_divisor_of (P := P) (w := w) Z
  obtain ⟨fd, F⟩ := Z.def_ 33 (d := d_never_together)
  rw [w_never_together]
  refine ⟨fd, F, def_ok (k := 2) 3 [] F sc_never_together rfl fun cdv A outer s H F0 E ad hr tk => ?_, Z.glo 62, FunD.bindsN F fun _ _ _ _ _ _ us hl => match us, hl with | [_, _, _], _ => rfl⟩
  have nd := sc_never_together.nd
  exact (dss_cons (ds_set 3 (dc_val (de_frz (dc_bin op_sub fSub_ok (dx_e (de_frz (dc_ix ix_seq fIx_ok (dx_e (de_frz (dc_ix ix_seq fIx_ok (dx_e (de_var 0)) (dx_e (de_var 1))))) (dx_e (de_int' (c_FIRST Z)))))) (dx_e (de_frz (dc_ix ix_seq fIx_ok (dx_e (de_frz (dc_ix ix_seq fIx_ok (dx_e (de_var 0)) (dx_e (de_var 2))))) (dx_e (de_int' (c_FIRST Z))))))))) nd) (dss_one (ds_ret (dc_cmp (op_neD hr.units) fNe_ok (dx_e (de_frz (dc_bin op_modN fMod_ok (dx_e (de_frz (dc_callTy call_int1 fInt_ok (f_int Z) (da_cons (dx_e (de_var 3)) da_nil)))) (dx_e (de_frz (dc_callD D_divisor_of hr (by decide) tk (dkc (dk_e (de_frz (dc_lst (ddc (de_frz (dc_ix ix_seq fIx_ok (dx_e (de_frz (dc_ix ix_seq fIx_ok (dx_e (de_var 0)) (dx_e (de_var 1))))) (dx_e (de_int' (c_EVERY Z))))) (ddc (de_frz (dc_ix ix_seq fIx_ok (dx_e (de_frz (dc_ix ix_seq fIx_ok (dx_e (de_var 0)) (dx_e (de_var 2))))) (dx_e (de_int' (c_EVERY Z))))) ddn))))) dkn))))))) (dx_e de_int)))))
theorem ok_apart_by (Z : ZZ K mg base) : ∃ fd, DefOk P w K mg base 4 "apart_by" (top 33) fd ["bells"] 1 [] w_apart_by := by
  obtain ⟨_, D_never_together⟩ := ok_never_together (P := P) (w := w) Z
  obtain ⟨fd, F⟩ := Z.def_ 34 (d := d_apart_by)
  rw [w_apart_by]
  refine ⟨fd, F, def_ok (k := 3) 1 [] F sc_apart_by rfl fun cdv A outer s H F0 E ad hr tk => ?_, Z.glo 63, FunD.bindsN F fun _ _ _ _ _ _ us hl => match us, hl with | [_], _ => rfl⟩
  have nd := sc_apart_by.nd
  exact (dss_cons (ds_set 1 (dc_val (de_frz (dc_callTy call_rg1 fRg1_ok (f_range Z) (da_cons (dx_e (de_frz (dc_callB call_len fLen_ok (f_len Z) (da_cons (dx_e (de_var 0)) da_nil)))) da_nil)))) nd) (pss_eq (m_apart_by_2.eq_1) (dss_cons (ds_setLcV2 2 [("one", 3), ("two", 4)] [4] rfl nd (di_rgO (de_var 1)) (fun _ _ _ _ _ => (dp_nm 3 nd)) (fun _ _ _ _ _ => dts_nil) (fun _ _ _ _ _ => (di_rgO (de_var 1))) (fun _ _ _ _ _ => (dp_nm 4 nd)) (fun _ _ _ _ _ => (dts_one (dt_w (dw_and (dt_cmp op_lt fLt_ok (dx_e (de_var 3)) (dx_e (de_var 4))) (dw_and1 (dt_tru (dx_e (de_frz (dc_callD D_never_together hr (by decide) takes0 (dkc (dk_e (de_var 0)) (dkc (dk_e (de_var 3)) (dkc (dk_e (de_var 4)) dkn)))))))))))) (fun _ _ _ _ _ => (de_tup (ddc (de_var 3) (ddc (de_var 4) ddn))))) (pss_eq (m_apart_by_1.eq_1) (dss_one (ds_ret (dc_if (dt_cmp (op_neD hr.units) fNe_ok (dx_e (de_var 2)) (dx_e (de_frz (dc_lst ddn)))) (dc_ix ix_seq fIx_ok (dx_e (de_var 2)) (dx_e de_int)) (dc_val de_non))))))))
theorem ok_apart (Z : ZZ K mg base) : ∃ fd, DefOk P w K mg base 7 "apart" (top 46) fd ["bells"] 1 [] w_apart := by
  obtain ⟨_, D_check_bells⟩ := ok_check_bells (P := P) (w := w) Z
  obtain ⟨_, D_apart_by⟩ := ok_apart_by (P := P) (w := w) Z
  obtain ⟨fd, F⟩ := Z.def_ 35 (d := d_apart)
  rw [w_apart]
  refine ⟨fd, F, def_ok (k := 6) 1 [] F sc_apart rfl fun cdv A outer s H F0 E ad hr tk => ?_, Z.glo 64, FunD.bindsN F fun _ _ _ _ _ _ us hl => match us, hl with | [_], _ => rfl⟩
  have nd := sc_apart.nd
  exact (dss_cons (ds_expr (dc_callD D_check_bells hr (by decide) tk (dkc (dk_e (de_var 0)) dkn))) (dss_one (ds_ret (dc_callD D_apart_by hr (by decide) tk (dkc (dk_e (de_var 0)) dkn)))))
theorem ok_check_time (Z : ZZ K mg base) : ∃ fd, DefOk P w K mg base 3 "check_time" (top 44) fd ["time"] 1 [] w_check_time := by
  obtain ⟨_, D_is_whole⟩ := ok_is_whole (P := P) (w := w) Z
  obtain ⟨_, F_InvalidNumber, b_InvalidNumber⟩ := ini_InvalidNumber (P := P) (w := w) Z
  obtain ⟨fd, F⟩ := Z.def_ 36 (d := d_check_time)
  rw [w_check_time]
  refine ⟨fd, F, def_ok (k := 2) 1 [] F sc_check_time rfl fun cdv A outer s H F0 E ad hr tk => ?_, Z.glo 65, FunD.bindsN F fun _ _ _ _ _ _ us hl => match us, hl with | [_], _ => rfl⟩
  have nd := sc_check_time.nd
  exact (dss_one (ds_if (dt_not (dt_tru (dx_e (de_frz (dc_callD D_is_whole hr (by decide) tk (dkc (dk_e (de_var 0)) dkn)))))) (dss_one (ds_raise rfl tk (o_InvalidNumber Z) F_InvalidNumber b_InvalidNumber (hr.mono (by decide)) (g_InvalidNumber Z) (de_var 0))) dss_nil))
theorem ok_ringing_by (Z : ZZ K mg base) : ∃ fd, DefOk P w K mg base 2 "ringing_by" (top 36) fd ["bells", "time"] 2 [] w_ringing_by := by
  obtain ⟨fd, F⟩ := Z.def_ 37 (d := d_ringing_by)
  rw [w_ringing_by]
  refine ⟨fd, F, def_ok (k := 1) 2 [] F sc_ringing_by rfl fun cdv A outer s H F0 E ad hr tk => ?_, Z.glo 66, FunD.bindsN F fun _ _ _ _ _ _ us hl => match us, hl with | [_, _], _ => rfl⟩
  have nd := sc_ringing_by.nd
  exact (dss_one (ds_ret (dc_callTy call_tuple_of fTuple_ok (f_tuple Z) (da_cons (dx_e (de_frz (dc_lc [("at", 2), ("first", 3), ("every", 4)] rfl nd (di_en (f_enumerate Z) (de_var 0)) (fun _ _ _ _ _ => (dp_tp rfl (dps_cons (dp_nm 2 nd) (dps_cons (dp_tp rfl (dps_cons (dp_nm 3 nd) (dps_cons (dp_nm 4 nd) dps_nil))) dps_nil)))) (fun _ _ _ _ _ => (dts_one (dt_cmp (op_eqD hr.units) fEq_ok (dx_e (de_frz (dc_bin op_modN fMod_ok (dx_e (de_frz (dc_callTy call_int1 fInt_ok (f_int Z) (da_cons (dx_e (de_frz (dc_bin op_sub fSub_ok (dx_e (de_var 1)) (dx_e (de_var 3))))) da_nil)))) (dx_e (de_var 4))))) (dx_e de_int)))) (fun _ _ _ _ _ => (de_var 2))))) da_nil))))
theorem ok_ringing (Z : ZZ K mg base) : ∃ fd, DefOk P w K mg base 7 "ringing" (top 47) fd ["bells", "time"] 2 [] w_ringing := by
  obtain ⟨_, D_check_bells⟩ := ok_check_bells (P := P) (w := w) Z
  obtain ⟨_, D_check_time⟩ := ok_check_time (P := P) (w := w) Z
  obtain ⟨_, D_ringing_by⟩ := ok_ringing_by (P := P) (w := w) Z
  obtain ⟨fd, F⟩ := Z.def_ 38 (d := d_ringing)
  rw [w_ringing]
  refine ⟨fd, F, def_ok (k := 6) 2 [] F sc_ringing rfl fun cdv A outer s H F0 E ad hr tk => ?_, Z.glo 67, FunD.bindsN F fun _ _ _ _ _ _ us hl => match us, hl with | [_, _], _ => rfl⟩
  have nd := sc_ringing.nd
  exact (dss_cons (ds_expr (dc_callD D_check_bells hr (by decide) tk (dkc (dk_e (de_var 0)) dkn))) (dss_cons (ds_expr (dc_callD D_check_time hr (by decide) tk (dkc (dk_e (de_var 1)) dkn))) (dss_one (ds_ret (dc_callD D_ringing_by hr (by decide) tk (dkc (dk_e (de_var 0)) (dkc (dk_e (de_var 1)) dkn)))))))
theorem ok_next_time_by (Z : ZZ K mg base) : ∃ fd, DefOk P w K mg base 10 "next_time_by" (top 37) fd ["bells", "time"] 2 [] w_next_time_by := by
  obtain ⟨_, D_together_by⟩ := ok_together_by (P := P) (w := w) Z
  obtain ⟨fd, F⟩ := Z.def_ 39 (d := d_next_time_by)
  rw [w_next_time_by]
  refine ⟨fd, F, def_ok (k := 9) 2 [] F sc_next_time_by rfl fun cdv A outer s H F0 E ad hr tk => ?_, Z.glo 68, FunD.bindsN F fun _ _ _ _ _ _ us hl => match us, hl with | [_, _], _ => rfl⟩
  have nd := sc_next_time_by.nd
  exact (dss_cons (ds_set 2 (dc_val (de_frz (dc_callD D_together_by hr (by decide) tk (dkc (dk_e (de_var 0)) dkn)))) nd) (dss_one (ds_ret (dc_if (dt_cmp op_notN fNotN_ok (dx_e (de_var 2)) (dx_e de_non)) (dc_bin op_addD fAdd_ok (dx_e (de_var 1)) (dx_e (de_frz (dc_bin op_modN fMod_ok (dx_e (de_frz (dc_callTy call_int1 fInt_ok (f_int Z) (da_cons (dx_e (de_frz (dc_bin op_sub fSub_ok (dx_e (de_frz (dc_ix ix_seq fIx_ok (dx_e (de_var 2)) (dx_e (de_int' (c_FIRST Z)))))) (dx_e (de_var 1))))) da_nil)))) (dx_e (de_frz (dc_ix ix_seq fIx_ok (dx_e (de_var 2)) (dx_e (de_int' (c_EVERY Z)))))))))) (dc_val de_non)))))
theorem ok_next_time (Z : ZZ K mg base) : ∃ fd, DefOk P w K mg base 11 "next_time" (top 48) fd ["bells", "time"] 2 [] w_next_time := by
  obtain ⟨_, D_check_bells⟩ := ok_check_bells (P := P) (w := w) Z
  obtain ⟨_, D_check_time⟩ := ok_check_time (P := P) (w := w) Z
  obtain ⟨_, D_next_time_by⟩ := ok_next_time_by (P := P) (w := w) Z
  obtain ⟨fd, F⟩ := Z.def_ 40 (d := d_next_time)
  rw [w_next_time]
  refine ⟨fd, F, def_ok (k := 10) 2 [] F sc_next_time rfl fun cdv A outer s H F0 E ad hr tk => ?_, Z.glo 69, FunD.bindsN F fun _ _ _ _ _ _ us hl => match us, hl with | [_, _], _ => rfl⟩
  have nd := sc_next_time.nd
  exact (dss_cons (ds_expr (dc_callD D_check_bells hr (by decide) tk (dkc (dk_e (de_var 0)) dkn))) (dss_cons (ds_expr (dc_callD D_check_time hr (by decide) tk (dkc (dk_e (de_var 1)) dkn))) (dss_one (ds_ret (dc_callD D_next_time_by hr (by decide) tk (dkc (dk_e (de_var 0)) (dkc (dk_e (de_var 1)) dkn)))))))
theorem ok_law_done (Z : ZZ K mg base) : ∃ fd, DefOk P w K mg base 12 "_law_done" (top 55) fd ["way", "bells", "time"] 3 [] w_law_done := by
  obtain ⟨_, D_together⟩ := ok_together (P := P) (w := w) Z
  obtain ⟨_, D_apart⟩ := ok_apart (P := P) (w := w) Z
  obtain ⟨_, D_ringing⟩ := ok_ringing (P := P) (w := w) Z
  obtain ⟨_, D_next_time⟩ := ok_next_time (P := P) (w := w) Z
  obtain ⟨fd, F⟩ := Z.def_ 41 (d := d_law_done)
  rw [w_law_done]
  refine ⟨fd, F, def_ok (k := 11) 3 [] F sc_law_done rfl fun cdv A outer s H F0 E ad hr tk => ?_, Z.glo 70, FunD.bindsN F fun _ _ _ _ _ _ us hl => match us, hl with | [_, _, _], _ => rfl⟩
  have nd := sc_law_done.nd
  exact (dss_cons (ds_if (dt_cmp op_lt fLt_ok (dx_e (de_var 0)) (dx_e de_int)) (dss_one (ds_ret (dc_if (dt_cmp (op_eqD hr.units) fEq_ok (dx_e (de_var 0)) (dx_e de_int)) (dc_callD D_together hr (by decide) tk (dkc (dk_e (de_var 1)) dkn)) (dc_callKD D_apart (kb_apart_bells D_apart.fun_) hr (by decide) tk (dkkc (dk_e (de_var 1)) dkkn))))) dss_nil) (dss_one (ds_ret (dc_if (dt_cmp (op_eqD hr.units) fEq_ok (dx_e (de_var 0)) (dx_e de_int)) (dc_callD D_ringing hr (by decide) tk (dkc (dk_e (de_var 1)) (dkc (dk_e (de_var 2)) dkn))) (dc_callKD D_next_time (kb_next_time_time_bells D_next_time.fun_) hr (by decide) tk (dkkc (dk_e (de_var 2)) (dkkc (dk_e (de_var 1)) dkkn)))))))
theorem ok_law_said (Z : ZZ K mg base) : ∃ fd, DefOk P w K mg base 13 "_law_said" (top 56) fd ["way", "bells", "time"] 3 [] w_law_said := by
  obtain ⟨_, D_law_done⟩ := ok_law_done (P := P) (w := w) Z
  obtain ⟨fd, F⟩ := Z.def_ 42 (d := d_law_said)
  rw [w_law_said]
  refine ⟨fd, F, def_ok (k := 12) 3 [] F sc_law_said rfl fun cdv A outer s H F0 E ad hr tk => ?_, Z.glo 71, FunD.bindsN F fun _ _ _ _ _ _ us hl => match us, hl with | [_, _, _], _ => rfl⟩
  have nd := sc_law_said.nd
  exact (dss_cons (ds_try rfl rfl nd tk (und_ok Z) (fun _ _ _ tk _ => (dss_one (ds_expr (dc_callD D_law_done hr (by decide) tk (dkc (dk_e (de_var 0)) (dkc (dk_e (de_var 1)) (dkc (dk_e (de_var 2)) dkn))))))) (cl_named (nm_of (g_InvalidBells Z)) (xf_InvalidBells Z) (o_InvalidBells Z).noat (cl_named (nm_of (g_InvalidNumber Z)) (xf_InvalidNumber Z) (o_InvalidNumber Z).noat (cl_only (nm_of (g_PackError Z)) cl_nil)))) (pss_eq (m_law_said_1.eq_1) (dss_one (ds_ret (dc_val (de_tup (ddc de_str (ddc de_non ddn))))))))
theorem ok_law_same (Z : ZZ K mg base) : ∀ r : Nat, ∃ fd, DefOk P w K mg base (2 + r) "_law_same" (top 53) fd ["told", "due"] 2 [] (w_law_same r)
  | 0 => by
    obtain ⟨fd, F⟩ := Z.def_ 43 (d := d_law_same)
    exact ⟨fd, F, ⟨fun vs H Q E h => by rw [spD_len _ _ _ _ h]; rfl, fun A outer s H args us vs Q E _ _ _ _ ⟨_, _, _, _, _, _, _, _, z, _⟩ => False.elim z⟩, Z.glo 72, FunD.bindsN F fun _ _ _ _ _ _ us hl => match us, hl with | [_, _], _ => rfl⟩
  | r + 1 => by
    obtain ⟨_, Dself⟩ := ok_law_same Z r
    obtain ⟨fd, F⟩ := Z.def_ 43 (d := d_law_same)
    refine ⟨fd, F, def_ok (k := 2 + r) 2 [] F sc_law_same rfl fun cdv A outer s H F0 E ad hr tk => ?_, Z.glo 72, FunD.bindsN F fun _ _ _ _ _ _ us hl => match us, hl with | [_, _], _ => rfl⟩
    have nd := sc_law_same.nd
    exact (dss_cons (ds_if (dt_w (dw_or (dt_w (dw_and (dt_tru (dx_e (de_frz (dc_callB cr_isi fIsi_ok (f_isinstance Z) (da_cons (dx_e (de_var 1)) (da_cons (dx_e (de_ty (f_tuple Z))) da_nil)))))) (dw_and1 (dt_not (dt_tru (dx_e (de_frz (dc_callB cr_isi fIsi_ok (f_isinstance Z) (da_cons (dx_e (de_var 0)) (da_cons (dx_e (de_ty (f_tuple Z))) da_nil)))))))))) (dw_or1 (dt_w (dw_and (dt_tru (dx_e (de_frz (dc_callB cr_isi fIsi_ok (f_isinstance Z) (da_cons (dx_e (de_var 1)) (da_cons (dx_e (de_ty (f_list Z))) da_nil)))))) (dw_and1 (dt_not (dt_tru (dx_e (de_frz (dc_callB cr_isi fIsi_ok (f_isinstance Z) (da_cons (dx_e (de_var 0)) (da_cons (dx_e (de_ty (f_list Z))) da_nil))))))))))))) (dss_one (ds_ret (dc_val de_bl))) dss_nil) (dss_cons (ds_if (dt_tru (dx_e (de_frz (dc_callB cr_isi fIsi_ok (f_isinstance Z) (da_cons (dx_e (de_var 1)) (da_cons (dx_e (de_tup (ddc (de_ty (f_tuple Z)) (ddc (de_ty (f_list Z)) ddn)))) da_nil)))))) (dss_one (ds_ret (dc_and (dx_e (de_frz (dc_cmp (op_eqD hr.units) fEq_ok (dx_e (de_frz (dc_callB call_len fLen_ok (f_len Z) (da_cons (dx_e (de_var 0)) da_nil)))) (dx_e (de_frz (dc_callB call_len fLen_ok (f_len Z) (da_cons (dx_e (de_var 1)) da_nil))))))) (dc_one (dc_callB (cr_all rfl) fAll_ok (f_all Z) (da_cons (dx_e (de_frz (dc_lc [("at", 2)] rfl nd (di_rg1 (f_range Z) (de_frz (dc_callB call_len fLen_ok (f_len Z) (da_cons (dx_e (de_var 1)) da_nil)))) (fun _ _ _ _ _ => (dp_nm 2 nd)) (fun _ _ _ _ _ => dts_nil) (fun _ _ _ _ _ => (de_frz (dc_callD Dself hr (by omega) takes0 (dkc (dk_e (de_frz (dc_ix ix_seq fIx_ok (dx_e (de_var 0)) (dx_e (de_var 2))))) (dkc (dk_e (de_frz (dc_ix ix_seq fIx_ok (dx_e (de_var 1)) (dx_e (de_var 2))))) dkn)))))))) da_nil)))))) dss_nil) (dss_cons (ds_if (dt_w (dw_or (dt_cmp op_isN fIsN_ok (dx_e (de_var 1)) (dx_e de_non)) (dw_or1 (dt_cmp op_isN fIsN_ok (dx_e (de_var 0)) (dx_e de_non))))) (dss_one (ds_ret (dc_and (dx_e (de_frz (dc_cmp op_isN fIsN_ok (dx_e (de_var 1)) (dx_e de_non)))) (dc_one (dc_cmp op_isN fIsN_ok (dx_e (de_var 0)) (dx_e de_non)))))) dss_nil) (dss_cons (ds_if (dt_w (dw_or (dt_tru (dx_e (de_frz (dc_callB cr_isi fIsi_ok (f_isinstance Z) (da_cons (dx_e (de_var 1)) (da_cons (dx_e (de_ty (f_bool Z))) da_nil)))))) (dw_or1 (dt_tru (dx_e (de_frz (dc_callB cr_isi fIsi_ok (f_isinstance Z) (da_cons (dx_e (de_var 0)) (da_cons (dx_e (de_ty (f_bool Z))) da_nil))))))))) (dss_one (ds_ret (dc_and (dx_e (de_frz (dc_callB cr_isi fIsi_ok (f_isinstance Z) (da_cons (dx_e (de_var 1)) (da_cons (dx_e (de_ty (f_bool Z))) da_nil))))) (dc_and (dx_e (de_frz (dc_callB cr_isi fIsi_ok (f_isinstance Z) (da_cons (dx_e (de_var 0)) (da_cons (dx_e (de_ty (f_bool Z))) da_nil))))) (dc_one (dc_cmp (op_eqD hr.units) fEq_ok (dx_e (de_var 1)) (dx_e (de_var 0)))))))) dss_nil) (dss_cons (ds_if (dt_tru (dx_e (de_frz (dc_callB cr_isi fIsi_ok (f_isinstance Z) (da_cons (dx_e (de_var 1)) (da_cons (dx_e (de_ty (f_int Z))) da_nil)))))) (dss_one (ds_ret (dc_and (dx_e (de_frz (dc_callB cr_isi fIsi_ok (f_isinstance Z) (da_cons (dx_e (de_var 0)) (da_cons (dx_e (de_ty (f_int Z))) da_nil))))) (dc_one (dc_cmp (op_eqD hr.units) fEq_ok (dx_e (de_var 0)) (dx_e (de_var 1))))))) dss_nil) (dss_cons (ds_if (dt_tru (dx_e (de_frz (dc_callB cr_isi fIsi_ok (f_isinstance Z) (da_cons (dx_e (de_var 1)) (da_cons (dx_e (de_ty (f_str Z))) da_nil)))))) (dss_one (ds_ret (dc_and (dx_e (de_frz (dc_callB cr_isi fIsi_ok (f_isinstance Z) (da_cons (dx_e (de_var 0)) (da_cons (dx_e (de_ty (f_str Z))) da_nil))))) (dc_one (dc_cmp (op_eqD hr.units) fEq_ok (dx_e (de_var 0)) (dx_e (de_var 1))))))) dss_nil) (dss_one (ds_ret (dc_and (dx_e (de_frz (dc_callB cr_isi fIsi_ok (f_isinstance Z) (da_cons (dx_e (de_var 1)) (da_cons (dx_e (de_ty (f_dict Z))) da_nil))))) (dc_and (dx_e (de_frz (dc_callB cr_isi fIsi_ok (f_isinstance Z) (da_cons (dx_e (de_var 0)) (da_cons (dx_e (de_ty (f_dict Z))) da_nil))))) (dc_and (dx_e (de_frz (dc_cmp (op_eqD hr.units) fEq_ok (dx_e (de_frz (dc_callB call_len fLen_ok (f_len Z) (da_cons (dx_e (de_var 0)) da_nil)))) (dx_e (de_frz (dc_callB call_len fLen_ok (f_len Z) (da_cons (dx_e (de_var 1)) da_nil))))))) (dc_one (dc_cmp (op_eqD hr.units) fEq_ok (dx_e (de_var 0)) (dx_e (de_var 1)))))))))))))))
theorem okv_law_same (Z : ZZ K mg base) : ∃ fd, DefOk P w K mg base 10 "_law_same" (top 53) fd ["told", "due"] 2 [] v_law_same := by
  rw [v_law_same]
  exact ok_law_same Z 8
theorem ok_law_right_i (Z : ZZ K mg base) : ∃ fd, DefOk P w K mg base 14 "_law_right" (top 57) fd ["well"] 1 [0] w_law_right_i := by
  obtain ⟨_, D_law_bells_iv⟩ := ok_law_bells_iv (P := P) (w := w) Z
  obtain ⟨_, D_law_take_iv⟩ := ok_law_take_iv (P := P) (w := w) Z
  obtain ⟨_, D_law_said⟩ := ok_law_said (P := P) (w := w) Z
  obtain ⟨_, D_law_of_iv⟩ := ok_law_of_iv (P := P) (w := w) Z
  obtain ⟨_, D_law_same⟩ := okv_law_same (P := P) (w := w) Z
  obtain ⟨fd, F⟩ := Z.def_ 44 (d := d_law_right)
  rw [w_law_right_i]
  refine ⟨fd, F, def_ok (k := 13) 1 [0] F sc_law_right rfl fun cdv A outer s H F0 E ad hr tk => ?_, Z.glo 73, FunD.bindsN F fun _ _ _ _ _ _ us hl => match us, hl with | [_], _ => rfl⟩
  have nd := sc_law_right.nd
  exact (dss_cons (ds_set 1 (dc_val (de_frz (dc_bin op_addD fAdd_ok (dx_e (de_frz (dc_callD D_law_bells_iv hr (by decide) tk (dkc (dk_s 0) (dkc (dk_e de_int) dkn))))) (dx_e (de_tup (ddc (de_tup (ddc de_int (ddc de_int ddn))) (ddc (de_tup (ddc (de_frz (dc_un un_neg fNeg_ok (dx_e de_int))) (ddc de_int ddn))) ddn))))))) nd) (pss_eq (m_law_right_i_14.eq_1) (dss_cons (ds_set 1 (dc_val (de_frz (dc_slice (dx_e (de_var 1)) do_none (do_some (de_frz (dc_bin op_addD fAdd_ok (dx_e de_int) (dx_e (de_frz (dc_callD D_law_take_iv hr (by decide) tk (dkc (dk_s 0) (dkc (dk_e de_int) dkn))))))))))) nd) (pss_eq (m_law_right_i_13.eq_1) (dss_cons (ds_set 2 (dc_val (de_frz (dc_callD D_law_take_iv hr (by decide) tk (dkc (dk_s 0) (dkc (dk_e (de_frz (dc_callB call_len fLen_ok (f_len Z) (da_cons (dx_e (de_var 1)) da_nil)))) dkn))))) nd) (pss_eq (m_law_right_i_12.eq_1) (dss_cons (ds_asg (dc_val (de_frz (dc_ix ix_seq fIx_ok (dx_e (de_var 1)) (dx_e (de_var 2))))) (dg_tp rfl (dgs_cons (dg_nm 3 nd) (dgs_cons (dg_nm 4 nd) dgs_nil)))) (pss_eq (m_law_right_i_11.eq_1) (dss_cons (ds_for (passes_of rfl) rfl (di_rg1 (f_range Z) de_int) (dg_nm 5 nd) (pss_eq (m_law_right_i_10.eq_1) (dss_cons (ds_for (passes_of rfl) rfl (di_sq (de_tup (ddc de_int (ddc (de_frz (dc_un un_neg fNeg_ok (dx_e de_int))) (ddc (de_frz (dc_bin op_pow fPow_ok (dx_e de_int) (dx_e de_int))) (ddc (de_frz (dc_un un_neg fNeg_ok (dx_e (de_frz (dc_bin op_pow fPow_ok (dx_e de_int) (dx_e de_int)))))) ddn)))))) (dg_nm 6 nd) (pss_eq (m_law_right_i_1.eq_1) (dss_one (ds_if (dt_cmp (op_neD hr.units) fNe_ok (dx_e (de_frz (dc_callD D_law_said hr (by decide) tk (dkc (dk_e (de_var 5)) (dkc (dk_e (de_var 1)) (dkc (dk_e (de_var 6)) dkn)))))) (dx_e (de_tup (ddc de_str (ddc de_non ddn))))) (dss_one (ds_ret (dc_val de_bl))) dss_nil)))) (pss_eq (m_law_right_i_9.eq_1) (dss_cons (ds_for (passes_of rfl) rfl (di_sq (de_eq (x_law_right_i_1.eq_1) (de_tup (ddc de_non (ddc de_int (ddc de_str (ddc (de_tup ddn) (ddc (de_frz (dc_callTy call_list_of fList_ok (f_list Z) (da_cons (dx_e (de_var 1)) da_nil))) (ddc (de_frz (dc_slice (dx_e (de_frz (dc_bin op_mulD fMul_ok (dx_e (de_var 1)) (dx_e de_int)))) do_none (do_some de_int))) (ddc de_dic0 (ddc de_bl ddn))))))))))) (dg_nm 7 nd) (pss_eq (m_law_right_i_2.eq_1) (dss_one (ds_if (dt_not (dt_tru (dx_e (de_frz (dc_callD D_law_same hr (by decide) tk (dkc (dk_e (de_frz (dc_callD D_law_said hr (by decide) tk (dkc (dk_e (de_var 5)) (dkc (dk_e (de_var 7)) (dkc (dk_e (de_frz (dc_callD D_law_of_iv hr (by decide) tk (dkc (dk_s 0) (dkc (dk_e (de_tup (ddc de_int (ddc de_non ddn)))) dkn))))) dkn)))))) (dkc (dk_e (de_tup (ddc de_str (ddc de_non ddn)))) dkn))))))) (dss_one (ds_ret (dc_val de_bl))) dss_nil)))) (pss_eq (m_law_right_i_8.eq_1) (dss_cons (ds_set 8 (dc_val (de_frz (dc_eq (x_law_right_i_2.eq_1) (dc_lst (ddc de_non (ddc de_int (ddc (de_tup ddn) (ddc (de_tup (ddc (de_var 3) ddn)) (ddc (de_tup (ddc (de_var 3) (ddc (de_var 4) (ddc de_int ddn)))) (ddc (de_frz (dc_lst (ddc (de_var 3) (ddc (de_var 4) ddn)))) (ddc (de_tup (ddc (de_var 3) (ddc de_int ddn))) (ddc (de_tup (ddc (de_var 3) (ddc (de_frz (dc_un un_neg fNeg_ok (dx_e de_int))) ddn))) (ddc (de_tup (ddc (de_var 3) (ddc de_int ddn))) (ddc (de_tup (ddc de_int (ddc (de_var 4) ddn))) (ddc (de_tup (ddc (de_frz (dc_un un_neg fNeg_ok (dx_e de_int))) (ddc (de_var 4) ddn))) (ddc (de_tup (ddc de_bl (ddc (de_var 4) ddn))) ddn)))))))))))))))) nd) (pss_eq (m_law_right_i_7.eq_1) (dss_cons (ds_for (passes_of rfl) rfl (di_sq (de_frz (dc_bin op_addD fAdd_ok (dx_e (de_var 8)) (dx_e (de_frz (dc_eq (x_law_right_i_3.eq_1) (dc_lst (ddc (de_tup (ddc (de_var 3) (ddc de_bl ddn))) (ddc (de_tup (ddc de_non (ddc (de_var 4) ddn))) (ddc (de_tup (ddc (de_var 3) (ddc de_non ddn))) (ddc (de_tup (ddc de_str (ddc (de_var 4) ddn))) (ddc (de_tup (ddc (de_frz (dc_bin op_pow fPow_ok (dx_e de_int) (dx_e de_int))) (ddc (de_var 4) ddn))) (ddc (de_tup (ddc (de_var 3) (ddc (de_frz (dc_bin op_pow fPow_ok (dx_e de_int) (dx_e de_int))) ddn))) ddn))))))))))))) (dg_nm 7 nd) (pss_eq (m_law_right_i_4.eq_1) (dss_cons (ds_set 9 (dc_val (de_frz (dc_bin op_addD fAdd_ok (dx_e (de_frz (dc_bin op_addD fAdd_ok (dx_e (de_frz (dc_slice (dx_e (de_var 1)) do_none (do_some (de_var 2))))) (dx_e (de_tup (ddc (de_var 7) ddn)))))) (dx_e (de_frz (dc_slice (dx_e (de_var 1)) (do_some (de_frz (dc_bin op_addD fAdd_ok (dx_e (de_var 2)) (dx_e de_int)))) do_none)))))) nd) (pss_eq (m_law_right_i_3.eq_1) (dss_one (ds_if (dt_not (dt_tru (dx_e (de_frz (dc_callD D_law_same hr (by decide) tk (dkc (dk_e (de_frz (dc_callD D_law_said hr (by decide) tk (dkc (dk_e (de_var 5)) (dkc (dk_e (de_var 9)) (dkc (dk_e (de_frz (dc_callD D_law_of_iv hr (by decide) tk (dkc (dk_s 0) (dkc (dk_e (de_tup (ddc de_int (ddc de_non ddn)))) dkn))))) dkn)))))) (dkc (dk_e (de_tup (ddc de_str (ddc (de_var 2) ddn)))) dkn))))))) (dss_one (ds_ret (dc_val de_bl))) dss_nil)))))) (pss_eq (m_law_right_i_6.eq_1) (dss_cons (ds_if (dt_not (dt_tru (dx_e (de_frz (dc_callD D_law_same hr (by decide) tk (dkc (dk_e (de_frz (dc_callD D_law_said hr (by decide) tk (dkc (dk_e (de_var 5)) (dkc (dk_e (de_frz (dc_slice (dx_e (de_frz (dc_bin op_addD fAdd_ok (dx_e (de_frz (dc_bin op_addD fAdd_ok (dx_e (de_frz (dc_bin op_addD fAdd_ok (dx_e (de_frz (dc_slice (dx_e (de_var 1)) do_none (do_some (de_var 2))))) (dx_e (de_tup (ddc de_non ddn)))))) (dx_e (de_frz (dc_slice (dx_e (de_var 1)) (do_some (de_frz (dc_bin op_addD fAdd_ok (dx_e (de_var 2)) (dx_e de_int)))) do_none)))))) (dx_e (de_tup (ddc (de_tup ddn) ddn)))))) do_none (do_some de_int)))) (dkc (dk_e de_non) dkn)))))) (dkc (dk_e (de_tup (ddc de_str (ddc (de_var 2) ddn)))) dkn))))))) (dss_one (ds_ret (dc_val de_bl))) dss_nil) (dss_one (ds_for (passes_of rfl) rfl (di_sq (de_eq (x_law_right_i_4.eq_1) (de_tup (ddc de_non (ddc de_str (ddc de_bl (ddc (de_tup (ddc de_int ddn)) (ddc (de_frz (dc_lst ddn)) (ddc (de_tup (ddc de_int (ddc de_int ddn))) ddn))))))))) (dg_nm 7 nd) (pss_eq (m_law_right_i_5.eq_1) (dss_one (ds_if (dt_w (dw_and (dt_cmp op_gt fGt_ok (dx_e (de_var 5)) (dx_e de_int)) (dw_and1 (dt_not (dt_tru (dx_e (de_frz (dc_callD D_law_same hr (by decide) tk (dkc (dk_e (de_frz (dc_callD D_law_said hr (by decide) tk (dkc (dk_e (de_var 5)) (dkc (dk_e (de_var 1)) (dkc (dk_e (de_var 7)) dkn)))))) (dkc (dk_e (de_tup (ddc de_str (ddc (de_var 7) ddn)))) dkn)))))))))) (dss_one (ds_ret (dc_val de_bl))) dss_nil)))))))))))))))) (dss_one (ds_ret (dc_val de_bl))))))))))))
theorem ok_law (Z : ZZ K mg base) : ∃ fd, DefOk P w K mg base 15 "law" (top 58) fd ["script"] 1 [] w_law := by
  obtain ⟨_, D_law_well⟩ := ok_law_well (P := P) (w := w) Z
  obtain ⟨_, D_law_right_i⟩ := ok_law_right_i (P := P) (w := w) Z
  obtain ⟨fd, F⟩ := Z.def_ 45 (d := d_law)
  rw [w_law]
  refine ⟨fd, F, def_ok (k := 14) 1 [] F sc_law rfl fun cdv A outer s H F0 E ad hr tk => ?_, Z.glo 74, FunD.bindsN F fun _ _ _ _ _ _ us hl => match us, hl with | [_], _ => rfl⟩
  have nd := sc_law.nd
  exact (dss_one (ds_ret (dc_callB (cr_all rfl) fAll_ok (f_all Z) (da_cons (dx_e (de_frz (dc_lc [("lap", 1)] rfl nd (di_rg1 (f_range Z) (de_frz (dc_callB (cr_maxD rfl) fMax_ok (f_max Z) (da_cons (dx_e de_int) (da_cons (dx_e (de_frz (dc_callB (cr_minD rfl) fMin_ok (f_min Z) (da_cons (dx_e (de_frz (dc_callB call_len fLen_ok (f_len Z) (da_cons (dx_e (de_var 0)) da_nil)))) (da_cons (dx_e de_int) da_nil))))) da_nil))))) (fun _ _ _ _ _ => (dp_nm 1 nd)) (fun _ _ _ _ _ => dts_nil) (fun _ _ _ _ _ => (de_frz (dc_callD D_law_right_i hr (by decide) takes0 (dkc (dk_t (dc_callD D_law_well hr (by decide) takes0 (dkc (dk_e (de_var 0)) (dkc (dk_e (de_var 1)) dkn)))) dkn))))))) da_nil))))
end
end Lk71
namespace Lk71
open PySem PySem.Spec PyProof.Rows L2 DL
abbrev R : PySem.W.OpenRow := PySem.W.OpenLaw.row PySem.Challenge.rw_packtags_k71_bells_refused
abbrev hk : PySem.W.Hook := hookF 4 fa fn (exAll exs)
def ob (s : PySem.W.SharedT) : He.AlD := obsF 4 fa fn (exAll exs) (HandSHeadRun.getT s)
theorem ob_eq (s : PySem.W.SharedT) : ob s = hk.obs s.abs := obsF_eq (HandSHeadRun.getT_eq s)
def loose : List PySem.Str := (["gcd", "_wall", "is_whole", "is_between", "is_tuple_of", "divisor_of", "multiple_of", "row_sum", "row_times", "row_less", "are_noughts", "noughts", "unit", "pair_less", "turned_pair", "pairs_of", "nearest_to_nought", "lessened", "is_alone", "parted_at", "head_place", "smoothed", "Steads", "MOST_BELLS", "MOST_TIME", "FIRST", "EVERY", "is_bell", "wrong_in_bells", "never_together", "apart_by", "joint", "together_by", "ringing_by", "next_time_by", "PackError", "InvalidNumber", "InvalidBells", "check_bells", "check_time", "together", "apart", "ringing", "next_time", "_law_well", "_law_take", "_law_of", "_law_same", "_law_bells", "_law_done", "_law_said", "_law_right"] : List String).map PySem.Str.ofString
noncomputable abbrev whole (w : World) := HandSHeadRun.wholeF (fun p => HandSHeadRun.stepQ (HandSHeadRun.denQ HandSHeadRun.tabQ) p w) HandSHeadRun.fenceQ 5000 R.prog
theorem run1 (w : World) : (whole w).map (fun x => HandSHeadRun.looksF R.prog x.1.heap x.2.abs) = some true := by
  kernel_rfl
theorem run2 (w : World) : (whole w).map (fun x => HandSHeadRun.seenQ (PySem.W.view R.prog [58]) loose (PySem.importedModules R.prog.main.body) (fun s => PySem.W.xlAt (PySem.W.view R.prog [58]) [] s && PySem.W.recOk R.toRowW.records s) x.2.abs) = some (PySem.W.openGood (PySem.W.view R.prog [58]) loose) := by
  kernel_rfl
theorem run3 (w : World) : (whole w).map (fun x => ob x.2) = some (hk.val w) := by
  kernel_rfl
theorem opt3 {α β γ δ : Type} {o : Option α} {f : α → β} {g : α → γ} {h : α → δ} {b : β} {c : γ} {d : δ} (h1 : o.map f = some b) (h2 : o.map g = some c) (h3 : o.map h = some d) : o.map (fun x => (f x, g x, h x)) = some (b, c, d) := by
  cases o with
  | none => cases h1
  | some x =>
    injection h1 with h1
    injection h2 with h2
    injection h3 with h3
    show some (f x, g x, h x) = _
    rw [h1, h2, h3]
theorem run (w : World) : HandSHeadRun.RunEqI R (PySem.W.view R.prog [58]) hk ob 5000 loose w := by
  delta HandSHeadRun.RunEqI
  exact opt3 (run1 w) (run2 w) (run3 w)
end Lk71
/-! The plain side: how mirrors are read. -/
namespace DL
open PySem PySem.Spec PyProof.Rows L2
/-- a def that changes nothing and tells r -/
def Ret (w : DSp) (cs : List Cell) (r : D) : Prop := ∀ Qd Ed, (∀ o, Qd (.val r) o) → w cs Qd Ed
/-- .. tells a new list -/
def RetO (w : DSp) (cs : List Cell) (r : List D) : Prop := ∀ Qd Ed, (∀ o, Qd (.own r) o) → w cs Qd Ed
/-- one turn of a comprehension -/
def stp (p : Pt) (tt : DT) (te : DE) (vs : List Nat) (d : D) (ρ : En) (Kt : D → En → Prop) (Kf : En → Prop) : Prop :=
  ptGo p d ρ fun ρ1 => tt ρ1 (fun b ρ2 => if b = true then te ρ2 (fun x ρ3 => Kt x (wipeE ρ3 vs)) noX else Kf (wipeE ρ2 vs)) noX
theorem lcGo_cons {p : Pt} {tt : DT} {te : DE} {vs : List Nat} {d : D} {ds acc : List D} {ρ : En} {Q : List D → En → Prop}
    (h : stp p tt te vs d ρ (fun x ρ' => acc.length < sizeLine ∧ lcGo p tt te vs ds (acc ++ [x]) ρ' Q) fun ρ' => lcGo p tt te vs ds acc ρ' Q) : lcGo p tt te vs (d :: ds) acc ρ Q := h
/-- each item by itself, the names as they were -/
theorem lcGo_enc {α : Type} {p : Pt} {tt : DT} {te : DE} {vs : List Nat} (e g : α → D) {ρ : En} {Q : List D → En → Prop} : ∀ (zs : List α) (acc : List D), (∀ z ∈ zs, ∀ Kt Kf, Kt (g z) ρ → stp p tt te vs (e z) ρ Kt Kf) → acc.length + zs.length ≤ sizeLine →
    Q (acc ++ zs.map g) ρ → lcGo p tt te vs (zs.map e) acc ρ Q
  | [], acc, _, _, q => by
    rw [List.map_nil, List.append_nil] at q
    exact q
  | z :: zs, acc, h, hl, q => by
    refine lcGo_cons (h z List.mem_cons_self _ _ ⟨?_, ?_⟩)
    · rw [List.length_cons] at hl; omega
    · refine lcGo_enc e g zs _ (fun y hy => h y (List.mem_cons_of_mem _ hy)) ?_ ?_
      · rw [List.length_append, List.length_cons, List.length_nil]; rw [List.length_cons] at hl; omega
      · rw [List.append_assoc]; exact q
/-- .. with a test: some items are left out -/
theorem lcGo_fil {α : Type} {p : Pt} {tt : DT} {te : DE} {vs : List Nat} (e : α → D) (g : α → Option D) {ρ : En} {Q : List D → En → Prop} : ∀ (zs : List α) (acc : List D), (∀ z ∈ zs, ∀ Kt Kf, (∀ x, g z = some x → Kt x ρ) → (g z = none → Kf ρ) → stp p tt te vs (e z) ρ Kt Kf) → acc.length + zs.length ≤ sizeLine →
    Q (acc ++ zs.filterMap g) ρ → lcGo p tt te vs (zs.map e) acc ρ Q
  | [], acc, _, _, q => by
    rw [List.filterMap_nil, List.append_nil] at q
    exact q
  | z :: zs, acc, h, hl, q => by
    rw [List.length_cons] at hl
    refine lcGo_cons (h z List.mem_cons_self _ _ (fun x hx => ⟨by omega, ?_⟩) (fun hx => ?_))
    · refine lcGo_fil e g zs _ (fun y hy => h y (List.mem_cons_of_mem _ hy)) ?_ ?_
      · rw [List.length_append, List.length_cons, List.length_nil]; omega
      · rw [List.filterMap_cons, hx] at q
        rw [List.append_assoc]; exact q
    · refine lcGo_fil e g zs _ (fun y hy => h y (List.mem_cons_of_mem _ hy)) (by omega) ?_
      rw [List.filterMap_cons, hx] at q
      exact q
/-- .. with a state: I what is true behind some items -/
theorem lcGo_inv {p : Pt} {tt : DT} {te : DE} {vs : List Nat} {Q : List D → En → Prop} (I : List D → En → Prop) : ∀ (items acc : List D) (ρ : En), acc.length + items.length ≤ sizeLine →
    (∀ d ∈ items, ∀ acc' ρ', acc'.length < acc.length + items.length → I acc' ρ' → ∀ Kt Kf, (∀ x ρ'', I (acc' ++ [x]) ρ'' → Kt x ρ'') → stp p tt te vs d ρ' Kt Kf) → I acc ρ → (∀ acc' ρ', acc'.length = acc.length + items.length → I acc' ρ' → Q acc' ρ') → lcGo p tt te vs items acc ρ Q
  | [], acc, ρ, _, _, i, q => q acc ρ rfl i
  | d :: ds, acc, ρ, hl, h, i, q => by
    rw [List.length_cons] at hl
    refine lcGo_cons (h d List.mem_cons_self acc ρ (by rw [List.length_cons]; omega) i _ _ fun x ρ' i' => ⟨by omega, ?_⟩)
    refine lcGo_inv I ds _ ρ' ?_ (fun y hy acc' ρ'' hl' => h y (List.mem_cons_of_mem _ hy) acc' ρ'' ?_) i' fun acc' ρ'' hl' i'' => q acc' ρ'' ?_ i''
    · rw [List.length_append, List.length_cons, List.length_nil]; omega
    · rw [List.length_append, List.length_cons, List.length_nil] at hl'; rw [List.length_cons]; omega
    · rw [hl', List.length_append, List.length_cons, List.length_cons, List.length_nil]; omega
theorem lcGo_ix {p : Pt} {tt : DT} {te : DE} {vs : List Nat} {Q : List D → En → Prop} (I : List D → En → Prop) : ∀ (items acc : List D) (ρ : En), acc.length + items.length ≤ sizeLine →
    (∀ (i : Nat) d, items[i]? = some d → ∀ acc' ρ', acc'.length = acc.length + i → I acc' ρ' → ∀ Kt Kf, (∀ x ρ'', I (acc' ++ [x]) ρ'' → Kt x ρ'') → stp p tt te vs d ρ' Kt Kf) → I acc ρ → (∀ acc' ρ', acc'.length = acc.length + items.length → I acc' ρ' → Q acc' ρ') → lcGo p tt te vs items acc ρ Q
  | [], acc, ρ, _, _, i, q => q acc ρ rfl i
  | d :: ds, acc, ρ, hl, h, i, q => by
    rw [List.length_cons] at hl
    refine lcGo_cons (h 0 d rfl acc ρ rfl i _ _ fun x ρ' i' => ⟨by omega, ?_⟩)
    refine lcGo_ix I ds _ ρ' ?_ (fun j y hy acc' ρ'' hl' => h (j + 1) y (by simpa using hy) acc' ρ'' ?_) i' fun acc' ρ'' hl' i'' => q acc' ρ'' ?_ i''
    · rw [List.length_append, List.length_cons, List.length_nil]; omega
    · rw [List.length_append, List.length_cons, List.length_nil] at hl'; omega
    · rw [hl', List.length_append, List.length_cons, List.length_cons, List.length_nil]; omega
/-- for: I what is true ahead of the items that are left -/
theorem forGo_ind {tg : Tg} {tb : DS} {D : DEnds} (I : List DL.D → En → Prop) (done : ∀ ρ, I [] ρ → D.nx ρ) (step : ∀ d ds ρ, I (d :: ds) ρ → ∀ N : En → Prop, (∀ ρ', I ds ρ' → N ρ') → tgGo tg (.val d) ρ (fun ρ1 => tb { D with nx := N, ct := N, bk := D.nx } ρ1) D.ex) :
    ∀ items ρ, I items ρ → forGo tg tb items D ρ
  | [], ρ, i => done ρ i
  | d :: ds, ρ, i => step d ds ρ i _ fun ρ' i' => forGo_ind I done step ds ρ' i'
/-! ### data of whole numbers -/
abbrev ti (xs : List Int) : D := .tup (xs.map D.int)
abbrev tt (xss : List (List Int)) : D := .tup (xss.map ti)
theorem zipD2_map {α β : Type} (f : α → D) (g : β → D) : ∀ (xs : List α) (ys : List β), zipD2 (xs.map f) (ys.map g) = (xs.zip ys).map fun p => D.tup [f p.1, g p.2]
  | [], _ => by simp [zipD2]
  | _ :: _, [] => by simp [zipD2]
  | x :: xs, y :: ys => by
    have := zipD2_map f g xs ys
    simp only [zipD2] at this
    simp [zipD2, this]
theorem zipD3_map {α β γ : Type} (f : α → D) (g : β → D) (h : γ → D) : ∀ (xs : List α) (ys : List β) (zs : List γ), zipD3 (xs.map f) (ys.map g) (zs.map h) = (xs.zip (ys.zip zs)).map fun p => D.tup [f p.1, g p.2.1, h p.2.2]
  | [], _, _ => by simp [zipD3]
  | _ :: _, [], _ => by simp [zipD3]
  | _ :: _, _ :: _, [] => by simp [zipD3]
  | x :: xs, y :: ys, z :: zs => by
    have := zipD3_map f g h xs ys zs
    simp [zipD3, this]
theorem enumD_map {α : Type} (f : α → D) (xs : List α) : enumD (xs.map f) = xs.zipIdx.map fun p => D.tup [.int (p.2 : Nat), f p.1] := by
  unfold enumD
  rw [List.zipIdx_map, List.map_map]
  rfl
theorem all_true {ds : List D} (h : ∀ d ∈ ds, d = .bl true) : gAll (.lst ds) = some (.val (.bl true)) := by
  have e : ds = (ds.map fun _ => true).map D.bl := by
    rw [List.map_map]
    conv => lhs; rw [← List.map_id ds]
    exact List.map_congr_left fun d hd => h d hd
  have : gAll (.lst ds) = (bls ds).map fun ns => Cell.val (.bl (ns.all id)) := rfl
  rw [this, e, bls_map]
  simp
theorem all_map_true {α : Type} (zs : List α) : gAll (.lst ([] ++ zs.map fun _ => D.bl true)) = some (.val (.bl true)) := all_true fun d hd => by
  rw [List.nil_append] at hd
  obtain ⟨z, _, e⟩ := List.mem_map.mp hd
  exact e.symm
theorem gAll_bls (bs : List Bool) : gAll (.lst (bs.map D.bl)) = some (.val (.bl (bs.all id))) := by
  have : gAll (.lst (bs.map D.bl)) = (bls (bs.map D.bl)).map fun ns => Cell.val (.bl (ns.all id)) := rfl
  rw [this, bls_map]
  rfl
theorem gSum_ints (ns : List Int) : gSum (.lst (ns.map D.int)) = some (.val (.int ns.sum)) := by
  have : gSum (.lst (ns.map D.int)) = (numsD (ns.map D.int)).map fun ms => Cell.val (.int ms.sum) := rfl
  rw [this, ints_map]
  rfl
theorem mulB_ok {i j : Int} {a b : Nat} (hi : i.natAbs < 2 ^ a) (hj : j.natAbs < 2 ^ b) (h : a + b ≤ 134217728) : CMulB i j = true := by
  unfold CMulB
  have h1 := PyProof.Rows.intBits_le hi
  have h2 := PyProof.Rows.intBits_le hj
  exact decide_eq_true (by omega)
theorem fMul_int {i j : Int} (h : CMulB i j = true) : fMul (.int i) (.int j) = some (.val (.int (i * j))) := by
  show (if CMulB i j = true then _ else _) = _
  rw [if_pos h]
theorem ixN_nat {n k : Nat} (h : k < n) : ixN n (k : Int) = some k := by
  unfold ixN
  rw [if_pos (by omega), if_pos (by omega), Int.toNat_natCast]
theorem atI_nat {α : Type} {xs : List α} {k : Nat} (h : k < xs.length) : atI xs (k : Int) = some xs[k] := by
  unfold atI
  rw [ixN_nat h]
  exact List.getElem?_eq_getElem h
/-! ### the pool of draws: [what is told, a stir, a count] -/
structure Pool (k : Nat) (ds : List D) : Prop where
  ex : ∃ a s n : Int, ds = [.int a, .int s, .int n] ∧ 0 ≤ a ∧ (0 ≤ s ∧ s < 2147483648) ∧ (0 ≤ n ∧ n ≤ k)
theorem Pool.mono {j k : Nat} {ds : List D} (p : Pool j ds) (h : j ≤ k) : Pool k ds := by
  obtain ⟨a, s, n, e, h1, h2, h3, h4⟩ := p.ex
  exact ⟨a, s, n, e, h1, h2, h3, by omega⟩
theorem abs_lt {i : Int} {k : Nat} (h0 : 0 ≤ i) (h : i < 2 ^ k) : i.natAbs < 2 ^ k := by
  have : (i.natAbs : Int) = i := by omega
  have h2 : (i.natAbs : Int) < ((2 ^ k : Nat) : Int) := by
    rw [this]
    simpa using h
  exact_mod_cast h2
theorem noPy {i j : Int} {k : Nat} (h : j.natAbs < 2 ^ k) (hk : k ≤ 9000) : Builtin.divisionGoesByPylong i j = false := by
  unfold Builtin.divisionGoesByPylong
  simp only
  have key : (if (j == 0) = true then 0 else j.natAbs.log2 / 30 + 1) ≤ 300 := by
    split
    · omega
    · rename_i hj
      have h0 : j.natAbs ≠ 0 := by
        have : j ≠ 0 := by simpa using hj
        omega
      have := (Nat.log2_lt h0).mpr h
      omega
  rw [show decide ((if (j == 0) = true then 0 else j.natAbs.log2 / 30 + 1) > 300) = false from decide_eq_false (by omega)]
  rfl
theorem divB_ok {i j : Int} {k : Nat} (h0 : j ≠ 0) (h : j.natAbs < 2 ^ k) (hk : k ≤ 9000) : CDivB i j = true := by
  unfold CDivB
  rw [noPy h hk, decide_eq_true h0]
  rfl
theorem fDiv_int {i j : Int} (h : CDivB i j = true) : fDiv (.int i) (.int j) = some (.val (.int (i.fdiv j))) := by
  show (if CDivB i j = true then _ else _) = _
  rw [if_pos h]
theorem fMod_int {i j : Int} (h : 0 < j) : fMod (.int i) (.int j) = some (.val (.int (i % j))) := by
  show (if decide (j ≠ 0) = true then some (Cell.val (.int (i.fmod j))) else none) = _
  rw [if_pos (decide_eq_true (by omega)), Int.fmod_eq_emod_of_nonneg i (by omega)]
theorem eqD_int (i j : Int) : eqD (.int i) (.int j) = decide (i = j) := by
  show PyData.eqv (.int i) (.int j) = _
  simp only [PyData.eqv]
  rw [Bool.eq_iff_iff]
  simp
theorem fEq_int (i j : Int) : fEq (.int i) (.int j) = some (.val (.bl (decide (i = j)))) := by
  rw [← eqD_int]
  exact if_pos ⟨rfl, rfl⟩
theorem fNe_int (i j : Int) : fNe (.int i) (.int j) = some (.val (.bl (!decide (i = j)))) := by
  rw [← eqD_int]
  exact if_pos ⟨rfl, rfl⟩
theorem fDivmod_int {i j : Int} (h : 0 < j) (h2 : Builtin.divisionGoesByPylong i j = false) : fDivmod [.int i, .int j] = some (.val (.tup [.int (i / j), .int (i % j)])) := if_pos ⟨h, h2⟩
theorem fAdd_tup {xs ys : List D} (h : xs.length + ys.length ≤ sizeLine) : fAdd (.tup xs) (.tup ys) = some (.val (.tup (xs ++ ys))) := if_pos h
theorem fAdd_lst {xs ys : List D} (h : xs.length + ys.length ≤ sizeLine) : fAdd (.lst xs) (.lst ys) = some (.own (xs ++ ys)) := if_pos h
theorem fIx_tup {xs : List D} {k : Nat} {d : D} (h : xs[k]? = some d) : fIx (.tup xs) (.int (k : Nat)) = some (.val d) := by
  have hk := (List.getElem?_eq_some_iff.mp h).1
  show (atI xs (k : Int)).map Cell.val = _
  rw [atI_nat hk]
  rw [List.getElem?_eq_getElem hk] at h
  cases h
  rfl
theorem fIx_lst {xs : List D} {k : Nat} {d : D} (h : xs[k]? = some d) : fIx (.lst xs) (.int (k : Nat)) = some (.val d) := fIx_tup h
theorem fIx_fix {xs : List D} {k : Nat} {d : D} (h : xs[k]? = some d) : fIx (.fix xs) (.int (k : Nat)) = some (.val d) := fIx_tup h
/-! comparisons whose answer is known -/
theorem fLe_t {a b : Int} (h : a ≤ b) : fLe (.int a) (.int b) = some (.val (.bl true)) := by
  show some (Cell.val (.bl (decide (a ≤ b)))) = _
  rw [decide_eq_true h]
theorem fLe_f {a b : Int} (h : ¬ a ≤ b) : fLe (.int a) (.int b) = some (.val (.bl false)) := by
  show some (Cell.val (.bl (decide (a ≤ b)))) = _
  rw [decide_eq_false h]
theorem fLt_t {a b : Int} (h : a < b) : fLt (.int a) (.int b) = some (.val (.bl true)) := by
  show some (Cell.val (.bl (decide (a < b)))) = _
  rw [decide_eq_true h]
theorem fLt_f {a b : Int} (h : ¬ a < b) : fLt (.int a) (.int b) = some (.val (.bl false)) := by
  show some (Cell.val (.bl (decide (a < b)))) = _
  rw [decide_eq_false h]
theorem fGe_t {a b : Int} (h : b ≤ a) : fGe (.int a) (.int b) = some (.val (.bl true)) := by
  show some (Cell.val (.bl (decide (b ≤ a)))) = _
  rw [decide_eq_true h]
theorem fGe_f {a b : Int} (h : ¬ b ≤ a) : fGe (.int a) (.int b) = some (.val (.bl false)) := by
  show some (Cell.val (.bl (decide (b ≤ a)))) = _
  rw [decide_eq_false h]
theorem fGt_t {a b : Int} (h : b < a) : fGt (.int a) (.int b) = some (.val (.bl true)) := by
  show some (Cell.val (.bl (decide (b < a)))) = _
  rw [decide_eq_true h]
theorem fGt_f {a b : Int} (h : ¬ b < a) : fGt (.int a) (.int b) = some (.val (.bl false)) := by
  show some (Cell.val (.bl (decide (b < a)))) = _
  rw [decide_eq_false h]
theorem fEq_t {a b : Int} (h : a = b) : fEq (.int a) (.int b) = some (.val (.bl true)) := by
  rw [fEq_int, decide_eq_true h]
theorem fEq_f {a b : Int} (h : a ≠ b) : fEq (.int a) (.int b) = some (.val (.bl false)) := by
  rw [fEq_int, decide_eq_false h]
theorem zipWith_zip {α β γ : Type} (f : α → β → γ) : ∀ (a : List α) (b : List β), List.zipWith f a b = (a.zip b).map fun p => f p.1 p.2
  | [], _ => by simp
  | _ :: _, [] => by simp
  | x :: a, y :: b => by simp [zipWith_zip f a b]
/-- for, over coded items: I by the place -/
theorem forGo_ix {α : Type} {tg : Tg} {tb : DS} {D : DEnds} (e : α → DL.D) (I : Nat → En → Prop) (zs : List α) : ∀ (i : Nat) ρ, i ≤ zs.length → (∀ ρ, I zs.length ρ → D.nx ρ) → (∀ (i : Nat) z ρ, zs[i]? = some z → I i ρ → ∀ N : En → Prop, (∀ ρ', I (i + 1) ρ' → N ρ') → tgGo tg (.val (e z)) ρ (fun ρ1 => tb { D with nx := N, ct := N, bk := D.nx } ρ1) D.ex) →
    I i ρ → forGo tg tb ((zs.drop i).map e) D ρ := by
  intro i ρ hi done step h
  refine forGo_ind (fun ds ρ => ∃ j, j ≤ zs.length ∧ ds = (zs.drop j).map e ∧ I j ρ) ?_ ?_ _ _ ⟨i, hi, rfl, h⟩
  · rintro ρ ⟨j, hj, ed, h⟩
    have : zs.length ≤ j := by
      have := congrArg List.length ed
      rw [List.length_map, List.length_drop, List.length_nil] at this
      omega
    have ej : j = zs.length := by omega
    subst ej
    exact done ρ h
  · rintro d ds ρ ⟨j, hj, ed, h⟩ N hN
    have hlt : j < zs.length := by
      have := congrArg List.length ed
      rw [List.length_map, List.length_drop, List.length_cons] at this
      omega
    rw [List.drop_eq_getElem_cons hlt, List.map_cons] at ed
    injection ed with e1 e2
    subst e1
    exact step j zs[j] ρ (List.getElem?_eq_getElem hlt) h N fun ρ' h' => hN ρ' ⟨j + 1, hlt, e2, h'⟩
theorem fIx_tup0 {xs : List D} {k : Nat} {d : D} (h : xs[k]? = some d) : fIx (.tup xs) (.int (0 + (k : Nat))) = some (.val d) := by
  rw [Int.zero_add]
  exact fIx_tup h
theorem fIx_lst0 {xs : List D} {k : Nat} {d : D} (h : xs[k]? = some d) : fIx (.lst xs) (.int (0 + (k : Nat))) = some (.val d) := fIx_tup0 h
/-- data of numbers, tuples, lists, not deeper than that -/
def Sm : Nat → D → Prop
  | 0, _ => False
  | _ + 1, .int _ => True
  | n + 1, .tup ds => ds.length < 1000000 ∧ ∀ d ∈ ds, Sm n d
  | n + 1, .lst ds => ds.length < 1000000 ∧ ∀ d ∈ ds, Sm n d
  | _ + 1, _ => False
theorem Sm.ti (n : Nat) {xs : List Int} (h : xs.length < 1000000) : Sm (n + 2) (ti xs) := by
  refine ⟨by rw [List.length_map]; exact h, fun d hd => ?_⟩
  obtain ⟨x, _, rfl⟩ := List.mem_map.mp hd
  trivial
theorem Sm.tt (n : Nat) {xs : List (List Int)} (h : xs.length < 1000000) (h2 : ∀ x ∈ xs, x.length < 1000000) : Sm (n + 3) (tt xs) := by
  refine ⟨by rw [List.length_map]; exact h, fun d hd => ?_⟩
  obtain ⟨x, hx, rfl⟩ := List.mem_map.mp hd
  exact Sm.ti n (h2 x hx)
theorem big_line {n : Nat} (h : n < 1000000) : n ≤ sizeLine := by
  rw [sizeLine_eq]
  omega
/-! rows of whole numbers by == -/
theorem toPyL_ints : ∀ xs : List Int, toPyL (xs.map D.int) = xs.map PyData.int
  | [] => rfl
  | x :: xs => by
    rw [List.map_cons, List.map_cons, ← toPyL_ints xs]
    rfl
theorem lay_ints : ∀ xs : List Int, PyData.canLayAll0 (xs.map PyData.int) = true
  | [] => rfl
  | x :: xs => by
    show (PyData.canLay0 (.int x) && PyData.canLayAll0 (xs.map PyData.int)) = true
    rw [lay_ints xs]
    rfl
theorem eqvAll_ints : ∀ xs ys : List Int, PyData.eqvAll (xs.map PyData.int) (ys.map PyData.int) = decide (xs = ys)
  | [], [] => rfl
  | [], _ :: _ => rfl
  | _ :: _, [] => rfl
  | x :: xs, y :: ys => by
    show (PyData.eqv (.int x) (.int y) && PyData.eqvAll (xs.map PyData.int) (ys.map PyData.int)) = _
    rw [eqvAll_ints xs ys, show PyData.eqv (.int x) (.int y) = decide (x = y) from eqD_int x y]
    rw [Bool.eq_iff_iff]
    simp
theorem depth_ints : ∀ xs : List Int, PyData.depthAll (xs.map PyData.int) = 0
  | [] => rfl
  | x :: xs => by
    show max (PyData.depth (.int x)) (PyData.depthAll (xs.map PyData.int)) = 0
    rw [depth_ints xs]
    rfl
theorem eqOk_ti (xs : List Int) : eqOk (ti xs) = true := by
  show (PyData.canLayAll0 (toPyL (xs.map D.int)) && decide (PyData.depthAll (toPyL (xs.map D.int)) + 1 ≤ 64)) = true
  rw [toPyL_ints, lay_ints, depth_ints]
  rfl
theorem eqD_ti (xs ys : List Int) : eqD (ti xs) (ti ys) = decide (xs = ys) := by
  show PyData.eqvAll (toPyL (xs.map D.int)) (toPyL (ys.map D.int)) = _
  rw [toPyL_ints, toPyL_ints, eqvAll_ints]
theorem fNe_ti (xs ys : List Int) : fNe (ti xs) (ti ys) = some (.val (.bl (!decide (xs = ys)))) := by
  rw [← eqD_ti]
  exact if_pos ⟨eqOk_ti xs, eqOk_ti ys⟩
theorem fEq_ti (xs ys : List Int) : fEq (ti xs) (ti ys) = some (.val (.bl (decide (xs = ys)))) := by
  rw [← eqD_ti]
  exact if_pos ⟨eqOk_ti xs, eqOk_ti ys⟩
end DL
namespace Lk71
open PySem PySem.Spec PyProof.Rows L2 DL
theorem s_take {k : Nat} {many : Int} {ds : List D} (hp : Pool k ds) (hk : k < 2 ^ 60) (hm : 1 ≤ many) (hm2 : many.natAbs < 2 ^ 9000) {Qd : Cell → Outs → Prop} {Ed : Str → List (Str × D) → Outs → Prop}
    (h : ∀ r (o : Outs), 0 ≤ r → r < many → Pool (k + 1) (o 0) → Qd (.val (.int r)) o) : w_law_take_iv [.own ds, .val (.int many)] Qd Ed := by
  obtain ⟨a, s, n, rfl, ha, ⟨hs0, hs1⟩, hn0, hn1⟩ := hp.ex
  unfold w_law_take_iv
  conv => whnf
  repeat (refine ⟨_, rfl, ?_⟩; conv => whnf)
  by_cases h0 : 0 < a
  · rw [decide_eq_true h0]
    conv => whnf
    repeat (refine ⟨_, rfl, ?_⟩; conv => whnf)
    refine ⟨_, fDivmod_int (by omega) (noPy hm2 (by omega)), ?_⟩
    conv => whnf
    refine ⟨rfl, ?_⟩
    conv => whnf
    repeat (refine ⟨_, rfl, ?_⟩; conv => whnf)
    exact h _ _ (Int.emod_nonneg _ (by omega)) (Int.emod_lt_of_pos _ (by omega)) ⟨_, _, _, rfl, Int.ediv_nonneg ha (by omega), ⟨hs0, hs1⟩, hn0, by omega⟩
  · rw [decide_eq_false h0]
    conv => whnf
    repeat (refine ⟨_, rfl, ?_⟩; conv => whnf)
    have e1 : fMul (.int s) (.int 39373) = some (.val (.int (s * 39373))) := fMul_int (mulB_ok (a := 31) (b := 16) (abs_lt hs0 (by omega)) (by decide) (by decide))
    refine ⟨_, e1, ?_⟩
    conv => whnf
    repeat (refine ⟨_, rfl, ?_⟩; conv => whnf)
    have e2 : fMul (.int (n + 1)) (.int 30323) = some (.val (.int ((n + 1) * 30323))) := fMul_int (mulB_ok (a := 62) (b := 16) (abs_lt (by omega) (by omega)) (by decide) (by decide))
    refine ⟨_, e2, ?_⟩
    conv => whnf
    repeat (refine ⟨_, rfl, ?_⟩; conv => whnf)
    generalize s * 39373 + (n + 1) * 30323 + 11 = z
    have ez : z.fmod 2147483543 = z % 2147483543 := Int.fmod_eq_emod_of_nonneg z (by decide)
    have h1 : 0 ≤ z.fmod 2147483543 := by rw [ez]; exact Int.emod_nonneg z (by decide)
    have h2 : z.fmod 2147483543 < 2147483543 := by rw [ez]; exact Int.emod_lt_of_pos z (by decide)
    refine ⟨_, fDiv_int (i := z.fmod 2147483543) (j := 128) (divB_ok (k := 8) (by decide) (by decide) (by decide)), ?_⟩
    conv => whnf
    repeat (refine ⟨_, rfl, ?_⟩; conv => whnf)
    refine ⟨_, fMod_int (i := (z.fmod 2147483543).fdiv 128) (j := many) (by omega), ?_⟩
    exact h _ _ (Int.emod_nonneg _ (by omega)) (Int.emod_lt_of_pos _ (by omega)) ⟨a, z.fmod 2147483543, n + 1, rfl, ha, ⟨h1, by omega⟩, by omega, by omega⟩
/-- things[take(len(things))] -/
theorem s_of {k : Nat} {ds ths : List D} (hp : Pool k ds) (hk : k < 2 ^ 60) (hne : 1 ≤ ths.length) (hl : ths.length < 2 ^ 30) {Qd : Cell → Outs → Prop} {Ed : Str → List (Str × D) → Outs → Prop}
    (h : ∀ d (o : Outs), d ∈ ths → Pool (k + 1) (o 0) → Qd (.val d) o) : w_law_of_iv [.own ds, .val (.tup ths)] Qd Ed := by
  unfold w_law_of_iv m_law_of_iv
  conv => whnf
  repeat (refine ⟨_, rfl, ?_⟩; conv => whnf)
  refine s_take hp hk (by omega) (by
    have : ((ths.length : Nat) : Int).natAbs = ths.length := by omega
    rw [this]
    exact Nat.lt_of_lt_of_le hl (Nat.pow_le_pow_right (by decide) (by decide))) fun r o h0 h1 hp' => ?_
  conv => whnf
  obtain ⟨j, rfl⟩ := Int.eq_ofNat_of_zero_le h0
  have hj : j < ths.length := by omega
  refine ⟨_, fIx_tup (List.getElem?_eq_getElem hj), ?_⟩
  exact h _ _ (List.getElem_mem hj) hp'
theorem s_well1 {c0 c1 c2 : Option Cell} {s i : Int} (hs : 0 ≤ s ∧ s < 2147483648) {Dd : DEnds} (hD : ∀ t : Int, 0 ≤ t ∧ t < 2147483648 → Dd.nx [c0, c1, c2, some (.val (.int t)), some (.val (.int i))]) :
    m_law_well_1 Dd [c0, c1, c2, some (.val (.int s)), some (.val (.int i))] := by
  unfold m_law_well_1
  conv => whnf
  have e1 : fMul (.int s) (.int 44497) = some (.val (.int (s * 44497))) := fMul_int (mulB_ok (a := 31) (b := 16) (abs_lt hs.1 (by omega)) (by decide) (by decide))
  refine ⟨_, e1, ?_⟩
  conv => whnf
  repeat (refine ⟨_, rfl, ?_⟩; conv => whnf)
  refine hD _ ⟨?_, ?_⟩
  · rw [Int.fmod_eq_emod_of_nonneg _ (by decide)]
    exact Int.emod_nonneg _ (by decide)
  · rw [Int.fmod_eq_emod_of_nonneg _ (by decide)]
    have := Int.emod_lt_of_pos (s * 44497 + i.fmod 2147483587 + 29) (b := 2147483563) (by decide)
    omega
theorem s_well4 (ns : List Int) (lap : Nat) (hlap : lap < 64) (hl : ns.length ≤ 63) (own : Int) {Dd : DEnds} (hD : ∀ ds ρ, Pool 0 ds → Dd.rt (.own ds) ρ) :
    m_law_well_4 Dd [some (.val (.fix (ns.map D.int))), some (.val (.int (lap : Nat))), some (.val (.int own)), none, none] := by
  have em : fMul (.int 6971) (.int (lap : Nat)) = some (.val (.int (6971 * (lap : Nat)))) := fMul_int (mulB_ok (a := 16) (b := 62) (by decide) (abs_lt (by omega) (by omega)) (by decide))
  unfold m_law_well_4
  conv => whnf
  refine ⟨_, em, ?_⟩
  conv => whnf
  repeat (refine ⟨_, rfl, ?_⟩; conv => whnf)
  unfold m_law_well_3
  conv => whnf
  repeat (refine ⟨_, rfl, ?_⟩; conv => whnf)
  refine ⟨small64 (by simp), ?_⟩
  conv => whnf
  refine ⟨_, fAdd_lst (xs := DL.cutD (ns.map D.int) none (some 8)) (ys := [.int own]) ?_, ?_⟩
  · have : (DL.cutD (ns.map D.int) none (some 8)).length ≤ ns.length := by
      unfold DL.cutD
      rw [List.length_take, List.length_drop, List.length_map]
      omega
    rw [sizeLine_eq]
    simp only [List.length_cons, List.length_nil]
    omega
  have hin : ∀ d ∈ DL.cutD (ns.map D.int) none (some 8) ++ [D.int own], ∃ i, d = D.int i := fun d hd => by
    rcases List.mem_append.mp hd with hd | hd
    · have := List.mem_of_mem_drop (List.mem_of_mem_take hd)
      obtain ⟨i, _, e⟩ := List.mem_map.mp this
      exact ⟨i, e.symm⟩
    · exact ⟨own, by simpa using hd⟩
  generalize DL.cutD (ns.map D.int) none (some 8) ++ [D.int own] = items at *
  conv => whnf
  refine forGo_ind (fun ds ρ => (∃ s c4, ρ = [some (.val (.fix (ns.map D.int))), some (.val (.int (lap : Nat))), some (.val (.int own)), some (.val (.int s)), c4] ∧ (0 ≤ s ∧ s < 2147483648)) ∧ ∀ d ∈ ds, ∃ i, d = D.int i) ?_ ?_ items _ ⟨⟨_, _, rfl, by omega, by omega⟩, hin⟩
  · rintro ρ ⟨⟨s, c4, rfl, h0, h1⟩, _⟩
    unfold m_law_well_2
    conv => whnf
    repeat (refine ⟨_, rfl, ?_⟩; conv => whnf)
    have fin : ∀ a : Int, 0 ≤ a → ∀ ρ, Dd.rt (.own [.int a, .int s, .int 0]) ρ := fun a ha ρ => hD _ ρ ⟨a, s, 0, rfl, ha, ⟨h0, h1⟩, by omega, by omega⟩
    by_cases n0 : own < 0
    · rw [decide_eq_true n0]
      conv => whnf
      repeat (refine ⟨_, rfl, ?_⟩; conv => whnf)
      refine ⟨small64 (by simp), ?_⟩
      exact fin (if own < 0 then -own else own) (by rw [if_pos n0]; omega) _
    · rw [decide_eq_false n0]
      conv => whnf
      repeat (refine ⟨_, rfl, ?_⟩; conv => whnf)
      by_cases n1 : 10 ^ 18 ≤ own
      · rw [show decide ((10 : Int) ^ Int.toNat 18 ≤ own) = true from decide_eq_true n1]
        conv => whnf
        repeat (refine ⟨_, rfl, ?_⟩; conv => whnf)
        refine ⟨small64 (by simp), ?_⟩
        exact fin (if own < 0 then -own else own) (by rw [if_neg n0]; omega) _
      · rw [show decide ((10 : Int) ^ Int.toNat 18 ≤ own) = false from decide_eq_false n1]
        conv => whnf
        repeat (refine ⟨_, rfl, ?_⟩; conv => whnf)
        refine ⟨small64 (by simp), ?_⟩
        exact fin 0 (by omega) _
  · rintro d ds ρ ⟨⟨s, c4, rfl, h0, h1⟩, hi⟩ N hN
    obtain ⟨i, rfl⟩ := hi d List.mem_cons_self
    conv => whnf
    refine s_well1 ⟨h0, h1⟩ fun t ht => hN _ ⟨⟨t, _, rfl, ht⟩, fun d hd => hi d (List.mem_cons_of_mem _ hd)⟩
theorem s_well (ns : List Int) (lap : Nat) (hlap : lap < 64) (hl : ns.length ≤ 63) {Qd : Cell → Outs → Prop} {Ed : Str → List (Str × D) → Outs → Prop}
    (h : ∀ ds o, Pool 0 ds → Qd (.own ds) o) : w_law_well [.val (.fix (ns.map D.int)), .val (.int (lap : Nat))] Qd Ed := by
  unfold w_law_well m_law_well
  conv => whnf
  repeat (refine ⟨_, rfl, ?_⟩; conv => whnf)
  by_cases h0 : lap < ns.length
  · have e0 : decide (((lap : Nat) : Int) < (((ns.map D.int).length : Nat) : Int)) = true := decide_eq_true (by rw [List.length_map]; omega)
    rw [e0]
    conv => whnf
    refine ⟨_, fIx_fix (d := .int ns[lap]) (by rw [List.getElem?_map, List.getElem?_eq_getElem h0]; rfl), ?_⟩
    conv => whnf
    repeat (refine ⟨_, rfl, ?_⟩; conv => whnf)
    refine s_well4 ns lap hlap hl ns[lap] ?_
    exact fun ds ρ hp => h ds _ hp
  · have e0 : decide (((lap : Nat) : Int) < (((ns.map D.int).length : Nat) : Int)) = false := decide_eq_false (by rw [List.length_map]; omega)
    rw [e0]
    conv => whnf
    refine s_well4 ns lap hlap hl 0 ?_
    exact fun ds ρ hp => h ds _ hp
/-! ### dials, buttons -/
structure Dials (dl : List Int) : Prop where
  lo : 1 ≤ dl.length
  hi : dl.length ≤ 6
  all : ∀ m ∈ dl, 2 ≤ m ∧ m ≤ 99
structure Row (dl r : List Int) : Prop where
  len : r.length = dl.length
  all : ∀ (i : Nat) a m, r[i]? = some a → dl[i]? = some m → 0 ≤ a ∧ a < m
structure Buttons (dl : List Int) (bs : List (List Int)) : Prop where
  lo : 1 ≤ bs.length
  hi : bs.length ≤ 8
  all : ∀ r ∈ bs, Row dl r
theorem many_pow {m : Int} (h0 : 0 ≤ m) (h : m < 2 ^ 60) : m.natAbs < 2 ^ 9000 := Nat.lt_of_lt_of_le (abs_lt h0 h) (Nat.pow_le_pow_right (by decide) (by decide))
end Lk71
namespace DL
open PySem PySem.Spec PyProof.Rows L2
/-- one item of the first source -/
def stp2 (p : Pt) (tt : DT) (it1 : DI) (p1 : Pt) (tt1 : DT) (te : DE) (vs vs1 : List Nat) (d : D) (acc : List D) (ρ : En) (K : List D → En → Prop) : Prop :=
  ptGo p d ρ fun ρ1 => tt ρ1 (fun b ρ2 => if b = true then it1 ρ2 (fun items ρ3 => lcGo p1 tt1 te vs1 items acc (wipeE ρ3 vs1) fun acc2 ρ4 => K acc2 (wipeE ρ4 vs)) noX else K acc (wipeE ρ2 vs)) noX
theorem lcGo2_cons {p : Pt} {tt : DT} {it1 : DI} {p1 : Pt} {tt1 : DT} {te : DE} {vs vs1 : List Nat} {d : D} {ds acc : List D} {ρ : En} {Q : List D → En → Prop}
    (h : stp2 p tt it1 p1 tt1 te vs vs1 d acc ρ fun acc2 ρ2 => lcGo2 p tt it1 p1 tt1 te vs vs1 ds acc2 ρ2 Q) : lcGo2 p tt it1 p1 tt1 te vs vs1 (d :: ds) acc ρ Q := h
theorem lcGo2_enc {α : Type} {p : Pt} {tt : DT} {it1 : DI} {p1 : Pt} {tt1 : DT} {te : DE} {vs vs1 : List Nat} (e : α → D) (g : α → List D) {ρ : En} {Q : List D → En → Prop} : ∀ (zs : List α) (acc : List D), (∀ z ∈ zs, ∀ acc' K, acc'.length + (g z).length ≤ sizeLine → K (acc' ++ g z) ρ → stp2 p tt it1 p1 tt1 te vs vs1 (e z) acc' ρ K) → acc.length + (zs.flatMap g).length ≤ sizeLine →
    Q (acc ++ zs.flatMap g) ρ → lcGo2 p tt it1 p1 tt1 te vs vs1 (zs.map e) acc ρ Q
  | [], acc, _, _, q => by
    rw [List.flatMap_nil, List.append_nil] at q
    exact q
  | z :: zs, acc, h, hl, q => by
    rw [List.flatMap_cons, List.length_append] at hl
    refine lcGo2_cons (h z List.mem_cons_self _ _ (by omega) ?_)
    refine lcGo2_enc e g zs _ (fun y hy => h y (List.mem_cons_of_mem _ hy)) ?_ ?_
    · rw [List.length_append]; omega
    · rw [List.append_assoc]
      rw [List.flatMap_cons] at q
      exact q
end DL
namespace DL
open PySem PySem.Spec PyProof.Rows L2
def stpD (p : Pt) (tt : DT) (tk tv : DE) (vs : List Nat) (d : D) (acc : List (Key × D)) (ρ : En) (K : List (Key × D) → En → Prop) : Prop :=
  ptGo p d ρ fun ρ1 => tt ρ1 (fun b ρ2 => if b = true then tk ρ2 (fun x ρ3 => tv ρ3 (fun y ρ4 => ∃ k, keyD x = some k ∧ acc.length < sizeLine ∧ K (putD acc k y) (wipeE ρ4 vs)) noX) noX else K acc (wipeE ρ2 vs)) noX
theorem dcGo_cons {p : Pt} {tt : DT} {tk tv : DE} {vs : List Nat} {d : D} {ds : List D} {acc : List (Key × D)} {ρ : En} {Q : List (Key × D) → En → Prop}
    (h : stpD p tt tk tv vs d acc ρ fun acc2 ρ2 => dcGo p tt tk tv vs ds acc2 ρ2 Q) : dcGo p tt tk tv vs (d :: ds) acc ρ Q := h
/-- a dict made over coded items: I by the place -/
theorem dcGo_ix {α : Type} {p : Pt} {tt : DT} {tk tv : DE} {vs : List Nat} (e : α → D) (I : Nat → List (Key × D) → Prop) {ρ : En} {Q : List (Key × D) → En → Prop} (zs : List α)
    (step : ∀ (i : Nat) z acc, zs[i]? = some z → I i acc → ∀ K, (∀ acc2, I (i + 1) acc2 → K acc2 ρ) → stpD p tt tk tv vs (e z) acc ρ K) (q : ∀ acc, I zs.length acc → Q acc ρ) :
    ∀ (n i : Nat) acc, zs.length = i + n → I i acc → dcGo p tt tk tv vs ((zs.drop i).map e) acc ρ Q
  | 0, i, acc, hn, h => by
    rw [List.drop_of_length_le (by omega)]
    have : i = zs.length := by omega
    subst this
    exact q acc h
  | n + 1, i, acc, hn, h => by
    have hlt : i < zs.length := by omega
    rw [List.drop_eq_getElem_cons hlt, List.map_cons]
    refine dcGo_cons (step i zs[i] acc (List.getElem?_eq_getElem hlt) h _ fun acc2 h2 => ?_)
    exact dcGo_ix e I zs step q n (i + 1) acc2 (by omega) h2
abbrev lookA (acc : List (Key × D)) (k : Key) : Option D := lookK (acc.map (·.1)) (acc.map (·.2)) k
theorem lookA_any {acc : List (Key × D)} {k : Key} : (acc.any fun p => decide (p.1 = k)) = (lookA acc k).isSome := by
  induction acc with
  | nil => rfl
  | cons p acc ih =>
    rw [List.any_cons, ih]
    show _ = (if p.1 = k then some p.2 else lookA acc k).isSome
    by_cases h : p.1 = k
    · rw [if_pos h, decide_eq_true h]
      rfl
    · rw [if_neg h, decide_eq_false h]
      rfl
theorem lookA_map {k : Key} {d : D} (j : Key) : ∀ acc : List (Key × D), lookA (acc.map fun p => if p.1 = k then (p.1, d) else p) j = (lookA acc j).map fun x => if j = k then d else x
  | [] => rfl
  | p :: acc => by
    have ih := lookA_map (k := k) (d := d) j acc
    by_cases h : p.1 = k
    · show (if (if p.1 = k then (p.1, d) else p).1 = j then some (if p.1 = k then (p.1, d) else p).2 else lookA (acc.map fun p => if p.1 = k then (p.1, d) else p) j) = (if p.1 = j then some p.2 else lookA acc j).map _
      rw [if_pos h, ih]
      by_cases h2 : p.1 = j
      · rw [if_pos h2, if_pos h2]
        show some d = some (if j = k then d else p.2)
        rw [if_pos (h2.symm.trans h)]
      · rw [if_neg h2, if_neg h2]
    · show (if (if p.1 = k then (p.1, d) else p).1 = j then some (if p.1 = k then (p.1, d) else p).2 else lookA (acc.map fun p => if p.1 = k then (p.1, d) else p) j) = (if p.1 = j then some p.2 else lookA acc j).map _
      rw [if_neg h, ih]
      by_cases h2 : p.1 = j
      · rw [if_pos h2, if_pos h2]
        show some p.2 = some (if j = k then d else p.2)
        rw [if_neg (fun e => h (h2.trans e))]
      · rw [if_neg h2, if_neg h2]
theorem lookA_snoc {k : Key} {d : D} (j : Key) : ∀ acc : List (Key × D), lookA acc k = none → lookA (acc ++ [(k, d)]) j = if j = k then some d else lookA acc j
  | [], _ => by
    show (if k = j then some d else none) = if j = k then some d else none
    by_cases h : k = j
    · rw [if_pos h, if_pos h.symm]
    · rw [if_neg h, if_neg (Ne.symm h)]
  | p :: acc, hn => by
    have hn : (if p.1 = k then some p.2 else lookA acc k) = none := hn
    by_cases h : p.1 = k
    · rw [if_pos h] at hn; cases hn
    · rw [if_neg h] at hn
      have ih := lookA_snoc (k := k) (d := d) j acc hn
      show (if p.1 = j then some p.2 else lookA (acc ++ [(k, d)]) j) = if j = k then some d else (if p.1 = j then some p.2 else lookA acc j)
      rw [ih]
      by_cases h2 : p.1 = j
      · rw [if_pos h2, if_pos h2, if_neg (fun e => h (h2.trans e))]
      · rw [if_neg h2, if_neg h2]
theorem lookA_put (acc : List (Key × D)) (k j : Key) (d : D) : lookA (putD acc k d) j = if j = k then some d else lookA acc j := by
  unfold putD
  rw [lookA_any]
  cases h : lookA acc k with
  | none =>
    rw [show (none : Option D).isSome = false from rfl, if_neg (by decide)]
    exact lookA_snoc j acc h
  | some x =>
    rw [show (some x).isSome = true from rfl, if_pos rfl, lookA_map]
    by_cases hj : j = k
    · subst hj
      rw [h]
      show some (if j = j then d else x) = _
      rw [if_pos rfl, if_pos rfl]
    · rw [if_neg hj]
      cases lookA acc j with
      | none => rfl
      | some y =>
        show some (if j = k then d else y) = _
        rw [if_neg hj]
theorem putD_len (acc : List (Key × D)) (k : Key) (d : D) : (putD acc k d).length ≤ acc.length + 1 := by
  unfold putD
  split
  · rw [List.length_map]; omega
  · rw [List.length_append]; exact Nat.le_refl _
end DL
/-! fractions as pairs in lowest terms -/
namespace DL
open PySem PySem.Spec PyProof.Rows L2
abbrev qD (q : Rat) : D := .tup [.int q.num, .int (q.den : Nat)]
abbrev tq (qs : List Rat) : D := .tup (qs.map qD)
theorem gcd_pos {a b : Int} (hb : b ≠ 0) : 0 < b.gcd a := Int.gcd_pos_of_ne_zero_left a hb
theorem q_num_pos {a b : Int} (hb : 0 < b) : a / (b.gcd a : Nat) = (Rat.divInt a b).num := by
  rw [Rat.num_divInt, Int.sign_eq_one_of_pos hb, Int.one_mul]
theorem q_num_neg {a b : Int} (hb : b < 0) : 0 - a / (b.gcd a : Nat) = (Rat.divInt a b).num := by
  rw [Rat.num_divInt, Int.sign_eq_neg_one_of_neg hb, Int.neg_mul, Int.one_mul, Int.neg_ediv_of_dvd (Int.gcd_dvd_right b a)]
  omega
theorem q_den_pos {a b : Int} (hb : 0 < b) : b / (b.gcd a : Nat) = ((Rat.divInt a b).den : Nat) := by
  rw [Rat.den_divInt, if_neg (by omega), Int.natCast_ediv]
  congr 1
  omega
theorem q_den_neg {a b : Int} (hb : b < 0) : 0 - b / (b.gcd a : Nat) = ((Rat.divInt a b).den : Nat) := by
  rw [Rat.den_divInt, if_neg (by omega), Int.natCast_ediv]
  have : (b.natAbs : Int) = - b := by omega
  rw [this, Int.neg_ediv_of_dvd (Int.gcd_dvd_left b a)]
  omega
/-- the size of what a fraction is of -/
theorem q_num_le {a b : Int} (hb : b ≠ 0) : (Rat.divInt a b).num.natAbs ≤ a.natAbs := by
  rw [Rat.num_divInt]
  refine Nat.le_trans (Int.natAbs_ediv_le_natAbs _ _) ?_
  rw [Int.natAbs_mul, Int.natAbs_sign_of_ne_zero hb, Nat.one_mul]
  exact Nat.le_refl _
theorem q_den_le {a b : Int} (hb : b ≠ 0) : (Rat.divInt a b).den ≤ b.natAbs := by
  rw [Rat.den_divInt, if_neg hb]
  exact Nat.div_le_self _ _
/-! lists of rows by == -/
theorem lay_rows : ∀ rows : List (List Int), PyData.canLayAll0 (toPyL (rows.map ti)) = true
  | [] => rfl
  | r :: rows => by
    show (PyData.canLayAll0 (toPyL (r.map D.int)) && PyData.canLayAll0 (toPyL (rows.map ti))) = true
    rw [lay_rows rows, toPyL_ints, lay_ints]
    rfl
theorem depth_rows : ∀ rows : List (List Int), PyData.depthAll (toPyL (rows.map ti)) ≤ 1
  | [] => by decide
  | r :: rows => by
    show max (PyData.depthAll (toPyL (r.map D.int)) + 1) (PyData.depthAll (toPyL (rows.map ti))) ≤ 1
    have := depth_rows rows
    rw [toPyL_ints, depth_ints]
    omega
theorem eqOk_rows (rows : List (List Int)) : eqOk (.lst (rows.map ti)) = true := by
  show (PyData.canLayAll0 (toPyL (rows.map ti)) && decide (PyData.depthAll (toPyL (rows.map ti)) + 1 ≤ 64)) = true
  have := depth_rows rows
  rw [lay_rows, decide_eq_true (by omega)]
  rfl
theorem fNe_rows0 (rows : List (List Int)) : fNe (.lst (rows.map ti)) (.lst []) = some (.val (.bl (!decide (rows = [])))) := by
  have e : eqD (.lst (rows.map ti)) (.lst []) = decide (rows = []) := by
    cases rows with
    | nil => rfl
    | cons r rows => rfl
  rw [← e]
  exact if_pos ⟨eqOk_rows rows, rfl⟩
/-- bits of a fraction -/
structure Qs (a d : Nat) (q : Rat) : Prop where
  n : q.num.natAbs ≤ 2 ^ a
  d : q.den ≤ 2 ^ d
theorem Qs.mono {a d a' d' : Nat} {q : Rat} (h : Qs a d q) (ha : a ≤ a') (hd : d ≤ d') : Qs a' d' q := ⟨Nat.le_trans h.n (Nat.pow_le_pow_right (by decide) ha), Nat.le_trans h.d (Nat.pow_le_pow_right (by decide) hd)⟩
theorem den_ne (q : Rat) : ((q.den : Nat) : Int) ≠ 0 := by
  have := q.den_nz
  omega
theorem q_add (p q : Rat) : Rat.divInt (p.num * q.den + q.num * p.den) (p.den * q.den) = p + q := by
  conv => rhs; rw [← Rat.num_divInt_den p, ← Rat.num_divInt_den q]
  rw [Rat.divInt_add_divInt _ _ (den_ne p) (den_ne q)]
theorem q_mul (p q : Rat) : Rat.divInt (p.num * q.num) (p.den * q.den) = p * q := by
  conv => rhs; rw [← Rat.num_divInt_den p, ← Rat.num_divInt_den q]
  rw [Rat.divInt_mul_divInt]
theorem q_mulz (p : Rat) (z : Int) : Rat.divInt (p.num * z) p.den = p * (z : Rat) := by
  rw [← q_mul]
  simp
theorem pow_mul_le {x y a b : Nat} (h : x ≤ 2 ^ a) (h2 : y ≤ 2 ^ b) : x * y ≤ 2 ^ (a + b) := by
  rw [Nat.pow_add]
  exact Nat.mul_le_mul h h2
theorem Qs.add {a d a2 d2 c : Nat} {p q : Rat} (h : Qs a d p) (h2 : Qs a2 d2 q) (h3 : a + d2 ≤ c) (h4 : a2 + d ≤ c) : Qs (c + 1) (d + d2) (p + q) := by
  have hd : ((p.den : Nat) : Int) * ((q.den : Nat) : Int) ≠ 0 := Int.mul_ne_zero (den_ne p) (den_ne q)
  rw [← q_add]
  refine ⟨Nat.le_trans (q_num_le hd) ?_, Nat.le_trans (q_den_le hd) ?_⟩
  · refine Nat.le_trans (Int.natAbs_add_le _ _) ?_
    rw [Int.natAbs_mul, Int.natAbs_mul, Int.natAbs_natCast, Int.natAbs_natCast, Nat.pow_succ, Nat.mul_two]
    exact Nat.add_le_add (Nat.le_trans (pow_mul_le h.n h2.d) (Nat.pow_le_pow_right (by decide) h3)) (Nat.le_trans (pow_mul_le h2.n h.d) (Nat.pow_le_pow_right (by decide) h4))
  · rw [Int.natAbs_mul, Int.natAbs_natCast, Int.natAbs_natCast]
    exact pow_mul_le h.d h2.d
theorem Qs.mulz {a d m : Nat} {p : Rat} {z : Int} (h : Qs a d p) (hz : z.natAbs ≤ 2 ^ m) : Qs (a + m) d (p * (z : Rat)) := by
  rw [← q_mulz]
  refine ⟨Nat.le_trans (q_num_le (den_ne p)) ?_, Nat.le_trans (q_den_le (den_ne p)) ?_⟩
  · rw [Int.natAbs_mul]
    exact pow_mul_le h.n hz
  · rw [Int.natAbs_natCast]
    exact h.d
end DL
namespace DL
open PySem PySem.Spec PyProof.Rows L2
/-- data that may be compared, not deeper than that -/
def Sz : Nat → D → Prop
  | 0, _ => False
  | _ + 1, .non => True
  | _ + 1, .int _ => True
  | _ + 1, .bl _ => True
  | _ + 1, .str x => (toPy (.str x)).canLay0 = true
  | n + 1, .tup ds => ∀ d ∈ ds, Sz n d
  | n + 1, .lst ds => ∀ d ∈ ds, Sz n d
  | _ + 1, _ => False
theorem sz_all {n : Nat} (ih : ∀ d, Sz n d → (toPy d).canLay0 = true ∧ (toPy d).depth ≤ n) : ∀ ds : List D, (∀ d ∈ ds, Sz n d) → PyData.canLayAll0 (toPyL ds) = true ∧ PyData.depthAll (toPyL ds) ≤ n
  | [], _ => ⟨rfl, Nat.zero_le _⟩
  | d :: ds, h => by
    obtain ⟨h1, h2⟩ := ih d (h d List.mem_cons_self)
    obtain ⟨h3, h4⟩ := sz_all ih ds fun x hx => h x (List.mem_cons_of_mem _ hx)
    refine ⟨?_, ?_⟩
    · show ((toPy d).canLay0 && PyData.canLayAll0 (toPyL ds)) = true
      rw [h1, h3]
      rfl
    · show max (toPy d).depth (PyData.depthAll (toPyL ds)) ≤ n
      omega
theorem sz_ok : ∀ (n : Nat) (d : D), Sz n d → (toPy d).canLay0 = true ∧ (toPy d).depth ≤ n
  | 0, _, h => h.elim
  | n + 1, .non, _ => ⟨rfl, Nat.zero_le _⟩
  | n + 1, .int _, _ => ⟨rfl, Nat.zero_le _⟩
  | n + 1, .bl _, _ => ⟨rfl, Nat.zero_le _⟩
  | n + 1, .str _, h => ⟨h, Nat.zero_le _⟩
  | n + 1, .tup ds, h => by
    obtain ⟨h1, h2⟩ := sz_all (sz_ok n) ds h
    exact ⟨h1, Nat.succ_le_succ h2⟩
  | n + 1, .lst ds, h => by
    obtain ⟨h1, h2⟩ := sz_all (sz_ok n) ds h
    exact ⟨h1, Nat.succ_le_succ h2⟩
  | n + 1, .fix _, h => h.elim
  | n + 1, .ty _, h => h.elim
  | n + 1, .dic _ _, h => h.elim
  | n + 1, .obj _ _ _, h => h.elim
  | n + 1, .adr _, h => h.elim
  | n + 1, .rng _ _, h => h.elim
theorem sz_eqOk {n : Nat} {d : D} (hn : n ≤ 64) (h : Sz n d) : eqOk d = true := by
  obtain ⟨h1, h2⟩ := sz_ok n d h
  show ((toPy d).canLay0 && decide ((toPy d).depth ≤ 64)) = true
  rw [h1, decide_eq_true (by omega)]
  rfl
theorem eqD_self {n : Nat} {d : D} (h : Sz n d) : eqD d d = true := PySem.SeqAt.eqv_refl (toPy d) (sz_ok n d h).1
theorem fEq_self {n : Nat} {d : D} (hn : n ≤ 64) (h : Sz n d) : fEq d d = some (.val (.bl true)) := by
  rw [← eqD_self h]
  exact if_pos ⟨sz_eqOk hn h, sz_eqOk hn h⟩
theorem fNe_self {n : Nat} {d : D} (hn : n ≤ 64) (h : Sz n d) : fNe d d = some (.val (.bl false)) := by
  have e : (false : Bool) = !eqD d d := by rw [eqD_self h]; rfl
  rw [e]
  exact if_pos ⟨sz_eqOk hn h, sz_eqOk hn h⟩
theorem sz_ti (n : Nat) (v : List Int) : Sz (n + 2) (ti v) := fun d hd => by
  obtain ⟨x, _, rfl⟩ := List.mem_map.mp hd
  exact trivial
theorem sz_tt (n : Nat) (L : List (List Int)) : Sz (n + 3) (tt L) := fun d hd => by
  obtain ⟨x, _, rfl⟩ := List.mem_map.mp hd
  exact sz_ti n x
theorem sz_lt (n : Nat) (L : List (List Int)) : Sz (n + 3) (.lst (L.map ti)) := fun d hd => by
  obtain ⟨x, _, rfl⟩ := List.mem_map.mp hd
  exact sz_ti n x
theorem fNe_q (p q : Rat) : fNe (qD p) (qD q) = some (.val (.bl (!decide (p = q)))) := by
  have e : fNe (qD p) (qD q) = some (.val (.bl (!decide ([p.num, (p.den : Int)] = [q.num, (q.den : Int)])))) := fNe_ti [p.num, (p.den : Int)] [q.num, (q.den : Int)]
  rw [e]
  by_cases h : p = q
  · rw [h, decide_eq_true rfl, decide_eq_true rfl]
  · rw [decide_eq_false h, decide_eq_false fun z => h ?_]
    simp only [List.cons.injEq, and_true] at z
    have h2 : p.den = q.den := by have := z.2; omega
    exact Rat.ext z.1 h2
theorem fEq_rows0 (rows : List (List Int)) : fEq (.lst (rows.map ti)) (.lst []) = some (.val (.bl (decide (rows = [])))) := by
  have e : eqD (.lst (rows.map ti)) (.lst []) = decide (rows = []) := by
    cases rows with
    | nil => rfl
    | cons r rows => rfl
  rw [← e]
  exact if_pos ⟨eqOk_rows rows, rfl⟩
theorem eqOk_tt (rows : List (List Int)) : eqOk (tt rows) = true := sz_eqOk (n := 3) (by decide) (sz_tt 0 rows)
theorem fEq_tt0 (rows : List (List Int)) : fEq (tt rows) (.tup []) = some (.val (.bl (decide (rows = [])))) := by
  have e : eqD (tt rows) (.tup []) = decide (rows = []) := by
    cases rows with
    | nil => rfl
    | cons r rows => rfl
  rw [← e]
  exact if_pos ⟨eqOk_tt rows, rfl⟩
end DL
/-! Anything: data of any kind, and what own looks tell of it. -/
namespace DL
open PySem PySem.Spec PyProof.Rows L2
mutual
def okA : D → Bool
  | .non => true
  | .bl _ => true
  | .int _ => true
  | .str _ => true
  | .tup ds => decide (ds.length ≤ 1000) && okAs ds
  | .lst ds => decide (ds.length ≤ 1000) && okAs ds
  | .dic _ _ => true
  | .fix _ => false
  | .ty _ => false
  | .obj _ _ _ => false
  | .adr _ => false
  | .rng _ _ => false
def okAs : List D → Bool
  | [] => true
  | d :: ds => okA d && okAs ds
end
theorem okAs_iff : ∀ ds : List D, okAs ds = true ↔ ∀ d ∈ ds, okA d = true
  | [] => by simp [okAs]
  | d :: ds => by
    unfold okAs
    rw [Bool.and_eq_true, okAs_iff ds]
    simp
theorem okA_tup {ds : List D} : okA (.tup ds) = true ↔ ds.length ≤ 1000 ∧ ∀ d ∈ ds, okA d = true := by
  show (decide _ && okAs ds) = true ↔ _
  rw [Bool.and_eq_true, decide_eq_true_eq, okAs_iff]
theorem okA_lst {ds : List D} : okA (.lst ds) = true ↔ ds.length ≤ 1000 ∧ ∀ d ∈ ds, okA d = true := by
  show (decide _ && okAs ds) = true ↔ _
  rw [Bool.and_eq_true, decide_eq_true_eq, okAs_iff]
def isI : D → Bool
  | .int _ => true
  | _ => false
def wholes (n : Int) : D → Bool
  | .tup ds => decide (((ds.length : Nat) : Int) = n) && ds.all isI
  | _ => false
def inB (lo hi : Int) : D → Bool
  | .int i => decide (lo ≤ i) && decide (i ≤ hi)
  | _ => false
def betw (n lo hi : Int) : D → Bool
  | .tup ds => decide (((ds.length : Nat) : Int) = n) && ds.all (inB lo hi)
  | _ => false
def tupN (n : Int) : D → Bool
  | .tup ds => decide (((ds.length : Nat) : Int) = n)
  | _ => false
theorem all_mapB {α : Type} (f : α → Bool) (zs : List α) : gAll (.lst ([] ++ zs.map fun z => D.bl (f z))) = some (.val (.bl (zs.all f))) := by
  have e : ([] : List D) ++ zs.map (fun z => D.bl (f z)) = (zs.map f).map D.bl := by
    rw [List.nil_append, List.map_map]
    rfl
  rw [e, gAll_bls, List.all_map]
  rfl
theorem ok_lineA {n : Nat} (h : n ≤ 1000) : ([] : List D).length + n ≤ sizeLine := by
  rw [sizeLine_eq, List.length_nil]
  omega
theorem lcGo_self {p : Pt} {tt : DT} {te : DE} {vs : List Nat} (g : D → D) {ρ : En} {Q : List D → En → Prop} (zs acc : List D) (h : ∀ z ∈ zs, ∀ Kt Kf, Kt (g z) ρ → stp p tt te vs z ρ Kt Kf) (hl : acc.length + zs.length ≤ sizeLine) (q : Q (acc ++ zs.map g) ρ) : lcGo p tt te vs zs acc ρ Q := by
  have := lcGo_enc (p := p) (tt := tt) (te := te) (vs := vs) (fun d => d) g (ρ := ρ) (Q := Q) zs acc h hl q
  rwa [show zs.map (fun d => d) = zs from List.map_id' zs] at this
theorem inB_int {lo hi : Int} {d : D} (h : inB lo hi d = true) : ∃ i, d = .int i ∧ lo ≤ i ∧ i ≤ hi := by
  cases d <;> first | (cases h; done) | skip
  rename_i i
  have h : (decide (lo ≤ i) && decide (i ≤ hi)) = true := h
  rw [Bool.and_eq_true, decide_eq_true_eq, decide_eq_true_eq] at h
  exact ⟨i, rfl, h.1, h.2⟩
theorem isI_int {d : D} (h : isI d = true) : ∃ i, d = .int i := by
  cases d <;> first | (cases h; done) | skip
  exact ⟨_, rfl⟩
theorem oIx_some (n : Nat) (d i : Nat) (h : i ≤ n) : HT.sIx n d (some (i : Int)) = i := by
  simp only [HT.sIx]
  split
  · omega
  · omega
theorem oCut_lo {α : Type} (xs : List α) (i : Nat) (h : i ≤ xs.length) : DL.cutD xs (some (i : Int)) none = xs.drop i := by
  unfold DL.cutD
  rw [oIx_some _ _ _ h]
  have : HT.sIx xs.length xs.length none = xs.length := rfl
  rw [this, List.take_of_length_le]
  rw [List.length_drop]
  omega
theorem oCut_le {α : Type} (xs : List α) (i : Nat) (h : i ≤ xs.length) : DL.cutD xs none (some (i : Int)) = xs.take i := by
  unfold DL.cutD
  rw [oIx_some _ _ _ h]
  have : HT.sIx xs.length 0 none = 0 := rfl
  rw [this, List.drop_zero]
  rfl
theorem oCut_all {α : Type} (xs : List α) (i : Nat) (h : xs.length ≤ i) : DL.cutD xs none (some (i : Int)) = xs := by
  unfold DL.cutD
  have e : HT.sIx xs.length xs.length (some (i : Int)) = xs.length := by
    simp only [HT.sIx]
    split <;> omega
  have e2 : HT.sIx xs.length 0 none = 0 := rfl
  rw [e, e2, List.drop_zero]
  exact List.take_of_length_le (by omega)
theorem oCut_hi {α : Type} (xs : List α) (i : Nat) : DL.cutD xs none (some (i : Int)) = xs.take i := by
  by_cases h : i ≤ xs.length
  · exact oCut_le xs i h
  · rw [List.take_of_length_le (by omega)]
    exact oCut_all xs i (by omega)
end DL
set_option exponentiation.threshold 100000
namespace Lk71
open PySem PySem.Spec PyProof.Rows L2 DL
theorem a_whole {d : D} (hd : okA d = true) : Ret w_is_whole [.val d] (.bl (isI d)) := by
  intro Qd Ed h
  unfold w_is_whole m_is_whole
  cases d <;> first | (cases hd; done) | skip
  all_goals
    conv => whnf
    repeat (refine ⟨_, rfl, ?_⟩; conv => whnf)
    exact h _
theorem a_tuple_of {d : D} {n : Int} (hd : okA d = true) : Ret w_is_tuple_of [.val d, .val (.int n)] (.bl (tupN n d)) := by
  intro Qd Ed h
  unfold w_is_tuple_of m_is_tuple_of
  cases d <;> first | (cases hd; done) | skip
  case tup ds =>
    conv => whnf
    repeat (refine ⟨_, rfl, ?_⟩; conv => whnf)
    rw [show eqD (Cell.val (D.int ((ds.length : Nat) : Int))).toD (D.int n) = decide (((ds.length : Nat) : Int) = n) from eqD_int _ _]
    exact h _
  all_goals
    conv => whnf
    repeat (refine ⟨_, rfl, ?_⟩; conv => whnf)
    exact h _
theorem a_between {d : D} {lo hi : Int} (hd : okA d = true) : Ret w_is_between [.val d, .val (.int lo), .val (.int hi)] (.bl (inB lo hi d)) := by
  intro Qd Ed h
  have aw := a_whole hd
  unfold w_is_between m_is_between
  revert aw
  generalize w_is_whole = W1
  revert W1
  refine id ?_
  intro W1 aw
  conv => whnf
  refine aw _ _ fun o => ?_
  cases d <;> first | (cases hd; done) | skip
  case int i =>
    have e : inB lo hi (.int i) = (decide (lo ≤ i) && decide (i ≤ hi)) := rfl
    rw [e] at h
    conv => whnf
    (refine ⟨_, rfl, ?_⟩; conv => whnf)
    by_cases h1 : lo ≤ i
    · rw [decide_eq_true h1, Bool.true_and] at h
      refine ⟨_, fLe_t h1, ?_⟩
      conv => whnf
      repeat (refine ⟨_, rfl, ?_⟩; conv => whnf)
      exact h _
    · rw [decide_eq_false h1, Bool.false_and] at h
      refine ⟨_, fLe_f h1, ?_⟩
      conv => whnf
      exact h _
  all_goals
    conv => whnf
    repeat (refine ⟨_, rfl, ?_⟩; conv => whnf)
    exact h _
end Lk71
set_option exponentiation.threshold 100000
namespace Lk71
open PySem PySem.Spec PyProof.Rows L2 DL
def isBell : D → Bool
  | .tup [a, b] => inB (-9999) 9999 a && inB 1 9999 b
  | _ => false
def bad1 (p : D × Nat) : Option D := if isBell p.1 then none else some (.int (p.2 : Nat))
def wrongB : D → List D
  | .tup ds => if 1 ≤ ds.length ∧ ds.length ≤ 8 then (ds.zipIdx.filterMap bad1).take 1 else [.non]
  | _ => [.non]
theorem enumD_all (ds : List D) : enumD ds = ds.zipIdx.map fun p => D.tup [.int (p.2 : Nat), p.1] := by
  have := enumD_map (fun d => d) ds
  rwa [List.map_id'] at this
theorem a_is_bell {d : D} (hd : okA d = true) : Ret w_is_bell [.val d] (.bl (isBell d)) := by
  intro Qd Ed h
  have t2 := a_tuple_of (n := 2) hd
  have bt := fun (z : D) (lo hi : Int) (hz : okA z = true) => a_between (lo := lo) (hi := hi) hz
  unfold w_is_bell m_is_bell m_is_bell_1
  revert t2 bt
  generalize w_is_tuple_of = W1
  generalize w_is_between = W2
  revert W1 W2
  refine id ?_
  intro W1 W2 t2 bt
  conv => whnf
  refine t2 _ _ fun o => ?_
  cases d <;> first | (cases hd; done) | skip
  case tup ds =>
    have hd2 := okA_tup.mp hd
    rcases ds with _ | ⟨a, _ | ⟨b, _ | ⟨c, l⟩⟩⟩
    · conv => whnf
      repeat (refine ⟨_, rfl, ?_⟩; conv => whnf)
      exact h _
    · conv => whnf
      repeat (refine ⟨_, rfl, ?_⟩; conv => whnf)
      exact h _
    · have ha := hd2.2 a (by simp)
      have hb := hd2.2 b (by simp)
      have e : isBell (.tup [a, b]) = (inB (-9999) 9999 a && inB 1 9999 b) := rfl
      rw [e] at h
      conv => whnf
      repeat (refine ⟨_, rfl, ?_⟩; conv => whnf)
      refine bt a _ _ ha _ _ fun o => ?_
      cases h1 : inB (-9999) 9999 a with
      | false =>
        rw [h1] at h
        conv => whnf
        repeat (refine ⟨_, rfl, ?_⟩; conv => whnf)
        exact h _
      | true =>
        rw [h1] at h
        conv => whnf
        repeat (refine ⟨_, rfl, ?_⟩; conv => whnf)
        refine bt b _ _ hb _ _ fun o => ?_
        exact h _
    · have e : tupN 2 (.tup (a :: b :: c :: l)) = false := by
        show decide ((((a :: b :: c :: l).length : Nat) : Int) = 2) = false
        exact decide_eq_false (by rw [List.length_cons, List.length_cons, List.length_cons]; omega)
      rw [e]
      conv => whnf
      repeat (refine ⟨_, rfl, ?_⟩; conv => whnf)
      exact h _
  all_goals
    conv => whnf
    repeat (refine ⟨_, rfl, ?_⟩; conv => whnf)
    exact h _
theorem cut_one (fs : List D) : DL.cutD fs none (some 1) = fs.take 1 := oCut_hi fs 1
theorem a_wrong {d : D} (hd : okA d = true) : RetO w_wrong_in_bells [.val d] (wrongB d) := by
  intro Qd Ed h
  have ib := fun (z : D) (hz : okA z = true) => a_is_bell hz
  unfold w_wrong_in_bells m_wrong_in_bells m_wrong_in_bells_1
  revert ib
  generalize w_is_bell = W1
  revert W1
  refine id ?_
  intro W1 ib
  cases d <;> first | (cases hd; done) | skip
  case tup ds =>
    have hd2 := okA_tup.mp hd
    conv => whnf
    (refine ⟨_, rfl, ?_⟩; conv => whnf)
    (refine ⟨_, rfl, ?_⟩; conv => whnf)
    (refine ⟨_, rfl, ?_⟩; conv => whnf)
    by_cases h1 : 1 ≤ ds.length
    · refine ⟨_, fLe_t (a := 1) (b := ((ds.length : Nat) : Int)) (by omega), ?_⟩
      conv => whnf
      by_cases h8 : ds.length ≤ 8
      · refine ⟨_, fLe_t (a := ((ds.length : Nat) : Int)) (b := 8) (by omega), ?_⟩
        have e : wrongB (.tup ds) = (ds.zipIdx.filterMap bad1).take 1 := if_pos ⟨h1, h8⟩
        rw [e] at h
        conv => whnf
        rw [enumD_all]
        refine ⟨rfl, ?_⟩
        refine lcGo_fil (fun p : D × Nat => D.tup [.int (p.2 : Nat), p.1]) bad1 ds.zipIdx [] (fun p hp Kt Kf k1 k2 => ?_) (small64 (by rw [List.length_zipIdx, List.length_nil]; omega)) ?_
        · have hp2 : p.1 ∈ ds := by
            obtain ⟨z, i⟩ := p
            exact (List.mem_zipIdx' hp).2 ▸ List.getElem_mem _
          conv => whnf
          refine ⟨rfl, ?_⟩
          conv => whnf
          refine ib p.1 (hd2.2 _ hp2) _ _ fun o => ?_
          cases q : isBell p.1 with
          | true =>
            conv => whnf
            repeat (refine ⟨_, rfl, ?_⟩; conv => whnf)
            exact k2 (if_pos q)
          | false =>
            conv => whnf
            repeat (refine ⟨_, rfl, ?_⟩; conv => whnf)
            exact k1 _ (if_neg (by rw [q]; decide))
        · rw [List.nil_append]
          generalize List.filterMap bad1 ds.zipIdx = fs at *
          conv => whnf
          repeat (refine ⟨_, rfl, ?_⟩; conv => whnf)
          rw [cut_one]
          exact h _
      · refine ⟨_, fLe_f (a := ((ds.length : Nat) : Int)) (b := 8) (by omega), ?_⟩
        have e : wrongB (.tup ds) = [.non] := if_neg (by omega)
        rw [e] at h
        conv => whnf
        repeat (refine ⟨_, rfl, ?_⟩; conv => whnf)
        refine ⟨small64 (by simp), ?_⟩
        conv => whnf
        exact h _
    · refine ⟨_, fLe_f (a := 1) (b := ((ds.length : Nat) : Int)) (by omega), ?_⟩
      have e : wrongB (.tup ds) = [.non] := if_neg (by omega)
      rw [e] at h
      conv => whnf
      repeat (refine ⟨_, rfl, ?_⟩; conv => whnf)
      refine ⟨small64 (by simp), ?_⟩
      conv => whnf
      exact h _
  all_goals
    conv => whnf
    repeat (refine ⟨_, rfl, ?_⟩; conv => whnf)
    refine ⟨small64 (by simp), ?_⟩
    conv => whnf
    exact h _
/-- a look that passes, or an error with what is wrong -/
theorem a_check {d : D} (hd : okA d = true) {Qd : Cell → Outs → Prop} {Ed : Str → List (Str × D) → Outs → Prop} (h0 : wrongB d = [] → ∀ c o, Qd c o) (h1 : ∀ x l, wrongB d = x :: l → ∀ o, Ed "InvalidBells" [("index", x)] o) : w_check_bells [.val d] Qd Ed := by
  have wr := a_wrong hd
  unfold w_check_bells m_check_bells
  revert wr
  generalize w_wrong_in_bells = W1
  revert W1
  refine id ?_
  intro W1 wr
  conv => whnf
  refine wr _ _ fun o => ?_
  conv => whnf
  cases e : wrongB d with
  | nil =>
    conv => whnf
    exact h0 e _ _
  | cons x l =>
    conv => whnf
    exact h1 x l e _
theorem a_time {d : D} (hd : okA d = true) {Qd : Cell → Outs → Prop} {Ed : Str → List (Str × D) → Outs → Prop} (h0 : isI d = true → ∀ c o, Qd c o) (h1 : isI d = false → ∀ o, Ed "InvalidNumber" [("given", d)] o) : w_check_time [.val d] Qd Ed := by
  have aw := a_whole hd
  unfold w_check_time m_check_time
  revert aw
  generalize w_is_whole = W1
  revert W1
  refine id ?_
  intro W1 aw
  conv => whnf
  refine aw _ _ fun o => ?_
  cases e : isI d with
  | true =>
    conv => whnf
    repeat (refine ⟨_, rfl, ?_⟩; conv => whnf)
    exact h0 e _ _
  | false =>
    conv => whnf
    repeat (refine ⟨_, rfl, ?_⟩; conv => whnf)
    exact h1 e _
end Lk71
set_option exponentiation.threshold 100000
namespace Lk71
open PySem PySem.Spec PyProof.Rows L2 DL
/-- a list by the document -/
structure Lst (n : Nat) (rows : List (List Int)) : Prop where
  g : 1 ≤ n ∧ n ≤ 6
  r : rows.length ≤ 8
  x : ∀ r ∈ rows, r.length = n ∧ ∀ x ∈ r, -9999 ≤ x ∧ x ≤ 9999
abbrev lsD (n : Nat) (rows : List (List Int)) : D := .tup [.int (n : Nat), tt rows]
def sumOf (n : Nat) (rows : List (List Int)) (am : List Int) : List Int := (List.range n).map fun i => ((am.zip rows).map fun p => p.1 * p.2.getD i 0).sum
theorem sumOf_len (n : Nat) (rows : List (List Int)) (am : List Int) : (sumOf n rows am).length = n := by simp [sumOf]
theorem sum_le {α : Type} {f : α → Int} {M : Nat} : ∀ ps : List α, (∀ p ∈ ps, (f p).natAbs ≤ M) → (ps.map f).sum.natAbs ≤ ps.length * M
  | [], _ => by simp
  | p :: ps, h => by
    have h1 := sum_le ps fun x hx => h x (List.mem_cons_of_mem _ hx)
    have h2 := h p List.mem_cons_self
    rw [List.map_cons, List.sum_cons, List.length_cons, Nat.succ_mul]
    omega
theorem sumOf_le {n A B : Nat} {rows : List (List Int)} {am : List Int} (hr : ∀ r ∈ rows, ∀ x ∈ r, x.natAbs ≤ B) (ha : ∀ a ∈ am, a.natAbs ≤ A) : ∀ z ∈ sumOf n rows am, z.natAbs ≤ rows.length * (A * B) := by
  intro z hz
  obtain ⟨i, hi, rfl⟩ := List.mem_map.mp hz
  refine Nat.le_trans (sum_le (M := A * B) _ fun p hp => ?_) (Nat.mul_le_mul_right _ (by rw [List.length_zip]; omega))
  have h1 := List.of_mem_zip hp
  rw [Int.natAbs_mul]
  refine Nat.mul_le_mul (ha _ h1.1) ?_
  rw [List.getD_eq_getElem?_getD]
  cases e : p.2[i]? with
  | none => exact Nat.zero_le _
  | some x => exact hr _ h1.2 _ (List.mem_of_getElem? e)
theorem cut_lo {α : Type} (xs : List α) (i : Nat) (h : i ≤ xs.length) : DL.cutD xs (some (i : Int)) none = xs.drop i := oCut_lo xs i h
theorem cut_hi {α : Type} (xs : List α) (i : Nat) (h : i ≤ xs.length) : DL.cutD xs none (some (i : Int)) = xs.take i := oCut_le xs i h
end Lk71
set_option exponentiation.threshold 100000
namespace Stairs
/-! ### one round of steps: what it makes of the rows -/
def col (g : Nat) (r : List Int) : Int := r.getD g 0
def sub (r h : List Int) (q : Int) : List Int := (r.zip h).map fun p => p.1 - q * p.2
theorem sub_len {r h : List Int} {q : Int} {n : Nat} (h1 : r.length = n) (h2 : h.length = n) : (sub r h q).length = n := by
  simp [sub, h1, h2]
theorem sub_col {r h : List Int} {q : Int} {n : Nat} (h1 : r.length = n) (h2 : h.length = n) (j : Nat) : col j (sub r h q) = col j r - q * col j h := by
  unfold col sub
  rw [List.getD_eq_getElem?_getD, List.getD_eq_getElem?_getD, List.getD_eq_getElem?_getD, List.getElem?_map]
  by_cases hj : j < n
  · rw [List.getElem?_eq_getElem (by rw [List.length_zip]; omega), List.getElem?_eq_getElem (by omega : j < r.length), List.getElem?_eq_getElem (by omega : j < h.length), List.getElem_zip]
    rfl
  · rw [List.getElem?_eq_none (by rw [List.length_zip]; omega), List.getElem?_eq_none (by omega : r.length ≤ j), List.getElem?_eq_none (by omega : h.length ≤ j)]
    simp
theorem sub_abs {r h : List Int} {q : Int} {M : Nat} (h1 : ∀ x ∈ r, x.natAbs ≤ M) (h2 : ∀ x ∈ h, x.natAbs ≤ M) : ∀ x ∈ sub r h q, x.natAbs ≤ M * (1 + q.natAbs) := by
  intro x hx
  obtain ⟨p, hp, rfl⟩ := List.mem_map.mp hx
  have a := h1 _ (List.of_mem_zip hp).1
  have b := h2 _ (List.of_mem_zip hp).2
  have c : (q * p.2).natAbs ≤ q.natAbs * M := by
    rw [Int.natAbs_mul]
    exact Nat.mul_le_mul_left _ b
  have d : M * (1 + q.natAbs) = M + q.natAbs * M := by rw [Nat.mul_add, Nat.mul_one, Nat.mul_comm]
  omega
/-- rows of that length, not greater, noughts ahead of the good -/
structure Rws (n g M : Nat) (rs : List (List Int)) : Prop where
  l : ∀ r ∈ rs, r.length = n
  b : ∀ r ∈ rs, ∀ x ∈ r, x.natAbs ≤ M
  z : ∀ r ∈ rs, ∀ j, j < g → col j r = 0
theorem Rws.mono {n g M M' : Nat} {rs : List (List Int)} (h : Rws n g M rs) (hM : M ≤ M') : Rws n g M' rs := ⟨h.l, fun r hr x hx => Nat.le_trans (h.b r hr x hx) hM, h.z⟩
theorem Rws.sub {n g M : Nat} {rs ss : List (List Int)} (h : Rws n g M rs) (hs : ∀ r ∈ ss, r ∈ rs) : Rws n g M ss := ⟨fun r hr => h.l r (hs r hr), fun r hr => h.b r (hs r hr), fun r hr => h.z r (hs r hr)⟩
theorem col_le {n g M : Nat} {rs : List (List Int)} (h : Rws n g M rs) {r : List Int} (hr : r ∈ rs) (j : Nat) : (col j r).natAbs ≤ M := by
  unfold col
  rw [List.getD_eq_getElem?_getD]
  cases e : r[j]? with
  | none => exact Nat.zero_le _
  | some x => exact h.b r hr x (List.mem_of_getElem? e)
/-- what a round makes: h the least, N what is left at the good, Z what is not -/
structure Round (g : Nat) (so : List (List Int)) (h : List Int) (N Z : List (List Int)) : Prop where
  hm : h ∈ so
  least : ∀ r ∈ so, (col g h).natAbs ≤ (col g r).natAbs
  len : N.length + Z.length + 1 = so.length
  made : ∀ x ∈ N ++ Z, ∃ r ∈ so, x = sub r h ((col g r).fdiv (col g h))
  n : ∀ x ∈ N, col g x ≠ 0
  z : ∀ x ∈ Z, col g x = 0
  back : ∀ r ∈ so, r = h ∨ sub r h ((col g r).fdiv (col g h)) ∈ N ++ Z
structure Base (n g c : Nat) (so done : List (List Int)) (M t : Nat) : Prop where
  r : Rws n g M (so ++ done)
  s : ∀ r ∈ so, col g r ≠ 0
  d : ∀ r ∈ done, col g r = 0
  k : so.length + done.length ≤ 8
  tb : ∀ r ∈ so, (col g r).natAbs ≤ t
  tc : t ≤ c
def On (g B : Nat) (so : List (List Int)) (M t : Nat) : Prop := ∃ m, (∃ h ∈ so, (col g h).natAbs = m) ∧ (∀ r ∈ so, m ≤ (col g r).natAbs) ∧ ((∀ r ∈ so, 0 < col g r) ∨ ∀ r ∈ so, col g r < 0) ∧ M * (2 ^ so.length * t * m) ≤ B
def Fresh (c B M : Nat) : Prop := 1 ≤ c ∧ M * (768 * (c * c)) ≤ B
/-- a state of the rounds at a good -/
def St (n g c B : Nat) (so done : List (List Int)) : Prop := ∃ M t, Base n g c so done M t ∧ (Fresh c B M ∨ On g B so M t)
theorem dm (r h : Int) (hh : h ≠ 0) : (r - r.fdiv h * h).natAbs < h.natAbs ∧ (0 < h → 0 ≤ r - r.fdiv h * h) ∧ (h < 0 → r - r.fdiv h * h ≤ 0) := by
  have e : r - r.fdiv h * h = r.fmod h := by
    rw [Int.fmod_def, Int.mul_comm]
  rw [e]
  rcases Int.lt_or_gt_of_ne hh with h0 | h0
  · have e2 : r.fmod h = -((-r).fmod (-h)) := by
      rw [Int.fmod_def, Int.fmod_def, Int.neg_fdiv_neg]
      simp only [Int.neg_mul, Int.neg_sub, Int.sub_neg]
      omega
    have h1 := Int.fmod_nonneg_of_pos (-r) (b := -h) (by omega)
    have h2 := Int.fmod_lt_of_pos (-r) (b := -h) (by omega)
    omega
  · have h1 := Int.fmod_nonneg_of_pos r (b := h) h0
    have h2 := Int.fmod_lt_of_pos r (b := h) h0
    omega
theorem exmax {α : Type} {P : α → Nat → Prop} : ∀ (L : List α), L ≠ [] → (∀ x ∈ L, ∃ k, P x k) → ∃ Q, (∀ x ∈ L, ∃ k, k ≤ Q ∧ P x k) ∧ ∃ x ∈ L, P x Q
  | [], h, _ => absurd rfl h
  | [x], _, h => by
    obtain ⟨k, hk⟩ := h x (by simp)
    exact ⟨k, fun y hy => ⟨k, Nat.le_refl _, by rw [show y = x by simpa using hy]; exact hk⟩, x, by simp, hk⟩
  | x :: y :: L, _, h => by
    obtain ⟨Q, h1, z, hz, h2⟩ := exmax (y :: L) (by simp) fun w hw => h w (List.mem_cons_of_mem _ hw)
    obtain ⟨k, hk⟩ := h x List.mem_cons_self
    by_cases hQ : k ≤ Q
    · refine ⟨Q, fun w hw => ?_, z, List.mem_cons_of_mem _ hz, h2⟩
      rcases List.mem_cons.mp hw with rfl | hw
      · exact ⟨k, hQ, hk⟩
      · exact h1 w hw
    · refine ⟨k, fun w hw => ?_, x, List.mem_cons_self, hk⟩
      rcases List.mem_cons.mp hw with rfl | hw
      · exact ⟨k, Nat.le_refl _, hk⟩
      · obtain ⟨j, hj, h3⟩ := h1 w hw
        exact ⟨j, by omega, h3⟩
theorem exmin {α : Type} (f : α → Nat) : ∀ (L : List α), L ≠ [] → ∃ x ∈ L, ∀ y ∈ L, f x ≤ f y
  | [], h => absurd rfl h
  | [x], _ => ⟨x, by simp, by simp⟩
  | x :: y :: L, _ => by
    obtain ⟨z, hz, h⟩ := exmin f (y :: L) (by simp)
    by_cases hx : f x ≤ f z
    · refine ⟨x, List.mem_cons_self, fun w hw => ?_⟩
      rcases List.mem_cons.mp hw with rfl | hw
      · exact Nat.le_refl _
      · exact Nat.le_trans hx (h w hw)
    · refine ⟨z, List.mem_cons_of_mem _ hz, fun w hw => ?_⟩
      rcases List.mem_cons.mp hw with rfl | hw
      · omega
      · exact h w hw
theorem St.round {n g c B : Nat} {so done N Z : List (List Int)} {h : List Int} (hs : St n g c B so done) (hl : 2 ≤ so.length) (R : Round g so h N Z) : St n g c B (h :: N) (done ++ Z) := by
  obtain ⟨M, t, b, q⟩ := hs
  have hh0 : col g h ≠ 0 := b.s h R.hm
  have hso : ∀ r ∈ so, r.length = n := fun r hr => b.r.l r (List.mem_append_left _ hr)
  have hL : N ++ Z ≠ [] := by
    intro e
    have e2 := congrArg List.length e
    rw [List.length_append, List.length_nil] at e2
    have := R.len
    omega
  obtain ⟨Q, hQ, xs, hxs, rs, hrs, exs, eQ⟩ := exmax (P := fun x k => ∃ r ∈ so, x = sub r h ((col g r).fdiv (col g h)) ∧ ((col g r).fdiv (col g h)).natAbs = k) (N ++ Z) hL fun x hx => by
    obtain ⟨r, hr, e⟩ := R.made x hx
    exact ⟨_, r, hr, e, rfl⟩
  have hcol : ∀ r ∈ so, ∀ j, col j (sub r h ((col g r).fdiv (col g h))) = col j r - (col g r).fdiv (col g h) * col j h := fun r hr j => sub_col (hso r hr) (hso h R.hm) j
  have hM : M ≤ M * (1 + Q) := Nat.le_mul_of_pos_right _ (by omega)
  have hnew : ∀ x ∈ N ++ Z, x.length = n ∧ (∀ y ∈ x, y.natAbs ≤ M * (1 + Q)) ∧ ∀ j, j < g → col j x = 0 := fun x hx => by
    obtain ⟨k, hk, r, hr, rfl, ek⟩ := hQ x hx
    refine ⟨sub_len (hso r hr) (hso h R.hm), fun y hy => ?_, fun j hj => ?_⟩
    · refine Nat.le_trans (sub_abs (b.r.b r (List.mem_append_left _ hr)) (b.r.b h (List.mem_append_left _ R.hm)) y hy) (Nat.mul_le_mul_left _ ?_)
      omega
    · rw [hcol r hr j, b.r.z r (List.mem_append_left _ hr) j hj, b.r.z h (List.mem_append_left _ R.hm) j hj]
      omega
  have hmem : ∀ x ∈ (h :: N) ++ (done ++ Z), x ∈ so ++ done ∨ x ∈ N ++ Z := fun x hx => by
    simp only [List.mem_append, List.mem_cons] at hx ⊢
    rcases hx with (rfl | hx) | hx | hx
    · exact .inl (.inl R.hm)
    · exact .inr (.inl hx)
    · exact .inl (.inr hx)
    · exact .inr (.inr hx)
  have hdm := fun r : List Int => dm (col g r) (col g h) hh0
  have hN : ∀ x ∈ N, (col g x).natAbs < (col g h).natAbs ∧ (0 < col g h → 0 < col g x) ∧ (col g h < 0 → col g x < 0) := fun x hx => by
    obtain ⟨r, hr, e⟩ := R.made x (List.mem_append_left _ hx)
    have e2 := hcol r hr g
    rw [← e] at e2
    have h1 := hdm r
    rw [← e2] at h1
    have h2 := R.n x hx
    exact ⟨h1.1, fun h0 => by have := h1.2.1 h0; omega, fun h0 => by have := h1.2.2 h0; omega⟩
  refine ⟨M * (1 + Q), (col g h).natAbs, ⟨⟨fun x hx => ?_, fun x hx => ?_, fun x hx => ?_⟩, fun x hx => ?_, fun x hx => ?_, ?_, fun x hx => ?_, Nat.le_trans (b.tb h R.hm) b.tc⟩, Or.inr ?_⟩
  · rcases hmem x hx with q | q
    · exact b.r.l x q
    · exact (hnew x q).1
  · rcases hmem x hx with q | q
    · exact fun y hy => Nat.le_trans (b.r.b x q y hy) hM
    · exact (hnew x q).2.1
  · rcases hmem x hx with q | q
    · exact b.r.z x q
    · exact (hnew x q).2.2
  · rcases List.mem_cons.mp hx with rfl | hx
    · exact hh0
    · exact R.n x hx
  · rcases List.mem_append.mp hx with hx | hx
    · exact b.d x hx
    · exact R.z x hx
  · have h1 := R.len
    have h2 := b.k
    rw [List.length_cons, List.length_append]
    omega
  · rcases List.mem_cons.mp hx with rfl | hx
    · exact Nat.le_refl _
    · exact Nat.le_of_lt (hN x hx).1
  · obtain ⟨y, hy, hmin⟩ := exmin (fun r => (col g r).natAbs) (h :: N) (by simp)
    have hym : (col g y).natAbs ≤ (col g h).natAbs := hmin h List.mem_cons_self
    refine ⟨(col g y).natAbs, ⟨y, hy, rfl⟩, hmin, ?_, ?_⟩
    · rcases Int.lt_or_gt_of_ne hh0 with h0 | h0
      · refine .inr fun r hr => ?_
        rcases List.mem_cons.mp hr with rfl | hr
        · exact h0
        · exact (hN r hr).2.2 h0
      · refine .inl fun r hr => ?_
        rcases List.mem_cons.mp hr with rfl | hr
        · exact h0
        · exact (hN r hr).2.1 h0
    · -- sizes
      have hm0 : 1 ≤ (col g h).natAbs := by omega
      have hlen := R.len
      have hts := b.tb rs hrs
      have hleast := R.least rs hrs
      have hx0 := hdm rs
      have exc := hcol rs hrs g
      rw [← exs] at exc
      rw [← exc] at hx0
      have hqm : Q * (col g h).natAbs = (col g rs - col g xs).natAbs := by
        rw [← eQ, ← Int.natAbs_mul]
        congr 1
        omega
      rw [List.length_cons]
      generalize hgm : (col g h).natAbs = m at *
      generalize (col g y).natAbs = m' at *
      have key : (1 + Q) * (2 ^ (N.length + 1) * m * m') ≤ 768 * (c * c) ∨ True := .inr trivial
      clear key
      rcases q with ⟨hc1, hf⟩ | ⟨m1, ⟨h1, hh1, e1⟩, hm1, hsg, hB⟩
      · -- the first round
        have h3 : (1 + Q) * m ≤ 3 * c := by
          have : Q * m ≤ (col g rs).natAbs + m := by omega
          have := b.tc
          rw [Nat.add_mul, Nat.one_mul]
          omega
        have h4 : 2 ^ (N.length + 1) ≤ 256 := Nat.pow_le_pow_right (n := 2) (by decide) (by have := b.k; omega : N.length + 1 ≤ 8)
        have h5 : m' ≤ c := by have := b.tc; omega
        have h6 : (1 + Q) * (2 ^ (N.length + 1) * m * m') ≤ 768 * (c * c) := by
          have : (1 + Q) * (2 ^ (N.length + 1) * m * m') = 2 ^ (N.length + 1) * (((1 + Q) * m) * m') := by
            simp only [Nat.mul_assoc, Nat.mul_comm, Nat.mul_left_comm]
          rw [this]
          have h7 : ((1 + Q) * m) * m' ≤ (3 * c) * c := Nat.mul_le_mul h3 h5
          have h8 := Nat.mul_le_mul h4 h7
          have : 256 * (3 * c * c) = 768 * (c * c) := by
            rw [Nat.mul_assoc, ← Nat.mul_assoc]
          omega
        rw [Nat.mul_assoc]
        exact Nat.le_trans (Nat.mul_le_mul_left _ h6) hf
      · have em : m1 = m := by
          have := R.least h1 hh1
          have := hm1 h R.hm
          omega
        subst em
        have hsame : (0 < col g rs ∧ 0 < col g h) ∨ (col g rs < 0 ∧ col g h < 0) := by
          rcases hsg with s | s
          · exact .inl ⟨s rs hrs, s h R.hm⟩
          · exact .inr ⟨s rs hrs, s h R.hm⟩
        have hsum : (col g rs).natAbs = Q * m1 + (col g xs).natAbs := by
          rw [hqm]
          rcases hsame with s | s
          · have := hx0.2.1 s.2
            omega
          · have := hx0.2.2 s.2
            omega
        have h9 : (1 + Q) * (2 ^ (N.length + 1) * m1 * m') ≤ 2 ^ so.length * t * m1 := by
          have e9 : (1 + Q) * (2 ^ (N.length + 1) * m1 * m') = 2 ^ (N.length + 1) * ((1 + Q) * m') * m1 := by
            simp only [Nat.mul_assoc, Nat.mul_comm, Nat.mul_left_comm]
          rw [e9]
          refine Nat.mul_le_mul_right _ ?_
          have hQm : Q * m' ≤ Q * m1 := Nat.mul_le_mul_left _ hym
          rcases List.mem_append.mp hxs with hz | hz
          · have h10 := hmin xs (List.mem_cons_of_mem _ hz)
            refine Nat.mul_le_mul (Nat.pow_le_pow_right (by decide) (by omega)) ?_
            rw [Nat.add_mul, Nat.one_mul]
            omega
          · have hx00 : col g xs = 0 := R.z xs hz
            have hzl : 1 ≤ Z.length := List.length_pos_of_mem hz
            have hp : 2 ^ (N.length + 1) * 2 ≤ 2 ^ so.length := by
              rw [← Nat.pow_succ]
              exact Nat.pow_le_pow_right (by decide) (by omega)
            have hQ1 : m1 ≤ Q * m1 := by
              rw [hx00] at hsum
              omega
            have h11 : (1 + Q) * m' ≤ 2 * t := by
              rw [Nat.add_mul, Nat.one_mul]
              omega
            calc 2 ^ (N.length + 1) * ((1 + Q) * m') ≤ 2 ^ (N.length + 1) * (2 * t) := Nat.mul_le_mul_left _ h11
              _ = 2 ^ (N.length + 1) * 2 * t := by rw [Nat.mul_assoc]
              _ ≤ 2 ^ so.length * t := Nat.mul_le_mul_right _ hp
        rw [Nat.mul_assoc]
        exact Nat.le_trans (Nat.mul_le_mul_left _ h9) hB
/-- what is measured -/
def mass (g : Nat) (so : List (List Int)) : Nat := (so.map fun r => (col g r).natAbs).sum
theorem mass_le {g m : Nat} : ∀ N : List (List Int), (∀ x ∈ N, (col g x).natAbs ≤ m) → mass g N ≤ N.length * m
  | [], _ => by simp [mass]
  | x :: N, h => by
    have h1 := mass_le N fun y hy => h y (List.mem_cons_of_mem _ hy)
    have h2 := h x List.mem_cons_self
    unfold mass at h1 ⊢
    rw [List.map_cons, List.sum_cons, List.length_cons, Nat.succ_mul]
    omega
theorem mass_ge {g m : Nat} : ∀ N : List (List Int), (∀ x ∈ N, m ≤ (col g x).natAbs) → N.length * m ≤ mass g N
  | [], _ => by simp [mass]
  | x :: N, h => by
    have h1 := mass_ge N fun y hy => h y (List.mem_cons_of_mem _ hy)
    have h2 := h x List.mem_cons_self
    unfold mass at h1 ⊢
    rw [List.map_cons, List.sum_cons, List.length_cons, Nat.succ_mul]
    omega
theorem St.lessen {n g c B : Nat} {so done N Z : List (List Int)} {h : List Int} (hs : St n g c B so done) (hl : 2 ≤ so.length) (R : Round g so h N Z) : mass g (h :: N) < mass g so := by
  obtain ⟨M, t, b, _⟩ := hs
  have hh0 : col g h ≠ 0 := b.s h R.hm
  have hso : ∀ r ∈ so, r.length = n := fun r hr => b.r.l r (List.mem_append_left _ hr)
  have hN : ∀ x ∈ N, (col g x).natAbs ≤ (col g h).natAbs - 1 := fun x hx => by
    obtain ⟨r, hr, e⟩ := R.made x (List.mem_append_left _ hx)
    have e2 := sub_col (q := (col g r).fdiv (col g h)) (hso r hr) (hso h R.hm) g
    rw [← e] at e2
    have h1 := dm (col g r) (col g h) hh0
    rw [← e2] at h1
    omega
  have h1 := mass_le N hN
  have h2 := mass_ge so R.least
  have h3 := R.len
  have e : mass g (h :: N) = (col g h).natAbs + mass g N := rfl
  rw [e]
  have hm0 : 1 ≤ (col g h).natAbs := by omega
  generalize (col g h).natAbs = m at *
  rw [← h3] at h2
  have e4 : (N.length + Z.length + 1) * m = N.length * m + Z.length * m + m := by rw [Nat.add_mul, Nat.add_mul, Nat.one_mul]
  have e5 : N.length * (m - 1) + N.length = N.length * m := by
    rw [← Nat.mul_succ]
    congr 1
    omega
  by_cases hN0 : N.length = 0
  · have hZ : 1 ≤ Z.length := by omega
    have : m ≤ Z.length * m := Nat.le_mul_of_pos_left _ hZ
    rw [hN0] at h1 h2 e4 e5
    omega
  · have : 0 ≤ Z.length * m := Nat.zero_le _
    omega
theorem St.rws {n g c B : Nat} {so done : List (List Int)} (hs : St n g c B so done) : Rws n g B (so ++ done) := by
  obtain ⟨M, t, b, q⟩ := hs
  refine b.r.mono ?_
  rcases q with ⟨h1, h2⟩ | ⟨m, ⟨h, hh, e⟩, hm, _, hB⟩
  · refine Nat.le_trans (Nat.le_mul_of_pos_right _ ?_) h2
    have := Nat.mul_le_mul h1 h1
    omega
  · refine Nat.le_trans (Nat.le_mul_of_pos_right _ ?_) hB
    have h1 := b.s h hh
    have h2 := b.tb h hh
    have h3 : 1 ≤ m := by omega
    have h4 : 1 ≤ t := by omega
    exact Nat.mul_pos (Nat.mul_pos (Nat.pow_pos (by decide)) h4) h3
theorem St.basic {n g c B : Nat} {so done : List (List Int)} (hs : St n g c B so done) : (∀ r ∈ so, col g r ≠ 0) ∧ (∀ r ∈ done, col g r = 0) ∧ so.length + done.length ≤ 8 ∧ ∀ r ∈ so, (col g r).natAbs ≤ c := by
  obtain ⟨M, t, b, _⟩ := hs
  exact ⟨b.s, b.d, b.k, fun r hr => Nat.le_trans (b.tb r hr) b.tc⟩
/-- the bits that come -/
def eb : Nat → Nat
  | 0 => 14
  | g + 1 => 3 * eb g + 10
theorem eb_le : ∀ g, g ≤ 5 → eb g ≤ 4612 := by decide
theorem eb_le6 : ∀ g, g ≤ 6 → eb g ≤ 13846 := by decide
theorem St.start {n g : Nat} {left : List (List Int)} (h : Rws n g (2 ^ eb g) left) (hk : left.length ≤ 8) : St n g (2 ^ eb g) (2 ^ eb (g + 1)) (left.filter fun r => decide (col g r ≠ 0)) (left.filter fun r => decide (col g r = 0)) := by
  have hsub : ∀ r ∈ left.filter (fun r => decide (col g r ≠ 0)) ++ left.filter (fun r => decide (col g r = 0)), r ∈ left := fun r hr => by
    rcases List.mem_append.mp hr with q | q
    · exact (List.mem_filter.mp q).1
    · exact (List.mem_filter.mp q).1
  refine ⟨2 ^ eb g, 2 ^ eb g, ⟨h.sub hsub, fun r hr => of_decide_eq_true (List.mem_filter.mp hr).2, fun r hr => of_decide_eq_true (List.mem_filter.mp hr).2, ?_, fun r hr => col_le h (List.mem_filter.mp hr).1 g, Nat.le_refl _⟩, .inl ⟨Nat.pow_pos (by decide), ?_⟩⟩
  · refine Nat.le_trans ?_ hk
    clear hsub h hk
    induction left with
    | nil => simp
    | cons r left ih =>
      by_cases h0 : col g r = 0
      · rw [List.filter_cons_of_neg (by simpa using h0), List.filter_cons_of_pos (by simpa using h0), List.length_cons, List.length_cons]
        omega
      · rw [List.filter_cons_of_pos (by simpa using h0), List.filter_cons_of_neg (by simpa using h0), List.length_cons, List.length_cons]
        omega
  · show 2 ^ eb g * (768 * (2 ^ eb g * 2 ^ eb g)) ≤ 2 ^ (3 * eb g + 10)
    have : 2 ^ (3 * eb g + 10) = 2 ^ eb g * (1024 * (2 ^ eb g * 2 ^ eb g)) := by
      rw [show 3 * eb g + 10 = eb g + (10 + (eb g + eb g)) by omega, Nat.pow_add, Nat.pow_add, Nat.pow_add]
    rw [this]
    exact Nat.mul_le_mul_left _ (Nat.mul_le_mul_right _ (by decide))
end Stairs
set_option exponentiation.threshold 100000
/-! Whole sums of rows; stairs, and that there is just one list of them. -/
namespace Stairs
/-- a row as a function -/
abbrev fn_ (r : List Int) : Nat → Int := fun j => col j r
def In : List (List Int) → (Nat → Int) → Prop
  | [], v => ∀ j, v j = 0
  | r :: rs, v => ∃ q : Int, In rs fun j => v j - q * col j r
theorem In.congr : ∀ {A : List (List Int)} {v w : Nat → Int}, In A v → (∀ j, v j = w j) → In A w
  | [], v, w, h, e => fun j => by rw [← e j]; exact h j
  | r :: rs, v, w, ⟨q, h⟩, e => ⟨q, In.congr h fun j => by rw [e j]⟩
theorem In.zero : ∀ (A : List (List Int)), In A fun _ => 0
  | [] => fun _ => rfl
  | r :: rs => ⟨0, In.congr (In.zero rs) fun j => by rw [Int.zero_mul]; rfl⟩
theorem In.lin : ∀ {A : List (List Int)} {v w : Nat → Int} (q : Int), In A v → In A w → In A fun j => v j - q * w j
  | [], v, w, q, h, g => fun j => by
    show v j - q * w j = 0
    rw [h j, g j, Int.mul_zero]
    rfl
  | r :: rs, v, w, q, ⟨q1, h⟩, ⟨q2, g⟩ => ⟨q1 - q * q2, In.congr (In.lin q h g) fun j => by grind⟩
theorem In.neg {A : List (List Int)} {v : Nat → Int} (h : In A v) : In A fun j => - v j := (In.lin 1 (In.zero A) h).congr fun j => by omega
theorem In.add {A : List (List Int)} {v w : Nat → Int} (h : In A v) (g : In A w) : In A fun j => v j + w j := (In.lin (-1) h g).congr fun j => by omega
theorem In.mul {A : List (List Int)} {v : Nat → Int} (q : Int) (h : In A v) : In A fun j => q * v j := (In.lin (-q) (In.zero A) h).congr fun j => by grind
theorem In.mem : ∀ {A : List (List Int)} {r : List Int}, r ∈ A → In A (fn_ r)
  | s :: rs, r, h => by
    rcases List.mem_cons.mp h with rfl | h
    · exact ⟨1, (In.zero rs).congr fun j => by show 0 = col j r - 1 * col j r; omega⟩
    · exact ⟨0, (In.mem h).congr fun j => by show col j r = col j r - 0 * col j s; omega⟩
theorem In.sub : ∀ {A B : List (List Int)} {v : Nat → Int}, In A v → (∀ r ∈ A, In B (fn_ r)) → In B v
  | [], B, v, h, _ => (In.zero B).congr fun j => (h j).symm
  | r :: rs, B, v, ⟨q, h⟩, g => by
    have h1 := In.sub (B := B) h fun s hs => g s (List.mem_cons_of_mem _ hs)
    refine (In.lin (-q) h1 (g r List.mem_cons_self)).congr fun j => ?_
    show v j - q * col j r - -q * col j r = v j
    grind
theorem In.nil {A : List (List Int)} {j : Nat} : ∀ {v : Nat → Int}, In A v → (∀ r ∈ A, col j r = 0) → v j = 0 := by
  induction A with
  | nil => exact fun h _ => h j
  | cons r rs ih =>
    intro v ⟨q, h⟩ g
    have := ih h fun s hs => g s (List.mem_cons_of_mem _ hs)
    have h0 := g r List.mem_cons_self
    have this : v j - q * col j r = 0 := this
    rw [h0, Int.mul_zero] at this
    omega
/-- the same whole sums -/
def Eqv (A B : List (List Int)) : Prop := (∀ r ∈ A, In B (fn_ r)) ∧ ∀ r ∈ B, In A (fn_ r)
theorem Eqv.refl (A : List (List Int)) : Eqv A A := ⟨fun r hr => In.mem hr, fun r hr => In.mem hr⟩
theorem Eqv.symm {A B : List (List Int)} (h : Eqv A B) : Eqv B A := ⟨h.2, h.1⟩
theorem Eqv.trans {A B C : List (List Int)} (h : Eqv A B) (g : Eqv B C) : Eqv A C := ⟨fun r hr => (h.1 r hr).sub g.1, fun r hr => (g.2 r hr).sub h.2⟩
theorem Eqv.iff {A B : List (List Int)} (h : Eqv A B) (v : Nat → Int) : In A v ↔ In B v := ⟨fun z => z.sub h.1, fun z => z.sub h.2⟩
theorem Eqv.perm {A B : List (List Int)} (h : ∀ r, r ∈ A ↔ r ∈ B) : Eqv A B := ⟨fun r hr => In.mem ((h r).mp hr), fun r hr => In.mem ((h r).mpr hr)⟩
theorem In.left {A B : List (List Int)} {v : Nat → Int} (h : In A v) : In (A ++ B) v := h.sub fun r hr => In.mem (List.mem_append_left _ hr)
theorem In.right {A B : List (List Int)} {v : Nat → Int} (h : In B v) : In (A ++ B) v := h.sub fun r hr => In.mem (List.mem_append_right _ hr)
theorem Eqv.append {A B C E : List (List Int)} (h : Eqv A B) (g : Eqv C E) : Eqv (A ++ C) (B ++ E) := by
  constructor
  · intro r hr
    rcases List.mem_append.mp hr with z | z
    · exact (h.1 r z).left
    · exact (g.1 r z).right
  · intro r hr
    rcases List.mem_append.mp hr with z | z
    · exact (h.2 r z).left
    · exact (g.2 r z).right
/-! ### stairs -/
/-- the place of the first number that is not 0 -/
def hd (r : List Int) : Nat := r.findIdx fun x => decide (x ≠ 0)
theorem hd_ahead {r : List Int} {j : Nat} (h : j < hd r) : col j r = 0 := by
  unfold col
  rw [List.getD_eq_getElem?_getD]
  cases e : r[j]? with
  | none => rfl
  | some x =>
    obtain ⟨hj, e2⟩ := List.getElem?_eq_some_iff.mp e
    have := List.not_of_lt_findIdx (p := fun x : Int => decide (x ≠ 0)) h
    rw [e2] at this
    simpa using this
theorem hd_eq {r : List Int} {g : Nat} (h0 : col g r ≠ 0) (hz : ∀ j, j < g → col j r = 0) : hd r = g := by
  rcases Nat.lt_trichotomy (hd r) g with h | h | h
  · have hl : hd r < r.length := by
      have h1 : g < r.length := by
        rcases Nat.lt_or_ge g r.length with z | z
        · exact z
        · refine absurd ?_ h0
          unfold col
          rw [List.getD_eq_getElem?_getD, List.getElem?_eq_none z]
          rfl
      omega
    have h2 := List.findIdx_getElem (p := fun x : Int => decide (x ≠ 0)) (w := hl)
    have h3 := hz _ h
    unfold col at h3
    rw [List.getD_eq_getElem?_getD, List.getElem?_eq_getElem hl] at h3
    have h4 : r[hd r] = 0 := h3
    exact absurd h4 (of_decide_eq_true h2)
  · exact h
  · exact absurd (hd_ahead h) h0
/-- a row ahead of another one in stairs -/
def Step (r s : List Int) : Prop := (∀ j, j ≤ hd r → col j s = 0) ∧ 0 ≤ col (hd s) r ∧ col (hd s) r < col (hd s) s
structure Ech (A : List (List Int)) : Prop where
  p : ∀ r ∈ A, 0 < col (hd r) r
  s : A.Pairwise Step
theorem Ech.tail {r : List Int} {A : List (List Int)} (h : Ech (r :: A)) : Ech A := ⟨fun s hs => h.p s (List.mem_cons_of_mem _ hs), (List.pairwise_cons.mp h.s).2⟩
theorem Ech.head {r : List Int} {A : List (List Int)} (h : Ech (r :: A)) : ∀ s ∈ A, Step r s := (List.pairwise_cons.mp h.s).1
/-- what is small at all heads, and a whole sum, is noughts -/
theorem Ech.small : ∀ {A : List (List Int)} {v : Nat → Int}, Ech A → In A v → (∀ r ∈ A, (v (hd r)).natAbs < (col (hd r) r).natAbs) → ∀ j, v j = 0
  | [], v, _, h, _ => h
  | r :: A, v, e, ⟨q, h⟩, hs => by
    have h1 : (v (hd r) - q * col (hd r) r) = 0 := In.nil (j := hd r) h fun s hs => (e.head s hs).1 _ (Nat.le_refl _)
    have h2 := hs r List.mem_cons_self
    have h3 : q = 0 := by
      have e1 : v (hd r) = q * col (hd r) r := by omega
      rw [e1, Int.natAbs_mul] at h2
      by_cases z : q.natAbs = 0
      · omega
      · have : (col (hd r) r).natAbs ≤ q.natAbs * (col (hd r) r).natAbs := Nat.le_mul_of_pos_left _ (by omega)
        omega
    subst h3
    refine Ech.small e.tail (h.congr fun j => by omega) fun s hs2 => hs s (List.mem_cons_of_mem _ hs2)
/-- a whole sum that is 0 up to the first head wants the first row no times -/
theorem Ech.behind {r : List Int} {A : List (List Int)} {v : Nat → Int} (e : Ech (r :: A)) (h : In (r :: A) v) (h0 : v (hd r) = 0) : In A v := by
  obtain ⟨q, h⟩ := h
  have h1 : (v (hd r) - q * col (hd r) r) = 0 := In.nil (j := hd r) h fun s hs => (e.head s hs).1 _ (Nat.le_refl _)
  have hp := e.p r List.mem_cons_self
  have h3 : q = 0 := by
    rw [h0] at h1
    have : q * col (hd r) r = 0 := by omega
    rcases Int.mul_eq_zero.mp this with z | z
    · exact z
    · omega
  subst h3
  exact h.congr fun j => by omega
theorem Ech.first {r s : List Int} {A B : List (List Int)} (ea : Ech (r :: A)) (eb : Ech (s :: B)) (h : In (s :: B) (fn_ r)) : hd s ≤ hd r := by
  rcases Nat.lt_or_ge (hd r) (hd s) with z | z
  · have := In.nil (j := hd r) h fun t ht => by
      rcases List.mem_cons.mp ht with rfl | ht
      · exact hd_ahead z
      · exact (eb.head t ht).1 _ (Nat.le_of_lt z)
    have hp := ea.p r List.mem_cons_self
    have this : col (hd r) r = 0 := this
    omega
  · exact z
theorem Ech.times {r s : List Int} {A B : List (List Int)} (ea : Ech (r :: A)) (eb : Ech (s :: B)) (h : In (s :: B) (fn_ r)) (e : hd r = hd s) : ∃ q : Int, 1 ≤ q ∧ col (hd s) r = q * col (hd s) s := by
  obtain ⟨q, h⟩ := h
  have h1 : (col (hd s) r - q * col (hd s) s) = 0 := In.nil (j := hd s) h fun t ht => (eb.head t ht).1 _ (Nat.le_refl _)
  have hp := ea.p r List.mem_cons_self
  have hq := eb.p s List.mem_cons_self
  rw [e] at hp
  refine ⟨q, ?_, by omega⟩
  have e1 : col (hd s) r = q * col (hd s) s := by omega
  rw [e1] at hp
  have := Int.pos_of_mul_pos_left hp hq
  omega
theorem row_ext {n : Nat} {r s : List Int} (h1 : r.length = n) (h2 : s.length = n) (e : ∀ j, col j r = col j s) : r = s := by
  refine List.ext_getElem (by omega) fun i hi hi2 => ?_
  have := e i
  unfold col at this
  rw [List.getD_eq_getElem?_getD, List.getD_eq_getElem?_getD, List.getElem?_eq_getElem hi, List.getElem?_eq_getElem hi2] at this
  exact this
/-- ONE list of stairs has the same whole sums -/
theorem Ech.unique {n : Nat} : ∀ {A B : List (List Int)}, Ech A → Ech B → (∀ r ∈ A, r.length = n) → (∀ r ∈ B, r.length = n) → Eqv A B → A = B
  | [], [], _, _, _, _, _ => rfl
  | [], s :: B, _, eb, _, _, h => by
    have := h.2 s List.mem_cons_self (hd s)
    have hq := eb.p s List.mem_cons_self
    have this : col (hd s) s = 0 := this
    omega
  | r :: A, [], ea, _, _, _, h => by
    have := h.1 r List.mem_cons_self (hd r)
    have hq := ea.p r List.mem_cons_self
    have this : col (hd r) r = 0 := this
    omega
  | r :: A, s :: B, ea, eb, la, lb, h => by
    have hr := h.1 r List.mem_cons_self
    have hs := h.2 s List.mem_cons_self
    have e : hd r = hd s := Nat.le_antisymm (Ech.first eb ea hs) (Ech.first ea eb hr)
    obtain ⟨q1, g1, t1⟩ := Ech.times ea eb hr e
    obtain ⟨q2, g2, t2⟩ := Ech.times eb ea hs e.symm
    rw [e] at t2
    have hq := eb.p s List.mem_cons_self
    have ep : col (hd s) r = col (hd s) s := by
      have hle1 : col (hd s) s ≤ col (hd s) r := by
        rw [t1]
        have := Int.mul_le_mul_of_nonneg_right g1 (Int.le_of_lt hq)
        omega
      have hp : 0 < col (hd s) r := by omega
      have hle2 : col (hd s) r ≤ col (hd s) s := by
        rw [t2]
        have := Int.mul_le_mul_of_nonneg_right g2 (Int.le_of_lt hp)
        omega
      omega
    have hAB : A = B := by
      refine Ech.unique ea.tail eb.tail (fun t ht => la t (List.mem_cons_of_mem _ ht)) (fun t ht => lb t (List.mem_cons_of_mem _ ht)) ⟨fun t ht => ?_, fun t ht => ?_⟩
      · exact Ech.behind eb (h.1 t (List.mem_cons_of_mem _ ht)) ((ea.head t ht).1 _ (by omega))
      · exact Ech.behind ea (h.2 t (List.mem_cons_of_mem _ ht)) ((eb.head t ht).1 _ (by omega))
    subst hAB
    have hd0 : In (r :: A) fun j => col j r - 1 * col j s := In.lin 1 (In.mem List.mem_cons_self) hs
    have hz := Ech.behind ea hd0 (by rw [e]; show col (hd s) r - 1 * col (hd s) s = 0; omega)
    have hsm := Ech.small ea.tail hz fun t ht => by
      have h1 := (ea.head t ht).2
      have h2 := (eb.head t ht).2
      show (col (hd t) r - 1 * col (hd t) s).natAbs < _
      omega
    rw [row_ext (la r List.mem_cons_self) (lb s List.mem_cons_self) fun j => by have := hsm j; omega]
theorem sub_hd {m : Nat} {r x : List Int} {q : Int} (hr : r.length = m) (hx : x.length = m) (h0 : col (hd r) r ≠ 0) (h : hd r < hd x) : hd (sub r x q) = hd r ∧ col (hd r) (sub r x q) = col (hd r) r := by
  have c := fun j => sub_col (q := q) hr hx j
  have e : ∀ j, j ≤ hd r → col j (sub r x q) = col j r := fun j hj => by
    rw [c j, hd_ahead (r := x) (by omega)]
    omega
  exact ⟨hd_eq (by rw [e _ (Nat.le_refl _)]; exact h0) fun j hj => by rw [e j (by omega)]; exact hd_ahead hj, e _ (Nat.le_refl _)⟩
/-! ### rounds keep the whole sums -/
theorem Round.eqv {n g : Nat} {so N Z : List (List Int)} {h : List Int} (R : Round g so h N Z) (hl : ∀ r ∈ so, r.length = n) (done : List (List Int)) : Eqv (so ++ done) ((h :: N) ++ (done ++ Z)) := by
  have up : ∀ x, x ∈ N ++ Z → x ∈ (h :: N) ++ (done ++ Z) := fun x hx => by
    simp only [List.mem_append, List.mem_cons] at hx ⊢
    rcases hx with q | q
    · exact .inl (.inr q)
    · exact .inr (.inr q)
  have hh : h ∈ (h :: N) ++ (done ++ Z) := by simp
  have e : ∀ r ∈ so, ∀ j, col j (sub r h ((col g r).fdiv (col g h))) = col j r - (col g r).fdiv (col g h) * col j h := fun r hr j => sub_col (hl r hr) (hl h R.hm) j
  constructor
  · intro r hr
    rcases List.mem_append.mp hr with q | q
    · rcases R.back r q with rfl | z
      · exact In.mem hh
      · refine (In.lin (-((col g r).fdiv (col g h))) (In.mem (up _ z)) (In.mem hh)).congr fun j => ?_
        have := e r q j
        simp only [fn_]
        grind
    · exact In.mem (by simp [q])
  · intro x hx
    have hx2 : x = h ∨ x ∈ N ++ Z ∨ x ∈ done := by
      simp only [List.mem_append, List.mem_cons] at hx ⊢
      rcases hx with (q | q) | q | q
      · exact .inl q
      · exact .inr (.inl (.inl q))
      · exact .inr (.inr q)
      · exact .inr (.inl (.inr q))
    rcases hx2 with rfl | z | z
    · exact In.mem (List.mem_append_left _ R.hm)
    · obtain ⟨r, hr, rfl⟩ := R.made x z
      refine (In.lin ((col g r).fdiv (col g h)) (In.mem (List.mem_append_left done hr)) (In.mem (List.mem_append_left done R.hm))).congr fun j => ?_
      have := e r hr j
      simp only [fn_]
      omega
    · exact In.mem (List.mem_append_right _ z)
/-- those found, lessened by the next one, and the next one -/
theorem Ech.snoc {n g : Nat} {fd : List (List Int)} {x : List Int} (e : Ech fd) (hl : ∀ r ∈ fd, r.length = n) (hx : x.length = n) (hg : ∀ r ∈ fd, hd r < g) (h0 : 0 < col g x) (hz : ∀ j, j < g → col j x = 0) :
    Ech (fd.map (fun r => sub r x ((col g r).fdiv (col g x))) ++ [x]) ∧ ∀ r ∈ fd.map (fun r => sub r x ((col g r).fdiv (col g x))) ++ [x], hd r ≤ g := by
  have hxh : hd x = g := hd_eq (by omega) hz
  have c : ∀ r ∈ fd, ∀ j, col j (sub r x ((col g r).fdiv (col g x))) = col j r - (col g r).fdiv (col g x) * col j x := fun r hr j => sub_col (hl r hr) hx j
  have lo : ∀ r ∈ fd, ∀ j, j < g → col j (sub r x ((col g r).fdiv (col g x))) = col j r := fun r hr j hj => by
    rw [c r hr j, hz j hj]
    omega
  have hh : ∀ r ∈ fd, hd (sub r x ((col g r).fdiv (col g x))) = hd r := fun r hr => by
    have hp := e.p r hr
    have hlt := hg r hr
    refine hd_eq ?_ fun j hj => ?_
    · rw [lo r hr _ hlt]
      omega
    · rw [lo r hr j (by omega)]
      exact hd_ahead hj
  refine ⟨⟨fun r hr => ?_, ?_⟩, fun r hr => ?_⟩
  · rcases List.mem_append.mp hr with q | q
    · obtain ⟨s, hs, rfl⟩ := List.mem_map.mp q
      rw [hh s hs, lo s hs _ (hg s hs)]
      exact e.p s hs
    · rw [show r = x by simpa using q, hxh]
      exact h0
  · rw [List.pairwise_append]
    refine ⟨?_, List.pairwise_singleton _ _, fun a ha b hb => ?_⟩
    · rw [List.pairwise_map]
      refine List.Pairwise.imp_of_mem (fun {a b} ha hb st => ?_) e.s
      have hga := hg a ha
      have hgb := hg b hb
      unfold Step
      rw [hh a ha, hh b hb, lo a ha _ hgb, lo b hb _ hgb]
      exact ⟨fun j hj => by rw [lo b hb j (by omega)]; exact st.1 j hj, st.2⟩
    · obtain ⟨s, hs, rfl⟩ := List.mem_map.mp ha
      rw [show b = x by simpa using hb]
      have hgs := hg s hs
      unfold Step
      rw [hh s hs, hxh, c s hs g]
      have := dm (col g s) (col g x) (by omega)
      refine ⟨fun j hj => hz j (by omega), this.2.1 h0, ?_⟩
      have h3 := this.2.1 h0
      omega
  · rcases List.mem_append.mp hr with q | q
    · obtain ⟨s, hs, rfl⟩ := List.mem_map.mp q
      rw [hh s hs]
      exact Nat.le_of_lt (hg s hs)
    · rw [show r = x by simpa using q, hxh]
      exact Nat.le_refl _
theorem snoc_eqv {n : Nat} {fd left : List (List Int)} {x : List Int} (q : List Int → Int) (hl : ∀ r ∈ fd, r.length = n) (hx : x.length = n) : Eqv (fd ++ (x :: left)) ((fd.map (fun r => sub r x (q r)) ++ [x]) ++ left) := by
  have c : ∀ r ∈ fd, ∀ j, col j (sub r x (q r)) = col j r - q r * col j x := fun r hr j => sub_col (hl r hr) hx j
  have hx2 : x ∈ (fd.map (fun r => sub r x (q r)) ++ [x]) ++ left := by simp
  have hx1 : x ∈ fd ++ (x :: left) := by simp
  constructor
  · intro r hr
    simp only [List.mem_append, List.mem_cons] at hr
    rcases hr with z | rfl | z
    · refine (In.lin (-(q r)) (In.mem (List.mem_append_left _ (List.mem_append_left _ (List.mem_map_of_mem z)))) (In.mem hx2)).congr fun j => ?_
      have := c r z j
      simp only [fn_]
      grind
    · exact In.mem hx2
    · exact In.mem (List.mem_append_right _ z)
  · intro r hr
    simp only [List.mem_append, List.mem_cons, List.mem_map, List.not_mem_nil, or_false] at hr
    rcases hr with (⟨s, hs, rfl⟩ | rfl) | z
    · refine (In.lin (q s) (In.mem (List.mem_append_left _ hs)) (In.mem hx1)).congr fun j => ?_
      have := c s hs j
      simp only [fn_]
      omega
    · exact In.mem hx1
    · exact In.mem (by simp [z])
end Stairs
set_option exponentiation.threshold 100000
/-! A round in place: all rows but one are lessened by it. -/
namespace Stairs
abbrev nz (g : Nat) (es : List (List Int)) : List (List Int) := es.filter fun r => decide (col g r ≠ 0)
abbrev zz (g : Nat) (es : List (List Int)) : List (List Int) := es.filter fun r => decide (col g r = 0)
theorem mem_nz {g : Nat} {es : List (List Int)} {r : List Int} : r ∈ nz g es ↔ r ∈ es ∧ col g r ≠ 0 := by
  rw [List.mem_filter, decide_eq_true_eq]
theorem mem_zz {g : Nat} {es : List (List Int)} {r : List Int} : r ∈ zz g es ↔ r ∈ es ∧ col g r = 0 := by
  rw [List.mem_filter, decide_eq_true_eq]
theorem nz_cons {g : Nat} {r : List Int} {es : List (List Int)} (h : col g r ≠ 0) : nz g (r :: es) = r :: nz g es := List.filter_cons_of_pos (by simpa using h)
theorem nz_cons0 {g : Nat} {r : List Int} {es : List (List Int)} (h : col g r = 0) : nz g (r :: es) = nz g es := List.filter_cons_of_neg (by simpa using h)
theorem zz_cons {g : Nat} {r : List Int} {es : List (List Int)} (h : col g r = 0) : zz g (r :: es) = r :: zz g es := List.filter_cons_of_pos (by simpa using h)
theorem zz_cons0 {g : Nat} {r : List Int} {es : List (List Int)} (h : col g r ≠ 0) : zz g (r :: es) = zz g es := List.filter_cons_of_neg (by simpa using h)
theorem St.of {n g c B : Nat} {so done so' done' : List (List Int)} (h : St n g c B so done) (h1 : ∀ r, r ∈ so' ↔ r ∈ so) (h2 : ∀ r, r ∈ done' ↔ r ∈ done) (l1 : so'.length = so.length) (l2 : done'.length = done.length) : St n g c B so' done' := by
  obtain ⟨M, t, b, q⟩ := h
  have hm : ∀ r ∈ so' ++ done', r ∈ so ++ done := fun r hr => by
    rcases List.mem_append.mp hr with z | z
    · exact List.mem_append_left _ ((h1 r).mp z)
    · exact List.mem_append_right _ ((h2 r).mp z)
  refine ⟨M, t, ⟨b.r.sub hm, fun r hr => b.s r ((h1 r).mp hr), fun r hr => b.d r ((h2 r).mp hr), by rw [l1, l2]; exact b.k, fun r hr => b.tb r ((h1 r).mp hr), b.tc⟩, ?_⟩
  rcases q with q | ⟨m, ⟨x, hx, e⟩, hmin, hs, hB⟩
  · exact .inl q
  · refine .inr ⟨m, ⟨x, (h1 x).mpr hx, e⟩, fun r hr => hmin r ((h1 r).mp hr), ?_, by rw [l1]; exact hB⟩
    rcases hs with hs | hs
    · exact .inl fun r hr => hs r ((h1 r).mp hr)
    · exact .inr fun r hr => hs r ((h1 r).mp hr)
theorem sub_zero {n : Nat} {r h : List Int} (h1 : r.length = n) (h2 : h.length = n) : sub r h 0 = r :=
  row_ext (sub_len h1 h2) h1 fun j => by rw [sub_col h1 h2]; omega
section
variable {g : Nat} {f : List Int → List Int}
theorem fil_less : ∀ {O : List (List Int)}, (∀ e ∈ O, col g e = 0 → f e = e) → nz g (O.map f) = nz g ((nz g O).map f) ∧ (∀ r, r ∈ zz g (O.map f) ↔ r ∈ zz g O ∨ r ∈ zz g ((nz g O).map f)) ∧ (zz g (O.map f)).length = (zz g O).length + (zz g ((nz g O).map f)).length
  | [], _ => ⟨rfl, by simp, rfl⟩
  | e :: O, hf => by
    obtain ⟨h1, h2, h3⟩ := fil_less fun x hx => hf x (List.mem_cons_of_mem _ hx)
    by_cases h0 : col g e = 0
    · have e1 := hf e List.mem_cons_self h0
      rw [List.map_cons, e1, nz_cons0 h0, nz_cons0 h0, zz_cons h0, zz_cons h0]
      refine ⟨h1, fun r => ?_, by rw [List.length_cons, List.length_cons, h3]; omega⟩
      rw [List.mem_cons, List.mem_cons, h2 r, or_assoc]
    · rw [List.map_cons, nz_cons h0, zz_cons0 h0, List.map_cons]
      by_cases h4 : col g (f e) = 0
      · rw [nz_cons0 h4, nz_cons0 h4, zz_cons h4, zz_cons h4]
        refine ⟨h1, fun r => ?_, by rw [List.length_cons, List.length_cons, h3]; omega⟩
        rw [List.mem_cons, List.mem_cons, h2 r]
        constructor
        · rintro (z | z | z)
          · exact .inr (.inl z)
          · exact .inl z
          · exact .inr (.inr z)
        · rintro (z | z | z)
          · exact .inr (.inl z)
          · exact .inl z
          · exact .inr (.inr z)
      · rw [nz_cons h4, nz_cons h4, zz_cons0 h4, zz_cons0 h4, h1]
        exact ⟨rfl, h2, h3⟩
end
theorem mass_app (g : Nat) (A B : List (List Int)) : mass g (A ++ B) = mass g A + mass g B := by
  unfold mass
  rw [List.map_append, List.sum_append]
theorem mass_cons (g : Nat) (e : List Int) (A : List (List Int)) : mass g (e :: A) = (col g e).natAbs + mass g A := rfl
theorem mass_nz (g : Nat) : ∀ A : List (List Int), mass g (nz g A) = mass g A
  | [] => rfl
  | e :: A => by
    have ih := mass_nz g A
    by_cases h0 : col g e = 0
    · rw [nz_cons0 h0, ih]
      show _ = (col g e).natAbs + mass g A
      rw [h0]
      exact (Nat.zero_add _).symm
    · rw [nz_cons h0]
      show (col g e).natAbs + mass g (nz g A) = (col g e).natAbs + mass g A
      rw [ih]
/-- all but the row h lessened by it -/
def lessR (g : Nat) (h : List Int) (e : List Int) : List Int := sub e h ((col g e).fdiv (col g h))
def lessA (g : Nat) (A : List (List Int)) (h : List Int) (C : List (List Int)) : List (List Int) := A.map (lessR g h) ++ h :: C.map (lessR g h)
theorem less_round {n g c B : Nat} {A C : List (List Int)} {h : List Int} (hs : St n g c B (nz g (A ++ h :: C)) (zz g (A ++ h :: C))) (h0 : col g h ≠ 0) (hmin : ∀ e ∈ A ++ h :: C, col g e ≠ 0 → (col g h).natAbs ≤ (col g e).natAbs) (h2 : ∃ e ∈ A ++ C, col g e ≠ 0) :
    St n g c B (nz g (lessA g A h C)) (zz g (lessA g A h C)) ∧ mass g (lessA g A h C) < mass g (A ++ h :: C) ∧ Eqv (A ++ h :: C) (lessA g A h C) := by
  have hr := hs.rws
  have hlen : ∀ e ∈ A ++ h :: C, e.length = n := fun e he => by
    refine hr.l e ?_
    by_cases q : col g e = 0
    · exact List.mem_append_right _ (mem_zz.mpr ⟨he, q⟩)
    · exact List.mem_append_left _ (mem_nz.mpr ⟨he, q⟩)
  have hh : h.length = n := hlen h (by simp)
  have hO : ∀ e ∈ A ++ C, e ∈ A ++ h :: C := fun e he => by
    simp only [List.mem_append, List.mem_cons] at he ⊢
    rcases he with z | z
    · exact .inl z
    · exact .inr (.inr z)
  have hf : ∀ e ∈ A ++ C, col g e = 0 → lessR g h e = e := fun e he z => by
    unfold lessR
    rw [z, Int.zero_fdiv]
    exact sub_zero (hlen e (hO e he)) hh
  obtain ⟨f1, f2, f3⟩ := fil_less hf
  have enz : nz g (A ++ h :: C) = nz g A ++ h :: nz g C := by
    show List.filter _ _ = _
    rw [List.filter_append]
    exact congrArg _ (nz_cons h0)
  have ezz : zz g (A ++ h :: C) = zz g (A ++ C) := by
    show List.filter _ _ = List.filter _ _
    rw [List.filter_append, List.filter_append]
    exact congrArg _ (zz_cons0 h0)
  have enO : nz g (A ++ C) = nz g A ++ nz g C := List.filter_append _ _
  have hmap : (A ++ C).map (lessR g h) = A.map (lessR g h) ++ C.map (lessR g h) := List.map_append
  -- the round
  have R : Round g (nz g (A ++ h :: C)) h (nz g ((nz g (A ++ C)).map (lessR g h))) (zz g ((nz g (A ++ C)).map (lessR g h))) := by
    have hso : ∀ r, r ∈ nz g (A ++ C) → r ∈ nz g (A ++ h :: C) := fun r hr => mem_nz.mpr ⟨hO r (mem_nz.mp hr).1, (mem_nz.mp hr).2⟩
    refine ⟨mem_nz.mpr ⟨by simp, h0⟩, fun r hr => hmin r (mem_nz.mp hr).1 (mem_nz.mp hr).2, ?_, fun x hx => ?_, fun x hx => (mem_nz.mp hx).2, fun x hx => (mem_zz.mp hx).2, fun r hr => ?_⟩
    · have : ∀ L : List (List Int), (nz g L).length + (zz g L).length = L.length := fun L => by
        induction L with
        | nil => rfl
        | cons e L ih =>
          by_cases q : col g e = 0
          · rw [nz_cons0 q, zz_cons q, List.length_cons, List.length_cons]; omega
          · rw [nz_cons q, zz_cons0 q, List.length_cons, List.length_cons]; omega
      rw [this, List.length_map, enO, enz, List.length_append, List.length_append, List.length_cons]
      omega
    · have : x ∈ (nz g (A ++ C)).map (lessR g h) := by
        rcases List.mem_append.mp hx with z | z
        · exact (mem_nz.mp z).1
        · exact (mem_zz.mp z).1
      obtain ⟨r, hr, rfl⟩ := List.mem_map.mp this
      exact ⟨r, hso r hr, rfl⟩
    · have : r = h ∨ r ∈ nz g (A ++ C) := by
        rw [enz] at hr
        rw [enO]
        simp only [List.mem_append, List.mem_cons] at hr ⊢
        rcases hr with z | z | z
        · exact .inr (.inl z)
        · exact .inl z
        · exact .inr (.inr z)
      rcases this with z | z
      · exact .inl z
      · refine .inr ?_
        have hm := List.mem_map_of_mem (f := lessR g h) z
        by_cases q : col g (lessR g h r) = 0
        · exact List.mem_append_right _ (mem_zz.mpr ⟨hm, q⟩)
        · exact List.mem_append_left _ (mem_nz.mpr ⟨hm, q⟩)
  have hl2 : 2 ≤ (nz g (A ++ h :: C)).length := by
    obtain ⟨e, he, q⟩ := h2
    have : 0 < (nz g (A ++ C)).length := List.length_pos_of_mem (mem_nz.mpr ⟨he, q⟩)
    rw [enO, List.length_append] at this
    rw [enz, List.length_append, List.length_cons]
    omega
  have s1 := hs.round hl2 R
  have m1 := hs.lessen hl2 R
  have e1 : nz g (lessA g A h C) = nz g (A.map (lessR g h)) ++ h :: nz g (C.map (lessR g h)) := by
    show List.filter _ (A.map (lessR g h) ++ h :: C.map (lessR g h)) = _
    rw [List.filter_append]
    exact congrArg _ (nz_cons h0)
  have e2 : zz g (lessA g A h C) = zz g ((A ++ C).map (lessR g h)) := by
    show List.filter _ (A.map (lessR g h) ++ h :: C.map (lessR g h)) = List.filter _ _
    rw [hmap, List.filter_append, List.filter_append]
    exact congrArg _ (zz_cons0 h0)
  have e3 : nz g ((nz g (A ++ C)).map (lessR g h)) = nz g (A.map (lessR g h)) ++ nz g (C.map (lessR g h)) := by
    rw [← f1, hmap]
    exact List.filter_append _ _
  refine ⟨s1.of (fun r => ?_) (fun r => ?_) ?_ ?_, ?_, ?_⟩
  · rw [e1, e3]
    simp only [List.mem_append, List.mem_cons]
    constructor
    · rintro (z | z | z)
      · exact .inr (.inl z)
      · exact .inl z
      · exact .inr (.inr z)
    · rintro (z | z | z)
      · exact .inr (.inl z)
      · exact .inl z
      · exact .inr (.inr z)
  · rw [e2, f2 r, ezz, List.mem_append]
  · rw [e1, e3, List.length_append, List.length_cons, List.length_cons, List.length_append]
    omega
  · rw [e2, f3, ezz, List.length_append]
  · rw [← mass_nz g (A ++ h :: C)]
    refine Nat.lt_of_le_of_lt (Nat.le_of_eq ?_) m1
    rw [← mass_nz, e1, e3, mass_app, mass_cons, mass_cons, mass_app]
    omega
  · have c : ∀ e ∈ A ++ C, ∀ j, col j (lessR g h e) = col j e - (col g e).fdiv (col g h) * col j h := fun e he j => sub_col (hlen e (hO e he)) hh j
    have hh1 : h ∈ A ++ h :: C := by simp
    have hh2 : h ∈ lessA g A h C := by unfold lessA; simp
    have up : ∀ e ∈ A ++ C, lessR g h e ∈ lessA g A h C := fun e he => by
      unfold lessA
      rcases List.mem_append.mp he with z | z
      · exact List.mem_append_left _ (List.mem_map_of_mem z)
      · exact List.mem_append_right _ (List.mem_cons_of_mem _ (List.mem_map_of_mem z))
    constructor
    · intro r hr
      have : r = h ∨ r ∈ A ++ C := by
        simp only [List.mem_append, List.mem_cons] at hr ⊢
        rcases hr with z | z | z
        · exact .inr (.inl z)
        · exact .inl z
        · exact .inr (.inr z)
      rcases this with rfl | z
      · exact In.mem hh2
      · refine (In.lin (-((col g r).fdiv (col g h))) (In.mem (up r z)) (In.mem hh2)).congr fun j => ?_
        have := c r z j
        simp only [fn_]
        grind
    · intro x hx
      have : x = h ∨ ∃ e ∈ A ++ C, x = lessR g h e := by
        unfold lessA at hx
        simp only [List.mem_append, List.mem_cons, List.mem_map] at hx
        rcases hx with ⟨e, he, rfl⟩ | z | ⟨e, he, rfl⟩
        · exact .inr ⟨e, List.mem_append_left _ he, rfl⟩
        · exact .inl z
        · exact .inr ⟨e, List.mem_append_right _ he, rfl⟩
      rcases this with rfl | ⟨e, he, rfl⟩
      · exact In.mem hh1
      · refine (In.lin ((col g e).fdiv (col g h)) (In.mem (hO e he)) (In.mem hh1)).congr fun j => ?_
        have := c e he j
        simp only [fn_]
        omega
end Stairs
set_option exponentiation.threshold 100000
/-! Rounds again, with a finer measure: the square of the rows, the square of what was the head, the head. -/
namespace Stairs
structure Bas (n g c B T : Nat) (so done : List (List Int)) (M t : Nat) : Prop where
  r : Rws n g M so
  r2 : Rws n g B done
  s : ∀ r ∈ so, col g r ≠ 0
  d : ∀ r ∈ done, col g r = 0
  k : so.length + done.length = T
  tb : ∀ r ∈ so, (col g r).natAbs ≤ t
  tc : t ≤ c
def Ons (g B : Nat) (so : List (List Int)) (M t : Nat) : Prop := ∃ m, (∃ h ∈ so, (col g h).natAbs = m) ∧ (∀ r ∈ so, m ≤ (col g r).natAbs) ∧ ((∀ r ∈ so, 0 < col g r) ∨ ∀ r ∈ so, col g r < 0) ∧ (2 ≤ so.length → m < t) ∧ m ≤ t ∧ M ≤ B ∧ 9 * (M * M * (t * t) * m) ≤ 4 * (B * B)
def Frs (c B M : Nat) : Prop := 1 ≤ c ∧ M ≤ c ∧ 81 * (c * c * (c * c) * c) ≤ 4 * (B * B)
def Few (so : List (List Int)) (B M : Nat) : Prop := so.length ≤ 1 ∧ M ≤ B
/-- a state of the rounds at a good -/
def Su (n g c B T : Nat) (so done : List (List Int)) : Prop := ∃ M t, Bas n g c B T so done M t ∧ (Frs c B M ∨ Ons g B so M t ∨ Few so B M)
theorem sq_le {a b : Nat} (h : a * a ≤ b * b) : a ≤ b := Nat.mul_self_le_mul_self_iff.mp h
theorem ar0 (Q m s : Nat) (hs : s ≤ m) (hQ : 1 ≤ Q) : (1 + Q) * (1 + Q) * (m * s) ≤ (Q * m + s) * (Q * m + s) := by
  obtain ⟨p, rfl⟩ : ∃ p, Q = p + 1 := ⟨Q - 1, by omega⟩
  obtain ⟨d, rfl⟩ : ∃ d, m = s + d := ⟨m - s, by omega⟩
  have e : ((p + 1) * (s + d) + s) * ((p + 1) * (s + d) + s) = (1 + (p + 1)) * (1 + (p + 1)) * ((s + d) * s) + ((2 + p) * p * (s * d) + (p + 1) * (p + 1) * (d * d)) := by grind
  rw [e]
  exact Nat.le_add_right _ _
theorem arZ {M q t m B : Nat} (h1 : q ≤ t) (h2 : 2 ≤ t) (hm : 1 ≤ m) (h : 9 * (M * M * (t * t) * m) ≤ 4 * (B * B)) : M * (1 + q) ≤ B := by
  have a : 2 * (M * (1 + q)) ≤ 3 * (M * t) := by
    have w := Nat.mul_le_mul_left M (show 2 * (1 + q) ≤ 3 * t by omega)
    have e1 : M * (2 * (1 + q)) = 2 * (M * (1 + q)) := by grind
    have e2 : M * (3 * t) = 3 * (M * t) := by grind
    omega
  have b := Nat.mul_le_mul a a
  have c : 3 * (M * t) * (3 * (M * t)) = 9 * (M * M * (t * t)) := by grind
  have d : 2 * (M * (1 + q)) * (2 * (M * (1 + q))) = 4 * (M * (1 + q) * (M * (1 + q))) := by grind
  have f : M * M * (t * t) ≤ M * M * (t * t) * m := Nat.le_mul_of_pos_right _ hm
  refine sq_le ?_
  omega
theorem arN {M Q m s t B m' : Nat} (hs : s < m) (h' : m' ≤ s) (hQ : 1 ≤ Q) (ht : Q * m + s ≤ t) (h : 9 * (M * M * (t * t) * m) ≤ 4 * (B * B)) : 9 * (M * (1 + Q) * (M * (1 + Q)) * (m * m) * m') ≤ 4 * (B * B) := by
  refine Nat.le_trans (Nat.mul_le_mul_left _ ?_) h
  have a := ar0 Q m s (by omega) hQ
  have b := Nat.mul_le_mul ht ht
  have e : M * (1 + Q) * (M * (1 + Q)) * (m * m) * s = M * M * ((1 + Q) * (1 + Q) * (m * s)) * m := by grind
  refine Nat.le_trans (Nat.mul_le_mul_left _ h') ?_
  rw [e]
  exact Nat.mul_le_mul_right _ (Nat.mul_le_mul_left _ (Nat.le_trans a b))
theorem arB {X m m' B : Nat} (hm : 1 ≤ m) (h' : 1 ≤ m') (h : 9 * (X * X * (m * m) * m') ≤ 4 * (B * B)) : X ≤ B := by
  refine sq_le ?_
  have a : X * X ≤ X * X * (m * m) := Nat.le_mul_of_pos_right _ (Nat.mul_pos hm hm)
  have b : X * X * (m * m) ≤ X * X * (m * m) * m' := Nat.le_mul_of_pos_right _ h'
  omega
theorem arF {M c Q m m' B : Nat} (hM : M ≤ c) (h3 : (1 + Q) * m ≤ 3 * c) (h' : m' ≤ c) (h : 81 * (c * c * (c * c) * c) ≤ 4 * (B * B)) : 9 * (M * (1 + Q) * (M * (1 + Q)) * (m * m) * m') ≤ 4 * (B * B) := by
  refine Nat.le_trans ?_ h
  have e : M * (1 + Q) * (M * (1 + Q)) * (m * m) * m' = M * M * ((1 + Q) * m * ((1 + Q) * m)) * m' := by grind
  have b : M * M * ((1 + Q) * m * ((1 + Q) * m)) * m' ≤ c * c * (3 * c * (3 * c)) * c := Nat.mul_le_mul (Nat.mul_le_mul (Nat.mul_le_mul hM hM) (Nat.mul_le_mul h3 h3)) h'
  have f : c * c * (3 * c * (3 * c)) * c = 9 * (c * c * (c * c) * c) := by grind
  rw [e]
  omega
theorem arFZ {M c q B : Nat} (hM : M ≤ c) (hc : 1 ≤ c) (hq : q ≤ c) (h : 81 * (c * c * (c * c) * c) ≤ 4 * (B * B)) : M * (1 + q) ≤ B := by
  refine sq_le ?_
  have a : M * (1 + q) ≤ c * (2 * c) := Nat.mul_le_mul hM (by omega)
  have b := Nat.mul_le_mul a a
  have e : c * (2 * c) * (c * (2 * c)) = 4 * (c * c * (c * c)) := by grind
  have f : c * c * (c * c) ≤ c * c * (c * c) * c := Nat.le_mul_of_pos_right _ hc
  omega
theorem arF0 {M c B : Nat} (hM : M ≤ c) (hc : 1 ≤ c) (h : 81 * (c * c * (c * c) * c) ≤ 4 * (B * B)) : M ≤ B := by
  have := arFZ (q := 0) hM hc (Nat.zero_le _) h
  omega
theorem Su.round {n g c B T : Nat} {so done N Z : List (List Int)} {h : List Int} (hs : Su n g c B T so done) (hl : 2 ≤ so.length) (R : Round g so h N Z) : Su n g c B T (h :: N) (done ++ Z) := by
  obtain ⟨M, t, b, q⟩ := hs
  have q : Frs c B M ∨ Ons g B so M t := by
    rcases q with q | q | q
    · exact .inl q
    · exact .inr q
    · have := q.1
      omega
  have hh0 : col g h ≠ 0 := b.s h R.hm
  have hso : ∀ r ∈ so, r.length = n := b.r.l
  have hcol : ∀ r ∈ so, ∀ j, col j (sub r h ((col g r).fdiv (col g h))) = col j r - (col g r).fdiv (col g h) * col j h := fun r hr j => sub_col (hso r hr) (hso h R.hm) j
  have hdm := fun r : List Int => dm (col g r) (col g h) hh0
  have hm0 : 1 ≤ (col g h).natAbs := by omega
  have hmade : ∀ x ∈ N ++ Z, x.length = n ∧ ∀ j, j < g → col j x = 0 := fun x hx => by
    obtain ⟨r, hr, rfl⟩ := R.made x hx
    refine ⟨sub_len (hso r hr) (hso h R.hm), fun j hj => ?_⟩
    rw [hcol r hr j, b.r.z r hr j hj, b.r.z h R.hm j hj]
    omega
  have hN : ∀ x ∈ N, (col g x).natAbs < (col g h).natAbs ∧ (0 < col g h → 0 < col g x) ∧ (col g h < 0 → col g x < 0) := fun x hx => by
    obtain ⟨r, hr, e⟩ := R.made x (List.mem_append_left _ hx)
    have e2 := hcol r hr g
    rw [← e] at e2
    have h1 := hdm r
    rw [← e2] at h1
    have h2 := R.n x hx
    exact ⟨h1.1, fun h0 => by have := h1.2.1 h0; omega, fun h0 => by have := h1.2.2 h0; omega⟩
  have hZ : ∀ x ∈ Z, ∀ y ∈ x, y.natAbs ≤ B := fun x hx y hy => by
    obtain ⟨r, hr, e⟩ := R.made x (List.mem_append_right _ hx)
    have e2 := hcol r hr g
    rw [← e, R.z x hx] at e2
    have eq : ((col g r).fdiv (col g h)).natAbs * (col g h).natAbs = (col g r).natAbs := by
      rw [← Int.natAbs_mul]
      congr 1
      omega
    have hq : ((col g r).fdiv (col g h)).natAbs ≤ t := by
      have h1 := b.tb r hr
      have h2 : ((col g r).fdiv (col g h)).natAbs ≤ ((col g r).fdiv (col g h)).natAbs * (col g h).natAbs := Nat.le_mul_of_pos_right _ hm0
      omega
    rw [e] at hy
    refine Nat.le_trans (sub_abs (b.r.b r hr) (b.r.b h R.hm) y hy) ?_
    rcases q with ⟨hc1, hM, hf⟩ | ⟨m1, ⟨h1, hh1, e1⟩, hm1, hsg, hlt, hle, hMB, hB⟩
    · exact arFZ hM hc1 (Nat.le_trans hq b.tc) hf
    · have w1 := hlt hl
      have w2 := b.s h1 hh1
      exact arZ hq (by omega) (by omega) hB
  have hlen := R.len
  obtain ⟨y, hy, hmin⟩ := exmin (fun r => (col g r).natAbs) (h :: N) (by simp)
  have hym : (col g y).natAbs ≤ (col g h).natAbs := hmin h List.mem_cons_self
  have hy0 : 1 ≤ (col g y).natAbs := by
    rcases List.mem_cons.mp hy with rfl | w
    · exact hm0
    · have := R.n y w
      omega
  have htc := b.tc
  have fin : ∀ M', M ≤ M' → (∀ x ∈ N, ∀ z ∈ x, z.natAbs ≤ M') → 9 * (M' * M' * ((col g h).natAbs * (col g h).natAbs) * (col g y).natAbs) ≤ 4 * (B * B) → Su n g c B T (h :: N) (done ++ Z) := fun M' hMM hNb hB => by
    refine ⟨M', (col g h).natAbs, ⟨⟨fun x hx => ?_, fun x hx => ?_, fun x hx => ?_⟩, ⟨fun x hx => ?_, fun x hx => ?_, fun x hx => ?_⟩, fun x hx => ?_, fun x hx => ?_, ?_, fun x hx => ?_, Nat.le_trans (b.tb h R.hm) htc⟩, .inr (.inl ⟨(col g y).natAbs, ⟨y, hy, rfl⟩, hmin, ?_, fun h2 => ?_, hym, arB hm0 hy0 hB, hB⟩)⟩
    · rcases List.mem_cons.mp hx with rfl | w
      · exact hso x R.hm
      · exact (hmade x (List.mem_append_left _ w)).1
    · rcases List.mem_cons.mp hx with rfl | w
      · exact fun z hz => Nat.le_trans (b.r.b x R.hm z hz) hMM
      · exact hNb x w
    · rcases List.mem_cons.mp hx with rfl | w
      · exact b.r.z x R.hm
      · exact (hmade x (List.mem_append_left _ w)).2
    · rcases List.mem_append.mp hx with w | w
      · exact b.r2.l x w
      · exact (hmade x (List.mem_append_right _ w)).1
    · rcases List.mem_append.mp hx with w | w
      · exact b.r2.b x w
      · exact hZ x w
    · rcases List.mem_append.mp hx with w | w
      · exact b.r2.z x w
      · exact (hmade x (List.mem_append_right _ w)).2
    · rcases List.mem_cons.mp hx with rfl | w
      · exact hh0
      · exact R.n x w
    · rcases List.mem_append.mp hx with w | w
      · exact b.d x w
      · exact R.z x w
    · have h2 := b.k
      rw [List.length_cons, List.length_append]
      omega
    · rcases List.mem_cons.mp hx with rfl | w
      · exact Nat.le_refl _
      · exact Nat.le_of_lt (hN x w).1
    · rcases Int.lt_or_gt_of_ne hh0 with h0 | h0
      · refine .inr fun r hr => ?_
        rcases List.mem_cons.mp hr with rfl | hr
        · exact h0
        · exact (hN r hr).2.2 h0
      · refine .inl fun r hr => ?_
        rcases List.mem_cons.mp hr with rfl | hr
        · exact h0
        · exact (hN r hr).2.1 h0
    · match N, h2, hN, hmin with
      | [], h2, _, _ => simp at h2
      | x :: N, _, hN, hmin =>
        have w1 := hmin x (by simp)
        have w2 := (hN x (by simp)).1
        omega
  by_cases hNe : N = []
  · have eyh : y = h := by
      rw [hNe] at hy
      simpa using hy
    rw [eyh] at fin
    refine fin M (Nat.le_refl _) (by rw [hNe]; simp) ?_
    rcases q with ⟨hc1, hM, hf⟩ | ⟨m1, ⟨h1, hh1, e1⟩, hm1, hsg, hlt, hle, hMB, hB⟩
    · have hmc : (col g h).natAbs ≤ c := Nat.le_trans (b.tb h R.hm) htc
      generalize (col g h).natAbs = m at *
      have w : M * M * (m * m) * m ≤ c * c * (c * c) * c := Nat.mul_le_mul (Nat.mul_le_mul (Nat.mul_le_mul hM hM) (Nat.mul_le_mul hmc hmc)) hmc
      omega
    · have em : m1 = (col g h).natAbs := by
        have := R.least h1 hh1
        have := hm1 h R.hm
        omega
      rw [← em]
      have w : M * M * (m1 * m1) * m1 ≤ M * M * (t * t) * m1 := Nat.mul_le_mul_right _ (Nat.mul_le_mul_left _ (Nat.mul_le_mul hle hle))
      omega
  · obtain ⟨Q, hQ, xs, hxs, rs, hrs, exs, eQ⟩ := exmax (P := fun x k => ∃ r ∈ so, x = sub r h ((col g r).fdiv (col g h)) ∧ ((col g r).fdiv (col g h)).natAbs = k) N hNe fun x hx => by
      obtain ⟨r, hr, e⟩ := R.made x (List.mem_append_left _ hx)
      exact ⟨_, r, hr, e, rfl⟩
    refine fin (M * (1 + Q)) (Nat.le_mul_of_pos_right _ (by omega)) (fun x hx z hz => ?_) ?_
    · obtain ⟨k, hk, r, hr, rfl, ek⟩ := hQ x hx
      refine Nat.le_trans (sub_abs (b.r.b r hr) (b.r.b h R.hm) z hz) (Nat.mul_le_mul_left _ ?_)
      omega
    · have hts := b.tb rs hrs
      have hleast := R.least rs hrs
      have hx0 := hdm rs
      have exc := hcol rs hrs g
      rw [← exs] at exc
      rw [← exc] at hx0
      have hqm : Q * (col g h).natAbs = (col g rs - col g xs).natAbs := by
        rw [← eQ, ← Int.natAbs_mul]
        congr 1
        omega
      have hs1 := (hN xs hxs).1
      have hs2 : (col g y).natAbs ≤ (col g xs).natAbs := hmin xs (List.mem_cons_of_mem _ hxs)
      rcases q with ⟨hc1, hM, hf⟩ | ⟨m1, ⟨h1, hh1, e1⟩, hm1, hsg, hlt, hle, hMB, hB⟩
      · refine arF hM ?_ (by omega) hf
        have : Q * (col g h).natAbs ≤ (col g rs).natAbs + (col g xs).natAbs := by omega
        rw [Nat.add_mul, Nat.one_mul]
        omega
      · have em : m1 = (col g h).natAbs := by
          have := R.least h1 hh1
          have := hm1 h R.hm
          omega
        rw [em] at hB
        have hsame : (0 < col g rs ∧ 0 < col g h) ∨ (col g rs < 0 ∧ col g h < 0) := by
          rcases hsg with s | s
          · exact .inl ⟨s rs hrs, s h R.hm⟩
          · exact .inr ⟨s rs hrs, s h R.hm⟩
        have hsum : (col g rs).natAbs = Q * (col g h).natAbs + (col g xs).natAbs := by
          rw [hqm]
          rcases hsame with s | s
          · have := hx0.2.1 s.2
            omega
          · have := hx0.2.2 s.2
            omega
        have hQ1 : 1 ≤ Q := by
          rcases Nat.eq_zero_or_pos Q with z | z
          · rw [z, Nat.zero_mul] at hsum
            omega
          · exact z
        exact arN hs1 hs2 hQ1 (by omega) hB
theorem Su.lessen {n g c B T : Nat} {so done N Z : List (List Int)} {h : List Int} (hs : Su n g c B T so done) (hl : 2 ≤ so.length) (R : Round g so h N Z) : mass g (h :: N) < mass g so := by
  obtain ⟨M, t, b, _⟩ := hs
  have hh0 : col g h ≠ 0 := b.s h R.hm
  have hso : ∀ r ∈ so, r.length = n := b.r.l
  have hN : ∀ x ∈ N, (col g x).natAbs ≤ (col g h).natAbs - 1 := fun x hx => by
    obtain ⟨r, hr, e⟩ := R.made x (List.mem_append_left _ hx)
    have e2 := sub_col (q := (col g r).fdiv (col g h)) (hso r hr) (hso h R.hm) g
    rw [← e] at e2
    have h1 := dm (col g r) (col g h) hh0
    rw [← e2] at h1
    omega
  have h1 := mass_le N hN
  have h2 := mass_ge so R.least
  have h3 := R.len
  have e : mass g (h :: N) = (col g h).natAbs + mass g N := rfl
  rw [e]
  have hm0 : 1 ≤ (col g h).natAbs := by omega
  generalize (col g h).natAbs = m at *
  rw [← h3] at h2
  have e4 : (N.length + Z.length + 1) * m = N.length * m + Z.length * m + m := by rw [Nat.add_mul, Nat.add_mul, Nat.one_mul]
  have e5 : N.length * (m - 1) + N.length = N.length * m := by
    rw [← Nat.mul_succ]
    congr 1
    omega
  by_cases hN0 : N.length = 0
  · have hZ : 1 ≤ Z.length := by omega
    have : m ≤ Z.length * m := Nat.le_mul_of_pos_left _ hZ
    rw [hN0] at h1 h2 e4 e5
    omega
  · have : 0 ≤ Z.length * m := Nat.zero_le _
    omega
theorem Su.rws {n g c B T : Nat} {so done : List (List Int)} (hs : Su n g c B T so done) : Rws n g B (so ++ done) := by
  obtain ⟨M, t, b, q⟩ := hs
  have hM : M ≤ B := by
    rcases q with ⟨h1, h2, h3⟩ | ⟨m, _, _, _, _, _, h, _⟩ | q
    · exact arF0 h2 h1 h3
    · exact h
    · exact q.2
  have hr := b.r.mono hM
  refine ⟨fun r hr2 => ?_, fun r hr2 => ?_, fun r hr2 => ?_⟩
  · exact (List.mem_append.mp hr2).elim (hr.l r) (b.r2.l r)
  · exact (List.mem_append.mp hr2).elim (hr.b r) (b.r2.b r)
  · exact (List.mem_append.mp hr2).elim (hr.z r) (b.r2.z r)
theorem Su.basic {n g c B T : Nat} {so done : List (List Int)} (hs : Su n g c B T so done) : (∀ r ∈ so, col g r ≠ 0) ∧ (∀ r ∈ done, col g r = 0) ∧ so.length + done.length = T ∧ ∀ r ∈ so, (col g r).natAbs ≤ c := by
  obtain ⟨M, t, b, _⟩ := hs
  exact ⟨b.s, b.d, b.k, fun r hr => Nat.le_trans (b.tb r hr) b.tc⟩
theorem Su.of {n g c B T : Nat} {so done so' done' : List (List Int)} (h : Su n g c B T so done) (h1 : ∀ r, r ∈ so' ↔ r ∈ so) (h2 : ∀ r, r ∈ done' ↔ r ∈ done) (l1 : so'.length = so.length) (l2 : done'.length = done.length) : Su n g c B T so' done' := by
  obtain ⟨M, t, b, q⟩ := h
  refine ⟨M, t, ⟨b.r.sub fun r hr => (h1 r).mp hr, b.r2.sub fun r hr => (h2 r).mp hr, fun r hr => b.s r ((h1 r).mp hr), fun r hr => b.d r ((h2 r).mp hr), by rw [l1, l2]; exact b.k, fun r hr => b.tb r ((h1 r).mp hr), b.tc⟩, ?_⟩
  rcases q with q | ⟨m, ⟨x, hx, e⟩, hmin, hs, hlt, hle, hMB, hB⟩ | q
  · exact .inl q
  · refine .inr (.inl ⟨m, ⟨x, (h1 x).mpr hx, e⟩, fun r hr => hmin r ((h1 r).mp hr), ?_, by rw [l1]; exact hlt, hle, hMB, hB⟩)
    rcases hs with hs | hs
    · exact .inl fun r hr => hs r ((h1 r).mp hr)
    · exact .inr fun r hr => hs r ((h1 r).mp hr)
  · exact .inr (.inr ⟨by rw [l1]; exact q.1, q.2⟩)
theorem nz_zz_len (g : Nat) : ∀ L : List (List Int), (nz g L).length + (zz g L).length = L.length
  | [] => rfl
  | e :: L => by
    have ih := nz_zz_len g L
    by_cases q : col g e = 0
    · rw [nz_cons0 q, zz_cons q, List.length_cons, List.length_cons]
      omega
    · rw [nz_cons q, zz_cons0 q, List.length_cons, List.length_cons]
      omega
theorem Su.start {n g c B : Nat} {left : List (List Int)} (h : Rws n g c left) (hc : 1 ≤ c) (hB : 81 * (c * c * (c * c) * c) ≤ 4 * (B * B)) : Su n g c B left.length (nz g left) (zz g left) :=
  ⟨c, c, ⟨h.sub fun r hr => (mem_nz.mp hr).1, (h.mono (arF0 (Nat.le_refl _) hc hB)).sub fun r hr => (mem_zz.mp hr).1, fun r hr => (mem_nz.mp hr).2, fun r hr => (mem_zz.mp hr).2, nz_zz_len g left, fun r hr => col_le h (mem_nz.mp hr).1 g, Nat.le_refl _⟩, .inl ⟨hc, Nat.le_refl _, hB⟩⟩
/-- with one row at most that has a number there -/
theorem Su.start1 {n g c B : Nat} {left : List (List Int)} (h : Rws n g B left) (h1 : (nz g left).length ≤ 1) (hc : ∀ r ∈ left, (col g r).natAbs ≤ c) : Su n g c B left.length (nz g left) (zz g left) :=
  ⟨B, c, ⟨h.sub fun r hr => (mem_nz.mp hr).1, h.sub fun r hr => (mem_zz.mp hr).1, fun r hr => (mem_nz.mp hr).2, fun r hr => (mem_zz.mp hr).2, nz_zz_len g left, fun r hr => hc r (mem_nz.mp hr).1, Nat.le_refl _⟩, .inr (.inr ⟨h1, Nat.le_refl _⟩)⟩
theorem less_roundS {n g c B T : Nat} {A C : List (List Int)} {h : List Int} (hs : Su n g c B T (nz g (A ++ h :: C)) (zz g (A ++ h :: C))) (h0 : col g h ≠ 0) (hmin : ∀ e ∈ A ++ h :: C, col g e ≠ 0 → (col g h).natAbs ≤ (col g e).natAbs) (h2 : ∃ e ∈ A ++ C, col g e ≠ 0) :
    Su n g c B T (nz g (lessA g A h C)) (zz g (lessA g A h C)) ∧ mass g (lessA g A h C) < mass g (A ++ h :: C) ∧ Eqv (A ++ h :: C) (lessA g A h C) := by
  have hr := hs.rws
  have hlen : ∀ e ∈ A ++ h :: C, e.length = n := fun e he => by
    refine hr.l e ?_
    by_cases q : col g e = 0
    · exact List.mem_append_right _ (mem_zz.mpr ⟨he, q⟩)
    · exact List.mem_append_left _ (mem_nz.mpr ⟨he, q⟩)
  have hh : h.length = n := hlen h (by simp)
  have hO : ∀ e ∈ A ++ C, e ∈ A ++ h :: C := fun e he => by
    simp only [List.mem_append, List.mem_cons] at he ⊢
    rcases he with z | z
    · exact .inl z
    · exact .inr (.inr z)
  have hf : ∀ e ∈ A ++ C, col g e = 0 → lessR g h e = e := fun e he z => by
    unfold lessR
    rw [z, Int.zero_fdiv]
    exact sub_zero (hlen e (hO e he)) hh
  obtain ⟨f1, f2, f3⟩ := fil_less hf
  have enz : nz g (A ++ h :: C) = nz g A ++ h :: nz g C := by
    show List.filter _ _ = _
    rw [List.filter_append]
    exact congrArg _ (nz_cons h0)
  have ezz : zz g (A ++ h :: C) = zz g (A ++ C) := by
    show List.filter _ _ = List.filter _ _
    rw [List.filter_append, List.filter_append]
    exact congrArg _ (zz_cons0 h0)
  have enO : nz g (A ++ C) = nz g A ++ nz g C := List.filter_append _ _
  have hmap : (A ++ C).map (lessR g h) = A.map (lessR g h) ++ C.map (lessR g h) := List.map_append
  -- the round
  have R : Round g (nz g (A ++ h :: C)) h (nz g ((nz g (A ++ C)).map (lessR g h))) (zz g ((nz g (A ++ C)).map (lessR g h))) := by
    have hso : ∀ r, r ∈ nz g (A ++ C) → r ∈ nz g (A ++ h :: C) := fun r hr => mem_nz.mpr ⟨hO r (mem_nz.mp hr).1, (mem_nz.mp hr).2⟩
    refine ⟨mem_nz.mpr ⟨by simp, h0⟩, fun r hr => hmin r (mem_nz.mp hr).1 (mem_nz.mp hr).2, ?_, fun x hx => ?_, fun x hx => (mem_nz.mp hx).2, fun x hx => (mem_zz.mp hx).2, fun r hr => ?_⟩
    · have : ∀ L : List (List Int), (nz g L).length + (zz g L).length = L.length := fun L => by
        induction L with
        | nil => rfl
        | cons e L ih =>
          by_cases q : col g e = 0
          · rw [nz_cons0 q, zz_cons q, List.length_cons, List.length_cons]; omega
          · rw [nz_cons q, zz_cons0 q, List.length_cons, List.length_cons]; omega
      rw [this, List.length_map, enO, enz, List.length_append, List.length_append, List.length_cons]
      omega
    · have : x ∈ (nz g (A ++ C)).map (lessR g h) := by
        rcases List.mem_append.mp hx with z | z
        · exact (mem_nz.mp z).1
        · exact (mem_zz.mp z).1
      obtain ⟨r, hr, rfl⟩ := List.mem_map.mp this
      exact ⟨r, hso r hr, rfl⟩
    · have : r = h ∨ r ∈ nz g (A ++ C) := by
        rw [enz] at hr
        rw [enO]
        simp only [List.mem_append, List.mem_cons] at hr ⊢
        rcases hr with z | z | z
        · exact .inr (.inl z)
        · exact .inl z
        · exact .inr (.inr z)
      rcases this with z | z
      · exact .inl z
      · refine .inr ?_
        have hm := List.mem_map_of_mem (f := lessR g h) z
        by_cases q : col g (lessR g h r) = 0
        · exact List.mem_append_right _ (mem_zz.mpr ⟨hm, q⟩)
        · exact List.mem_append_left _ (mem_nz.mpr ⟨hm, q⟩)
  have hl2 : 2 ≤ (nz g (A ++ h :: C)).length := by
    obtain ⟨e, he, q⟩ := h2
    have : 0 < (nz g (A ++ C)).length := List.length_pos_of_mem (mem_nz.mpr ⟨he, q⟩)
    rw [enO, List.length_append] at this
    rw [enz, List.length_append, List.length_cons]
    omega
  have s1 := hs.round hl2 R
  have m1 := hs.lessen hl2 R
  have e1 : nz g (lessA g A h C) = nz g (A.map (lessR g h)) ++ h :: nz g (C.map (lessR g h)) := by
    show List.filter _ (A.map (lessR g h) ++ h :: C.map (lessR g h)) = _
    rw [List.filter_append]
    exact congrArg _ (nz_cons h0)
  have e2 : zz g (lessA g A h C) = zz g ((A ++ C).map (lessR g h)) := by
    show List.filter _ (A.map (lessR g h) ++ h :: C.map (lessR g h)) = List.filter _ _
    rw [hmap, List.filter_append, List.filter_append]
    exact congrArg _ (zz_cons0 h0)
  have e3 : nz g ((nz g (A ++ C)).map (lessR g h)) = nz g (A.map (lessR g h)) ++ nz g (C.map (lessR g h)) := by
    rw [← f1, hmap]
    exact List.filter_append _ _
  refine ⟨s1.of (fun r => ?_) (fun r => ?_) ?_ ?_, ?_, ?_⟩
  · rw [e1, e3]
    simp only [List.mem_append, List.mem_cons]
    constructor
    · rintro (z | z | z)
      · exact .inr (.inl z)
      · exact .inl z
      · exact .inr (.inr z)
    · rintro (z | z | z)
      · exact .inr (.inl z)
      · exact .inl z
      · exact .inr (.inr z)
  · rw [e2, f2 r, ezz, List.mem_append]
  · rw [e1, e3, List.length_append, List.length_cons, List.length_cons, List.length_append]
    omega
  · rw [e2, f3, ezz, List.length_append]
  · rw [← mass_nz g (A ++ h :: C)]
    refine Nat.lt_of_le_of_lt (Nat.le_of_eq ?_) m1
    rw [← mass_nz, e1, e3, mass_app, mass_cons, mass_cons, mass_app]
    omega
  · have c : ∀ e ∈ A ++ C, ∀ j, col j (lessR g h e) = col j e - (col g e).fdiv (col g h) * col j h := fun e he j => sub_col (hlen e (hO e he)) hh j
    have hh1 : h ∈ A ++ h :: C := by simp
    have hh2 : h ∈ lessA g A h C := by unfold lessA; simp
    have up : ∀ e ∈ A ++ C, lessR g h e ∈ lessA g A h C := fun e he => by
      unfold lessA
      rcases List.mem_append.mp he with z | z
      · exact List.mem_append_left _ (List.mem_map_of_mem z)
      · exact List.mem_append_right _ (List.mem_cons_of_mem _ (List.mem_map_of_mem z))
    constructor
    · intro r hr
      have : r = h ∨ r ∈ A ++ C := by
        simp only [List.mem_append, List.mem_cons] at hr ⊢
        rcases hr with z | z | z
        · exact .inr (.inl z)
        · exact .inl z
        · exact .inr (.inr z)
      rcases this with rfl | z
      · exact In.mem hh2
      · refine (In.lin (-((col g r).fdiv (col g h))) (In.mem (up r z)) (In.mem hh2)).congr fun j => ?_
        have := c r z j
        simp only [fn_]
        grind
    · intro x hx
      have : x = h ∨ ∃ e ∈ A ++ C, x = lessR g h e := by
        unfold lessA at hx
        simp only [List.mem_append, List.mem_cons, List.mem_map] at hx
        rcases hx with ⟨e, he, rfl⟩ | z | ⟨e, he, rfl⟩
        · exact .inr ⟨e, List.mem_append_left _ he, rfl⟩
        · exact .inl z
        · exact .inr ⟨e, List.mem_append_right _ he, rfl⟩
      rcases this with rfl | ⟨e, he, rfl⟩
      · exact In.mem hh1
      · refine (In.lin ((col g e).fdiv (col g h)) (In.mem (hO e he)) (In.mem hh1)).congr fun j => ?_
        have := c e he j
        simp only [fn_]
        omega
/-- how great the numbers are when so many stairs have been found -/
def mb : Nat → Nat
  | 0 => 9999
  | 1 => 44988750844
  | 2 => 1931845321966763718718194826
  | 3 => 738147902930558984774108677952428031400337501701143218345601834256070
  | 4 => 66614840050235724748688713481803584179109696935478060967289853826551346328614625905431593366390993077675205374687535117747277738845914344161392336717451776775299692787705214
  | 5 => 5153947464658340624541178626558744992329858519021916957950497622783368887307686405040028546110836717795911261625632854481605884331315703454129744292518223829159214326548833940443159196773782640185423765187952030385269897625857354036720364491771644898324851833671791543091242684855868944656141380434038932509334993604379512510753487860926992958134813007385665161700491153123664365815884032339802019631072634102621211475843077516360449
  | 6 => 271370404635121956025345260993896267909518172364078896142296276049992262339616819640793377746169982035853989420268746039971412608848792592435354278366210414714795012611085886777481683142042864225109407836184848254303959061055522796067441066729096764285696568580114853237405151222914597606815500433976778803918586102274555192333834567385928870210756425913759563277738068842631728136436894706117700496514340317337904988905017658178221694282030921137348743370525571340630027000470323374153578083948754728115093628712411333425009589617681216819032224107949809654021092844663764922496375604327650468826502207278038226936424886505232795548092828049979574018652345270900992536025536885634533647315164805435698169152076097514029124023858575762236030597428038461838180428035497849411161608906781364914783865428660037858221307674884141833956663281011906787284882017046124188248293218865886290494021846464921170884783389874422150810858782453569760318386190168848114881713984934943532425252987814694573018335810490658665419617525006131367685335045562010249525804085704773082449468368042036696057
  | 7 => 5459070705783614309840793796382649398310889273295453805087427163567425283386827602598494629123742929736510694861102899150507373297363938824163695876931528514388227400297399058058229797595210657004796918967499839756292587760125017994619845528457070012360550449767446151437973490900261461690595332244828433760896127558172861210010601806426366627448669442523433682872218446634306952518663864961981104607491083383240300231515227572274531714656656869681491798258750400067267563379139354492552283512052201683975755417161971270634949629652042747998070917964442774583361702190723031344451489820625998488083493569711534395154540829501576694180680294055659497334670563585877315815145044586346457416961572396400831342659116416099340096873335617244100460129022203989311094690969011093091954479131057786005378437253584697844725203495152458605080934952412033428697413398937506015797090863158658490389419544544210077983632766130227495634053682449426502659058942591071603551764808220749025778823335925132897859652251596336138761662397943131118885925853719234759160199205708497012972065249770756230589190586537192076591066300968658668194958776836302137879522585468793690808918563833015369415353783344413752647789273182390817967744470559836280948909005255719128086164978029976865684324477228063738827584792388354542457302175879575160009391230350215417761052756039683236674613616535598345419548685147793966631564159012669480042646370773358954902596012588872319232910641961297145837826734433970606539204313869473412703988311984913332978813438657920798502396977937758083856899112607392156690429763004855563149864723413259472106369509065196991258324482024612979577172108751133482457887782813496652875230081716831066682047200516078650629980197961799179988086649079050329526687799582718153522524736555106520424269997256432596484510302150347035457513489996089386645294032094425030536157659754701659588100485789551743653419937631932406837504377659752713918077996904866689251907125126251988468801774647484315528873433604279754513444348132935164657718091950663231361975852246908724325830790507369237886230112735073089472397898697921028191191636513704754472997503184882736315724220696957223963941214797329910143346651232477633297709576785267927230619455836471052953415321850035076751978882443685527533422460265611013681864125019233183413077662224739940419949543204047355025322031305261418055378839047666143480997220073149267017701434309408151457138757277313038927103925229109328008541604408939319485857087092772930204518995861865287475920142812488936348117957529273158159049226554122662573550176433241409646308884050563059239067913328622658745522692854268383505260414791648211052232275191818183639652720839667458733021197811756723554170
  | _ + 8 => 2 ^ 22482
theorem mb_pos : ∀ k, k ≤ 8 → 1 ≤ mb k := by decide +kernel
theorem mb_step : ∀ k, k ≤ 7 → 81 * (mb k * mb k * (mb k * mb k) * mb k) ≤ 4 * (mb (k + 1) * mb (k + 1)) := by decide +kernel
theorem mb_le : ∀ k, k ≤ 7 → mb k < 2 ^ 9000 := by decide +kernel
theorem mb_le8 : ∀ k, k ≤ 8 → mb k < 2 ^ 22500 := by decide +kernel
theorem mb_up : ∀ k, k ≤ 7 → mb k ≤ mb (k + 1) := by decide +kernel
end Stairs
set_option exponentiation.threshold 100000
namespace Lk71
open PySem PySem.Spec PyProof.Rows L2 DL Stairs
abbrev li (xs : List Int) : D := .lst (xs.map D.int)
abbrev ll (rs : List (List Int)) : D := .lst (rs.map li)
theorem eqOk_li (xs : List Int) : eqOk (li xs) = true := by
  show (PyData.canLayAll0 (toPyL (xs.map D.int)) && decide (PyData.depthAll (toPyL (xs.map D.int)) + 1 ≤ 64)) = true
  rw [toPyL_ints, lay_ints, depth_ints]
  rfl
theorem fEq_li (xs ys : List Int) : fEq (li xs) (li ys) = some (.val (.bl (decide (xs = ys)))) := by
  have e : eqD (li xs) (li ys) = decide (xs = ys) := by
    show PyData.eqvAll (toPyL (xs.map D.int)) (toPyL (ys.map D.int)) = _
    rw [toPyL_ints, toPyL_ints, eqvAll_ints]
  rw [← e]
  exact if_pos ⟨eqOk_li xs, eqOk_li ys⟩
theorem ixc {n g : Nat} {r : List Int} (hl : r.length = n) (hg : g < n) : fIx (li r) (.int (0 + (g : Nat))) = some (.val (.int (col g r))) := fIx_lst0 (by
  rw [List.getElem?_map, List.getElem?_eq_getElem (by omega)]
  unfold col
  rw [List.getD_eq_getElem?_getD, List.getElem?_eq_getElem (by omega)]
  rfl)
theorem fdiv_le (a b : Int) (hb : b ≠ 0) : (a.fdiv b).natAbs ≤ a.natAbs + 1 := by
  have h := (dm a b hb).1
  have e : (a.fdiv b * b).natAbs = (a.fdiv b).natAbs * b.natAbs := Int.natAbs_mul _ _
  have hb1 : 1 ≤ b.natAbs := by omega
  have h2 : (a.fdiv b).natAbs * b.natAbs < a.natAbs + b.natAbs := by omega
  generalize (a.fdiv b).natAbs = q at *
  generalize b.natAbs = m at *
  by_cases hq : q = 0
  · omega
  · have h3 : (q - 1) * m + m = q * m := by
      rw [← Nat.succ_mul]
      congr 1
      omega
    have h4 : q - 1 ≤ (q - 1) * m := Nat.le_mul_of_pos_right _ (by omega)
    omega
section
variable {n g : Nat} {so done : List (List Int)} {h r : List Int} {c0 c1 c2 c3 c4 c6 c7 c8 c9 c10 c11 c12 c13 : Option Cell} {Dd : DEnds}
end
end Lk71
set_option exponentiation.threshold 100000
namespace Lk71
open PySem PySem.Spec PyProof.Rows L2 DL Stairs
section
variable {n g : Nat} {so done : List (List Int)} {h r : List Int} {c0 c1 c2 c3 c4 c6 c7 c8 c9 c10 c11 c12 c13 : Option Cell} {Dd : DEnds}
/-- rows that a round takes -/
structure Fit (n g : Nat) (so done : List (List Int)) : Prop where
  l : ∀ r ∈ so, r.length = n
  b : ∀ r ∈ so, ∀ x ∈ r, x.natAbs < 2 ^ 29999
  s : ∀ r ∈ so, col g r ≠ 0
  c : ∀ r ∈ so, (col g r).natAbs < 2 ^ 9000
  k : so.length + done.length ≤ 8
end
end Lk71
set_option exponentiation.threshold 100000
namespace Lk71
open PySem PySem.Spec PyProof.Rows L2 DL Stairs
/-! lists of lists by == -/
theorem lay_lls : ∀ rows : List (List Int), PyData.canLayAll0 (toPyL (rows.map li)) = true
  | [] => rfl
  | r :: rows => by
    show (PyData.canLayAll0 (toPyL (r.map D.int)) && PyData.canLayAll0 (toPyL (rows.map li))) = true
    rw [lay_lls rows, toPyL_ints, lay_ints]
    rfl
theorem depth_lls : ∀ rows : List (List Int), PyData.depthAll (toPyL (rows.map li)) ≤ 1
  | [] => by decide
  | r :: rows => by
    show max (PyData.depthAll (toPyL (r.map D.int)) + 1) (PyData.depthAll (toPyL (rows.map li))) ≤ 1
    have := depth_lls rows
    rw [toPyL_ints, depth_ints]
    omega
theorem fNe_ll0 (rows : List (List Int)) : fNe (ll rows) (.lst []) = some (.val (.bl (!decide (rows = [])))) := by
  have e : eqD (ll rows) (.lst []) = decide (rows = []) := by
    cases rows with
    | nil => rfl
    | cons r rows => rfl
  rw [← e]
  refine if_pos ⟨?_, rfl⟩
  show (PyData.canLayAll0 (toPyL (rows.map li)) && decide (PyData.depthAll (toPyL (rows.map li)) + 1 ≤ 64)) = true
  have := depth_lls rows
  rw [lay_lls, decide_eq_true (by omega)]
  rfl
theorem fil_map (p : List Int → Bool) (rs : List (List Int)) : ([] : List D) ++ rs.filterMap (fun r => if p r = true then some (li r) else none) = (rs.filter p).map li := by
  rw [List.nil_append]
  induction rs with
  | nil => rfl
  | cons r rs ih =>
    by_cases h : p r = true
    · rw [List.filterMap_cons_some (b := li r) (by rw [if_pos h]), List.filter_cons_of_pos h, List.map_cons, ih]
    · rw [List.filterMap_cons_none (by rw [if_neg h]), List.filter_cons_of_neg h, ih]
theorem fit_of {n g c B K : Nat} {so done : List (List Int)} (hs : Su n g c B K so done) (hK : K ≤ 8) (hc : c < 2 ^ 9000) (hB : B ≤ 2 ^ 22500) : Fit n g so done := by
  have h1 := hs.rws
  obtain ⟨h2, h3, h4, h5⟩ := hs.basic
  exact ⟨fun r hr => h1.l r (List.mem_append_left _ hr), fun r hr x hx => Nat.lt_of_le_of_lt (Nat.le_trans (h1.b r (List.mem_append_left _ hr) x hx) hB) (Nat.pow_lt_pow_right (by decide) (by decide)), h2, fun r hr => Nat.lt_of_le_of_lt (h5 r hr) hc, by omega⟩
section
variable {n g : Nat} {c0 c1 c2 c3 c6 c13 : Option Cell} {Dd : DEnds}
/-- the rows found -/
def fb (k : Nat) : Nat := 23000 + 23004 * k
theorem fb_le (k : Nat) (h : k ≤ 8) : 23000 ≤ fb k ∧ fb k ≤ 300000 := by
  unfold fb
  omega
theorem fb_up (k : Nat) : fb (k + 1) = fb k + 23004 := by
  unfold fb
  omega
theorem sub_abs2 {r h : List Int} {q : Int} {M H : Nat} (h1 : ∀ x ∈ r, x.natAbs ≤ M) (h2 : ∀ x ∈ h, x.natAbs ≤ H) : ∀ x ∈ sub r h q, x.natAbs ≤ M + q.natAbs * H := by
  intro x hx
  obtain ⟨p, hp, rfl⟩ := List.mem_map.mp hx
  have a := h1 _ (List.of_mem_zip hp).1
  have b := h2 _ (List.of_mem_zip hp).2
  have c : (q * p.2).natAbs ≤ q.natAbs * H := by
    rw [Int.natAbs_mul]
    exact Nat.mul_le_mul_left _ b
  omega
/-- a found row, lessened once more -/
theorem fb_next {r h : List Int} {q : Int} {k : Nat} (h1 : ∀ x ∈ r, x.natAbs ≤ 2 ^ fb k) (h2 : ∀ x ∈ h, x.natAbs ≤ 2 ^ 22500) (hq : q.natAbs ≤ 2 ^ fb k + 1) : ∀ x ∈ sub r h q, x.natAbs ≤ 2 ^ fb (k + 1) := by
  intro x hx
  refine Nat.le_trans (sub_abs2 h1 h2 x hx) ?_
  have e : 2 ^ fb (k + 1) = 2 ^ fb k * 2 ^ 23004 := by rw [fb_up, Nat.pow_add]
  have e2 : (2 : Nat) ^ 23004 = 2 ^ 22500 * 2 ^ 504 := by rw [← Nat.pow_add]
  have e3 : 8 ≤ (2 : Nat) ^ 504 := Nat.pow_le_pow_right (n := 2) (i := 3) (j := 504) (by decide) (by decide)
  have p1 : 1 ≤ 2 ^ fb k := Nat.pow_pos (by decide)
  have p2 : 1 ≤ (2 : Nat) ^ 22500 := Nat.pow_pos (by decide)
  have a := Nat.mul_le_mul_right (2 ^ 22500) hq
  rw [e, e2]
  generalize (2 : Nat) ^ 22500 = H at *
  generalize (2 : Nat) ^ 504 = L at *
  generalize 2 ^ fb k = X at *
  have b1 : X * (H * 8) ≤ X * (H * L) := Nat.mul_le_mul_left _ (Nat.mul_le_mul_left _ e3)
  have b2 : X * (H * 8) = 8 * (X * H) := by grind
  have b3 : (X + 1) * H = X * H + H := by rw [Nat.add_mul, Nat.one_mul]
  have b4 : X ≤ X * H := Nat.le_mul_of_pos_right _ p2
  have b5 : H ≤ X * H := Nat.le_mul_of_pos_left _ p1
  omega
structure Fd (n g : Nat) (fd : List (List Int)) : Prop where
  l : ∀ r ∈ fd, r.length = n
  b : ∀ r ∈ fd, ∀ x ∈ r, x.natAbs ≤ 2 ^ fb fd.length
  e : Ech fd
  h : ∀ r ∈ fd, hd r < g
  c : ∀ r ∈ fd, (col (hd r) r).natAbs < 2 ^ 9000
  k : fd.length ≤ g
  k8 : fd.length ≤ 8
end
end Lk71
set_option exponentiation.threshold 100000
namespace Lk71
open PySem PySem.Spec PyProof.Rows L2 DL Stairs
theorem Fd.mono {n g : Nat} {fd : List (List Int)} (F : Fd n g fd) : Fd n (g + 1) fd := ⟨F.l, F.b, F.e, fun r hr => Nat.lt_succ_of_lt (F.h r hr), F.c, by have := F.k; omega, F.k8⟩
def ngs (r : List Int) : List Int := r.map fun x => 0 - x
theorem ngs_col {n : Nat} {r : List Int} (hl : r.length = n) (j : Nat) : col j (ngs r) = 0 - col j r := by
  unfold col ngs
  rw [List.getD_eq_getElem?_getD, List.getD_eq_getElem?_getD, List.getElem?_map]
  cases r[j]? with
  | none => rfl
  | some x => rfl
theorem ngs_eqv {n : Nat} {r : List Int} (hl : r.length = n) (fd left : List (List Int)) : Eqv (fd ++ (r :: left)) (fd ++ (ngs r :: left)) := by
  have e := ngs_col hl
  constructor
  · intro s hs
    simp only [List.mem_append, List.mem_cons] at hs
    rcases hs with z | rfl | z
    · exact In.mem (by simp [z])
    · refine (In.neg (In.mem (r := ngs s) (by simp))).congr fun j => ?_
      have := e j
      simp only [fn_]
      omega
    · exact In.mem (by simp [z])
  · intro s hs
    simp only [List.mem_append, List.mem_cons] at hs
    rcases hs with z | rfl | z
    · exact In.mem (by simp [z])
    · refine (In.neg (In.mem (r := r) (by simp))).congr fun j => ?_
      have := e j
      simp only [fn_]
      omega
    · exact In.mem (by simp [z])
section
variable {n g : Nat} {fd so done left rows : List (List Int)} {c0 c1 c2 c3 c4 c6 c7 c8 c9 c10 c11 c12 c13 : Option Cell} {Dd : DEnds}
end
end Lk71
set_option exponentiation.threshold 100000
/-! Walks down stairs. -/
namespace Stairs
def wq (r v : List Int) : Int := (col (hd r) v).fdiv (col (hd r) r)
def wr : List (List Int) → List Int → List Int
  | [], v => v
  | r :: A, v => wr A (sub v r (wq r v))
def wn : List (List Int) → List Int → List Int
  | [], _ => []
  | r :: A, v => wq r v :: wn A (sub v r (wq r v))
theorem wr_snoc : ∀ (A : List (List Int)) (r v : List Int), wr (A ++ [r]) v = sub (wr A v) r (wq r (wr A v))
  | [], _, _ => rfl
  | s :: A, r, v => wr_snoc A r (sub v s (wq s v))
theorem wn_snoc : ∀ (A : List (List Int)) (r v : List Int), wn (A ++ [r]) v = wn A v ++ [wq r (wr A v)]
  | [], _, _ => rfl
  | s :: A, r, v => congrArg (wq s v :: ·) (wn_snoc A r (sub v s (wq s v)))
theorem wn_len : ∀ (A : List (List Int)) (v : List Int), (wn A v).length = A.length
  | [], _ => rfl
  | s :: A, v => congrArg (· + 1) (wn_len A _)
section
variable {n : Nat}
theorem wr_len : ∀ {A : List (List Int)} {v : List Int}, (∀ r ∈ A, r.length = n) → v.length = n → (wr A v).length = n
  | [], _, _, h => h
  | r :: A, v, hA, h => wr_len (A := A) (v := sub v r (wq r v)) (fun s hs => hA s (List.mem_cons_of_mem _ hs)) (sub_len h (hA r List.mem_cons_self))
/-- small at all heads -/
def Red (A : List (List Int)) (v : Nat → Int) : Prop := ∀ r ∈ A, 0 ≤ v (hd r) ∧ v (hd r) < col (hd r) r
theorem wr_keep : ∀ {A : List (List Int)} {v : List Int} {j : Nat}, (∀ r ∈ A, r.length = n) → v.length = n → (∀ r ∈ A, col j r = 0) → col j (wr A v) = col j v
  | [], _, _, _, _, _ => rfl
  | r :: A, v, j, hA, h, hz => by
    have hr := hA r List.mem_cons_self
    show col j (wr A (sub v r (wq r v))) = _
    rw [wr_keep (fun s hs => hA s (List.mem_cons_of_mem _ hs)) (sub_len h hr) fun s hs => hz s (List.mem_cons_of_mem _ hs), sub_col h hr, hz r List.mem_cons_self]
    omega
theorem wr_red : ∀ {A : List (List Int)} {v : List Int}, Ech A → (∀ r ∈ A, r.length = n) → v.length = n → Red A (fn_ (wr A v))
  | [], _, _, _, _ => fun r hr => by simp at hr
  | r :: A, v, e, hA, h => fun s hs => by
    have hr := hA r List.mem_cons_self
    have hA2 : ∀ s ∈ A, s.length = n := fun s hs => hA s (List.mem_cons_of_mem r hs)
    have hp := e.p r List.mem_cons_self
    rcases List.mem_cons.mp hs with rfl | hs
    · show 0 ≤ col (hd s) (wr A (sub v s (wq s v))) ∧ col (hd s) (wr A (sub v s (wq s v))) < _
      rw [wr_keep hA2 (sub_len h hr) fun t ht => (e.head t ht).1 _ (Nat.le_refl _), sub_col h hr]
      have := dm (col (hd s) v) (col (hd s) s) (by omega)
      have h2 := this.2.1 hp
      unfold wq
      omega
    · exact wr_red e.tail hA2 (sub_len h hr) s hs
theorem wr_in : ∀ {A : List (List Int)} {v : List Int}, (∀ r ∈ A, r.length = n) → v.length = n → In A fun j => col j v - col j (wr A v)
  | [], v, _, _ => fun j => by show col j v - col j v = 0; omega
  | r :: A, v, hA, h => by
    have hr := hA r List.mem_cons_self
    refine ⟨wq r v, (wr_in (fun s hs => hA s (List.mem_cons_of_mem _ hs)) (sub_len (q := wq r v) h hr)).congr fun j => ?_⟩
    show col j (sub v r (wq r v)) - col j (wr A (sub v r (wq r v))) = (col j v - col j (wr A (sub v r (wq r v)))) - wq r v * col j r
    rw [sub_col h hr]
    omega
theorem red_zero {A : List (List Int)} {v : Nat → Int} (e : Ech A) (h : In A v) (r : Red A v) : ∀ j, v j = 0 :=
  e.small h fun s hs => by have := r s hs; omega
theorem red_eq {A : List (List Int)} {v w : List Int} (e : Ech A) (hv : v.length = n) (hw : w.length = n) (h : In A fun j => col j v - col j w) (r : Red A (fn_ v)) (s : Red A (fn_ w)) : v = w :=
  row_ext hv hw fun j => by
    have := e.small h (fun t ht => by
      have h1 := r t ht
      have h2 := s t ht
      show (col (hd t) v - col (hd t) w).natAbs < _
      simp only [fn_] at h1 h2
      omega) j
    omega
/-- rests are alike just where the difference is a whole sum -/
theorem wr_eq_iff {A : List (List Int)} {v w : List Int} (e : Ech A) (hA : ∀ r ∈ A, r.length = n) (hv : v.length = n) (hw : w.length = n) : wr A v = wr A w ↔ In A fun j => col j v - col j w := by
  have h1 := wr_in hA hv
  have h2 := wr_in hA hw
  constructor
  · intro h
    rw [← h] at h2
    exact (In.lin 1 h1 h2).congr fun j => by omega
  · intro h
    refine red_eq e (wr_len hA hv) (wr_len hA hw) ?_ (wr_red e hA hv) (wr_red e hA hw)
    exact (In.lin 1 (In.lin 1 h h1) (In.neg h2)).congr fun j => by omega
theorem wr_zero_iff {A : List (List Int)} {v : List Int} (e : Ech A) (hA : ∀ r ∈ A, r.length = n) (hv : v.length = n) : (∀ j, col j (wr A v) = 0) ↔ In A (fn_ v) := by
  have h1 := wr_in hA hv
  constructor
  · intro h
    exact h1.congr fun j => by rw [h j]; show col j v - 0 = col j v; omega
  · intro h
    refine red_zero e ?_ (wr_red e hA hv)
    exact (In.lin 1 h h1).congr fun j => by simp only [fn_]; omega
theorem wr_self : ∀ {A : List (List Int)} {w : List Int}, (∀ r ∈ A, r.length = n) → w.length = n → Red A (fn_ w) → wr A w = w ∧ wn A w = List.replicate A.length 0
  | [], _, _, _, _ => ⟨rfl, rfl⟩
  | r :: A, w, hA, hw, h => by
    have hr := hA r List.mem_cons_self
    have h0 := h r List.mem_cons_self
    have e : wq r w = 0 := by
      unfold wq
      rw [Int.fdiv_eq_ediv_of_nonneg _ (by have := h0.1; have := h0.2; simp only [fn_] at *; omega)]
      exact Int.ediv_eq_zero_of_lt h0.1 h0.2
    have e2 : sub w r (wq r w) = w := by rw [e]; exact sub_zero hw hr
    obtain ⟨i1, i2⟩ := wr_self (fun s hs => hA s (List.mem_cons_of_mem _ hs)) hw fun s hs => h s (List.mem_cons_of_mem _ hs)
    refine ⟨?_, ?_⟩
    · show wr A (sub w r (wq r w)) = w
      rw [e2, i1]
    · show wq r w :: wn A (sub w r (wq r w)) = _
      rw [e2, i2, e]
      rfl
/-- the walk's numbers and the rest make the order -/
theorem wr_made (j : Nat) : ∀ {A : List (List Int)} {v : List Int}, (∀ r ∈ A, r.length = n) → v.length = n → (((wn A v).zip A).map fun p => p.1 * col j p.2).sum + col j (wr A v) = col j v
  | [], v, _, _ => by show (0 : Int) + col j v = col j v; omega
  | r :: A, v, hA, h => by
    have hr := hA r List.mem_cons_self
    have ih := wr_made j (fun s hs => hA s (List.mem_cons_of_mem _ hs)) (sub_len (q := wq r v) h hr)
    show (wq r v * col j r + (((wn A (sub v r (wq r v))).zip A).map fun p => p.1 * col j p.2).sum) + col j (wr A (sub v r (wq r v))) = _
    rw [sub_col h hr] at ih
    omega
end
/-! ### whole sums -/
theorem in_sum : ∀ (am : List Int) (rows A : List (List Int)), (∀ r ∈ rows, In A (fn_ r)) → In A fun j => ((am.zip rows).map fun p => p.1 * col j p.2).sum
  | [], _, A, _ => In.zero A
  | _ :: _, [], A, _ => In.zero A
  | a :: am, r :: rows, A, h => (In.add (In.mul a (h r List.mem_cons_self)) (in_sum am rows A fun s hs => h s (List.mem_cons_of_mem _ hs))).congr fun j => by
    rw [List.zip_cons_cons, List.map_cons, List.sum_cons]
/-! ### only the first places -/
theorem col_take {n j : Nat} {r : List Int} : col j (r.take n) = if j < n then col j r else 0 := by
  unfold col
  rw [List.getD_eq_getElem?_getD, List.getD_eq_getElem?_getD]
  split
  · rw [List.getElem?_take_of_lt (by assumption)]
  · rw [List.getElem?_eq_none (by rw [List.length_take]; omega)]
    rfl
theorem In.take {n : Nat} : ∀ {A : List (List Int)} {v : Nat → Int}, In A v → In (A.map fun r => r.take n) fun j => if j < n then v j else 0
  | [], v, h => fun j => by
    show (if j < n then v j else 0) = 0
    rw [h j, ite_self]
  | r :: A, v, ⟨q, h⟩ => ⟨q, (In.take h).congr fun j => by
    rw [col_take]
    show (if j < n then v j - q * col j r else 0) = (if j < n then v j else 0) - q * (if j < n then col j r else 0)
    split
    · rfl
    · omega⟩
theorem hd_take {n : Nat} {r : List Int} (h0 : col (hd r) r ≠ 0) (hn : hd r < n) : hd (r.take n) = hd r :=
  hd_eq (by rw [col_take, if_pos hn]; exact h0) fun j hj => by rw [col_take, if_pos (by omega)]; exact hd_ahead hj
theorem Ech.take {n : Nat} {A : List (List Int)} (e : Ech A) (h : ∀ r ∈ A, hd r < n) : Ech (A.map fun r => r.take n) := by
  have hh : ∀ r ∈ A, hd (r.take n) = hd r := fun r hr => hd_take (by have := e.p r hr; omega) (h r hr)
  refine ⟨fun r hr => ?_, ?_⟩
  · obtain ⟨s, hs, rfl⟩ := List.mem_map.mp hr
    rw [hh s hs, col_take, if_pos (h s hs)]
    exact e.p s hs
  · rw [List.pairwise_map]
    refine List.Pairwise.imp_of_mem (fun {a b} ha hb st => ?_) e.s
    unfold Step
    rw [hh a ha, hh b hb, col_take, col_take, if_pos (h b hb)]
    refine ⟨fun j hj => ?_, ?_⟩
    · rw [col_take]
      split
      · exact st.1 j hj
      · rfl
    · rw [if_pos (h b hb)]
      exact st.2
end Stairs
namespace Det
open Lean.Grind
variable {R : Type} [CommRing R]
def sumTo : Nat → (Nat → R) → R
  | 0, _ => 0
  | n + 1, f => sumTo n f + f n
theorem sum_congr {n : Nat} {f g : Nat → R} (h : ∀ i, i < n → f i = g i) : sumTo n f = sumTo n g := by
  induction n with
  | zero => rfl
  | succ n ih =>
    unfold sumTo
    rw [ih fun i hi => h i (by omega), h n (by omega)]
theorem sum_zero {n : Nat} {f : Nat → R} (h : ∀ i, i < n → f i = 0) : sumTo n f = 0 := by
  induction n with
  | zero => rfl
  | succ n ih =>
    unfold sumTo
    rw [ih fun i hi => h i (by omega), h n (by omega)]
    grind
theorem sum_lin (a b : R) (n : Nat) (f g : Nat → R) : sumTo n (fun i => a * f i + b * g i) = a * sumTo n f + b * sumTo n g := by
  induction n with
  | zero => unfold sumTo; grind
  | succ n ih =>
    unfold sumTo
    rw [ih]
    grind
theorem sum_mul (a : R) (n : Nat) (f : Nat → R) : sumTo n (fun i => a * f i) = a * sumTo n f := by
  induction n with
  | zero => unfold sumTo; grind
  | succ n ih =>
    unfold sumTo
    rw [ih]
    grind
theorem sum_swap (n m : Nat) (f : Nat → Nat → R) : sumTo n (fun i => sumTo m fun j => f i j) = sumTo m (fun j => sumTo n fun i => f i j) := by
  induction n with
  | zero => exact (sum_zero (fun _ _ => rfl)).symm
  | succ n ih =>
    show sumTo n _ + sumTo m _ = sumTo m _
    rw [ih]
    have := sum_lin (1 : R) 1 m (fun j => sumTo n fun i => f i j) (fun j => f n j)
    have e : (fun j => sumTo (n + 1) fun i => f i j) = fun j => 1 * sumTo n (fun i => f i j) + 1 * f n j := by
      funext j
      show sumTo n _ + f n j = _
      grind
    rw [e, this]
    grind
/-- one term taken out -/
theorem sum_one {n c : Nat} (hc : c < n) (f : Nat → R) (h : ∀ i, i < n → i ≠ c → f i = 0) : sumTo n f = f c := by
  induction n with
  | zero => omega
  | succ n ih =>
    show sumTo n f + f n = f c
    by_cases hn : n = c
    · subst hn
      rw [sum_zero fun i hi => h i (by omega) (by omega)]
      grind
    · rw [ih (by omega) fun i hi hne => h i (by omega) hne, h n (by omega) hn]
      grind
theorem sum_two {n c d : Nat} (hc : c < n) (hd : d < n) (hcd : c < d) (f : Nat → R) (h : ∀ i, i < n → i ≠ c → i ≠ d → f i = 0) : sumTo n f = f c + f d := by
  induction n with
  | zero => omega
  | succ n ih =>
    show sumTo n f + f n = _
    by_cases hn : n = d
    · subst hn
      rw [sum_one hcd f fun i hi hne => h i (by omega) hne (by omega)]
    · rw [ih (by omega) (by omega) fun i hi h1 h2 => h i (by omega) h1 h2, h n (by omega) (by omega) hn]
      grind
def sk (j k : Nat) : Nat := if k < j then k else k + 1
def mn (M : Nat → Nat → R) (j : Nat) : Nat → Nat → R := fun i k => M (i + 1) (sk j k)
def sg (j : Nat) : R := if j % 2 = 0 then 1 else -1
/-- Laplace along the first row -/
def det : Nat → (Nat → Nat → R) → R
  | 0, _ => 1
  | n + 1, M => sumTo (n + 1) fun j => sg j * (M 0 j * det n (mn M j))
theorem det_congr : ∀ {n : Nat} {M N : Nat → Nat → R}, (∀ i j, i < n → j < n → M i j = N i j) → det n M = det n N
  | 0, _, _, _ => rfl
  | n + 1, M, N, h => by
    unfold det
    refine sum_congr fun j hj => ?_
    rw [h 0 j (by omega) hj, det_congr (n := n) (M := mn M j) (N := mn N j) fun i k hi hk => ?_]
    exact h (i + 1) (sk j k) (by omega) (by unfold sk; split <;> omega)
def setC (M : Nat → Nat → R) (c : Nat) (u : Nat → R) : Nat → Nat → R := fun i k => if k = c then u i else M i k
/-- the place of column c behind the column j that is left out -/
def un (j c : Nat) : Nat := if c < j then c else c - 1
theorem mn_setC_ne {M : Nat → Nat → R} {c j : Nat} (u : Nat → R) (h : j ≠ c) : mn (setC M c u) j = setC (mn M j) (un j c) fun i => u (i + 1) := by
  funext i k
  unfold mn setC sk un
  by_cases h1 : k < j <;> by_cases h2 : c < j <;> simp only [h1, h2, if_true, if_false]
  · have e1 : ¬ k = c := by omega
    have e2 : ¬ k = c - 1 := by omega
    simp [e1, e2]
  · have e1 : ¬ k + 1 = c := by omega
    have e2 : ¬ k = c := by omega
    simp [e1, e2]
  · by_cases h3 : k + 1 = c
    · have : k = c - 1 := by omega
      rw [if_pos h3, if_pos this]
    · have : ¬ k = c - 1 := by omega
      simp [h3, this]
theorem mn_setC_eq {M : Nat → Nat → R} {c : Nat} (u : Nat → R) : mn (setC M c u) c = mn M c := by
  funext i k
  unfold mn setC sk
  split
  · have : ¬ k = c := by omega
    simp [this]
  · have : ¬ k + 1 = c := by omega
    simp [this]
theorem det_lin (a b : R) : ∀ {n c : Nat} (M : Nat → Nat → R) (u v : Nat → R), c < n → det n (setC M c fun i => a * u i + b * v i) = a * det n (setC M c u) + b * det n (setC M c v)
  | 0, _, _, _, _, h => by omega
  | n + 1, c, M, u, v, h => by
    unfold det
    rw [← sum_lin]
    refine sum_congr fun j hj => ?_
    by_cases hjc : j = c
    · subst hjc
      rw [mn_setC_eq, mn_setC_eq, mn_setC_eq]
      simp only [setC, if_true]
      grind
    · have hc2 : un j c < n := by unfold un; split <;> omega
      rw [mn_setC_ne _ hjc, mn_setC_ne _ hjc, mn_setC_ne _ hjc, det_lin a b (mn M j) _ _ hc2]
      simp only [setC, if_neg hjc]
      grind
/-- two like columns beside one another -/
theorem det_like : ∀ {n c : Nat} (M : Nat → Nat → R), c + 1 < n → (∀ i, i < n → M i c = M i (c + 1)) → det n M = 0
  | 0, _, _, h, _ => by omega
  | n + 1, c, M, h, e => by
    unfold det
    have hsame : det n (mn M c) = det n (mn M (c + 1)) := by
      refine det_congr fun i k hi hk => ?_
      unfold mn sk
      by_cases h1 : k < c
      · rw [if_pos h1, if_pos (by omega)]
      · by_cases h2 : k = c
        · subst h2
          rw [if_neg (by omega), if_pos (by omega)]
          exact (e (i + 1) (by omega)).symm
        · rw [if_neg h1, if_neg (by omega)]
    rw [sum_two (c := c) (d := c + 1) (by omega) (by omega) (by omega) _ fun j hj h1 h2 => ?_]
    · rw [e 0 (by omega), hsame]
      have : (sg (c + 1) : R) = - sg c := by
        unfold sg
        by_cases hc : c % 2 = 0
        · rw [if_pos hc, if_neg (by omega)]
        · rw [if_neg hc, if_pos (by omega)]
          grind
      rw [this]
      grind
    · have hn : un j c + 1 < n := by unfold un; split <;> omega
      rw [det_like (mn M j) hn fun i hi => ?_]
      · grind
      · have h3 := e (i + 1) (by omega)
        unfold mn sk un
        by_cases h4 : c < j
        · rw [if_pos h4, if_pos h4, if_pos (by omega)]
          exact h3
        · rw [if_neg h4, if_neg (by omega), if_neg (by omega)]
          rw [show c - 1 + 1 = c by omega]
          exact h3
theorem sum_first (n : Nat) (f : Nat → R) : sumTo (n + 1) f = f 0 + sumTo n fun i => f (i + 1) := by
  induction n with
  | zero =>
    unfold sumTo sumTo
    grind
  | succ n ih =>
    show sumTo (n + 1) f + f (n + 1) = f 0 + (sumTo n _ + f (n + 1))
    rw [ih]
    grind
theorem sg_succ (j : Nat) : (sg (j + 1) : R) = - sg j := by
  unfold sg
  by_cases hc : j % 2 = 0
  · rw [if_pos hc, if_neg (by omega)]
  · rw [if_neg hc, if_pos (by omega)]
    grind
theorem sk_zero (k : Nat) : sk 0 k = k + 1 := by unfold sk; rw [if_neg (by omega)]
theorem sk_s0 (j : Nat) : sk (j + 1) 0 = 0 := by unfold sk; rw [if_pos (by omega)]
theorem sk_ss (j k : Nat) : sk (j + 1) (k + 1) = sk j k + 1 := by unfold sk; split <;> split <;> omega
/-- .. along the first column -/
theorem det_col : ∀ (n : Nat) (M : Nat → Nat → R), det (n + 1) M = sumTo (n + 1) fun i => sg i * (M i 0 * det n (fun a b => M (sk i a) (b + 1)))
  | 0, M => by
    unfold det sumTo sumTo det
    rfl
  | n + 1, M => by
    show sumTo (n + 2) _ = _
    rw [sum_first, sum_first (n := n + 1) (f := fun i => sg i * (M i 0 * det (n + 1) (fun a b => M (sk i a) (b + 1))))]
    have e0 : mn M 0 = fun a b => M (sk 0 a) (b + 1) := by
      funext a b
      unfold mn
      rw [sk_zero, sk_zero]
    rw [e0]
    congr 1
    have l : (fun j => sg (j + 1) * (M 0 (j + 1) * det (n + 1) (mn M (j + 1)))) = fun j => sumTo (n + 1) fun i => sg (j + 1) * (M 0 (j + 1) * (sg i * (M (i + 1) 0 * det n (fun a b => M (sk i a + 1) (sk j b + 1))))) := by
      funext j
      rw [det_col n (mn M (j + 1))]
      have : ∀ i, mn M (j + 1) i 0 = M (i + 1) 0 := fun i => by unfold mn; rw [sk_s0]
      have e2 : ∀ i, (fun a b => mn M (j + 1) (sk i a) (b + 1)) = fun a b => M (sk i a + 1) (sk j b + 1) := fun i => by
        funext a b
        unfold mn
        rw [sk_ss]
      rw [← sum_mul, ← sum_mul]
      refine sum_congr fun i hi => ?_
      rw [this, e2]
    have r : (fun i => sg (i + 1) * (M (i + 1) 0 * det (n + 1) (fun a b => M (sk (i + 1) a) (b + 1)))) = fun i => sumTo (n + 1) fun j => sg (j + 1) * (M 0 (j + 1) * (sg i * (M (i + 1) 0 * det n (fun a b => M (sk i a + 1) (sk j b + 1))))) := by
      funext i
      show sg (i + 1) * (M (i + 1) 0 * sumTo (n + 1) _) = _
      rw [← sum_mul, ← sum_mul]
      refine sum_congr fun j hj => ?_
      have e2 : (mn (fun a b => M (sk (i + 1) a) (b + 1)) j) = fun a b => M (sk i a + 1) (sk j b + 1) := by
        funext a b
        show M (sk (i + 1) (a + 1)) (sk j b + 1) = _
        rw [sk_ss]
      rw [e2]
      show sg (i + 1) * (M (i + 1) 0 * (sg j * (M (sk (i + 1) 0) (j + 1) * _))) = _
      rw [sk_s0, sg_succ, sg_succ]
      grind
    rw [l, r]
    exact sum_swap _ _ _
/-- turned over -/
theorem det_turn : ∀ (n : Nat) (M : Nat → Nat → R), det n (fun i j => M j i) = det n M
  | 0, _ => rfl
  | n + 1, M => by
    rw [det_col n M]
    show sumTo (n + 1) _ = _
    refine sum_congr fun j hj => ?_
    have e : mn (fun i j => M j i) j = fun a b => (fun a b => M (sk j a) (b + 1)) b a := rfl
    rw [e, det_turn n (fun a b => M (sk j a) (b + 1))]
/-! ### what is linear and alternating in columns -/
structure Alt (n : Nat) (F : (Nat → Nat → R) → R) : Prop where
  congr : ∀ M N, (∀ i j, i < n → j < n → M i j = N i j) → F M = F N
  lin : ∀ (a b : R) M c u v, c < n → F (setC M c fun i => a * u i + b * v i) = a * F (setC M c u) + b * F (setC M c v)
  like : ∀ M c, c + 1 < n → (∀ i, i < n → M i c = M i (c + 1)) → F M = 0
theorem det_alt (n : Nat) : Alt n (det (R := R) n) := ⟨fun _ _ h => det_congr h, fun a b M _ u v h => det_lin a b M u v h, fun M _ h e => det_like M h e⟩
theorem setC_setC {M : Nat → Nat → R} {c : Nat} {u v : Nat → R} : setC (setC M c u) c v = setC M c v := by
  funext i k
  unfold setC
  by_cases h : k = c
  · rw [if_pos h, if_pos h]
  · rw [if_neg h, if_neg h, if_neg h]
theorem setC_comm {M : Nat → Nat → R} {c d : Nat} {u v : Nat → R} (h : c ≠ d) : setC (setC M c u) d v = setC (setC M d v) c u := by
  funext i k
  unfold setC
  by_cases h1 : k = c <;> by_cases h2 : k = d
  · omega
  · rw [if_neg h2, if_pos h1, if_pos h1]
  · rw [if_pos h2, if_neg h1, if_pos h2]
  · rw [if_neg h2, if_neg h1, if_neg h1, if_neg h2]
theorem setC_self {M : Nat → Nat → R} {c : Nat} : setC M c (fun i => M i c) = M := by
  funext i k
  unfold setC
  by_cases h : k = c
  · rw [if_pos h, h]
  · rw [if_neg h]
section
variable {n : Nat} {F : (Nat → Nat → R) → R}
/-- a sum at two columns that are told like -/
theorem Alt.two (A : Alt n F) {c d : Nat} (hc : c < n) (hd : d < n) (hcd : c ≠ d) (z : ∀ M w, F (setC (setC M c w) d w) = 0) (M : Nat → Nat → R) (u v : Nat → R) :
    F (setC (setC M c v) d u) = - F (setC (setC M c u) d v) := by
  have h := z M fun i => 1 * u i + 1 * v i
  rw [A.lin 1 1 _ d u v hd] at h
  rw [setC_comm (u := fun i => 1 * u i + 1 * v i) (v := u) hcd, setC_comm (u := fun i => 1 * u i + 1 * v i) (v := v) hcd, A.lin 1 1 _ c u v hc, A.lin 1 1 _ c u v hc] at h
  rw [← setC_comm (u := u) (v := u) hcd, ← setC_comm (u := v) (v := u) hcd, ← setC_comm (u := u) (v := v) hcd, ← setC_comm (u := v) (v := v) hcd, z M u, z M v] at h
  grind
theorem Alt.adj (A : Alt n F) {c : Nat} (hc : c + 1 < n) (M : Nat → Nat → R) (w : Nat → R) : F (setC (setC M c w) (c + 1) w) = 0 :=
  A.like _ c hc fun i _ => by
    unfold setC
    rw [if_neg (by omega), if_pos rfl, if_pos rfl]
theorem Alt.eq (A : Alt n F) : ∀ (k c : Nat), c + k + 1 < n → ∀ (M : Nat → Nat → R) (w : Nat → R), F (setC (setC M c w) (c + k + 1) w) = 0
  | 0, c, h, M, w => A.adj h M w
  | k + 1, c, h, M, w => by
    have sw := A.two (c := c + k + 1) (d := c + (k + 1) + 1) (by omega) (by omega) (by omega) (fun M w => A.adj (c := c + k + 1) (by omega) M w)
    have e : setC (setC M c w) (c + (k + 1) + 1) w = setC (setC (setC M c w) (c + k + 1) fun i => M i (c + k + 1)) (c + (k + 1) + 1) w := by
      have e2 : (setC (setC M c w) (c + k + 1) fun i => M i (c + k + 1)) = setC M c w := by
        funext i j
        unfold setC
        by_cases hj : j = c + k + 1
        · rw [if_pos hj, if_neg (by omega), hj]
        · rw [if_neg hj]
      rw [e2]
    rw [e, sw (setC M c w) w fun i => M i (c + k + 1)]
    have := A.eq k c (by omega) (setC M (c + (k + 1) + 1) fun i => M i (c + k + 1)) w
    rw [setC_comm (c := c + (k + 1) + 1) (d := c) (by omega), setC_comm (c := c + (k + 1) + 1) (d := c + k + 1) (by omega)] at this
    rw [this]
    grind
/-- two like columns, wherever they stand -/
theorem Alt.same (A : Alt n F) {c d : Nat} (hc : c < n) (hd : d < n) (hcd : c ≠ d) (M : Nat → Nat → R) (w : Nat → R) : F (setC (setC M c w) d w) = 0 := by
  rcases Nat.lt_or_gt_of_ne hcd with h | h
  · have := A.eq (d - c - 1) c (by omega) M w
    rwa [show c + (d - c - 1) + 1 = d by omega] at this
  · rw [setC_comm hcd]
    have := A.eq (c - d - 1) d (by omega) M w
    rwa [show d + (c - d - 1) + 1 = c by omega] at this
theorem Alt.swap (A : Alt n F) {c d : Nat} (hc : c < n) (hd : d < n) (hcd : c ≠ d) (M : Nat → Nat → R) (u v : Nat → R) : F (setC (setC M c v) d u) = - F (setC (setC M c u) d v) :=
  A.two hc hd hcd (fun M w => A.same hc hd hcd M w) M u v
/-- some times another column more -/
theorem Alt.more (A : Alt n F) {c d : Nat} (hc : c < n) (hd : d < n) (hcd : c ≠ d) (a : R) (M : Nat → Nat → R) : F (setC M c fun i => M i c + a * M i d) = F M := by
  have e : (fun i => M i c + a * M i d) = fun i => 1 * M i c + a * M i d := by
    funext i
    grind
  rw [e, A.lin 1 a M c (fun i => M i c) (fun i => M i d) hc, setC_self]
  have z := A.same hc hd hcd M fun i => M i d
  have e2 : setC (setC M c fun i => M i d) d (fun i => M i d) = setC M c fun i => M i d := by
    rw [setC_comm hcd, setC_self]
  rw [e2] at z
  rw [z]
  grind
end
/-! ### there is but one of them -/
def dl (i j : Nat) : R := if i = j then 1 else 0
def idm : Nat → Nat → R := fun i j => dl i j
section
variable {n : Nat} {F : (Nat → Nat → R) → R}
theorem Alt.zero (A : Alt n F) {c : Nat} (hc : c < n) (M : Nat → Nat → R) : F (setC M c fun _ => 0) = 0 := by
  have h := A.lin 0 0 M c (fun _ => 0) (fun _ => 0) hc
  have e : (fun _ : Nat => (0 : R) * 0 + 0 * 0) = fun _ => 0 := by
    funext i
    grind
  rw [e] at h
  rw [h]
  grind
theorem Alt.sum (A : Alt n F) {c : Nat} (hc : c < n) (M : Nat → Nat → R) (a : Nat → R) (u : Nat → Nat → R) : ∀ m, F (setC M c fun r => sumTo m fun i => a i * u i r) = sumTo m fun i => a i * F (setC M c (u i))
  | 0 => A.zero hc M
  | m + 1 => by
    show F (setC M c fun r => (sumTo m fun i => a i * u i r) + a m * u m r) = (sumTo m fun i => a i * F (setC M c (u i))) + a m * F (setC M c (u m))
    have e : (fun r => (sumTo m fun i => a i * u i r) + a m * u m r) = fun r => 1 * (sumTo m fun i => a i * u i r) + a m * u m r := by
      funext r
      grind
    rw [e, A.lin 1 (a m) M c (fun r => sumTo m fun i => a i * u i r) (u m) hc, A.sum hc M a u m]
    grind
end
theorem sk_un {i r : Nat} (h : r ≠ i) : sk i (un i r) = r := by
  unfold sk un
  by_cases h1 : r < i
  · rw [if_pos h1, if_pos h1]
  · rw [if_neg h1, if_neg (by omega)]
    omega
theorem un_sk (i r : Nat) : un i (sk i r) = r := by
  unfold sk un
  by_cases h1 : r < i
  · rw [if_pos h1, if_pos h1]
  · rw [if_neg h1, if_neg (by omega)]
    omega
theorem sk_ne (i r : Nat) : sk i r ≠ i := by unfold sk; split <;> omega
/-- a grid with the i-th unit ahead -/
def ah (i : Nat) (N : Nat → Nat → R) : Nat → Nat → R := fun r c => if c = 0 then dl r i else if r = i then 0 else N (un i r) (c - 1)
theorem ah_setC {i c : Nat} {N : Nat → Nat → R} {w : Nat → R} : ah i (setC N c w) = setC (ah i N) (c + 1) fun r => if r = i then 0 else w (un i r) := by
  funext r k
  simp only [ah, setC]
  by_cases h0 : k = 0
  · rw [if_pos h0, if_neg (by omega), if_pos h0]
  · by_cases h1 : k = c + 1
    · rw [if_neg h0, if_pos h1]
      by_cases h2 : r = i
      · rw [if_pos h2, if_pos h2]
      · rw [if_neg h2, if_neg h2, if_pos (by omega)]
    · rw [if_neg h0, if_neg h1, if_neg h0]
      by_cases h2 : r = i
      · rw [if_pos h2, if_pos h2]
      · rw [if_neg h2, if_neg h2, if_neg (by omega)]
theorem ah_alt {n i : Nat} {F : (Nat → Nat → R) → R} (A : Alt (n + 1) F) (hi : i < n + 1) : Alt n fun N => F (ah i N) where
  congr := fun M N h => A.congr _ _ fun r c hr hc => by
    unfold ah
    by_cases h0 : c = 0
    · rw [if_pos h0, if_pos h0]
    · by_cases h2 : r = i
      · rw [if_neg h0, if_neg h0, if_pos h2, if_pos h2]
      · rw [if_neg h0, if_neg h0, if_neg h2, if_neg h2]
        exact h _ _ (by unfold un; split <;> omega) (by omega)
  lin := fun a b M c u v hc => by
    show F (ah i _) = a * F (ah i _) + b * F (ah i _)
    rw [ah_setC, ah_setC, ah_setC, ← A.lin a b (ah i M) (c + 1) _ _ (by omega)]
    congr 2
    funext r
    by_cases h2 : r = i
    · rw [if_pos h2, if_pos h2, if_pos h2]
      grind
    · rw [if_neg h2, if_neg h2, if_neg h2]
  like := fun M c hc h => A.like _ (c + 1) (by omega) fun r hr => by
    unfold ah
    rw [if_neg (by omega : ¬ c + 1 = 0), if_neg (by omega : ¬ c + 1 + 1 = 0)]
    by_cases h2 : r = i
    · rw [if_pos h2, if_pos h2]
    · rw [if_neg h2, if_neg h2]
      exact h _ (by unfold un; split <;> omega)
/-- units, the i-th ahead -/
def pu (i : Nat) : Nat → Nat → R := fun r c => if c = 0 then dl r i else dl r (sk i (c - 1))
theorem ah_idm (i : Nat) : ah i (idm (R := R)) = pu i := by
  funext r c
  simp only [ah, pu, idm, dl]
  by_cases h0 : c = 0
  · rw [if_pos h0, if_pos h0]
  · rw [if_neg h0, if_neg h0]
    by_cases h2 : r = i
    · rw [if_pos h2, if_neg (by rw [h2]; exact (sk_ne i _).symm)]
    · rw [if_neg h2]
      by_cases h3 : un i r = c - 1
      · rw [if_pos h3, if_pos (by rw [← h3, sk_un h2])]
      · rw [if_neg h3, if_neg fun h => h3 (by rw [h, un_sk])]
theorem pu_sg {n : Nat} {F : (Nat → Nat → R) → R} (A : Alt (n + 1) F) : ∀ i, i < n + 1 → F (pu i) = sg i * F idm
  | 0, _ => by
    have e : pu (R := R) 0 = idm := by
      funext r c
      unfold pu idm
      by_cases h0 : c = 0
      · rw [if_pos h0, h0]
      · rw [if_neg h0, sk_zero, show c - 1 + 1 = c by omega]
    rw [e]
    unfold sg
    rw [if_pos rfl]
    grind
  | i + 1, h => by
    have e1 : pu (R := R) (i + 1) = setC (setC (pu i) 0 fun r => dl r (i + 1)) (i + 1) fun r => dl r i := by
      funext r c
      simp only [setC, pu]
      by_cases h0 : c = 0
      · rw [if_pos h0, if_neg (by omega), if_pos h0]
      · by_cases h1 : c = i + 1
        · rw [if_neg h0, if_pos h1]
          have : sk (i + 1) (c - 1) = i := by unfold sk; rw [if_pos (by omega)]; omega
          rw [this]
        · rw [if_neg h0, if_neg h1, if_neg h0, if_neg h0]
          have : sk (i + 1) (c - 1) = sk i (c - 1) := by unfold sk; split <;> split <;> omega
          rw [this]
    have e2 : setC (setC (pu (R := R) i) 0 fun r => dl r i) (i + 1) (fun r => dl r (i + 1)) = pu i := by
      funext r c
      simp only [setC, pu]
      by_cases h0 : c = 0
      · rw [if_neg (by omega), if_pos h0, if_pos h0]
      · by_cases h1 : c = i + 1
        · rw [if_pos h1, if_neg h0]
          have : sk i (c - 1) = i + 1 := by unfold sk; rw [if_neg (by omega)]; omega
          rw [this]
        · rw [if_neg h1, if_neg h0]
    rw [e1, A.swap (by omega) h (by omega) (pu i) (fun r => dl r i) (fun r => dl r (i + 1)), e2, pu_sg A i (by omega), sg_succ]
    grind
/-- cleared with the unit ahead -/
def clr (B : Nat → Nat → R) (i m : Nat) : Nat → Nat → R := fun r c => if 1 ≤ c ∧ c ≤ m then B r c + (- B i c) * B r 0 else B r c
theorem clr_F {n : Nat} {F : (Nat → Nat → R) → R} (A : Alt (n + 1) F) (B : Nat → Nat → R) (i : Nat) : ∀ m, m ≤ n → F (clr B i m) = F B
  | 0, _ => by
    have : clr B i 0 = B := by
      funext r c
      unfold clr
      rw [if_neg (by omega)]
    rw [this]
  | m + 1, h => by
    have e : clr B i (m + 1) = setC (clr B i m) (m + 1) fun r => clr B i m r (m + 1) + (- B i (m + 1)) * clr B i m r 0 := by
      funext r c
      simp only [setC, clr]
      by_cases h1 : c = m + 1
      · rw [if_pos h1, if_pos (by omega), if_neg (by omega), if_neg (by omega), h1]
      · rw [if_neg h1]
        by_cases h2 : 1 ≤ c ∧ c ≤ m
        · rw [if_pos h2, if_pos (by omega)]
        · rw [if_neg h2, if_neg (by omega)]
    rw [e, A.more (by omega) (by omega) (by omega), clr_F A B i m (by omega)]
theorem uniq : ∀ (n : Nat) (F : (Nat → Nat → R) → R), Alt n F → ∀ M, F M = F idm * det n M
  | 0, F, A, M => by
    rw [A.congr M idm fun i j h => by omega]
    unfold det
    grind
  | n + 1, F, A, M => by
    have h1 : F M = sumTo (n + 1) fun i => M i 0 * F (setC M 0 fun r => dl r i) := by
      rw [← A.sum (by omega) M (fun i => M i 0) (fun i r => dl r i) (n + 1)]
      refine A.congr _ _ fun r c hr hc => ?_
      unfold setC
      by_cases h0 : c = 0
      · rw [if_pos h0]
        show M r c = sumTo (n + 1) fun i => M i 0 * dl r i
        rw [sum_one hr (fun i => M i 0 * dl r i) fun i hi hne => ?_, h0]
        · unfold dl
          rw [if_pos rfl]
          grind
        · unfold dl
          rw [if_neg (by omega)]
          grind
      · rw [if_neg h0]
    rw [h1, det_col n M, ← sum_mul]
    refine sum_congr fun i hi => ?_
    have h2 : F (setC M 0 fun r => dl r i) = F (ah i fun a b => M (sk i a) (b + 1)) := by
      rw [← clr_F A (setC M 0 fun r => dl r i) i n (Nat.le_refl _)]
      refine A.congr _ _ fun r c hr hc => ?_
      simp only [clr, ah, setC]
      by_cases h0 : c = 0
      · rw [if_neg (by omega), if_pos h0, if_pos h0]
      · rw [if_pos (by omega), if_neg h0, if_neg h0, if_neg h0, if_pos trivial]
        by_cases h3 : r = i
        · rw [if_pos h3, h3]
          unfold dl
          rw [if_pos rfl]
          grind
        · rw [if_neg h3, sk_un h3, show c - 1 + 1 = c by omega]
          unfold dl
          rw [if_neg h3]
          grind
    have h3 := uniq n (fun N => F (ah i N)) (ah_alt A hi) fun a b => M (sk i a) (b + 1)
    have h4 : F (ah i idm) = sg i * F idm := by rw [ah_idm]; exact pu_sg A i hi
    rw [h2, h3, h4]
    grind
def mul (n : Nat) (A B : Nat → Nat → R) : Nat → Nat → R := fun i j => sumTo n fun k => A i k * B k j
theorem det_mul (n : Nat) (A B : Nat → Nat → R) : det n (mul n A B) = det n A * det n B := by
  have alt : Alt n fun B => det n (mul n A B) := by
    refine ⟨fun M N h => det_congr fun i j hi hj => sum_congr fun k hk => by rw [h k j hk hj], fun a b M c u v hc => ?_, fun M c hc h => det_like _ hc fun i hi => sum_congr fun k hk => by rw [h k hk]⟩
    have e : ∀ w : Nat → R, mul n A (setC M c w) = setC (mul n A M) c fun i => sumTo n fun k => A i k * w k := fun w => by
      funext i j
      simp only [mul, setC]
      by_cases h : j = c
      · rw [if_pos h]
        exact sum_congr fun k _ => by rw [if_pos h]
      · rw [if_neg h]
        exact sum_congr fun k _ => by rw [if_neg h]
    show det n (mul n A _) = a * det n (mul n A _) + b * det n (mul n A _)
    rw [e, e, e, ← det_lin a b _ _ _ hc]
    congr 2
    funext i
    rw [← sum_lin]
    exact sum_congr fun k _ => by grind
  have h := uniq n _ alt B
  have e : det n (mul n A idm) = det n A := det_congr fun i j hi hj => by
    simp only [mul, idm]
    rw [sum_one hj _ fun k hk hne => ?_]
    · unfold dl
      rw [if_pos rfl]
      grind
    · unfold dl
      rw [if_neg hne]
      grind
  have h2 : det n (mul n A B) = det n (mul n A idm) * det n B := h
  rw [h2, e]
end Det
namespace Det
open Lean.Grind
variable {R : Type} [CommRing R]
def setR (M : Nat → Nat → R) (r : Nat) (u : Nat → R) : Nat → Nat → R := fun i k => if i = r then u k else M i k
def tr (M : Nat → Nat → R) : Nat → Nat → R := fun i j => M j i
theorem det_tr (n : Nat) (M : Nat → Nat → R) : det n (tr M) = det n M := det_turn n M
theorem tr_setR {M : Nat → Nat → R} {r : Nat} {u : Nat → R} : tr (setR M r u) = setC (tr M) r u := rfl
/-- some times another row more -/
theorem det_rmore {n c d : Nat} (hc : c < n) (hd : d < n) (hcd : c ≠ d) (a : R) (M : Nat → Nat → R) : det n (setR M c fun k => M c k + a * M d k) = det n M := by
  rw [← det_tr, tr_setR, ← det_tr n M]
  exact (det_alt n).more hc hd hcd a (tr M)
theorem det_rzero {n c : Nat} (hc : c < n) {M : Nat → Nat → R} (h : ∀ k, k < n → M c k = 0) : det n M = 0 := by
  have e : det n M = det n (setR M c fun _ => 0) := det_congr fun i j hi hj => by
    unfold setR
    by_cases h1 : i = c
    · rw [if_pos h1, h1, h j hj]
    · rw [if_neg h1]
  rw [e, ← det_tr, tr_setR]
  exact (det_alt n).zero hc (tr M)
theorem det_rlin {n c : Nat} (hc : c < n) (a b : R) (M : Nat → Nat → R) (u v : Nat → R) : det n (setR M c fun k => a * u k + b * v k) = a * det n (setR M c u) + b * det n (setR M c v) := by
  rw [← det_tr, tr_setR, ← det_tr n (setR M c u), ← det_tr n (setR M c v), tr_setR, tr_setR]
  exact (det_alt n).lin a b (tr M) c u v hc
theorem det_rswap {n c d : Nat} (hc : c < n) (hd : d < n) (hcd : c ≠ d) (M : Nat → Nat → R) : det n (setR (setR M c (M d)) d (M c)) = - det n M := by
  have h := (det_alt (R := R) n).swap hc hd hcd (tr M) (M c) (M d)
  have e : setC (setC (tr M) c (M c)) d (M d) = tr M := by
    funext i k
    simp only [setC, tr]
    by_cases h1 : k = d
    · rw [if_pos h1, h1]
    · rw [if_neg h1]
      by_cases h2 : k = c
      · rw [if_pos h2, h2]
      · rw [if_neg h2]
  rw [e, det_tr] at h
  rw [← det_tr, tr_setR, tr_setR]
  exact h
/-- rows above, so often each, added to a row -/
theorem det_rsum {n c : Nat} (hc : c < n) (lam : Nat → R) (M : Nat → Nat → R) : ∀ m, m ≤ c → det n (setR M c fun k => M c k + sumTo m fun l => lam l * M l k) = det n M
  | 0, _ => by
    have e : (setR M c fun k => M c k + sumTo 0 fun l => lam l * M l k) = M := by
      funext i k
      simp only [setR]
      by_cases h : i = c
      · rw [if_pos h, h]
        unfold sumTo
        grind
      · rw [if_neg h]
    rw [e]
  | m + 1, h => by
    have ih := det_rsum hc lam M m (by omega)
    have e : (setR M c fun k => M c k + sumTo (m + 1) fun l => lam l * M l k) = setR (setR M c fun k => M c k + sumTo m fun l => lam l * M l k) c fun k => (setR M c fun k => M c k + sumTo m fun l => lam l * M l k) c k + lam m * (setR M c fun k => M c k + sumTo m fun l => lam l * M l k) m k := by
      funext i k
      simp only [setR]
      by_cases h1 : i = c
      · rw [if_pos h1, if_pos h1, if_pos trivial, if_neg (by omega)]
        show _ + (sumTo m _ + _) = _
        grind
      · rw [if_neg h1, if_neg h1, if_neg h1]
    rw [e, det_rmore hc (by omega) (by omega), ih]
/-- the last row has a number at the end alone -/
theorem det_last : ∀ (n : Nat) (M : Nat → Nat → R), (∀ j, j < n → M n j = 0) → det (n + 1) M = M n n * det n M
  | 0, M, _ => by
    show (0 : R) + (if 0 % 2 = 0 then (1 : R) else -1) * (M 0 0 * 1) = M 0 0 * 1
    rw [if_pos rfl]
    grind
  | n + 1, M, h => by
    show sumTo (n + 1) (fun j => sg j * (M 0 j * det (n + 1) (mn M j))) + sg (n + 1) * (M 0 (n + 1) * det (n + 1) (mn M (n + 1))) = _
    have hz : det (n + 1) (mn M (n + 1)) = 0 := det_rzero (c := n) (by omega) fun k hk => by
      unfold mn sk
      rw [if_pos (by omega)]
      exact h k hk
    rw [hz]
    have e : sumTo (n + 1) (fun j => sg j * (M 0 j * det (n + 1) (mn M j))) = sumTo (n + 1) fun j => M (n + 1) (n + 1) * (sg j * (M 0 j * det n (mn M j))) := sum_congr fun j hj => by
      rw [det_last n (mn M j) fun k hk => ?_]
      · have : mn M j n n = M (n + 1) (n + 1) := by
          unfold mn sk
          rw [if_neg (by omega)]
        rw [this]
        grind
      · unfold mn
        exact h _ (by unfold sk; split <;> omega)
    rw [e, sum_mul]
    show _ = M (n + 1) (n + 1) * sumTo (n + 1) _
    grind
/-- noughts in a corner that is too wide -/
theorem det_corner : ∀ (n k : Nat) (M : Nat → Nat → R), k < n → (∀ i j, k ≤ i → i < n → j ≤ k → M i j = 0) → det n M = 0
  | 0, _, _, h, _ => by omega
  | n + 1, 0, M, _, h => by
    rw [← det_tr]
    exact det_rzero (c := 0) (by omega) fun k hk => h k 0 (by omega) hk (by omega)
  | n + 1, k + 1, M, hk, h => by
    show sumTo (n + 1) _ = 0
    refine sum_zero fun j hj => ?_
    rw [det_corner n k (mn M j) (by omega) fun i c hi hin hc => ?_]
    · grind
    · unfold mn
      exact h _ _ (by omega) (by omega) (by unfold sk; split <;> omega)
/-! ### the steps of the program, over the fractions -/
def bord {S : Type} (A : Nat → Nat → S) (k i j : Nat) : Nat → Nat → S := fun r c => A (if r = k then i else r) (if c = k then j else c)
theorem bord_val {n k i j : Nat} {A T : Nat → Nat → Rat} {m : Rat} (lam : Nat → Rat) (hT : ∀ c, c < n → T i c = m * (A i c + sumTo k fun l => lam l * A l c)) (hz : ∀ c, c < k → T i c = 0) (hm : m ≠ 0) (hd : det k A = m) (hj : j < n) (hk : k ≤ n) : det (k + 1) (bord A k i j) = T i j := by
  have e0 := det_rsum (n := k + 1) (c := k) (by omega) lam (bord A k i j) k (Nat.le_refl _)
  rw [← e0, det_last k _ fun c hc => ?_]
  · have e1 : det k (setR (bord A k i j) k fun c => bord A k i j k c + sumTo k fun l => lam l * bord A k i j l c) = det k A := det_congr fun r c hr hc => by
      simp only [setR, bord]
      rw [if_neg (by omega), if_neg (by omega), if_neg (by omega)]
    rw [e1, hd, hT j hj]
    have e2 : (setR (bord A k i j) k fun c => bord A k i j k c + sumTo k fun l => lam l * bord A k i j l c) k k = A i j + sumTo k fun l => lam l * A l j := by
      simp only [setR, bord]
      rw [if_pos trivial, if_pos trivial]
      congr 1
      exact sum_congr fun l hl => by rw [if_neg (by omega), if_pos trivial]
    rw [e2]
    grind
  · have h1 := hz c hc
    rw [hT c (by omega)] at h1
    have e2 : (setR (bord A k i j) k fun c => bord A k i j k c + sumTo k fun l => lam l * bord A k i j l c) k c = A i c + sumTo k fun l => lam l * A l c := by
      simp only [setR, bord]
      rw [if_pos trivial, if_pos trivial, if_neg (by omega)]
      congr 1
      exact sum_congr fun l hl => by rw [if_neg (by omega)]
    rw [e2]
    grind
/-- the state ahead of step k -/
structure Bs (n k : Nat) (A T : Nat → Nat → Rat) (m : Rat) : Prop where
  z : ∀ i c, k ≤ i → i < n → c < k → T i c = 0
  f : ∀ i, k ≤ i → i < n → ∃ lam : Nat → Rat, ∀ c, c < n → T i c = m * (A i c + sumTo k fun l => lam l * A l c)
  m0 : m ≠ 0
  d : det k A = m
theorem Bs.start (n : Nat) (A : Nat → Nat → Rat) : Bs n 0 A A 1 := by
  refine ⟨fun i c _ _ h => by omega, fun i _ _ => ⟨fun _ => 0, fun c _ => ?_⟩, by grind, rfl⟩
  unfold sumTo
  grind
theorem Bs.val {n k i j : Nat} {A T : Nat → Nat → Rat} {m : Rat} (h : Bs n k A T m) (hi : k ≤ i) (hin : i < n) (hj : j < n) : det (k + 1) (bord A k i j) = T i j := by
  obtain ⟨lam, hl⟩ := h.f i hi hin
  exact bord_val lam hl (fun c hc => h.z i c hi hin hc) h.m0 h.d hj (by omega)
theorem Bs.step {n k : Nat} {A T T' : Nat → Nat → Rat} {m : Rat} (h : Bs n k A T m) (hk : k < n) (hp : T k k ≠ 0) (hT : ∀ i c, k < i → i < n → c < n → T' i c * m = T k k * T i c - T i k * T k c) : Bs n (k + 1) A T' (T k k) := by
  obtain ⟨lk, hlk⟩ := h.f k (Nat.le_refl _) hk
  have hm := h.m0
  refine ⟨fun i c hi hin hc => ?_, fun i hi hin => ?_, hp, ?_⟩
  · have e := hT i c (by omega) hin (by omega)
    have : T k k * T i c - T i k * T k c = 0 := by
      by_cases hck : c = k
      · rw [hck]
        grind
      · rw [h.z i c (by omega) hin (by omega), h.z k c (by omega) hk (by omega)]
        grind
    rw [this] at e
    grind
  · obtain ⟨li, hli⟩ := h.f i (by omega) hin
    refine ⟨fun l => if l = k then - (T i k / T k k) else li l + (- (T i k / T k k)) * lk l, fun c hc => ?_⟩
    have e := hT i c (by omega) hin hc
    have e3 : (sumTo (k + 1) fun l => (if l = k then - (T i k / T k k) else li l + (- (T i k / T k k)) * lk l) * A l c) = (1 * sumTo k (fun l => li l * A l c) + (- (T i k / T k k)) * sumTo k fun l => lk l * A l c) + (- (T i k / T k k)) * A k c := by
      show sumTo k _ + (if k = k then - (T i k / T k k) else li k + (- (T i k / T k k)) * lk k) * A k c = _
      rw [if_pos rfl, ← sum_lin]
      congr 1
      refine sum_congr fun l hl => ?_
      rw [if_neg (by omega)]
      grind
    rw [e3]
    have h1 := hli c hc
    have h2 := hlk c hc
    generalize sumTo k (fun l => li l * A l c) = X at *
    generalize sumTo k (fun l => lk l * A l c) = Y at *
    have h3 : T i k / T k k * T k k = T i k := by grind
    generalize T i k / T k k = q at *
    have h4 : T' i c * m = (T k k * (A i c + X) - T i k * (A k c + Y)) * m := by
      rw [e, h1, h2]
      grind
    have h5 : T' i c = T k k * (A i c + X) - T i k * (A k c + Y) := by grind
    rw [h5]
    grind
  · rw [← h.val (Nat.le_refl _) hk hk]
    refine det_congr fun r c hr hc => ?_
    unfold bord
    by_cases h1 : r = k <;> by_cases h2 : c = k <;> simp [h1, h2]
end Det
namespace Det
abbrev ct (A : Nat → Nat → Int) : Nat → Nat → Rat := fun i j => (A i j : Rat)
theorem sum_ct (n : Nat) (f : Nat → Int) : sumTo n (fun i => ((f i : Int) : Rat)) = ((sumTo n f : Int) : Rat) := by
  induction n with
  | zero => rfl
  | succ n ih =>
    show sumTo n _ + _ = ((sumTo n f + f n : Int) : Rat)
    rw [ih, Rat.intCast_add]
theorem sg_ct (j : Nat) : (sg j : Rat) = ((sg j : Int) : Rat) := by
  unfold sg
  split <;> rfl
theorem det_ct : ∀ (n : Nat) (A : Nat → Nat → Int), det n (ct A) = ((det n A : Int) : Rat)
  | 0, _ => rfl
  | n + 1, A => by
    show sumTo (n + 1) _ = ((sumTo (n + 1) _ : Int) : Rat)
    rw [← sum_ct]
    refine sum_congr fun j hj => ?_
    have e : mn (ct A) j = ct (mn A j) := rfl
    rw [e, det_ct n (mn A j), sg_ct, Rat.intCast_mul, Rat.intCast_mul]
/-- rows exchanged -/
def sw {S : Type} (a b : Nat) (M : Nat → Nat → S) : Nat → Nat → S := fun i => M (if i = a then b else if i = b then a else i)
theorem Bs.sw {n k p : Nat} {A T : Nat → Nat → Rat} {m : Rat} (h : Bs n k A T m) (hk : k < n) (hp : k ≤ p) (hpn : p < n) : Bs n k (Det.sw k p A) (Det.sw k p T) m := by
  have lo : ∀ l, l < k → (if l = k then p else if l = p then k else l) = l := fun l hl => by rw [if_neg (by omega), if_neg (by omega)]
  have hi2 : ∀ i, k ≤ i → i < n → k ≤ (if i = k then p else if i = p then k else i) ∧ (if i = k then p else if i = p then k else i) < n := fun i h1 h2 => by split <;> (try split) <;> omega
  refine ⟨fun i c hi hin hc => h.z _ c (hi2 i hi hin).1 (hi2 i hi hin).2 hc, fun i hi hin => ?_, h.m0, ?_⟩
  · obtain ⟨lam, hl⟩ := h.f _ (hi2 i hi hin).1 (hi2 i hi hin).2
    refine ⟨lam, fun c hc => ?_⟩
    have e : (sumTo k fun l => lam l * Det.sw k p A l c) = sumTo k fun l => lam l * A l c := sum_congr fun l hl => by
      show lam l * A (if l = k then p else if l = p then k else l) c = _
      rw [lo l hl]
    rw [e]
    exact hl c hc
  · rw [← h.d]
    refine det_congr fun r c hr hc => ?_
    show A (if r = k then p else if r = p then k else r) c = A r c
    rw [lo r hr]
theorem sw_det {n a b : Nat} (ha : a < n) (hb : b < n) (hab : a ≠ b) (M : Nat → Nat → Int) : det n (Det.sw a b M) = - det n M := by
  rw [← det_rswap ha hb hab M]
  refine det_congr fun i j hi hj => ?_
  show M (if i = a then b else if i = b then a else i) j = _
  simp only [setR]
  by_cases h2 : i = a
  · subst h2
    simp [hab]
  · by_cases h1 : i = b
    · subst h1
      simp [h2]
    · simp [h1, h2]
/-- the new table -/
def nx (T : Nat → Nat → Int) (k : Nat) (m : Int) : Nat → Nat → Int := fun i c => if i ≤ k then T i c else (T k k * T i c - T i k * T k c).fdiv m
theorem Bs.int {n k : Nat} {A T : Nat → Nat → Int} {m : Int} (h : Bs n k (ct A) (ct T) (m : Rat)) (hk : k < n) (hp : T k k ≠ 0) : Bs n (k + 1) (ct A) (ct (nx T k m)) ((T k k : Int) : Rat) := by
  have hm : m ≠ 0 := fun e => h.m0 (by rw [e]; rfl)
  have hmr : (m : Rat) ≠ 0 := h.m0
  have hpr : ct T k k ≠ 0 := fun e => hp (by
    have : ((T k k : Int) : Rat) = ((0 : Int) : Rat) := e
    exact Rat.intCast_inj.mp this)
  let T' : Nat → Nat → Rat := fun i c => (ct T k k * ct T i c - ct T i k * ct T k c) / (m : Rat)
  have hs := h.step (T' := T') hk hpr fun i c _ _ _ => by
    show (ct T k k * ct T i c - ct T i k * ct T k c) / (m : Rat) * (m : Rat) = _
    grind
  refine h.step hk hpr fun i c hi hin hc => ?_
  have v := hs.val (i := i) (j := c) (by omega) hin hc
  have e1 : bord (ct A) (k + 1) i c = ct (bord A (k + 1) i c) := rfl
  rw [e1, det_ct] at v
  have e2 : T k k * T i c - T i k * T k c = det (k + 1 + 1) (bord A (k + 1) i c) * m := by
    have : ((T k k * T i c - T i k * T k c : Int) : Rat) = ((det (k + 1 + 1) (bord A (k + 1) i c) * m : Int) : Rat) := by
      rw [Rat.intCast_sub, Rat.intCast_mul, Rat.intCast_mul, Rat.intCast_mul, v]
      show _ = (ct T k k * ct T i c - ct T i k * ct T k c) / (m : Rat) * (m : Rat)
      grind
    exact Rat.intCast_inj.mp this
  show ((nx T k m i c : Int) : Rat) * (m : Rat) = ct T k k * ct T i c - ct T i k * ct T k c
  unfold nx
  rw [if_neg (by omega), e2, Int.mul_fdiv_cancel _ hm, ← Rat.intCast_mul, ← e2, Rat.intCast_sub, Rat.intCast_mul, Rat.intCast_mul]
/-- no line found -/
theorem Bs.none {n k : Nat} {A T : Nat → Nat → Rat} {m : Rat} (h : Bs n k A T m) (hk : k < n) (hz : ∀ i, k ≤ i → i < n → T i k = 0) : det n A = 0 := by
  have go : ∀ p, k + p ≤ n → det n A = 0 ∨ det n (fun i c => if k ≤ i ∧ i < k + p then T i c else A i c) ≠ 0 := by
    intro p
    induction p with
    | zero =>
      intro _
      by_cases h0 : det n A = 0
      · exact .inl h0
      · refine .inr fun hc => h0 ?_
        rw [← hc]
        refine det_congr fun i j hi hj => ?_
        rw [if_neg (by omega)]
    | succ p ih =>
      intro hp
      rcases ih (by omega) with q | q
      · exact .inl q
      · refine .inr fun hc => q ?_
        obtain ⟨lam, hl⟩ := h.f (k + p) (by omega) (by omega)
        have hr := det_rsum (n := n) (c := k + p) (by omega) lam (fun i c => if k ≤ i ∧ i < k + p then T i c else A i c) k (by omega)
        have e : det n (fun i c => if k ≤ i ∧ i < k + (p + 1) then T i c else A i c) = m * det n (setR (fun i c => if k ≤ i ∧ i < k + p then T i c else A i c) (k + p) fun c => (fun i c => if k ≤ i ∧ i < k + p then T i c else A i c) (k + p) c + sumTo k fun l => lam l * (fun i c => if k ≤ i ∧ i < k + p then T i c else A i c) l c) := by
          have l2 := det_rlin (n := n) (c := k + p) (by omega) m 0 (fun i c => if k ≤ i ∧ i < k + p then T i c else A i c) (fun c => (fun i c => if k ≤ i ∧ i < k + p then T i c else A i c) (k + p) c + sumTo k fun l => lam l * (fun i c => if k ≤ i ∧ i < k + p then T i c else A i c) l c) (fun _ => 0)
          have e3 : ∀ x y : Rat, m * x + 0 * y = m * x := fun x y => by grind
          rw [e3] at l2
          rw [← l2]
          refine det_congr fun i j hi hj => ?_
          simp only [setR]
          by_cases h1 : i = k + p
          · rw [if_pos (by omega), if_pos h1, h1, hl j hj, if_neg (by omega)]
            have e4 : (sumTo k fun l => lam l * if k ≤ l ∧ l < k + p then T l j else A l j) = sumTo k fun l => lam l * A l j := sum_congr fun l hl2 => by rw [if_neg (by omega)]
            rw [e4]
            grind
          · rw [if_neg h1]
            by_cases h2 : k ≤ i ∧ i < k + p
            · rw [if_pos h2, if_pos (by omega)]
            · rw [if_neg h2, if_neg (by omega)]
        rw [hr, hc] at e
        have hm := h.m0
        grind
  rcases go (n - k) (by omega) with q | q
  · exact q
  · refine absurd (det_corner n k _ hk fun i j hi hin hj => ?_) q
    show (if k ≤ i ∧ i < k + (n - k) then T i j else A i j) = 0
    rw [if_pos (by omega)]
    by_cases h1 : j = k
    · rw [h1]
      exact hz i hi hin
    · exact h.z i j hi hin (by omega)
end Det
set_option exponentiation.threshold 100000
/-! Whole sums told by numbers; units; idle rows. -/
namespace Stairs
open Det
theorem sum_pad {m : Nat} {f : Nat → Int} : ∀ d, (∀ k, m ≤ k → f k = 0) → sumTo (m + d) f = sumTo m f
  | 0, _ => rfl
  | d + 1, h => by
    show sumTo (m + d) f + f (m + d) = _
    rw [sum_pad d h, h (m + d) (by omega)]
    omega
theorem col_nil (j : Nat) : col j [] = 0 := rfl
theorem In.nums : ∀ {A : List (List Int)} {v : Nat → Int}, In A v → ∃ c : Nat → Int, ∀ j, v j = sumTo A.length fun k => c k * col j (A.getD k [])
  | [], v, h => ⟨fun _ => 0, fun j => h j⟩
  | r :: A, v, ⟨q, h⟩ => by
    obtain ⟨c, hc⟩ := In.nums h
    refine ⟨fun k => if k = 0 then q else c (k - 1), fun j => ?_⟩
    have e := sum_first A.length fun k => (if k = 0 then q else c (k - 1)) * col j ((r :: A).getD k [])
    rw [List.length_cons, e]
    have e2 : (sumTo A.length fun k => (if k + 1 = 0 then q else c (k + 1 - 1)) * col j ((r :: A).getD (k + 1) [])) = sumTo A.length fun k => c k * col j (A.getD k []) := sum_congr fun k hk => by
      rw [if_neg (by omega), Nat.add_sub_cancel]
      rfl
    rw [e2, ← hc j, if_pos rfl]
    show v j = q * col j r + (v j - q * col j r)
    omega
theorem det_idm : ∀ n, det (R := Int) n idm = 1
  | 0 => rfl
  | n + 1 => by
    rw [det_last n idm fun j hj => by unfold idm dl; rw [if_neg (by omega)], det_idm n]
    unfold idm dl
    rw [if_pos rfl]
    rfl
/-- as many units, as many rows at least -/
theorem units_len {A : List (List Int)} {p : Nat} (h : ∀ i, i < p → In A fun j => if j = i then 1 else 0) : p ≤ A.length := by
  refine Classical.byContradiction fun hlt => ?_
  have hc : ∀ i, ∃ c : Nat → Int, i < p → ∀ j, (if j = i then (1 : Int) else 0) = sumTo A.length fun k => c k * col j (A.getD k []) := fun i => by
    by_cases hi : i < p
    · obtain ⟨c, hc⟩ := (h i hi).nums
      exact ⟨c, fun _ => hc⟩
    · exact ⟨fun _ => 0, fun z => absurd z hi⟩
  obtain ⟨U, cc⟩ : ∃ U : Nat → Nat → Int, ∀ i, i < p → ∀ j, (if j = i then (1 : Int) else 0) = sumTo A.length fun k => U i k * col j (A.getD k []) := ⟨fun i => Classical.choose (hc i), fun i hi => Classical.choose_spec (hc i) hi⟩
  have hz : ∀ j k, A.length ≤ k → col j (A.getD k []) = 0 := fun j k hk => by
    rw [List.getD_eq_getElem?_getD, List.getElem?_eq_none hk]
    rfl
  have e : det p (mul p U fun k j => col j (A.getD k [])) = det p idm := det_congr fun i j hi hj => by
    obtain ⟨d, hd⟩ : ∃ d, p = A.length + d := ⟨p - A.length, by omega⟩
    have w := cc i hi j
    show (sumTo p fun k => U i k * col j (A.getD k [])) = _
    rw [hd, sum_pad d fun k hk => by rw [hz j k hk, Int.mul_zero], ← w]
    unfold idm dl
    by_cases q : j = i
    · rw [if_pos q, if_pos q.symm]
    · rw [if_neg q, if_neg fun z => q z.symm]
  rw [det_mul, det_idm, det_rzero (M := fun k j => col j (A.getD k [])) (c := A.length) (by omega) fun k hk => hz k _ (Nat.le_refl _), Int.mul_zero] at e
  exact absurd e (by decide)
/-! ### what is left of stairs where the first numbers are 0 -/
theorem In.behind : ∀ {A left : List (List Int)} {v : Nat → Int} {n : Nat}, (∀ r ∈ A, col (hd r) r ≠ 0 ∧ hd r < n) → A.Pairwise (fun r s => hd r < hd s) → (∀ r ∈ left, ∀ j, j < n → col j r = 0) → In (A ++ left) v → (∀ j, j < n → v j = 0) → In left v
  | [], left, v, n, _, _, _, h, _ => h
  | r :: A, left, v, n, hA, hs, hl, ⟨q, h⟩, hv => by
    have hr := hA r List.mem_cons_self
    have hp := List.pairwise_cons.mp hs
    have h0 : v (hd r) - q * col (hd r) r = 0 := In.nil (j := hd r) h fun s hs2 => by
      rcases List.mem_append.mp hs2 with w | w
      · exact hd_ahead (hp.1 s w)
      · exact hl s w _ hr.2
    rw [hv _ hr.2] at h0
    have hq : q = 0 := by
      have : q * col (hd r) r = 0 := by omega
      rcases Int.mul_eq_zero.mp this with z | z
      · exact z
      · exact absurd z hr.1
    subst hq
    exact In.behind (fun s hs2 => hA s (List.mem_cons_of_mem _ hs2)) hp.2 hl (h.congr fun j => by omega) hv
/-- those of stairs that begin behind -/
abbrev late (n : Nat) (A : List (List Int)) : List (List Int) := A.filter fun r => decide (∀ x ∈ r.take n, x = 0)
theorem late_iff {n : Nat} {r : List Int} : (∀ x ∈ r.take n, x = 0) ↔ ∀ j, j < n → col j r = 0 := by
  constructor
  · intro h j hj
    have e := col_take (n := n) (j := j) (r := r)
    rw [if_pos hj] at e
    rw [← e]
    unfold col
    rw [List.getD_eq_getElem?_getD]
    cases q : (r.take n)[j]? with
    | none => rfl
    | some x => exact h x (List.mem_of_getElem? q)
  · intro h x hx
    obtain ⟨i, hi, e⟩ := List.getElem_of_mem hx
    have hin : i < n := by rw [List.length_take] at hi; omega
    have w := h i hin
    have e2 := col_take (n := n) (j := i) (r := r)
    rw [if_pos hin, w] at e2
    unfold col at e2
    rw [List.getD_eq_getElem?_getD, List.getElem?_eq_getElem hi] at e2
    exact e ▸ e2
theorem mem_late {n : Nat} {A : List (List Int)} {r : List Int} : r ∈ late n A ↔ r ∈ A ∧ ∀ j, j < n → col j r = 0 := by
  rw [List.mem_filter, decide_eq_true_eq, late_iff]
theorem Ech.late : ∀ {A : List (List Int)} {v : Nat → Int} {n : Nat}, Ech A → In A v → (∀ j, j < n → v j = 0) → In (late n A) v
  | [], v, n, _, h, _ => h
  | r :: A, v, n, e, ⟨q, h⟩, hv => by
    have hp := e.p r List.mem_cons_self
    have h0 : v (hd r) - q * col (hd r) r = 0 := In.nil (j := hd r) h fun s hs2 => (e.head s hs2).1 _ (Nat.le_refl _)
    by_cases hn : hd r < n
    · rw [hv _ hn] at h0
      have hq : q = 0 := by
        have : q * col (hd r) r = 0 := by omega
        rcases Int.mul_eq_zero.mp this with z | z
        · exact z
        · omega
      subst hq
      have := Ech.late e.tail (h.congr fun j => by omega) hv
      exact this.sub fun s hs => In.mem (mem_late.mpr ⟨List.mem_cons_of_mem _ (mem_late.mp hs).1, (mem_late.mp hs).2⟩)
    · have hz : ∀ j, j < n → col j r = 0 := fun j hj => hd_ahead (by omega)
      have ih := Ech.late (n := n) e.tail h fun j hj => by
        show v j - q * col j r = 0
        rw [hv j hj, hz j hj]
        omega
      have hm : r ∈ Stairs.late n (r :: A) := mem_late.mpr ⟨List.mem_cons_self, hz⟩
      have ih2 : In (Stairs.late n (r :: A)) fun j => v j - q * col j r := ih.sub fun s hs => In.mem (mem_late.mpr ⟨List.mem_cons_of_mem _ (mem_late.mp hs).1, (mem_late.mp hs).2⟩)
      exact (In.lin (-q) ih2 (In.mem hm)).congr fun j => by
        show v j - q * col j r - -q * col j r = v j
        grind
theorem col_drop {n j : Nat} {r : List Int} : col j (r.drop n) = col (n + j) r := by
  unfold col
  rw [List.getD_eq_getElem?_getD, List.getD_eq_getElem?_getD, List.getElem?_drop]
theorem In.drop {n : Nat} : ∀ {A : List (List Int)} {v : Nat → Int}, In A v → In (A.map fun r => r.drop n) fun j => v (n + j)
  | [], v, h => fun j => h (n + j)
  | r :: A, v, ⟨q, h⟩ => ⟨q, (In.drop h).congr fun j => by rw [col_drop]⟩
/-- back: rows with noughts ahead -/
theorem In.undrop {n : Nat} : ∀ {A : List (List Int)} {w : Nat → Int}, (∀ r ∈ A, ∀ j, j < n → col j r = 0) → In (A.map fun r => r.drop n) w → In A fun j => if j < n then 0 else w (j - n)
  | [], w, _, h => fun j => by
    show (if j < n then (0 : Int) else w (j - n)) = 0
    rw [h (j - n), ite_self]
  | r :: A, w, hA, ⟨q, h⟩ => ⟨q, (In.undrop (fun s hs => hA s (List.mem_cons_of_mem _ hs)) h).congr fun j => by
    rw [col_drop]
    show (if j < n then (0 : Int) else w (j - n) - q * col (n + (j - n)) r) = (if j < n then 0 else w (j - n)) - q * col j r
    by_cases hj : j < n
    · rw [if_pos hj, if_pos hj, hA r List.mem_cons_self j hj]
      omega
    · rw [if_neg hj, if_neg hj, show n + (j - n) = j by omega]⟩
theorem hd_drop {n : Nat} {r : List Int} (h0 : col (hd r) r ≠ 0) (hz : ∀ j, j < n → col j r = 0) : hd (r.drop n) + n = hd r := by
  have hn : n ≤ hd r := by
    rcases Nat.lt_or_ge (hd r) n with z | z
    · exact absurd (hz _ z) h0
    · exact z
  have : hd (r.drop n) = hd r - n := hd_eq (by rw [col_drop, show n + (hd r - n) = hd r by omega]; exact h0) fun j hj => by rw [col_drop]; exact hd_ahead (by omega)
  omega
theorem Ech.drop {n : Nat} {A : List (List Int)} (e : Ech A) (h : ∀ r ∈ A, ∀ j, j < n → col j r = 0) : Ech (A.map fun r => r.drop n) := by
  have hh : ∀ r ∈ A, hd (r.drop n) + n = hd r := fun r hr => hd_drop (by have := e.p r hr; omega) (h r hr)
  have hc : ∀ r ∈ A, ∀ s : List Int, col (hd (r.drop n)) (s.drop n) = col (hd r) s := fun r hr s => by
    rw [col_drop]
    congr 1
    have := hh r hr
    omega
  refine ⟨fun r hr => ?_, ?_⟩
  · obtain ⟨s, hs, rfl⟩ := List.mem_map.mp hr
    rw [hc s hs]
    exact e.p s hs
  · rw [List.pairwise_map]
    refine List.Pairwise.imp_of_mem (fun {a b} ha hb st => ?_) e.s
    refine ⟨fun j hj => ?_, ?_⟩
    · rw [col_drop]
      exact st.1 _ (by have := hh a ha; omega)
    · rw [hc b hb, hc b hb]
      exact st.2
theorem Ech.filter {A : List (List Int)} (e : Ech A) (p : List Int → Bool) : Ech (A.filter p) := ⟨fun r hr => e.p r (List.mem_filter.mp hr).1, e.s.filter p⟩
/-- the idle stairs are one list, in whichever way they are come to -/
theorem idle_one {n p : Nat} {X F fd left G : List (List Int)} (hF : Ech F) (hFl : ∀ r ∈ F, r.length = n + p) (hE : Eqv X F) (hv : Eqv X (fd ++ left)) (e : Ech fd) (h : ∀ r ∈ fd, hd r < n) (z : ∀ r ∈ left, ∀ j, j < n → col j r = 0) (hG : Ech G) (hGl : ∀ r ∈ G, r.length = p) (hGE : Eqv (left.map fun r => r.drop n) G) : (late n F).map (fun r => r.drop n) = G := by
  have hs : fd.Pairwise fun r s => hd r < hd s := by
    refine List.Pairwise.imp_of_mem (fun {a b} ha hb st => ?_) e.s
    rcases Nat.lt_or_ge (hd a) (hd b) with w | w
    · exact w
    · have := st.1 _ w
      have := e.p b hb
      omega
  have hA : ∀ r ∈ fd, col (hd r) r ≠ 0 ∧ hd r < n := fun r hr => ⟨by have := e.p r hr; omega, h r hr⟩
  have hX := hv.symm.trans hE
  have l1 : Eqv left (late n F) := by
    constructor
    · intro r hr
      exact hF.late (hX.1 r (List.mem_append_right _ hr)) (z r hr)
    · intro r hr
      obtain ⟨h1, h2⟩ := mem_late.mp hr
      exact In.behind hA hs z (hX.2 r h1) h2
  have l2 : Eqv (left.map fun r => r.drop n) ((late n F).map fun r => r.drop n) := by
    have cut : ∀ e : List Int, (fun j => fn_ e (n + j)) = fn_ (e.drop n) := fun e => by
      funext j
      exact col_drop.symm
    constructor
    · intro r hr
      obtain ⟨s, hs, rfl⟩ := List.mem_map.mp hr
      have := In.drop (n := n) (l1.1 s hs)
      rw [cut] at this
      exact this
    · intro r hr
      obtain ⟨s, hs, rfl⟩ := List.mem_map.mp hr
      have := In.drop (n := n) (l1.2 s hs)
      rw [cut] at this
      exact this
  refine Ech.unique (n := p) ((hF.filter _).drop fun r hr => (mem_late.mp hr).2) hG (fun r hr => ?_) hGl (l2.symm.trans hGE)
  obtain ⟨s, hs, rfl⟩ := List.mem_map.mp hr
  rw [List.length_drop, hFl s (mem_late.mp hs).1]
  omega
/-! ### rows with one of itself behind each -/
def unit (p i : Nat) : List Int := (List.range p).map fun k => if k = i then 1 else 0
def ext0 (rows : List (List Int)) : List (List Int) := rows.zipIdx.map fun p => p.1 ++ unit rows.length p.2
theorem unit_len (p i : Nat) : (unit p i).length = p := by unfold unit; simp
theorem unit_col {p i j : Nat} (hi : i < p) : col j (unit p i) = if j = i then 1 else 0 := by
  unfold col unit
  rw [List.getD_eq_getElem?_getD, List.getElem?_map]
  by_cases hj : j < p
  · rw [List.getElem?_range hj]
    rfl
  · rw [List.getElem?_eq_none (by rw [List.length_range]; omega), if_neg (by omega)]
    rfl
theorem mem_ext0 {rows : List (List Int)} {e : List Int} : e ∈ ext0 rows ↔ ∃ (i : Nat) (hi : i < rows.length), e = rows[i] ++ unit rows.length i := by
  unfold ext0
  rw [List.mem_map]
  constructor
  · rintro ⟨⟨r, i⟩, h, rfl⟩
    have h := List.mem_zipIdx_iff_getElem?.mp h
    obtain ⟨hi, e⟩ := List.getElem?_eq_some_iff.mp h
    exact ⟨i, hi, by rw [e]⟩
  · rintro ⟨i, hi, rfl⟩
    exact ⟨(rows[i], i), List.mem_zipIdx_iff_getElem?.mpr (List.getElem?_eq_getElem hi), rfl⟩
theorem ext_col {n : Nat} {rows : List (List Int)} {i : Nat} (hi : i < rows.length) (hl : rows[i].length = n) (j : Nat) : col j (rows[i] ++ unit rows.length i) = if j < n then col j rows[i] else if j = n + i then 1 else 0 := by
  unfold col
  rw [List.getD_eq_getElem?_getD]
  by_cases h : j < n
  · rw [if_pos h, List.getElem?_append_left (by omega), List.getD_eq_getElem?_getD]
  · rw [if_neg h, List.getElem?_append_right (by omega), hl]
    have := unit_col (j := j - n) hi
    unfold col at this
    rw [List.getD_eq_getElem?_getD] at this
    rw [this]
    by_cases q : j = n + i
    · rw [if_pos q, if_pos (by omega)]
    · rw [if_neg q, if_neg (by omega)]
theorem In.keep {A : List (List Int)} {P : (Nat → Int) → Prop} (hc : ∀ v w, (∀ j, v j = w j) → P v → P w) (h0 : P fun _ => 0) (ha : ∀ v w q, P v → P w → P fun j => v j + q * w j) : ∀ {B : List (List Int)} {v : Nat → Int}, (∀ r ∈ B, P (fn_ r)) → In B v → P v
  | [], v, _, h => hc _ _ (fun j => (h j).symm) h0
  | r :: B, v, hB, ⟨q, h⟩ => by
    have ih := In.keep (A := A) hc h0 ha (fun s hs => hB s (List.mem_cons_of_mem _ hs)) h
    exact hc _ _ (fun j => by show v j - q * col j r + q * col j r = v j; omega) (ha _ _ q ih (hB r List.mem_cons_self))
/-- what stands behind tells how often each row is taken -/
theorem ext_sum {n : Nat} {rows : List (List Int)} (hl : ∀ r ∈ rows, r.length = n) {v : Nat → Int} (h : In (ext0 rows) v) {j : Nat} (hj : j < n) : v j = sumTo rows.length fun i => v (n + i) * col j (rows.getD i []) := by
  refine In.keep (A := []) (P := fun v => v j = sumTo rows.length fun i => v (n + i) * col j (rows.getD i [])) (fun v w e q => ?_) ?_ (fun v w q h1 h2 => ?_) (fun r hr => ?_) h
  · show w j = _
    rw [← e j, q]
    exact sum_congr fun i hi => by rw [e]
  · show (0 : Int) = _
    exact (sum_zero fun i hi => by rw [Int.zero_mul]).symm
  · show v j + q * w j = _
    rw [h1, h2, ← Int.one_mul (sumTo rows.length fun i => v (n + i) * col j (rows.getD i []))]
    have := sum_lin (R := Int) 1 q rows.length (fun i => v (n + i) * col j (rows.getD i [])) (fun i => w (n + i) * col j (rows.getD i []))
    rw [← this]
    exact sum_congr fun i hi => by
      show 1 * (v (n + i) * _) + q * (w (n + i) * _) = (v (n + i) + q * w (n + i)) * _
      grind
  · obtain ⟨i, hi, rfl⟩ := mem_ext0.mp hr
    have hli := hl _ (List.getElem_mem hi)
    show col j (rows[i] ++ unit rows.length i) = sumTo rows.length fun k => col (n + k) (rows[i] ++ unit rows.length i) * col j (rows.getD k [])
    rw [ext_col hi hli j, if_pos hj]
    have e := sum_one (R := Int) hi (fun k => col (n + k) (rows[i] ++ unit rows.length i) * col j (rows.getD k [])) fun k hk hki => by
      rw [ext_col hi hli, if_neg (by omega), if_neg (by omega), Int.zero_mul]
    rw [e, ext_col hi hli, if_neg (by omega), if_pos rfl, Int.one_mul]
    rw [List.getD_eq_getElem?_getD, List.getElem?_eq_getElem hi]
    rfl
theorem zsum (j : Nat) : ∀ (am : List Int) (X : List (List Int)), (((am.zip X).map fun p => p.1 * col j p.2).sum) = sumTo X.length fun i => col i am * col j (X.getD i [])
  | am, [] => by rw [List.zip_nil_right]; rfl
  | [], x :: X => by
    rw [List.zip_nil_left]
    exact (sum_zero fun i hi => by rw [col_nil, Int.zero_mul]).symm
  | a :: am, x :: X => by
    rw [List.zip_cons_cons, List.map_cons, List.sum_cons, zsum j am X, List.length_cons, sum_first X.length]
    rfl
/-- each choice of how often stands among the whole sums -/
theorem ext_in {n : Nat} {rows : List (List Int)} (hl : ∀ r ∈ rows, r.length = n) {a : List Int} (ha : a.length = rows.length) : In (ext0 rows) fun j => if j < n then sumTo rows.length fun i => col i a * col j (rows.getD i []) else col (j - n) a := by
  refine (in_sum a (ext0 rows) (ext0 rows) fun r hr => In.mem hr).congr fun j => ?_
  have el : (ext0 rows).length = rows.length := by unfold ext0; simp
  have eg : ∀ i, (hi : i < rows.length) → (ext0 rows).getD i [] = rows[i] ++ unit rows.length i := fun i hi => by
    unfold ext0
    rw [List.getD_eq_getElem?_getD, List.getElem?_map, List.getElem?_zipIdx, List.getElem?_eq_getElem hi]
    show rows[i] ++ unit rows.length (0 + i) = _
    rw [Nat.zero_add]
  rw [zsum, el]
  by_cases h : j < n
  · rw [if_pos h]
    exact sum_congr fun i hi => by
      rw [eg i hi, ext_col hi (hl _ (List.getElem_mem hi)), if_pos h, List.getD_eq_getElem?_getD, List.getElem?_eq_getElem hi]
      rfl
  · rw [if_neg h]
    by_cases q : j - n < rows.length
    · have e := sum_one (R := Int) q (fun i => col i a * col j ((ext0 rows).getD i [])) fun k hk hki => by
        rw [eg k hk, ext_col hk (hl _ (List.getElem_mem hk)), if_neg h, if_neg (by omega), Int.mul_zero]
      rw [e, eg _ q, ext_col q (hl _ (List.getElem_mem q)), if_neg h, if_pos (by omega), Int.mul_one]
    · have hz : col (j - n) a = 0 := by
        unfold col
        rw [List.getD_eq_getElem?_getD, List.getElem?_eq_none (by omega)]
        rfl
      rw [hz]
      exact sum_zero fun i hi => by
        rw [eg i hi, ext_col hi (hl _ (List.getElem_mem hi)), if_neg h, if_neg (by omega), Int.mul_zero]
section
variable {n : Nat} {rows fd left G : List (List Int)} (hl : ∀ r ∈ rows, r.length = n) (hv : Eqv (ext0 rows) (fd ++ left)) (e : Ech fd) (h : ∀ r ∈ fd, hd r < n) (z : ∀ r ∈ left, ∀ j, j < n → col j r = 0) (hGE : Eqv (left.map fun r => r.drop n) G)
include hl hv
theorem idle_len (hGE : Eqv (left.map fun r => r.drop n) G) : rows.length ≤ fd.length + G.length := by
  have cut : ∀ e : List Int, (fun j => fn_ e (n + j)) = fn_ (e.drop n) := fun e => by
    funext j
    exact col_drop.symm
  have hu : ∀ i, i < rows.length → In ((fd.map fun r => r.drop n) ++ G) fun j => if j = i then 1 else 0 := fun i hi => by
    have h1 : In (ext0 rows) (fn_ (rows[i] ++ unit rows.length i)) := In.mem (mem_ext0.mpr ⟨i, hi, rfl⟩)
    have h2 := In.drop (n := n) ((hv.iff _).mp h1)
    rw [List.map_append] at h2
    have h3 := (((Eqv.refl (fd.map fun r => r.drop n)).append hGE).iff _).mp h2
    refine h3.congr fun j => ?_
    show col (n + j) (rows[i] ++ unit rows.length i) = _
    rw [ext_col hi (hl _ (List.getElem_mem hi)), if_neg (by omega)]
    by_cases q : j = i
    · rw [if_pos q, if_pos (by omega)]
    · rw [if_neg q, if_neg (by omega)]
  have := units_len hu
  rw [List.length_append, List.length_map] at this
  exact this
include e h z
theorem idle_iff (hGE : Eqv (left.map fun r => r.drop n) G) {a : List Int} (ha : a.length = rows.length) : In G (fn_ a) ↔ ∀ j, j < n → sumTo rows.length (fun i => col i a * col j (rows.getD i [])) = 0 := by
  have hs : fd.Pairwise fun r s => hd r < hd s := by
    refine List.Pairwise.imp_of_mem (fun {a b} ha hb st => ?_) e.s
    rcases Nat.lt_or_ge (hd a) (hd b) with w | w
    · exact w
    · have := st.1 _ w
      have := e.p b hb
      omega
  have hA : ∀ r ∈ fd, col (hd r) r ≠ 0 ∧ hd r < n := fun r hr => ⟨by have := e.p r hr; omega, h r hr⟩
  constructor
  · intro hG j hj
    have h1 := In.undrop z ((hGE.iff _).mpr hG)
    have h2 := (hv.iff _).mpr h1.right
    have h3 := ext_sum hl h2 hj
    rw [if_pos hj] at h3
    rw [h3]
    exact sum_congr fun i hi => by
      rw [if_neg (by omega), Nat.add_sub_cancel_left]
  · intro hz
    have h1 := (ext_in hl ha).congr (w := fun j => if j < n then 0 else col (j - n) a) fun j => by
      by_cases q : j < n
      · rw [if_pos q, if_pos q, hz j q]
      · rw [if_neg q, if_neg q]
    have h2 := In.behind hA hs z ((hv.iff _).mp h1) fun j hj => if_pos hj
    have h3 := (hGE.iff _).mp (In.drop (n := n) h2)
    exact h3.congr fun j => by
      show (if n + j < n then (0 : Int) else col (n + j - n) a) = _
      rw [if_neg (by omega), Nat.add_sub_cancel_left]
omit e h z
/-- what the stairs' amounts make -/
theorem amounts_make {c : Nat → Int} {v w : Nat → Int} (h1 : ∀ j, j < n → v j = sumTo fd.length fun k => c k * col j (fd.getD k [])) (h2 : ∀ i, w i = sumTo fd.length fun k => c k * col (n + i) (fd.getD k [])) {j : Nat} (hj : j < n) : v j = sumTo rows.length fun i => w i * col j (rows.getD i []) := by
  have hin : ∀ m, m ≤ fd.length → In fd fun j => sumTo m fun k => c k * col j (fd.getD k []) := fun m => by
    induction m with
    | zero => exact fun _ => (In.zero fd).congr fun j => rfl
    | succ m ih =>
      intro hm
      have hmem : fd.getD m [] ∈ fd := by
        rw [List.getD_eq_getElem?_getD, List.getElem?_eq_getElem (by omega)]
        exact List.getElem_mem _
      exact (In.add (ih (by omega)) (In.mul (c m) (In.mem hmem))).congr fun j => rfl
  have h3 := ext_sum hl ((hv.iff _).mpr (hin _ (Nat.le_refl _)).left) hj
  rw [h1 j hj, h3]
  exact sum_congr fun i hi => by rw [h2]
end
/-! ### how many -/
theorem heads_len {n : Nat} : ∀ {A : List (List Int)} {m : Nat}, (∀ r ∈ A, m ≤ hd r ∧ hd r < n) → A.Pairwise (fun r s => hd r < hd s) → A.length ≤ n - m
  | [], _, _, _ => Nat.zero_le _
  | r :: A, m, h, hs => by
    have hp := List.pairwise_cons.mp hs
    have hr := h r List.mem_cons_self
    have := heads_len (n := n) (A := A) (m := hd r + 1) (fun s hs2 => ⟨hp.1 s hs2, (h s (List.mem_cons_of_mem _ hs2)).2⟩) hp.2
    rw [List.length_cons]
    omega
theorem Ech.heads {A : List (List Int)} (e : Ech A) : A.Pairwise fun r s => hd r < hd s := by
  refine List.Pairwise.imp_of_mem (fun {a b} ha hb st => ?_) e.s
  rcases Nat.lt_or_ge (hd a) (hd b) with w | w
  · exact w
  · have := st.1 _ w
    have := e.p b hb
    omega
abbrev early (n : Nat) (A : List (List Int)) : List (List Int) := A.filter fun r => !decide (∀ x ∈ r.take n, x = 0)
theorem mem_early {n : Nat} {A : List (List Int)} {r : List Int} (hr : r ∈ early n A) : r ∈ A ∧ hd r < n := by
  rw [List.mem_filter, Bool.not_eq_true', decide_eq_false_iff_not, late_iff] at hr
  refine ⟨hr.1, ?_⟩
  rcases Nat.lt_or_ge (hd r) n with w | w
  · exact w
  · exact absurd (fun j hj => hd_ahead (by omega)) hr.2
theorem parts_mem {n : Nat} {A : List (List Int)} {r : List Int} : r ∈ A ↔ r ∈ early n A ++ late n A := by
  rw [List.mem_append, List.mem_filter, List.mem_filter]
  by_cases h : ∀ x ∈ r.take n, x = 0
  · rw [decide_eq_true h]
    simp
  · rw [decide_eq_false h]
    simp
theorem parts_len {n : Nat} : ∀ A : List (List Int), (late n A).length + (early n A).length = A.length
  | [] => rfl
  | r :: A => by
    have ih := parts_len (n := n) A
    unfold early late at ih
    show (List.filter _ (r :: A)).length + (List.filter _ (r :: A)).length = _
    rw [List.filter_cons, List.filter_cons, List.length_cons]
    by_cases h : ∀ x ∈ r.take n, x = 0
    · rw [decide_eq_true h, if_pos rfl, if_neg (by simp), List.length_cons]
      omega
    · rw [decide_eq_false h, if_neg (by simp), if_pos (by simp), List.length_cons]
      omega
end Stairs
set_option exponentiation.threshold 100000
namespace Lk71
open PySem PySem.Spec PyProof.Rows L2 DL Stairs
/-! the program's stairs: pairs as rows with their amounts behind -/
abbrev pD (n : Nat) (e : List Int) : D := .tup [ti (e.take n), ti (e.drop n)]
abbrev LP (n : Nat) (es : List (List Int)) : D := .lst (es.map (pD n))
theorem ixP {n m g : Nat} {e : List Int} {z : Int} (hz : z = (g : Nat)) (hl : e.length = m) (hnm : n ≤ m) (hg : g < n) : fIx (ti (e.take n)) (.int z) = some (.val (.int (col g e))) := by
  rw [hz]
  refine fIx_tup ?_
  rw [List.getElem?_map, List.getElem?_take_of_lt hg, List.getElem?_eq_getElem (by omega)]
  unfold col
  rw [List.getD_eq_getElem?_getD, List.getElem?_eq_getElem (by omega)]
  rfl
theorem ixL {n i : Nat} {es : List (List Int)} {z : Int} (hz : z = (i : Nat)) (hi : i < es.length) : fIx (LP n es) (.int z) = some (.val (pD n es[i])) := by
  rw [hz]
  exact fIx_lst (by rw [List.getElem?_map, List.getElem?_eq_getElem hi]; rfl)
theorem abs_nat (x : Int) : (if x < 0 then -x else x) = (x.natAbs : Int) := by split <;> omega
theorem s_unit {p i : Nat} {zp zi : Int} (hp : zp = (p : Nat)) (hi : zi = (i : Nat)) (hp2 : p ≤ 60) : Ret w_unit [.val (.int zp), .val (.int zi)] (ti (unit p i)) := by
  intro Qd Ed k
  unfold w_unit m_unit
  subst hp hi
  conv => whnf
  refine ⟨⟨by omega, by omega⟩, ?_⟩
  conv => whnf
  refine ⟨rfl, ?_⟩
  refine lcGo_enc (fun x : Nat => D.int (0 + (x : Nat))) (fun x => D.int (if x = i then 1 else 0)) (List.range (Int.toNat (p : Nat))) [] (fun x hx Kt2 Kf2 hK2 => ?_) (small64 (by rw [List.length_range, List.length_nil]; omega)) ?_
  · conv => whnf
    refine ⟨_, fEq_int (0 + (x : Nat)) (i : Nat), ?_⟩
    by_cases hxy : x = i
    · rw [decide_eq_true (show (0 : Int) + (x : Nat) = (i : Nat) by omega)]
      conv => whnf
      repeat (refine ⟨_, rfl, ?_⟩; conv => whnf)
      rw [if_pos hxy] at hK2
      exact hK2
    · rw [decide_eq_false (show ¬ (0 : Int) + (x : Nat) = (i : Nat) by omega)]
      conv => whnf
      repeat (refine ⟨_, rfl, ?_⟩; conv => whnf)
      rw [if_neg hxy] at hK2
      exact hK2
  · have e : ([] : List D) ++ (List.range (Int.toNat (p : Nat))).map (fun x => D.int (if x = i then 1 else 0)) = (unit p i).map D.int := by
      unfold unit
      rw [List.nil_append, List.map_map]
      rfl
    rw [e]
    conv => whnf
    repeat (refine ⟨_, rfl, ?_⟩; conv => whnf)
    exact k _
theorem s_pairs {n : Nat} {rows : List (List Int)} (hl : ∀ r ∈ rows, r.length = n) (hk : rows.length ≤ 60) : RetO w_pairs_of [.val (tt rows)] ((ext0 rows).map (pD n)) := by
  intro Qd Ed k
  unfold w_pairs_of m_pairs_of
  conv => whnf
  rw [enumD_map]
  refine ⟨rfl, ?_⟩
  refine lcGo_enc (fun p : List Int × Nat => D.tup [.int (p.2 : Nat), ti p.1]) (fun p => D.tup [ti p.1, ti (unit rows.length p.2)]) rows.zipIdx [] (fun p hp Kt Kf hK => ?_) (small64 (by rw [List.length_zipIdx, List.length_nil]; omega)) ?_
  · conv => whnf
    refine ⟨rfl, ?_⟩
    conv => whnf
    (refine ⟨_, rfl, ?_⟩; conv => whnf)
    refine s_unit (p := rows.length) (i := p.2) (by rw [List.length_map]) rfl hk _ _ fun o => ?_
    conv => whnf
    refine ⟨small64 (by simp), ?_⟩
    exact hK
  · have e : ([] : List D) ++ rows.zipIdx.map (fun p => D.tup [ti p.1, ti (unit rows.length p.2)]) = (ext0 rows).map (pD n) := by
      unfold ext0
      rw [List.nil_append, List.map_map]
      refine List.map_congr_left fun p hp => ?_
      have hm : p.1.length = n := by
        obtain ⟨q, i⟩ := p
        exact hl q (List.fst_mem_of_mem_zipIdx hp)
      show _ = D.tup [ti ((p.1 ++ unit rows.length p.2).take n), ti ((p.1 ++ unit rows.length p.2).drop n)]
      rw [List.take_left' hm, List.drop_left' hm]
    rw [e]
    conv => whnf
    exact k _
section
variable {n m g : Nat} {es : List (List Int)} {z : Int}
/-- the nearest so far -/
def Near (g : Nat) (es : List (List Int)) (i : Nat) (d : D) : Prop := (d = .non ∧ ∀ e ∈ es.take i, col g e = 0) ∨ ∃ (j : Nat) (hj : j < es.length), d = .int (j : Nat) ∧ col g es[j] ≠ 0 ∧ ∀ e ∈ es.take i, col g e ≠ 0 → (col g es[j]).natAbs ≤ (col g e).natAbs
theorem take_one {α : Type} {es : List α} {i : Nat} {e : α} (h : es[i]? = some e) : es.take (i + 1) = es.take i ++ [e] := by
  rw [List.take_add_one, h]
  rfl
theorem Near.skip {i : Nat} {d : D} {e : List Int} (h : Near g es i d) (he : es[i]? = some e) (q : col g e = 0 ∨ ∃ (j : Nat) (hj : j < es.length), d = .int (j : Nat) ∧ (col g es[j]).natAbs ≤ (col g e).natAbs) : Near g es (i + 1) d := by
  unfold Near
  rw [take_one he]
  rcases h with ⟨h1, h2⟩ | ⟨j, hj, h1, h2, h3⟩
  · refine .inl ⟨h1, fun x hx => ?_⟩
    rcases List.mem_append.mp hx with w | w
    · exact h2 x w
    · rw [show x = e by simpa using w]
      rcases q with q | ⟨j, hj, q, _⟩
      · exact q
      · rw [h1] at q
        cases q
  · refine .inr ⟨j, hj, h1, h2, fun x hx hx0 => ?_⟩
    rcases List.mem_append.mp hx with w | w
    · exact h3 x w hx0
    · have ex : x = e := by simpa using w
      subst ex
      rcases q with q | ⟨j2, hj2, q, q2⟩
      · exact absurd q hx0
      · rw [h1] at q
        injection q with q
        have : j = j2 := by omega
        subst this
        exact q2
theorem Near.put {i : Nat} {d : D} {e : List Int} (h : Near g es i d) (he : es[i]? = some e) (h0 : col g e ≠ 0) (q : d = .non ∨ ∃ (j : Nat) (hj : j < es.length), d = .int (j : Nat) ∧ (col g e).natAbs < (col g es[j]).natAbs) : Near g es (i + 1) (.int (i : Nat)) := by
  obtain ⟨hi, ei⟩ := List.getElem?_eq_some_iff.mp he
  unfold Near
  rw [take_one he]
  refine .inr ⟨i, hi, rfl, by rw [ei]; exact h0, fun x hx hx0 => ?_⟩
  rw [ei]
  rcases List.mem_append.mp hx with w | w
  · rcases h with ⟨h1, h2⟩ | ⟨j, hj, h1, h2, h3⟩
    · exact absurd (h2 x w) hx0
    · rcases q with q | ⟨j2, hj2, q, q2⟩
      · rw [h1] at q
        cases q
      · rw [h1] at q
        injection q with q
        have : j = j2 := by omega
        subst this
        have := h3 x w hx0
        omega
  · rw [show x = e by simpa using w]
    exact Nat.le_refl _
theorem near1 {i : Nat} {d : D} {e : List Int} {Dd : DEnds} (hl : ∀ e ∈ es, e.length = m) (hnm : n ≤ m) (hg : g < n) (hz : z = (g : Nat)) (h : Near g es i d) (he : es[i]? = some e)
    (k : ∀ d' c5, Near g es (i + 1) d' → Dd.nx [some (.val (LP n es)), some (.val (.int z)), some (.val d'), some (.val (.int (i : Nat))), some (.val (pD n e)), c5]) {c5 : Option Cell} :
    m_nearest_to_nought_2 Dd [some (.val (LP n es)), some (.val (.int z)), some (.val d), some (.val (.int (i : Nat))), some (.val (pD n e)), c5] := by
  have hel := hl e (List.mem_of_getElem? he)
  unfold m_nearest_to_nought_2
  conv => whnf
  refine ⟨_, fIx_tup (k := 0) (d := ti (e.take n)) rfl, ?_⟩
  conv => whnf
  refine ⟨_, ixP hz hel hnm hg, ?_⟩
  conv => whnf
  (refine ⟨_, rfl, ?_⟩; conv => whnf)
  rw [abs_nat]
  show m_nearest_to_nought_1 _ [some (.val (LP n es)), some (.val (.int z)), some (.val d), some (.val (.int (i : Nat))), some (.val (pD n e)), some (.val (.int ((col g e).natAbs : Nat)))]
  unfold m_nearest_to_nought_1
  conv => whnf
  refine ⟨_, fNe_int ((col g e).natAbs : Nat) 0, ?_⟩
  by_cases h0 : col g e = 0
  · rw [decide_eq_true (show (((col g e).natAbs : Nat) : Int) = 0 by omega)]
    conv => whnf
    exact k _ _ (h.skip he (.inl h0))
  · rw [decide_eq_false (show ¬ (((col g e).natAbs : Nat) : Int) = 0 by omega)]
    conv => whnf
    have hh := h
    rcases hh with ⟨rfl, h2⟩ | ⟨j, hj, rfl, h2, h3⟩
    · repeat (refine ⟨_, rfl, ?_⟩; conv => whnf)
      exact k _ _ (h.put he h0 (.inl rfl))
    · (refine ⟨_, rfl, ?_⟩; conv => whnf)
      refine ⟨_, ixL (i := j) rfl hj, ?_⟩
      conv => whnf
      refine ⟨_, fIx_tup (k := 0) (d := ti (es[j].take n)) rfl, ?_⟩
      conv => whnf
      refine ⟨_, ixP hz (hl _ (List.getElem_mem hj)) hnm hg, ?_⟩
      conv => whnf
      (refine ⟨_, rfl, ?_⟩; conv => whnf)
      rw [abs_nat]
      by_cases hlt : (((col g e).natAbs : Nat) : Int) < (((col g es[j]).natAbs : Nat) : Int)
      · refine ⟨_, fLt_t hlt, ?_⟩
        conv => whnf
        exact k _ _ (h.put he h0 (.inr ⟨j, hj, rfl, by omega⟩))
      · refine ⟨_, fLt_f hlt, ?_⟩
        conv => whnf
        exact k _ _ (h.skip he (.inr ⟨j, hj, rfl, by omega⟩))
theorem s_nearest (hl : ∀ e ∈ es, e.length = m) (hnm : n ≤ m) (hg : g < n) (hz : z = (g : Nat)) (hk : es.length ≤ 60) {Qd : Cell → Outs → Prop} {Ed : Str → List (Str × D) → Outs → Prop}
    (k : ∀ d o, Near g es es.length d → Qd (.val d) o) : w_nearest_to_nought [.val (LP n es), .val (.int z)] Qd Ed := by
  unfold w_nearest_to_nought m_nearest_to_nought
  conv => whnf
  show m_nearest_to_nought_3 _ [some (.val (LP n es)), some (.val (.int z)), some (.val .non), none, none, none]
  unfold m_nearest_to_nought_3
  conv => whnf
  rw [enumD_map]
  refine forGo_ix (fun p : List Int × Nat => D.tup [.int (p.2 : Nat), pD n p.1]) (fun i ρ => ∃ d c3 c4 c5, ρ = [some (.val (LP n es)), some (.val (.int z)), some (.val d), c3, c4, c5] ∧ Near g es i d) es.zipIdx 0 _ (Nat.zero_le _) ?_ ?_ ⟨_, _, _, _, rfl, .inl ⟨rfl, by simp⟩⟩
  · rintro ρ ⟨d, c3, c4, c5, rfl, h⟩
    rw [List.length_zipIdx] at h
    conv => whnf
    exact k _ _ h
  · rintro i ⟨e, i2⟩ ρ hz2 ⟨d, c3, c4, c5, rfl, h⟩ N hN
    rw [List.getElem?_zipIdx] at hz2
    obtain ⟨y, hy, e2⟩ := Option.map_eq_some_iff.mp hz2
    have e3 : i2 = i := by
      have := congrArg Prod.snd e2
      simp only at this
      omega
    have e4 : y = e := congrArg Prod.fst e2
    subst e3
    subst e4
    conv => whnf
    refine ⟨rfl, ?_⟩
    conv => whnf
    show m_nearest_to_nought_2 _ [some (.val (LP n es)), some (.val (.int z)), some (.val d), some (.val (.int (i2 : Nat))), some (.val (pD n y)), c5]
    exact near1 hl hnm hg hz h hy fun d' c5 h' => hN _ ⟨d', _, _, c5, rfl, h'⟩
/-- whether all but one are 0 -/
def alone (g i : Nat) (es : List (List Int)) : Bool := es.zipIdx.all fun p => decide (p.2 = i) || decide (col g p.1 = 0)
theorem s_alone {i : Nat} {zi : Int} (hl : ∀ e ∈ es, e.length = m) (hnm : n ≤ m) (hg : g < n) (hz : z = (g : Nat)) (hi : zi = (i : Nat)) (hk : es.length ≤ 60) : Ret w_is_alone [.val (LP n es), .val (.int zi), .val (.int z)] (.bl (alone g i es)) := by
  intro Qd Ed k
  unfold w_is_alone m_is_alone
  conv => whnf
  rw [enumD_map]
  refine ⟨rfl, ?_⟩
  refine lcGo_enc (fun p : List Int × Nat => D.tup [.int (p.2 : Nat), pD n p.1]) (fun p => D.bl (decide (p.2 = i) || decide (col g p.1 = 0))) es.zipIdx [] (fun p hp Kt Kf hK => ?_) (small64 (by rw [List.length_zipIdx, List.length_nil]; omega)) ?_
  · have hm : p.1.length = m := by
      obtain ⟨q, i⟩ := p
      exact hl q (List.fst_mem_of_mem_zipIdx hp)
    conv => whnf
    refine ⟨rfl, ?_⟩
    conv => whnf
    refine ⟨_, fEq_int (p.2 : Nat) zi, ?_⟩
    by_cases h1 : p.2 = i
    · rw [decide_eq_true (show ((p.2 : Nat) : Int) = zi by omega)]
      conv => whnf
      rw [decide_eq_true h1] at hK
      exact ⟨_, rfl, hK⟩
    · rw [decide_eq_false (show ¬ ((p.2 : Nat) : Int) = zi by omega)]
      conv => whnf
      refine ⟨_, rfl, ?_⟩
      conv => whnf
      refine ⟨_, fIx_tup (k := 0) (d := ti (p.1.take n)) rfl, ?_⟩
      conv => whnf
      refine ⟨_, ixP hz hm hnm hg, ?_⟩
      conv => whnf
      refine ⟨_, fEq_int (col g p.1) 0, ?_⟩
      rw [decide_eq_false h1, Bool.false_or] at hK
      exact hK
  · have e : ([] : List D) ++ es.zipIdx.map (fun p => D.bl (decide (p.2 = i) || decide (col g p.1 = 0))) = (es.zipIdx.map fun p => decide (p.2 = i) || decide (col g p.1 = 0)).map D.bl := by
      rw [List.nil_append, List.map_map]
      rfl
    rw [e]
    conv => whnf
    refine ⟨_, gAll_bls _, ?_⟩
    have e2 : (es.zipIdx.map fun p => decide (p.2 = i) || decide (col g p.1 = 0)).all id = alone g i es := by
      unfold alone
      rw [List.all_map]
      rfl
    rw [e2]
    exact k _
theorem s_row_less {r h : List Int} {q : Int} {M b : Nat} (hr : r.length ≤ 60) (hq : q.natAbs < 2 ^ b) (hx : ∀ x ∈ h, x.natAbs < 2 ^ M) (hb : b + M ≤ 134217728) : Ret w_row_less [.val (ti r), .val (ti h), .val (.int q)] (ti (sub r h q)) := by
  intro Qd Ed k
  unfold w_row_less m_row_less
  conv => whnf
  rw [zipD2_map]
  refine ⟨rfl, ?_⟩
  refine lcGo_enc (fun p : Int × Int => D.tup [D.int p.1, D.int p.2]) (fun p => D.int (p.1 - q * p.2)) (r.zip h) [] (fun p hp Kt Kf hK => ?_) (small64 (by rw [List.length_zip, List.length_nil]; omega)) ?_
  · have hm := List.of_mem_zip hp
    conv => whnf
    refine ⟨rfl, ?_⟩
    conv => whnf
    refine ⟨_, fMul_int (mulB_ok hq (hx _ hm.2) hb), ?_⟩
    conv => whnf
    (refine ⟨_, rfl, ?_⟩; conv => whnf)
    exact hK
  · have e : ([] : List D) ++ (r.zip h).map (fun p : Int × Int => D.int (p.1 - q * p.2)) = (sub r h q).map D.int := by
      rw [List.nil_append, sub, List.map_map]
      rfl
    rw [e]
    conv => whnf
    (refine ⟨_, rfl, ?_⟩; conv => whnf)
    exact k _
theorem sub_take {r h : List Int} {q : Int} : (sub r h q).take n = sub (r.take n) (h.take n) q := by
  unfold sub
  rw [← List.map_take, List.zip, List.take_zipWith]
theorem sub_drop {r h : List Int} {q : Int} : (sub r h q).drop n = sub (r.drop n) (h.drop n) q := by
  unfold sub
  rw [← List.map_drop, List.zip, List.drop_zipWith]
theorem s_pair_less {r h : List Int} {q : Int} {M b : Nat} (hr : r.length ≤ 60) (hq : q.natAbs < 2 ^ b) (hx : ∀ x ∈ h, x.natAbs < 2 ^ M) (hb : b + M ≤ 134217728) : Ret w_pair_less [.val (pD n r), .val (pD n h), .val (.int q)] (pD n (sub r h q)) := by
  intro Qd Ed k
  unfold w_pair_less m_pair_less
  conv => whnf
  repeat (refine ⟨_, rfl, ?_⟩; conv => whnf)
  refine s_row_less (by rw [List.length_take]; omega) hq (fun x hx2 => hx x (List.mem_of_mem_take hx2)) hb _ _ fun o => ?_
  conv => whnf
  repeat (refine ⟨_, rfl, ?_⟩; conv => whnf)
  refine s_row_less (by rw [List.length_drop]; omega) hq (fun x hx2 => hx x (List.mem_of_mem_drop hx2)) hb _ _ fun o => ?_
  conv => whnf
  refine ⟨small64 (by simp), ?_⟩
  rw [← sub_take, ← sub_drop]
  exact k _
end
end Lk71
set_option exponentiation.threshold 100000
namespace Lk71
open PySem PySem.Spec PyProof.Rows L2 DL Stairs
section
variable {n m g : Nat} {es A C : List (List Int)} {h : List Int} {z : Int}
theorem at_mid {α : Type} {A C : List α} {h : α} : (A ++ h :: C)[A.length]? = some h := by
  rw [List.getElem?_append_right (Nat.le_refl _), Nat.sub_self]
  rfl
theorem alone_iff : alone g A.length (A ++ h :: C) = true ↔ ∀ e ∈ A ++ C, col g e = 0 := by
  unfold alone
  rw [List.all_eq_true]
  constructor
  · intro hh e he
    obtain ⟨k, hk, hne⟩ : ∃ k, (A ++ h :: C)[k]? = some e ∧ k ≠ A.length := by
      rcases List.mem_append.mp he with w | w
      · obtain ⟨k, hk, e2⟩ := List.getElem_of_mem w
        exact ⟨k, by rw [List.getElem?_append_left hk, List.getElem?_eq_getElem hk, e2], by omega⟩
      · obtain ⟨k, hk, e2⟩ := List.getElem_of_mem w
        refine ⟨A.length + (k + 1), ?_, by omega⟩
        rw [List.getElem?_append_right (by omega), Nat.add_sub_cancel_left, List.getElem?_cons_succ, List.getElem?_eq_getElem hk, e2]
    have := hh (e, k) (List.mem_zipIdx_iff_getElem?.mpr hk)
    simp only [Bool.or_eq_true, decide_eq_true_eq] at this
    rcases this with w | w
    · exact absurd w hne
    · exact w
  · rintro hh ⟨e, k⟩ hk
    have hk := List.mem_zipIdx_iff_getElem?.mp hk
    simp only [Bool.or_eq_true, decide_eq_true_eq]
    by_cases q : k = A.length
    · exact .inl q
    · refine .inr (hh e ?_)
      simp only at hk
      rcases Nat.lt_or_gt_of_ne q with w | w
      · rw [List.getElem?_append_left w] at hk
        exact List.mem_append_left _ (List.mem_of_getElem? hk)
      · rw [List.getElem?_append_right (by omega)] at hk
        obtain ⟨d, hd⟩ : ∃ d, k - A.length = d + 1 := ⟨k - A.length - 1, by omega⟩
        rw [hd, List.getElem?_cons_succ] at hk
        exact List.mem_append_right _ (List.mem_of_getElem? hk)
theorem ixM {n : Nat} {A C : List (List Int)} {h : List Int} {zi : Int} (hi : zi = (A.length : Nat)) : fIx (LP n (A ++ h :: C)) (.int zi) = some (.val (pD n h)) := by
  rw [hi]
  exact fIx_lst (by rw [List.getElem?_map, at_mid]; rfl)
/-- lessened, by places -/
def lessI (g : Nat) (h : List Int) (i : Nat) (p : List Int × Nat) : List Int := if p.2 = i then p.1 else lessR g h p.1
theorem lessI_all : (A ++ h :: C).zipIdx.map (lessI g h A.length) = lessA g A h C := by
  refine List.ext_getElem? fun k => ?_
  rw [List.getElem?_map, List.getElem?_zipIdx, Option.map_map]
  unfold lessA
  rcases Nat.lt_trichotomy k A.length with q | q | q
  · rw [List.getElem?_append_left q, List.getElem?_append_left (by rw [List.length_map]; exact q), List.getElem?_map]
    congr 1
    funext e
    exact if_neg (by simp only; omega)
  · subst q
    rw [at_mid, List.getElem?_append_right (by rw [List.length_map]; omega), List.length_map, Nat.sub_self]
    show some (lessI g h A.length (h, 0 + A.length)) = some h
    unfold lessI
    rw [if_pos (by simp only; omega)]
  · obtain ⟨d, hd⟩ : ∃ d, k - A.length = d + 1 := ⟨k - A.length - 1, by omega⟩
    rw [List.getElem?_append_right (by omega), List.getElem?_append_right (by rw [List.length_map]; omega), List.length_map, hd, List.getElem?_cons_succ, List.getElem?_cons_succ, List.getElem?_map]
    congr 1
    funext e
    exact if_neg (by simp only; omega)
theorem s_lessened {zi : Int} (hl : ∀ e ∈ A ++ h :: C, e.length = m) (hm : m ≤ 60) (hnm : n ≤ m) (hg : g < n) (hz : z = (g : Nat)) (hi : zi = (A.length : Nat)) (hk : (A ++ h :: C).length ≤ 60) (h0 : col g h ≠ 0) (hc : ∀ e ∈ A ++ h :: C, (col g e).natAbs < 2 ^ 29999) (hc2 : (col g h).natAbs < 2 ^ 9000) (hb : ∀ x ∈ h, x.natAbs < 2 ^ 30000) :
    RetO w_lessened [.val (LP n (A ++ h :: C)), .val (.int zi), .val (.int z)] ((lessA g A h C).map (pD n)) := by
  intro Qd Ed k
  have hhm : h ∈ A ++ h :: C := by simp
  have hhl := hl h hhm
  unfold w_lessened m_lessened
  conv => whnf
  refine ⟨_, ixM hi, ?_⟩
  conv => whnf
  refine ⟨small64 (by simp), ?_⟩
  conv => whnf
  refine ⟨rfl, ?_⟩
  conv => whnf
  show m_lessened_2 _ [some (.val (LP n (A ++ h :: C))), some (.val (.int zi)), some (.val (.int z)), some (.val (pD n h)), some (.own []), none, none]
  unfold m_lessened_2
  conv => whnf
  rw [enumD_map]
  refine forGo_ix (fun p : List Int × Nat => D.tup [.int (p.2 : Nat), pD n p.1]) (fun i ρ => ∃ c5 c6, ρ = [some (.val (LP n (A ++ h :: C))), some (.val (.int zi)), some (.val (.int z)), some (.val (pD n h)), some (.own (((A ++ h :: C).zipIdx.take i).map fun p => pD n (lessI g h A.length p))), c5, c6]) (A ++ h :: C).zipIdx 0 _ (Nat.zero_le _) ?_ ?_ ⟨_, _, rfl⟩
  · rintro ρ ⟨c5, c6, rfl⟩
    rw [List.take_length]
    have e : ((A ++ h :: C).zipIdx.map fun p => pD n (lessI g h A.length p)) = (lessA g A h C).map (pD n) := by
      rw [← lessI_all, List.map_map]
      rfl
    rw [e]
    conv => whnf
    exact k _
  · rintro i ⟨e, i2⟩ ρ hz2 ⟨c5, c6, rfl⟩ N hN
    have hz3 := hz2
    rw [List.getElem?_zipIdx] at hz2
    obtain ⟨y, hy, e2⟩ := Option.map_eq_some_iff.mp hz2
    have e3 : i2 = i := by
      have := congrArg Prod.snd e2
      simp only at this
      omega
    have e4 : y = e := congrArg Prod.fst e2
    subst e3
    subst e4
    have hym := List.mem_of_getElem? hy
    have hyl := hl y hym
    have fin : ∀ ρ' c5 c6, ρ' = [some (.val (LP n (A ++ h :: C))), some (.val (.int zi)), some (.val (.int z)), some (.val (pD n h)), some (.own ((((A ++ h :: C).zipIdx.take i2).map fun p => pD n (lessI g h A.length p)) ++ [pD n (lessI g h A.length (y, i2))])), c5, c6] → N ρ' := fun ρ' c5 c6 e => hN ρ' ⟨c5, c6, by rw [e, take_one hz3, List.map_append]; rfl⟩
    have hsz : (((A ++ h :: C).zipIdx.take i2).map fun p => pD n (lessI g h A.length p)).length + 1 ≤ sizeLine := small64 (by rw [List.length_map, List.length_take, List.length_zipIdx]; omega)
    generalize (((A ++ h :: C).zipIdx.take i2).map fun p => pD n (lessI g h A.length p)) = acc at *
    conv => whnf
    refine ⟨rfl, ?_⟩
    conv => whnf
    show m_lessened_1 _ [some (.val (LP n (A ++ h :: C))), some (.val (.int zi)), some (.val (.int z)), some (.val (pD n h)), some (.own acc), some (.val (.int (i2 : Nat))), some (.val (pD n y))]
    unfold m_lessened_1
    conv => whnf
    refine ⟨_, fEq_int (i2 : Nat) zi, ?_⟩
    by_cases q : i2 = A.length
    · rw [decide_eq_true (show ((i2 : Nat) : Int) = zi by omega)]
      conv => whnf
      refine ⟨hsz, ?_⟩
      refine fin _ (some (.val (.int (i2 : Nat)))) (some (.val (pD n y))) ?_
      unfold lessI
      rw [if_pos q]
      rfl
    · rw [decide_eq_false (show ¬ ((i2 : Nat) : Int) = zi by omega)]
      conv => whnf
      refine ⟨_, fIx_tup (k := 0) (d := ti (y.take n)) rfl, ?_⟩
      conv => whnf
      refine ⟨_, ixP hz hyl hnm hg, ?_⟩
      conv => whnf
      refine ⟨_, fIx_tup (k := 0) (d := ti (h.take n)) rfl, ?_⟩
      conv => whnf
      refine ⟨_, ixP hz hhl hnm hg, ?_⟩
      conv => whnf
      refine ⟨_, fDiv_int (divB_ok (k := 9000) h0 hc2 (by decide)), ?_⟩
      conv => whnf
      refine s_pair_less (M := 30000) (b := 30000) (by omega) (Nat.lt_of_le_of_lt (fdiv_le _ _ h0) (Nat.lt_of_le_of_lt (hc y hym) (Nat.pow_lt_pow_right (by decide) (by decide)))) hb (by decide) _ _ fun o => ?_
      conv => whnf
      refine ⟨hsz, ?_⟩
      refine fin _ (some (.val (.int (i2 : Nat)))) (some (.val (pD n y))) ?_
      unfold lessI
      rw [if_neg q]
      rfl
theorem s_row_neg {r : List Int} (hr : r.length ≤ 60) (hb : ∀ x ∈ r, x.natAbs < 2 ^ 1000000) : Ret w_row_times [.val (ti r), .val (.int (-1))] (ti (ngs r)) := by
  intro Qd Ed k
  unfold w_row_times m_row_times
  conv => whnf
  refine ⟨rfl, ?_⟩
  refine lcGo_enc D.int (fun x => D.int (0 - x)) r [] (fun x hx Kt Kf hK => ?_) (small64 (by rw [List.length_nil]; omega)) ?_
  · conv => whnf
    refine ⟨_, fMul_int (mulB_ok (b := 1) (hb x hx) (by decide) (by decide)), ?_⟩
    have e : x * -1 = 0 - x := by omega
    rw [e]
    exact hK
  · have e : ([] : List D) ++ r.map (fun x => D.int (0 - x)) = (ngs r).map D.int := by
      rw [List.nil_append, ngs, List.map_map]
      rfl
    rw [e]
    conv => whnf
    (refine ⟨_, rfl, ?_⟩; conv => whnf)
    exact k _
theorem s_turned {r : List Int} (hr : r.length ≤ 60) (hb : ∀ x ∈ r, x.natAbs < 2 ^ 1000000) : Ret w_turned_pair [.val (pD n r)] (pD n (ngs r)) := by
  intro Qd Ed k
  unfold w_turned_pair m_turned_pair
  conv => whnf
  repeat (refine ⟨_, rfl, ?_⟩; conv => whnf)
  refine s_row_neg (by rw [List.length_take]; omega) (fun x hx => hb x (List.mem_of_mem_take hx)) _ _ fun o => ?_
  conv => whnf
  repeat (refine ⟨_, rfl, ?_⟩; conv => whnf)
  refine s_row_neg (by rw [List.length_drop]; omega) (fun x hx => hb x (List.mem_of_mem_drop hx)) _ _ fun o => ?_
  conv => whnf
  refine ⟨small64 (by simp), ?_⟩
  have e1 : ngs (r.take n) = (ngs r).take n := by unfold ngs; rw [List.map_take]
  have e2 : ngs (r.drop n) = (ngs r).drop n := by unfold ngs; rw [List.map_drop]
  rw [e1, e2]
  exact k _
end
end Lk71
set_option exponentiation.threshold 100000
namespace Lk71
open PySem PySem.Spec PyProof.Rows L2 DL Stairs
theorem _root_.Stairs.Su.all {m g c B K : Nat} {es : List (List Int)} (hs : Su m g c B K (nz g es) (zz g es)) : Rws m g B es ∧ (∀ e ∈ es, (col g e).natAbs ≤ c) := by
  obtain ⟨b1, b2, b3, b4⟩ := hs.basic
  refine ⟨hs.rws.sub fun e he => ?_, fun e he => ?_⟩
  · by_cases q : col g e = 0
    · exact List.mem_append_right _ (mem_zz.mpr ⟨he, q⟩)
    · exact List.mem_append_left _ (mem_nz.mpr ⟨he, q⟩)
  · by_cases q : col g e = 0
    · rw [q]
      exact Nat.zero_le _
    · exact b4 e (mem_nz.mpr ⟨he, q⟩)
theorem split_at {α : Type} {es : List α} {j : Nat} (hj : j < es.length) : es = es.take j ++ es[j] :: es.drop (j + 1) := by
  have := (List.take_append_drop j es).symm
  rw [List.drop_eq_getElem_cons hj] at this
  exact this
/-- one row with a number at the good, above 0, and the others -/
structure Part (m g c B : Nat) (es : List (List Int)) (h : List Int) (O : List (List Int)) : Prop where
  p : 0 < col g h
  c : (col g h).natAbs ≤ c
  r : Rws m g B (h :: O)
  z : ∀ e ∈ O, col g e = 0
  k : O.length + 1 = es.length
  e : Eqv es (h :: O)
section
variable {n m g : Nat} {es A C T : List (List Int)} {h : List Int} {z : Int}
theorem pt_body {c B K : Nat} {Dd : DEnds} (hm : m ≤ 60) (hnm : n ≤ m) (hg : g < n) (hz : z = (g : Nat)) (hk : (A ++ h :: C).length ≤ 8) (hc : c < 2 ^ 9000) (hB : B ≤ 2 ^ 22500) (hs : Su m g c B K (nz g (A ++ h :: C)) (zz g (A ++ h :: C))) (h0 : col g h ≠ 0)
    (k : ∀ (j : Nat) (hj : j < (lessA g A h C).length), col g (lessA g A h C)[j] ≠ 0 → (∀ e ∈ lessA g A h C, col g e ≠ 0 → (col g (lessA g A h C)[j]).natAbs ≤ (col g e).natAbs) → Dd.nx [some (.val (LP n (lessA g A h C))), some (.val (.int z)), some (.val (.int (j : Nat))), none]) :
    m_parted_at_2 Dd [some (.val (LP n (A ++ h :: C))), some (.val (.int z)), some (.val (.int (A.length : Nat))), none] := by
  obtain ⟨hr, hcc⟩ := Su.all hs
  have hle := hr.l
  have hh : h ∈ lessA g A h C := by unfold lessA; simp
  have hlen : (lessA g A h C).length = (A ++ h :: C).length := by
    unfold lessA
    simp
  have hr' : ∀ e ∈ lessA g A h C, e.length = m := fun e he => by
    unfold lessA at he
    simp only [List.mem_append, List.mem_cons, List.mem_map] at he
    rcases he with ⟨x, hx, rfl⟩ | rfl | ⟨x, hx, rfl⟩
    · exact sub_len (hle x (by simp [hx])) (hle h (by simp))
    · exact hle e (by simp)
    · exact sub_len (hle x (by simp [hx])) (hle h (by simp))
  unfold m_parted_at_2
  conv => whnf
  refine s_lessened (zi := (A.length : Nat)) hle hm hnm hg hz rfl (by omega) h0 (fun e he => Nat.lt_of_le_of_lt (hcc e he) (Nat.lt_trans hc (Nat.pow_lt_pow_right (by decide) (by decide)))) (Nat.lt_of_le_of_lt (hcc h (by simp)) hc) (fun x hx => Nat.lt_of_le_of_lt (Nat.le_trans (hr.b h (by simp) x hx) hB) (Nat.pow_lt_pow_right (by decide) (by decide))) _ _ fun o => ?_
  conv => whnf
  show m_parted_at_1 _ [some (.val (LP n (lessA g A h C))), some (.val (.int z)), some (.val (.int (A.length : Nat))), none]
  generalize lessA g A h C = es' at *
  unfold m_parted_at_1
  conv => whnf
  refine s_nearest (es := es') hr' hnm hg hz (by omega) fun d o hd => ?_
  unfold Near at hd
  rw [List.take_length] at hd
  rcases hd with ⟨_, hd⟩ | ⟨j, hj, rfl, hj0, hjm⟩
  · exact absurd (hd h hh) h0
  · conv => whnf
    exact k j hj hj0 hjm
theorem pt_while {c B K : Nat} {Dd : DEnds} (hm : m ≤ 60) (hnm : n ≤ m) (hg : g < n) (hz : z = (g : Nat)) (hT : T.length ≤ 8) (hc : c < 2 ^ 9000) (hB : B ≤ 2 ^ 22500)
    (fin : ∀ A h C, Su m g c B K (nz g (A ++ h :: C)) (zz g (A ++ h :: C)) → (∀ e ∈ A ++ C, col g e = 0) → col g h ≠ 0 → (A ++ h :: C).length = T.length → Eqv T (A ++ h :: C) → Dd.nx [some (.val (LP n (A ++ h :: C))), some (.val (.int z)), some (.val (.int (A.length : Nat))), none]) :
    ∀ k A h C, mass g (A ++ h :: C) < k → Su m g c B K (nz g (A ++ h :: C)) (zz g (A ++ h :: C)) → (A ++ h :: C).length = T.length → col g h ≠ 0 → (∀ e ∈ A ++ h :: C, col g e ≠ 0 → (col g h).natAbs ≤ (col g e).natAbs) → Eqv T (A ++ h :: C) →
      whGo (mNot (mTru (.e (frz (mCall [.e (mVar 0), .e (mVar 2), .e (mVar 1)] w_is_alone))))) m_parted_at_2 k Dd [some (.val (LP n (A ++ h :: C))), some (.val (.int z)), some (.val (.int (A.length : Nat))), none] := by
  intro k
  induction k with
  | zero => intro A h C hk; omega
  | succ k ih =>
    intro A h C hk hs hl h0 hmin hE
    obtain ⟨hr, hcc⟩ := Su.all hs
    have hle := hr.l
    have ha := s_alone (n := n) (m := m) (g := g) (es := A ++ h :: C) (i := A.length) (zi := (A.length : Nat)) (z := z) hle hnm hg hz rfl (by omega)
    rw [whGo]
    conv => whnf
    refine ha _ _ fun o => ?_
    conv => whnf
    cases hal : alone g A.length (A ++ h :: C) with
    | true =>
      conv => whnf
      refine ⟨_, rfl, ?_⟩
      conv => whnf
      exact fin A h C hs (alone_iff.mp hal) h0 hl hE
    | false =>
      have h2 : ∃ e ∈ A ++ C, col g e ≠ 0 := by
        refine Classical.byContradiction fun hn => ?_
        have : alone g A.length (A ++ h :: C) = true := alone_iff.mpr fun e he => Classical.byContradiction fun q => hn ⟨e, he, q⟩
        rw [hal] at this
        cases this
      obtain ⟨s1, s2, s3⟩ := less_roundS hs h0 hmin h2
      have hlen : (lessA g A h C).length = T.length := by
        rw [← hl]
        unfold lessA
        simp
      conv => whnf
      refine ⟨_, rfl, ?_⟩
      conv => whnf
      refine pt_body hm hnm hg hz (by omega) hc hB hs h0 fun j hj hj0 hjm => ?_
      have sp := split_at hj
      have hjl : ((lessA g A h C).take j).length = j := by rw [List.length_take]; omega
      have := ih ((lessA g A h C).take j) (lessA g A h C)[j] ((lessA g A h C).drop (j + 1))
      rw [← sp, hjl] at this
      exact this (by omega) s1 hlen hj0 hjm (hE.trans s3)
theorem s_parted {c B : Nat} (hR : ∀ e ∈ es, e.length = m) (hst : Su m g c B es.length (nz g es) (zz g es)) (hc : c < 2 ^ 9000) (hB : B ≤ 2 ^ 22500) (hk : es.length ≤ 8) (hm : m ≤ 60) (hnm : n ≤ m) (hg : g < n) (hz : z = (g : Nat)) {Qd : Cell → Outs → Prop} {Ed : Str → List (Str × D) → Outs → Prop}
    (k0 : (∀ e ∈ es, col g e = 0) → ∀ o, Qd (.val (.tup [.lst [], LP n es])) o) (k1 : ∀ h O, Part m g c B es h O → ∀ o, Qd (.val (.tup [.lst [pD n h], LP n O])) o) : w_parted_at [.val (LP n es), .val (.int z)] Qd Ed := by
  unfold w_parted_at m_parted_at
  conv => whnf
  refine s_nearest (es := es) hR hnm hg hz (by omega) fun d o hd => ?_
  unfold Near at hd
  rw [List.take_length] at hd
  conv => whnf
  show m_parted_at_6 _ [some (.val (LP n es)), some (.val (.int z)), some (.val d), none]
  unfold m_parted_at_6
  rcases hd with ⟨rfl, hd⟩ | ⟨j, hj, rfl, hj0, hjm⟩
  · conv => whnf
    repeat (refine ⟨_, rfl, ?_⟩; conv => whnf)
    refine ⟨small64 (by simp), ?_⟩
    conv => whnf
    refine ⟨small64 (by simp), ?_⟩
    exact k0 hd _
  · conv => whnf
    (refine ⟨_, rfl, ?_⟩; conv => whnf)
    show m_parted_at_5 _ [some (.val (LP n es)), some (.val (.int z)), some (.val (.int (j : Nat))), none]
    unfold m_parted_at_5
    conv => whnf
    refine ⟨mass g es + 1, ?_⟩
    have sp := split_at hj
    have hjl : (es.take j).length = j := by rw [List.length_take]; omega
    have wl := fun (Dd : DEnds) => pt_while (n := n) (m := m) (g := g) (T := es) (z := z) (Dd := Dd) (c := c) (B := B) (K := es.length) hm hnm hg hz hk hc hB
    have wl2 := fun Dd fin => wl Dd fin (mass g es + 1) (es.take j) es[j] (es.drop (j + 1))
    rw [← sp, hjl] at wl2
    refine wl2 _ (fun A h C hs hO h0 hl hE => ?_) (Nat.lt_succ_self _) hst rfl hj0 hjm (Eqv.refl _)
    obtain ⟨hr, hcc⟩ := Su.all hs
    have hh : h ∈ A ++ h :: C := by simp
    have hhl := hr.l h hh
    have hB1 : ∀ x ∈ h, x.natAbs < 2 ^ 1000000 := fun x hx => Nat.lt_of_le_of_lt (Nat.le_trans (hr.b h hh x hx) hB) (Nat.pow_lt_pow_right (by decide) (by omega))
    have hOm : ∀ e ∈ A ++ C, e ∈ A ++ h :: C := fun e he => by
      simp only [List.mem_append, List.mem_cons] at he ⊢
      rcases he with w | w
      · exact .inl w
      · exact .inr (.inr w)
    have hall : ∀ e, e ∈ h :: (A ++ C) ↔ e ∈ A ++ h :: C := fun e => by
      simp only [List.mem_append, List.mem_cons]
      constructor
      · rintro (w | w | w)
        · exact .inr (.inl w)
        · exact .inl w
        · exact .inr (.inr w)
      · rintro (w | w | w)
        · exact .inr (.inl w)
        · exact .inl w
        · exact .inr (.inr w)
    have hkl : (A ++ C).length + 1 = es.length := by
      rw [← hl]
      simp
      omega
    have last : ∀ h', Part m g c B es h' (A ++ C) → m_parted_at_3 ⟨fun ρ => Qd (.val .non) (outsOf ρ), fun c ρ => Qd c (outsOf ρ), fun _ => False, fun _ => False, fun c fs ρ => Ed c fs (outsOf ρ)⟩ [some (.val (LP n (A ++ h :: C))), some (.val (.int z)), some (.val (.int (A.length : Nat))), some (.val (pD n h'))] := fun h' hP => by
      unfold m_parted_at_3
      conv => whnf
      refine ⟨small64 (by simp), ?_⟩
      conv => whnf
      repeat (refine ⟨_, rfl, ?_⟩; conv => whnf)
      have e2 : DL.cutD ((A ++ h :: C).map (pD n)) none (some ((A.length : Nat) : Int)) = A.map (pD n) := by
        rw [cut_hi _ _ (by simp), List.map_append]
        exact List.take_left' (by rw [List.length_map])
      have e3 : DL.cutD ((A ++ h :: C).map (pD n)) (some (((A.length : Nat) : Int) + 1)) none = C.map (pD n) := by
        have e4 : ((A.length : Nat) : Int) + 1 = ((A.length + 1 : Nat) : Int) := by omega
        rw [e4, cut_lo _ _ (by simp), List.map_append, List.map_cons]
        rw [show List.map (pD n) A ++ pD n h :: List.map (pD n) C = (List.map (pD n) A ++ [pD n h]) ++ List.map (pD n) C by simp]
        exact List.drop_left' (by simp)
      rw [e2, e3]
      refine ⟨_, fAdd_lst (small64 (by rw [List.length_map, List.length_map]; rw [List.length_append] at hkl; omega)), ?_⟩
      conv => whnf
      refine ⟨small64 (by simp), ?_⟩
      rw [← List.map_append]
      exact k1 h' (A ++ C) hP _
    show m_parted_at_4 _ [some (.val (LP n (A ++ h :: C))), some (.val (.int z)), some (.val (.int (A.length : Nat))), none]
    unfold m_parted_at_4
    conv => whnf
    refine ⟨_, ixM rfl, ?_⟩
    conv => whnf
    refine ⟨_, fIx_tup (k := 0) (d := ti (h.take n)) rfl, ?_⟩
    conv => whnf
    refine ⟨_, ixP hz hhl hnm hg, ?_⟩
    conv => whnf
    by_cases hp : 0 < col g h
    · refine ⟨_, fGt_t hp, ?_⟩
      conv => whnf
      refine ⟨_, ixM rfl, ?_⟩
      conv => whnf
      refine last h ⟨hp, hcc h hh, hr.sub fun e he => (hall e).mp he, hO, hkl, hE.trans (Eqv.perm fun e => (hall e).symm)⟩
    · refine ⟨_, fGt_f hp, ?_⟩
      conv => whnf
      refine ⟨_, ixM rfl, ?_⟩
      conv => whnf
      refine s_turned (by omega) hB1 _ _ fun o => ?_
      conv => whnf
      have hc := ngs_col hhl
      refine last (ngs h) ⟨by rw [hc]; omega, by rw [hc]; have := hcc h hh; omega, ⟨fun e he => ?_, fun e he => ?_, fun e he => ?_⟩, hO, hkl, (hE.trans (Eqv.perm fun e => (hall e).symm)).trans (ngs_eqv hhl [] (A ++ C))⟩
      · rcases List.mem_cons.mp he with rfl | he
        · rw [ngs, List.length_map]
          exact hhl
        · exact hr.l e (hOm e he)
      · rcases List.mem_cons.mp he with rfl | he
        · intro x hx
          obtain ⟨y, hy, rfl⟩ := List.mem_map.mp hx
          have := hr.b h hh y hy
          omega
        · exact hr.b e (hOm e he)
      · rcases List.mem_cons.mp he with rfl | he
        · intro j hj
          rw [hc, hr.z h hh j hj]
          rfl
        · exact hr.z e (hOm e he)
end
end Lk71
set_option exponentiation.threshold 100000
namespace Lk71
open PySem PySem.Spec PyProof.Rows L2 DL Stairs
def nzI (p : Int × Nat) : Option D := if p.1 = 0 then none else some (.int (p.2 : Nat))
theorem first_nz : ∀ (r : List Int) (k : Nat), (∃ x ∈ r, x ≠ 0) → ((r.zipIdx k).filterMap nzI)[0]? = some (.int ((k + hd r : Nat) : Int))
  | [], _, h => by simp at h
  | x :: r, k, h => by
    rw [List.zipIdx_cons]
    by_cases h0 : x = 0
    · have e1 : nzI (x, k) = none := if_pos h0
      have e2 : hd (x :: r) = hd r + 1 := by
        unfold hd
        rw [List.findIdx_cons]
        simp [h0]
      have h2 : ∃ x ∈ r, x ≠ 0 := by
        obtain ⟨y, hy, hy0⟩ := h
        rcases List.mem_cons.mp hy with rfl | hy
        · exact absurd h0 hy0
        · exact ⟨y, hy, hy0⟩
      rw [List.filterMap_cons_none e1, first_nz r (k + 1) h2, e2]
      congr 3
      omega
    · have e1 : nzI (x, k) = some (.int (k : Nat)) := if_neg h0
      have e2 : hd (x :: r) = 0 := by
        unfold hd
        rw [List.findIdx_cons]
        simp [h0]
      rw [List.filterMap_cons_some e1, e2]
      rfl
theorem s_head_place {r : List Int} (hl : r.length ≤ 60) (h0 : ∃ x ∈ r, x ≠ 0) : Ret w_head_place [.val (ti r)] (.int (hd r : Nat)) := by
  intro Qd Ed k
  unfold w_head_place m_head_place
  conv => whnf
  rw [enumD_map]
  refine ⟨rfl, ?_⟩
  refine lcGo_fil (fun p : Int × Nat => D.tup [.int (p.2 : Nat), .int p.1]) nzI r.zipIdx [] (fun p hp Kt Kf h1 h2 => ?_) (small64 (by rw [List.length_zipIdx, List.length_nil]; omega)) ?_
  · conv => whnf
    refine ⟨rfl, ?_⟩
    conv => whnf
    refine ⟨_, fNe_int p.1 0, ?_⟩
    by_cases q : p.1 = 0
    · rw [decide_eq_true q]
      conv => whnf
      exact h2 (if_pos q)
    · rw [decide_eq_false q]
      conv => whnf
      exact h1 _ (if_neg q)
  · have e := first_nz r 0 h0
    rw [Nat.zero_add] at e
    rw [List.nil_append]
    generalize List.filterMap nzI r.zipIdx = fs at *
    conv => whnf
    refine ⟨_, fIx_lst (k := 0) e, ?_⟩
    exact k _
theorem ne_of_col {n : Nat} {r : List Int} {g : Nat} (hl : r.length = n) (h0 : col g r ≠ 0) : ∃ x ∈ r, x ≠ 0 := by
  unfold col at h0
  rw [List.getD_eq_getElem?_getD] at h0
  cases e : r[g]? with
  | none => rw [e] at h0; exact absurd rfl h0
  | some x => rw [e] at h0; exact ⟨x, List.mem_of_getElem? e, h0⟩
theorem take_col {n m j : Nat} {r : List Int} (hj : j < n) : col j (r.take n) = col j r := by
  unfold col
  rw [List.getD_eq_getElem?_getD, List.getD_eq_getElem?_getD, List.getElem?_take_of_lt hj]
theorem take_hd {n : Nat} {r : List Int} (h0 : col (hd r) r ≠ 0) (hn : hd r < n) : hd (r.take n) = hd r :=
  hd_eq (by rw [take_col (m := 0) hn]; exact h0) fun j hj => by rw [take_col (m := 0) (by omega)]; exact hd_ahead hj
/-- heads in order, not yet smooth -/
structure Pre (m g : Nat) (fd : List (List Int)) : Prop where
  l : ∀ r ∈ fd, r.length = m
  b : ∀ r ∈ fd, ∀ x ∈ r, x.natAbs ≤ 2 ^ 22500
  p : ∀ r ∈ fd, 0 < col (hd r) r
  h : ∀ r ∈ fd, hd r < g
  c : ∀ r ∈ fd, (col (hd r) r).natAbs < 2 ^ 9000
  s : fd.Pairwise fun r s => hd r < hd s
/-- some smooth, the others not yet -/
structure Mid (m n : Nat) (S R : List (List Int)) : Prop where
  r : Pre m n R
  l : ∀ r ∈ S, r.length = m
  b : ∀ r ∈ S, ∀ x ∈ r, x.natAbs ≤ 2 ^ fb S.length
  e : Ech S
  h : ∀ r ∈ S, hd r < n
  c : ∀ r ∈ S, (col (hd r) r).natAbs < 2 ^ 9000
  s : ∀ r ∈ S, ∀ x ∈ R, hd r < hd x
abbrev smo (x r : List Int) : List Int := sub r x ((col (hd x) r).fdiv (col (hd x) x))
theorem Mid.q {m n : Nat} {S R : List (List Int)} {x : List Int} (M : Mid m n S (x :: R)) {r : List Int} (hr : r ∈ S) : ((col (hd x) r).fdiv (col (hd x) x)).natAbs ≤ 2 ^ fb S.length + 1 := by
  have hx := M.r.p x List.mem_cons_self
  have h1 := fdiv_le (col (hd x) r) (col (hd x) x) (by omega)
  have h2 : (col (hd x) r).natAbs ≤ 2 ^ fb S.length := by
    unfold col
    rw [List.getD_eq_getElem?_getD]
    cases e : r[hd x]? with
    | none => exact Nat.zero_le _
    | some y => exact M.b r hr y (List.mem_of_getElem? e)
  omega
theorem Mid.step {m n : Nat} {S R : List (List Int)} {x : List Int} (hS : S.length ≤ 7) (M : Mid m n S (x :: R)) : Mid m n (S.map (smo x) ++ [x]) R ∧ ∀ left, Eqv (S ++ (x :: left)) ((S.map (smo x) ++ [x]) ++ left) := by
  have hx := List.mem_cons_self (a := x) (l := R)
  have hfb := fb_le S.length (by omega)
  have hxl := M.r.l x hx
  have hbx : ∀ y ∈ x, y.natAbs ≤ 2 ^ fb S.length := fun y hy => Nat.le_trans (M.r.b x hx y hy) (Nat.pow_le_pow_right (by decide) (by omega))
  have hps := List.pairwise_cons.mp M.r.s
  have hlt : ∀ r ∈ S, hd r < hd x := fun r hr => M.s r hr x hx
  have sn := M.e.snoc M.l hxl hlt (M.r.p x hx) fun j hj => hd_ahead hj
  have hh : ∀ r ∈ S, hd (smo x r) = hd r ∧ col (hd r) (smo x r) = col (hd r) r := fun r hr => sub_hd (M.l r hr) hxl (by have := M.e.p r hr; omega) (hlt r hr)
  have elen : (S.map (smo x) ++ [x]).length = S.length + 1 := by simp
  refine ⟨⟨⟨fun r hr => M.r.l r (List.mem_cons_of_mem _ hr), fun r hr => M.r.b r (List.mem_cons_of_mem _ hr), fun r hr => M.r.p r (List.mem_cons_of_mem _ hr), fun r hr => M.r.h r (List.mem_cons_of_mem _ hr), fun r hr => M.r.c r (List.mem_cons_of_mem _ hr), hps.2⟩, fun r hr => ?_, fun r hr y hy => ?_, sn.1, fun r hr => ?_, fun r hr => ?_, fun r hr y hy => ?_⟩, fun left => snoc_eqv _ M.l hxl⟩
  · rcases List.mem_append.mp hr with w | w
    · obtain ⟨s, hs, rfl⟩ := List.mem_map.mp w
      exact sub_len (M.l s hs) hxl
    · rw [show r = x by simpa using w]
      exact hxl
  · rw [elen]
    rcases List.mem_append.mp hr with w | w
    · obtain ⟨s, hs, rfl⟩ := List.mem_map.mp w
      exact fb_next (M.b s hs) (M.r.b x hx) (M.q hs) y hy
    · rw [show r = x by simpa using w] at hy
      rw [fb_up]
      exact Nat.le_trans (hbx y hy) (Nat.pow_le_pow_right (by decide) (by omega))
  · rcases List.mem_append.mp hr with w | w
    · obtain ⟨s, hs, rfl⟩ := List.mem_map.mp w
      rw [(hh s hs).1]
      exact M.h s hs
    · rw [show r = x by simpa using w]
      exact M.r.h x hx
  · rcases List.mem_append.mp hr with w | w
    · obtain ⟨s, hs, rfl⟩ := List.mem_map.mp w
      rw [(hh s hs).1, (hh s hs).2]
      exact M.c s hs
    · rw [show r = x by simpa using w]
      exact M.r.c x hx
  · have hxy := hps.1 y hy
    rcases List.mem_append.mp hr with w | w
    · obtain ⟨s, hs, rfl⟩ := List.mem_map.mp w
      rw [(hh s hs).1]
      have := hlt s hs
      omega
    · rw [show r = x by simpa using w]
      exact hxy
section
variable {n m : Nat} {S R : List (List Int)} {x : List Int}
theorem sm2 {L : D} {j : Nat} {A C : List (List Int)} {s : List Int} {Dd : DEnds} {c5 : Option Cell} (hm : m ≤ 60) (hnm : n ≤ m) (M : Mid m n S (x :: R)) (hS : S.length ≤ 7) (hs : s ∈ S) (hA : A.length + 1 + C.length = S.length)
    (k : ∀ c5, Dd.nx [some (.val L), some (.own ((A ++ smo x s :: (C ++ x :: R)).map (pD n))), some (.val (.int (0 + (S.length : Nat)))), some (.val (.int (hd x : Nat))), some (.val (.int (0 + (A.length : Nat)))), c5]) :
    m_smoothed_2 Dd [some (.val L), some (.own ((A ++ s :: (C ++ x :: R)).map (pD n))), some (.val (.int (0 + (S.length : Nat)))), some (.val (.int (hd x : Nat))), some (.val (.int (0 + (A.length : Nat)))), c5] := by
  have hx := List.mem_cons_self (a := x) (l := R)
  have hfb := fb_le S.length (by omega)
  have hxl := M.r.l x hx
  have hsl := M.l s hs
  have hpx := M.r.p x hx
  have hhx := M.r.h x hx
  have e1 : A ++ s :: (C ++ x :: R) = (A ++ s :: C) ++ x :: R := by simp
  have i1 : ∀ z : Int, z = (A.length : Nat) → fIx (LP n (A ++ s :: (C ++ x :: R))) (.int z) = some (.val (pD n s)) := fun z hz => ixM hz
  have i2 : ∀ z : Int, z = (S.length : Nat) → fIx (LP n (A ++ s :: (C ++ x :: R))) (.int z) = some (.val (pD n x)) := fun z hz => by
    rw [e1]
    exact ixM (by rw [hz]; simp; omega)
  have hlen : ((A ++ s :: (C ++ x :: R)).map (pD n)).length = S.length + 1 + R.length := by simp; omega
  have hset : ((A ++ s :: (C ++ x :: R)).map (pD n)).set A.length (pD n (smo x s)) = (A ++ smo x s :: (C ++ x :: R)).map (pD n) := by
    rw [List.map_append, List.map_append, List.map_cons, List.map_cons, List.set_append_right _ _ (by rw [List.length_map]; omega), List.length_map, Nat.sub_self]
    rfl
  have hq := M.q hs
  have hp1 : 2 ^ fb S.length + 1 < 2 ^ (fb S.length + 1) := by
    have : 2 ^ 1 ≤ 2 ^ fb S.length := Nat.pow_le_pow_right (by decide) (by omega)
    rw [Nat.pow_succ]
    omega
  unfold m_smoothed_2
  conv => whnf
  refine ⟨_, i1 _ (by omega), ?_⟩
  conv => whnf
  refine ⟨_, fIx_tup (k := 0) (d := ti (s.take n)) rfl, ?_⟩
  conv => whnf
  refine ⟨_, ixP rfl hsl hnm hhx, ?_⟩
  conv => whnf
  refine ⟨_, i2 _ (by omega), ?_⟩
  conv => whnf
  refine ⟨_, fIx_tup (k := 0) (d := ti (x.take n)) rfl, ?_⟩
  conv => whnf
  refine ⟨_, ixP rfl hxl hnm hhx, ?_⟩
  conv => whnf
  refine ⟨_, fDiv_int (divB_ok (k := 9000) (by omega) (M.r.c x hx) (by decide)), ?_⟩
  conv => whnf
  show m_smoothed_1 _ [some (.val L), some (.own ((A ++ s :: (C ++ x :: R)).map (pD n))), some (.val (.int (0 + (S.length : Nat)))), some (.val (.int (hd x : Nat))), some (.val (.int (0 + (A.length : Nat)))), some (.val (.int ((col (hd x) s).fdiv (col (hd x) x))))]
  unfold m_smoothed_1
  conv => whnf
  refine ⟨_, i1 _ (by omega), ?_⟩
  conv => whnf
  refine ⟨_, i2 _ (by omega), ?_⟩
  conv => whnf
  refine s_pair_less (M := 22501) (b := fb S.length + 1) (by omega) (Nat.lt_of_le_of_lt hq hp1) (fun y hy => Nat.lt_of_le_of_lt (M.r.b x hx y hy) (Nat.pow_lt_pow_right (by decide) (by decide))) (by omega) _ _ fun o => ?_
  conv => whnf
  refine ⟨_, by rw [Int.zero_add]; exact ixN_nat (k := A.length) (by rw [hlen]; omega), ?_⟩
  have := k (some (.val (.int ((col (hd x) s).fdiv (col (hd x) x)))))
  rw [← hset] at this
  exact this
theorem sm3 {L : D} {Dd : DEnds} {c3 c4 c5 : Option Cell} (hm : m ≤ 60) (hnm : n ≤ m) (M : Mid m n S (x :: R)) (hS : S.length ≤ 7)
    (k : ∀ c3 c4 c5, Dd.nx [some (.val L), some (.own (((S.map (smo x) ++ [x]) ++ R).map (pD n))), some (.val (.int (0 + (S.length : Nat)))), c3, c4, c5]) :
    m_smoothed_3 Dd [some (.val L), some (.own ((S ++ x :: R).map (pD n))), some (.val (.int (0 + (S.length : Nat)))), c3, c4, c5] := by
  have hx := List.mem_cons_self (a := x) (l := R)
  have hxl := M.r.l x hx
  have hpx := M.r.p x hx
  have hhx := M.r.h x hx
  have body := fun (Dd : DEnds) (A C : List (List Int)) (s : List Int) (c5 : Option Cell) => sm2 (L := L) (Dd := Dd) (A := A) (C := C) (s := s) (c5 := c5) (j := 0) hm hnm M hS
  unfold m_smoothed_3
  revert body
  generalize m_smoothed_2 = M2
  revert M2
  refine id ?_
  intro M2 body
  conv => whnf
  refine ⟨_, ixM (by omega), ?_⟩
  conv => whnf
  refine ⟨_, fIx_tup (k := 0) (d := ti (x.take n)) rfl, ?_⟩
  conv => whnf
  refine s_head_place (by rw [List.length_take]; omega) (ne_of_col (n := n) (g := hd x) (by rw [List.length_take]; omega) (by rw [take_col (m := 0) hhx]; omega)) _ _ fun o => ?_
  rw [take_hd (by omega) hhx]
  conv => whnf
  refine ⟨⟨by omega, by omega⟩, ?_⟩
  have et : Int.toNat (0 + ((S.length : Nat) : Int)) = S.length := by omega
  rw [et]
  refine forGo_ix (fun i => D.int (0 + (i : Nat))) (fun i ρ => ∃ c4 c5, ρ = [some (.val L), some (.own (((S.take i).map (smo x) ++ (S.drop i ++ x :: R)).map (pD n))), some (.val (.int (0 + (S.length : Nat)))), some (.val (.int (hd x : Nat))), c4, c5]) (List.range S.length) 0 _ (Nat.zero_le _) ?_ ?_ ⟨_, _, rfl⟩
  · rintro ρ ⟨c4, c5, rfl⟩
    rw [List.length_range, List.take_length, List.drop_length]
    have e : S.map (smo x) ++ ([] ++ x :: R) = (S.map (smo x) ++ [x]) ++ R := by simp
    rw [e]
    exact k _ _ _
  · rintro i i2 ρ hi ⟨c4, c5, rfl⟩ N hN
    obtain ⟨h2, h3⟩ := List.getElem?_eq_some_iff.mp hi
    rw [List.getElem_range] at h3
    rw [List.length_range] at h2
    subst h3
    have el : ((S.take i).map (smo x)).length = i := by rw [List.length_map, List.length_take]; omega
    have ed : S.drop i = S[i] :: S.drop (i + 1) := List.drop_eq_getElem_cons h2
    have et2 : S.take (i + 1) = S.take i ++ [S[i]] := take_one (List.getElem?_eq_getElem h2)
    have e9 : (S.take (i + 1)).map (smo x) ++ (S.drop (i + 1) ++ x :: R) = (S.take i).map (smo x) ++ smo x S[i] :: (S.drop (i + 1) ++ x :: R) := by
      rw [et2, List.map_append, List.append_assoc]
      rfl
    have := body { Dd with nx := N, ct := N, bk := Dd.nx } ((S.take i).map (smo x)) (S.drop (i + 1)) S[i] c5 (List.getElem_mem h2) (by rw [el, List.length_drop]; omega) fun c5 => hN _ ⟨some (.val (.int (0 + (i : Nat)))), c5, by rw [e9, el]⟩
    rw [el] at this
    conv => whnf
    rw [ed]
    exact this
theorem s_smoothed {fd : List (List Int)} (hm : m ≤ 60) (hnm : n ≤ m) (hk : fd.length ≤ 8) (P : Pre m n fd) {Qd : Cell → Outs → Prop} {Ed : Str → List (Str × D) → Outs → Prop}
    (k : ∀ fd' o, Mid m n fd' [] → fd'.length = fd.length → (∀ left, Eqv (fd ++ left) (fd' ++ left)) → Qd (.own (fd'.map (pD n))) o) : w_smoothed [.val (LP n fd)] Qd Ed := by
  have body := fun (Dd : DEnds) (S R : List (List Int)) (x : List Int) (c3 c4 c5 : Option Cell) => sm3 (n := n) (m := m) (S := S) (R := R) (x := x) (L := LP n fd) (Dd := Dd) (c3 := c3) (c4 := c4) (c5 := c5) hm hnm
  unfold w_smoothed m_smoothed m_smoothed_4
  revert body
  generalize m_smoothed_3 = M3
  revert M3
  refine id ?_
  intro M3 body
  conv => whnf
  repeat (refine ⟨_, rfl, ?_⟩; conv => whnf)
  refine ⟨⟨by omega, by rw [List.length_map]; omega⟩, ?_⟩
  have et : Int.toNat (((fd.map (pD n)).length : Nat) : Int) = fd.length := by rw [List.length_map]; omega
  rw [et]
  refine forGo_ix (fun i => D.int (0 + (i : Nat))) (fun i ρ => ∃ S R c2 c3 c4 c5, ρ = [some (.val (LP n fd)), some (.own ((S ++ R).map (pD n))), c2, c3, c4, c5] ∧ S.length = i ∧ S.length + R.length = fd.length ∧ Mid m n S R ∧ ∀ left, Eqv (fd ++ left) ((S ++ R) ++ left)) (List.range fd.length) 0 _ (Nat.zero_le _) ?_ ?_ ⟨[], fd, _, _, _, _, rfl, rfl, by simp, ⟨P, by simp, by simp, ⟨by simp, List.Pairwise.nil⟩, by simp, by simp, by simp⟩, fun left => Eqv.refl _⟩
  · rintro ρ ⟨S, R, c2, c3, c4, c5, rfl, h1, h2, M, hE⟩
    rw [List.length_range] at h1
    have hR : R = [] := List.eq_nil_of_length_eq_zero (by omega)
    subst hR
    conv => whnf
    rw [List.append_nil]
    refine k S _ M h1 fun left => ?_
    have := hE left
    rw [List.append_nil] at this
    exact this
  · rintro i i2 ρ hi ⟨S, R, c2, c3, c4, c5, rfl, h1, h2, M, hE⟩ N hN
    obtain ⟨h3, h4⟩ := List.getElem?_eq_some_iff.mp hi
    rw [List.getElem_range] at h4
    rw [List.length_range] at h3
    subst h4
    match R, h2, M, hE with
    | [], h2, _, _ => simp at h2; omega
    | x :: R, h2, M, hE =>
      rw [List.length_cons] at h2
      have hS : S.length ≤ 7 := by omega
      obtain ⟨M', hE'⟩ := M.step hS
      subst h1
      conv => whnf
      refine body _ S R x c3 c4 c5 M hS fun c3 c4 c5 => ?_
      exact hN _ ⟨S.map (smo x) ++ [x], R, _, c3, c4, c5, rfl, by simp, by simp; omega, M', fun left => (hE left).trans (by have := hE' (R ++ left); simpa using this)⟩
end
end Lk71
set_option exponentiation.threshold 100000
namespace Lk71
open PySem PySem.Spec PyProof.Rows L2 DL Stairs
/-- what a Steads is -/
structure Sted (n : Nat) (rows fd left : List (List Int)) : Prop where
  l : ∀ e ∈ fd ++ left, e.length = n + rows.length
  e : Ech fd
  h : ∀ r ∈ fd, hd r < n
  b : ∀ r ∈ fd, ∀ x ∈ r, x.natAbs < 2 ^ 1000000
  c : ∀ r ∈ fd, (col (hd r) r).natAbs < 2 ^ 9000
  z : ∀ r ∈ left, ∀ j, j < n → col j r = 0
  v : Eqv (ext0 rows) (fd ++ left)
  k : fd.length ≤ n
  k2 : left.length + fd.length = rows.length
  k8 : rows.length ≤ 8
abbrev idD (n : Nat) (left : List (List Int)) : D := .lst (left.map fun e => ti (e.drop n))
abbrev stD (n : Nat) (rows fd left : List (List Int)) : D := .obj "Steads" k_Steads [.int (n : Nat), tt rows, LP n fd, idD n left]
/-- the state ahead of a good; k0 stairs more stand behind what is bounded so -/
structure Go (n : Nat) (rows : List (List Int)) (k0 g : Nat) (fd left : List (List Int)) : Prop where
  r : Rws (n + rows.length) g (mb (k0 + fd.length)) left
  p : Pre (n + rows.length) g fd
  k : fd.length ≤ g
  k2 : left.length + fd.length = rows.length
  v : Eqv (ext0 rows) (fd ++ left)
theorem Go.none {n g k0 : Nat} {rows fd left : List (List Int)} (G : Go n rows k0 g fd left) (hz : ∀ e ∈ left, col g e = 0) : Go n rows k0 (g + 1) fd left := by
  refine ⟨⟨G.r.l, G.r.b, fun r hr j hj => ?_⟩, ⟨G.p.l, G.p.b, G.p.p, fun r hr => Nat.lt_succ_of_lt (G.p.h r hr), G.p.c, G.p.s⟩, by have := G.k; omega, G.k2, G.v⟩
  by_cases q : j = g
  · rw [q]
    exact hz r hr
  · exact G.r.z r hr j (by omega)
theorem Go.some {n g k0 : Nat} {rows fd left O : List (List Int)} {h : List Int} (hk8 : k0 + fd.length ≤ 7) (G : Go n rows k0 g fd left) (P : Part (n + rows.length) g (mb (k0 + fd.length)) (mb (k0 + fd.length + 1)) left h O) : Go n rows k0 (g + 1) (fd ++ [h]) O := by
  have hb8 : mb (k0 + fd.length + 1) ≤ 2 ^ 22500 := Nat.le_of_lt (mb_le8 _ (by omega))
  have elen : k0 + (fd ++ [h]).length = k0 + fd.length + 1 := by rw [List.length_append, List.length_cons, List.length_nil]; omega
  have hm := List.mem_cons_self (a := h) (l := O)
  have hh : hd h = g := hd_eq (by have := P.p; omega) (P.r.z h hm)
  have hmem : ∀ r ∈ fd ++ [h], r ∈ fd ∨ r = h := fun r hr => by
    rcases List.mem_append.mp hr with w | w
    · exact .inl w
    · exact .inr (by simpa using w)
  refine ⟨⟨fun r hr => P.r.l r (List.mem_cons_of_mem _ hr), fun r hr => by rw [elen]; exact P.r.b r (List.mem_cons_of_mem _ hr), fun r hr j hj => ?_⟩, ⟨fun r hr => ?_, fun r hr => ?_, fun r hr => ?_, fun r hr => ?_, fun r hr => ?_, ?_⟩, ?_, ?_, ?_⟩
  · by_cases q : j = g
    · rw [q]
      exact P.z r hr
    · exact P.r.z r (List.mem_cons_of_mem _ hr) j (by omega)
  · rcases hmem r hr with w | rfl
    · exact G.p.l r w
    · exact P.r.l r hm
  · rcases hmem r hr with w | rfl
    · exact G.p.b r w
    · exact fun x hx => Nat.le_trans (P.r.b r hm x hx) hb8
  · rcases hmem r hr with w | rfl
    · exact G.p.p r w
    · rw [hh]
      exact P.p
  · rcases hmem r hr with w | rfl
    · exact Nat.lt_succ_of_lt (G.p.h r w)
    · omega
  · rcases hmem r hr with w | rfl
    · exact G.p.c r w
    · rw [hh]
      exact Nat.lt_of_le_of_lt P.c (mb_le _ hk8)
  · rw [List.pairwise_append]
    refine ⟨G.p.s, List.pairwise_singleton _ _, fun a ha b hb => ?_⟩
    rw [show b = h by simpa using hb, hh]
    exact G.p.h a ha
  · have := G.k
    rw [List.length_append, List.length_cons, List.length_nil]
    omega
  · have h1 := G.k2
    have h2 := P.k
    rw [List.length_append, List.length_cons, List.length_nil]
    omega
  · have := G.v.trans ((Eqv.refl fd).append P.e)
    rw [show (fd ++ [h]) ++ O = fd ++ (h :: O) by simp]
    exact this
theorem Go.fin {n k0 : Nat} {rows fd fd' left : List (List Int)} (hk8 : k0 + rows.length ≤ 8) (G : Go n rows k0 n fd left) (M : Mid (n + rows.length) n fd' []) (hl : fd'.length = fd.length) (hE : ∀ left, Eqv (fd ++ left) (fd' ++ left)) : Sted n rows fd' left := by
  have hk := G.k
  have hk2 := G.k2
  have hfb := fb_le fd'.length (by omega)
  refine ⟨fun e he => ?_, M.e, M.h, fun r hr x hx => Nat.lt_of_le_of_lt (M.b r hr x hx) (Nat.pow_lt_pow_right (by decide) (by omega)), M.c, G.r.z, G.v.trans (hE left), by omega, by rw [hl]; exact G.k2, by omega⟩
  · rcases List.mem_append.mp he with w | w
    · exact M.l e w
    · exact G.r.l e w
theorem Go.start {n k0 : Nat} {rows : List (List Int)} (hk0 : k0 ≤ 8) (hl : ∀ r ∈ rows, r.length = n) (hb : ∀ r ∈ rows, ∀ x ∈ r, x.natAbs ≤ mb k0) : Go n rows k0 0 [] (ext0 rows) := by
  have hm : ∀ e ∈ ext0 rows, ∃ r ∈ rows, ∃ i, e = r ++ unit rows.length i := fun e he => by
    obtain ⟨⟨r, i⟩, hp, rfl⟩ := List.mem_map.mp he
    exact ⟨r, List.fst_mem_of_mem_zipIdx hp, i, rfl⟩
  refine ⟨⟨fun e he => ?_, fun e he x hx => ?_, fun e he j hj => absurd hj (by omega)⟩, ⟨by simp, by simp, by simp, by simp, by simp, List.Pairwise.nil⟩, Nat.le_refl _, by unfold ext0; simp, Eqv.refl _⟩
  · obtain ⟨r, hr, i, rfl⟩ := hm e he
    rw [List.length_append, hl r hr]
    unfold unit
    simp
  · obtain ⟨r, hr, i, rfl⟩ := hm e he
    rcases List.mem_append.mp hx with w | w
    · exact hb r hr x w
    · obtain ⟨k, _, rfl⟩ := List.mem_map.mp w
      have := mb_pos k0 hk0
      show (if k = i then (1 : Int) else 0).natAbs ≤ mb k0
      split
      · exact this
      · exact Nat.zero_le _
section
variable {n g k0 : Nat} {rows fd left : List (List Int)} {R : D}
theorem in1 {a : Addr} {c6 : Option Cell} {Dd : DEnds} (hn : n ≤ 50) (hk : k0 + rows.length ≤ 8) (hg : g < n) (G : Go n rows k0 g fd left)
    (k : ∀ fd' left' c6, Go n rows k0 (g + 1) fd' left' → Dd.nx [some (.val (.adr a)), some (.val (.int (n : Nat))), some (.val R), some (.val (LP n left')), some (.own (fd'.map (pD n))), some (.val (.int (0 + (g : Nat)))), c6, none, none]) :
    m_Steads_init_1 Dd [some (.val (.adr a)), some (.val (.int (n : Nat))), some (.val R), some (.val (LP n left)), some (.own (fd.map (pD n))), some (.val (.int (0 + (g : Nat)))), c6, none, none] := by
  have k2 := G.k2
  have k1 := G.k
  obtain ⟨c1, B1, hst, hc1, hB1, hor⟩ : ∃ c1 B1, Su (n + rows.length) g c1 B1 left.length (nz g left) (zz g left) ∧ c1 < 2 ^ 9000 ∧ B1 ≤ 2 ^ 22500 ∧ (left = [] ∨ (k0 + fd.length ≤ 7 ∧ c1 = mb (k0 + fd.length) ∧ B1 = mb (k0 + fd.length + 1))) := by
    by_cases h8 : k0 + fd.length ≤ 7
    · exact ⟨_, _, Su.start G.r (mb_pos _ (by omega)) (mb_step _ h8), mb_le _ h8, Nat.le_of_lt (mb_le8 _ (by omega)), .inr ⟨h8, rfl, rfl⟩⟩
    · have hle : left = [] := List.eq_nil_of_length_eq_zero (by omega)
      subst hle
      exact ⟨1, 1, Su.start1 (B := 1) ⟨by simp, by simp, by simp⟩ (by simp) (by simp), Nat.one_lt_pow (by decide) (by decide), Nat.one_le_two_pow, .inl rfl⟩
  unfold m_Steads_init_1
  conv => whnf
  refine s_parted (n := n) (m := n + rows.length) (g := g) (c := c1) (B := B1) G.r.l hst hc1 hB1 (by omega) (by omega) (by omega) hg (by omega) (fun hz o => ?_) (fun h O P o => ?_)
  · conv => whnf
    refine ⟨rfl, ?_⟩
    conv => whnf
    repeat (refine ⟨_, rfl, ?_⟩; conv => whnf)
    refine ⟨small64 (by rw [List.length_map]; simp; omega), ?_⟩
    rw [List.append_nil]
    exact k _ _ _ (G.none hz)
  · conv => whnf
    refine ⟨rfl, ?_⟩
    conv => whnf
    repeat (refine ⟨_, rfl, ?_⟩; conv => whnf)
    refine ⟨small64 (by rw [List.length_map]; simp; omega), ?_⟩
    have := k _ _ (some (.val (.lst [pD n h]))) (by
      rcases hor with w | ⟨w1, w2, w3⟩
      · rw [w] at P
        have := P.k
        simp at this
      · rw [w2, w3] at P
        exact G.some w1 P)
    rw [List.map_append] at this
    exact this
theorem s_init (hR : R = tt rows ∨ R = .lst (rows.map ti)) (hn : n ≤ 50) (hk : k0 + rows.length ≤ 8) (hl : ∀ r ∈ rows, r.length = n) (hb : ∀ r ∈ rows, ∀ x ∈ r, x.natAbs ≤ mb k0) {Qd : Cell → Outs → Prop} {Ed : Str → List (Str × D) → Outs → Prop}
    (k : ∀ fd left o, Sted n rows fd left → (∀ r ∈ left, ∀ x ∈ r, x.natAbs ≤ mb (k0 + fd.length)) → Qd (.val (stD n rows fd left)) o) : w_Steads_init [.val (.int (n : Nat)), .val R] Qd Ed := by
  have body := fun (Dd : DEnds) (a : Addr) (g : Nat) (fd left : List (List Int)) (c6 : Option Cell) => in1 (n := n) (rows := rows) (R := R) (Dd := Dd) (a := a) (g := g) (fd := fd) (left := left) (c6 := c6) hn hk
  unfold w_Steads_init
  intro a
  unfold m_Steads_init
  revert body
  generalize m_Steads_init_1 = M1
  revert M1
  refine id ?_
  intro M1 body
  conv => whnf
  refine ⟨rfl, ?_⟩
  have e1 : fTuple [R] = some (.val (tt rows)) := by
    rcases hR with rfl | rfl <;> rfl
  conv => whnf
  refine ⟨_, e1, ?_⟩
  conv => whnf
  refine ⟨rfl, ?_⟩
  conv => whnf
  refine ⟨rfl, ?_⟩
  conv => whnf
  refine ⟨rfl, _, rfl, ?_⟩
  conv => whnf
  refine s_pairs (n := n) hl (by omega) _ _ fun o => ?_
  conv => whnf
  refine ⟨small64 (by simp), ?_⟩
  conv => whnf
  refine ⟨rfl, ?_⟩
  conv => whnf
  refine ⟨⟨by omega, by omega⟩, ?_⟩
  rw [Int.toNat_natCast]
  refine forGo_ix (fun i => D.int (0 + (i : Nat))) (fun i ρ => ∃ fd left c5 c6, ρ = [some (.val (.adr a)), some (.val (.int (n : Nat))), some (.val R), some (.val (LP n left)), some (.own (fd.map (pD n))), c5, c6, none, none] ∧ Go n rows k0 i fd left) (List.range n) 0 _ (Nat.zero_le _) ?_ ?_ ⟨[], ext0 rows, _, _, rfl, Go.start (by omega) hl hb⟩
  · rintro ρ ⟨fd, left, c5, c6, rfl, G⟩
    rw [List.length_range] at G
    have k1 := G.k
    have k2 := G.k2
    conv => whnf
    refine s_smoothed (n := n) (m := n + rows.length) (fd := fd) (by omega) (by omega) (by omega) G.p fun fd' o M hl' hE => ?_
    conv => whnf
    refine ⟨rfl, ?_⟩
    conv => whnf
    refine ⟨rfl, ?_⟩
    refine lcGo_enc (pD n) (fun e => ti (e.drop n)) left [] (fun e he Kt Kf hK => ?_) (small64 (by rw [List.length_nil]; omega)) ?_
    · conv => whnf
      refine ⟨rfl, ?_⟩
      exact hK
    · rw [List.nil_append]
      conv => whnf
      refine ⟨rfl, ?_⟩
      exact k fd' left _ (G.fin hk M hl' hE) (by rw [hl']; exact G.r.b)
  · rintro i i2 ρ hi ⟨fd, left, c5, c6, rfl, G⟩ N hN
    obtain ⟨h3, h4⟩ := List.getElem?_eq_some_iff.mp hi
    rw [List.getElem_range] at h4
    rw [List.length_range] at h3
    subst h4
    conv => whnf
    refine body _ a i fd left c6 h3 G fun fd' left' c6 G' => ?_
    exact hN _ ⟨fd', left', _, _, rfl, G'⟩
end
end Lk71
set_option exponentiation.threshold 100000
namespace Lk71
open PySem PySem.Spec PyProof.Rows L2 DL
end Lk71
set_option exponentiation.threshold 100000
namespace Lk71
open PySem PySem.Spec PyProof.Rows L2 DL Stairs
/-- the stairs of a Steads -/
abbrev rowsOf (n : Nat) (fd : List (List Int)) : List (List Int) := fd.map fun r => r.take n
theorem ixc0 {n g : Nat} {r : List Int} {z : Int} (hz : z = (g : Nat)) (hl : r.length = n) (hg : g < n) : fIx (ti r) (.int z) = some (.val (.int (col g r))) := by
  rw [hz]
  exact fIx_tup (by
    rw [List.getElem?_map, List.getElem?_eq_getElem (by omega)]
    unfold col
    rw [List.getD_eq_getElem?_getD, List.getElem?_eq_getElem (by omega)]
    rfl)
section
variable {n : Nat} {rows fd left : List (List Int)}
theorem Sted.ech (S : Sted n rows fd left) : Ech (rowsOf n fd) := S.e.take S.h
theorem Sted.len (S : Sted n rows fd left) : ∀ r ∈ rowsOf n fd, r.length = n := fun r hr => by
  obtain ⟨e, he, rfl⟩ := List.mem_map.mp hr
  rw [List.length_take, S.l e (List.mem_append_left _ he)]
  omega
theorem ext0_take (hl : ∀ r ∈ rows, r.length = n) : (ext0 rows).map (fun r => r.take n) = rows := by
  unfold ext0
  rw [List.map_map]
  have : rows.zipIdx.map ((fun r : List Int => r.take n) ∘ fun p => p.1 ++ unit rows.length p.2) = rows.zipIdx.map Prod.fst := by
    refine List.map_congr_left fun p hp => ?_
    have hm : p.1.length = n := by
      obtain ⟨q, i⟩ := p
      exact hl q (List.fst_mem_of_mem_zipIdx hp)
    exact List.take_left' hm
  rw [this, List.zipIdx_map_fst]
theorem Sted.eqv (S : Sted n rows fd left) (hl : ∀ r ∈ rows, r.length = n) : Eqv rows (rowsOf n fd) := by
  have zero : ∀ r ∈ (fd ++ left).map (fun r => r.take n), In (rowsOf n fd) (fn_ r) := fun r hr => by
    obtain ⟨e, he, rfl⟩ := List.mem_map.mp hr
    rcases List.mem_append.mp he with w | w
    · exact In.mem (List.mem_map_of_mem w)
    · refine (In.zero _).congr fun j => ?_
      show 0 = col j (e.take n)
      rw [col_take]
      split
      · exact (S.z e w j (by assumption)).symm
      · rfl
  have cut : ∀ e : List Int, (fun j => if j < n then fn_ e j else 0) = fn_ (e.take n) := fun e => by
    funext j
    show _ = col j (e.take n)
    rw [col_take]
  constructor
  · intro r hr
    have hr2 : r ∈ (ext0 rows).map (fun r => r.take n) := by rw [ext0_take hl]; exact hr
    obtain ⟨e, he, rfl⟩ := List.mem_map.mp hr2
    have := In.take (n := n) (S.v.1 e he)
    rw [cut] at this
    exact this.sub zero
  · intro r hr
    obtain ⟨e, he, rfl⟩ := List.mem_map.mp hr
    have := In.take (n := n) (S.v.2 e (List.mem_append_left _ he))
    rw [cut, ext0_take hl] at this
    exact this
/-- the law's stairs and the program's are one list -/
theorem one_stairs {F : List (List Int)} (S : Sted n rows fd left) (hl : ∀ r ∈ rows, r.length = n) (hF : Fd n n F) (hE : Eqv rows F) : rowsOf n fd = F :=
  Ech.unique S.ech hF.e S.len hF.l ((S.eqv hl).symm.trans hE)
theorem wq_le (r v : List Int) (h : col (hd r) r ≠ 0) : (wq r v).natAbs ≤ (col (hd r) v).natAbs + 1 := fdiv_le _ _ h
theorem col_bd {v : List Int} {B : Nat} (h : ∀ x ∈ v, x.natAbs ≤ B) (j : Nat) : (col j v).natAbs ≤ B := by
  unfold col
  rw [List.getD_eq_getElem?_getD]
  cases e : v[j]? with
  | none => exact Nat.zero_le _
  | some x => exact h x (List.mem_of_getElem? e)
/-- bits of what is left -/
def vb (b c i : Nat) : Nat := b + (c + 2) * i
theorem wr_bd {A : List (List Int)} {b c : Nat} : ∀ {v : List Int}, (∀ r ∈ A, ∀ x ∈ r, x.natAbs < 2 ^ c) → (∀ r ∈ A, col (hd r) r ≠ 0) → (∀ x ∈ v, x.natAbs ≤ 2 ^ b) → ∀ x ∈ wr A v, x.natAbs ≤ 2 ^ vb b c A.length := by
  induction A generalizing b with
  | nil => exact fun _ _ h => h
  | cons r A ih =>
    intro v hA h0 hv x hx
    have hr := hA r List.mem_cons_self
    have hq := wq_le r v (h0 r List.mem_cons_self)
    have hc := col_bd hv (hd r)
    have step : ∀ y ∈ sub v r (wq r v), y.natAbs ≤ 2 ^ (b + (c + 2)) := fun y hy => by
      obtain ⟨p, hp, rfl⟩ := List.mem_map.mp hy
      have a1 := hv _ (List.of_mem_zip hp).1
      have a2 := hr _ (List.of_mem_zip hp).2
      have a3 : (wq r v * p.2).natAbs ≤ (2 ^ b + 1) * 2 ^ c := by
        rw [Int.natAbs_mul]
        exact Nat.mul_le_mul (by omega) (by omega)
      have e1 : 2 ^ (b + (c + 2)) = 2 ^ b * 2 ^ c * 4 := by rw [← Nat.pow_add, show b + (c + 2) = (b + c) + 2 by omega, Nat.pow_add 2 _ 2]
      have e2 : (2 ^ b + 1) * 2 ^ c = 2 ^ b * 2 ^ c + 2 ^ c := by rw [Nat.add_mul, Nat.one_mul]
      have e3 : 2 ^ c ≤ 2 ^ b * 2 ^ c := Nat.le_mul_of_pos_left _ (Nat.pow_pos (by decide))
      have e4 : 2 ^ b ≤ 2 ^ b * 2 ^ c := Nat.le_mul_of_pos_right _ (Nat.pow_pos (by decide))
      show (p.1 - wq r v * p.2).natAbs ≤ _
      rw [e1]
      generalize 2 ^ b * 2 ^ c = X at *
      generalize 2 ^ c = Y at *
      omega
    have := ih (b := b + (c + 2)) (fun s hs => hA s (List.mem_cons_of_mem _ hs)) (fun s hs => h0 s (List.mem_cons_of_mem _ hs)) step x hx
    have e : vb (b + (c + 2)) c A.length = vb b c (r :: A).length := by
      unfold vb
      rw [List.length_cons, Nat.mul_succ]
      omega
    rw [e] at this
    exact this
theorem wk1 {d0 d1 : Option Cell} {c5 c6 c7 : Option Cell} {ns : List Int} {r v : List Int} {b : Nat} {Dd : DEnds} (hn : n ≤ 50) (hr : r.length = n) (hv : v.length = n) (hh : hd r < n) (h0 : col (hd r) r ≠ 0) (hc : (col (hd r) r).natAbs < 2 ^ 9000) (hrb : ∀ x ∈ r, x.natAbs < 2 ^ 1000000) (hvb : ∀ x ∈ v, x.natAbs ≤ 2 ^ b) (hb : b ≤ 100000000) (hns : ns.length ≤ 50)
    (k : ∀ c6 c7, Dd.nx [d0, d1, some (.own ((ns ++ [wq r v]).map D.int)), some (.val (ti (sub v r (wq r v)))), some (.val (ti r)), c5, c6, c7]) :
    m_Steads_walk_3 Dd [d0, d1, some (.own (ns.map D.int)), some (.val (ti v)), some (.val (ti r)), c5, c6, c7] := by
  have hq : (wq r v).natAbs < 2 ^ (b + 2) := by
    have h1 := wq_le r v h0
    have h2 := col_bd hvb (hd r)
    have e : 2 ^ (b + 2) = 2 ^ b * 4 := Nat.pow_add 2 b 2
    have : 1 ≤ 2 ^ b := Nat.pow_pos (by decide)
    omega
  unfold m_Steads_walk_3
  conv => whnf
  refine s_head_place (by omega) (ne_of_col hr h0) _ _ fun o => ?_
  conv => whnf
  show m_Steads_walk_2 _ [d0, d1, some (.own (ns.map D.int)), some (.val (ti v)), some (.val (ti r)), c5, some (.val (.int (hd r : Nat))), c7]
  unfold m_Steads_walk_2
  conv => whnf
  refine ⟨_, ixc0 rfl hv hh, ?_⟩
  conv => whnf
  refine ⟨_, ixc0 rfl hr hh, ?_⟩
  conv => whnf
  refine ⟨_, fDiv_int (divB_ok (k := 9000) h0 hc (by decide)), ?_⟩
  conv => whnf
  refine ⟨small64 (by rw [List.length_map]; omega), ?_⟩
  show m_Steads_walk_1 _ [d0, d1, some (.own (ns.map D.int ++ [.int (wq r v)])), some (.val (ti v)), some (.val (ti r)), c5, some (.val (.int (hd r : Nat))), some (.val (.int (wq r v)))]
  unfold m_Steads_walk_1
  conv => whnf
  refine s_row_less (M := 1000000) (b := b + 2) (by omega) hq hrb (by omega) _ _ fun o => ?_
  conv => whnf
  have := k (some (.val (.int (hd r : Nat)))) (some (.val (.int (wq r v))))
  rw [List.map_append] at this
  exact this
theorem s_walk {v : List Int} {b : Nat} (hn : n ≤ 50) (S : Sted n rows fd left) (hv : v.length = n) (hvb : ∀ x ∈ v, x.natAbs ≤ 2 ^ b) (hb : b ≤ 10000000) : Ret w_Steads_walk [.val (stD n rows fd left), .val (ti v)] (.tup [ti (wn (rowsOf n fd) v), ti (wr (rowsOf n fd) v)]) := by
  intro Qd Ed k
  have hk2 := S.k2
  have hk8 := S.k8
  have hlen := S.len
  have hpos := S.ech.p
  have hbd : ∀ r ∈ rowsOf n fd, ∀ x ∈ r, x.natAbs < 2 ^ 1000000 := fun r hr x hx => by
    obtain ⟨e, he, rfl⟩ := List.mem_map.mp hr
    exact S.b e he x (List.mem_of_mem_take hx)
  have hhd : ∀ r ∈ rowsOf n fd, hd r < n ∧ (col (hd r) r).natAbs < 2 ^ 9000 := fun r hr => by
    obtain ⟨e, he, rfl⟩ := List.mem_map.mp hr
    have h0 := S.e.p e he
    rw [hd_take (by omega) (S.h e he), col_take, if_pos (S.h e he)]
    exact ⟨S.h e he, S.c e he⟩
  have body := fun (Dd : DEnds) (d0 d1 c5 c6 c7 : Option Cell) (ns r v : List Int) (b : Nat) => wk1 (n := n) (Dd := Dd) (d0 := d0) (d1 := d1) (c5 := c5) (c6 := c6) (c7 := c7) (ns := ns) (r := r) (v := v) (b := b) hn
  unfold w_Steads_walk m_Steads_walk m_Steads_walk_5
  revert body
  generalize m_Steads_walk_3 = M3
  revert M3
  refine id ?_
  intro M3 body
  conv => whnf
  refine ⟨small64 (by simp), ?_⟩
  conv => whnf
  repeat (refine ⟨_, rfl, ?_⟩; conv => whnf)
  refine ⟨rfl, ?_⟩
  conv => whnf
  refine ⟨_, _, rfl, rfl, ?_⟩
  conv => whnf
  refine forGo_ix (pD n) (fun i ρ => ∃ c4 c5 c6 c7, ρ = [some (.val (stD n rows fd left)), some (.val (ti v)), some (.own ((wn ((rowsOf n fd).take i) v).map D.int)), some (.val (ti (wr ((rowsOf n fd).take i) v))), c4, c5, c6, c7]) fd 0 _ (Nat.zero_le _) ?_ ?_ ⟨_, _, _, _, rfl⟩
  · rintro ρ ⟨c4, c5, c6, c7, rfl⟩
    have et : (rowsOf n fd).take fd.length = rowsOf n fd := List.take_of_length_le (by rw [List.length_map]; exact Nat.le_refl _)
    rw [et]
    have hw := wn_len (rowsOf n fd) v
    rw [List.length_map] at hw
    unfold m_Steads_walk_4
    conv => whnf
    repeat (refine ⟨_, rfl, ?_⟩; conv => whnf)
    refine ⟨small64 (by simp), ?_⟩
    exact k _
  · rintro i e ρ hi ⟨c4, c5, c6, c7, rfl⟩ N hN
    obtain ⟨h2, h3⟩ := List.getElem?_eq_some_iff.mp hi
    have her : (rowsOf n fd)[i]? = some (e.take n) := by rw [List.getElem?_map, hi]; rfl
    have hm : e.take n ∈ rowsOf n fd := List.mem_of_getElem? her
    have et := take_one her
    have hp := hpos _ hm
    have hsub : ∀ r ∈ (rowsOf n fd).take i, r ∈ rowsOf n fd := fun r hr => List.mem_of_mem_take hr
    have hbi := wr_bd (A := (rowsOf n fd).take i) (b := b) (v := v) (fun r hr => hbd r (hsub r hr)) (fun r hr => by have := hpos r (hsub r hr); omega) hvb
    have hvl : vb b 1000000 ((rowsOf n fd).take i).length ≤ 100000000 := by
      unfold vb
      rw [List.length_take, List.length_map]
      have : min i fd.length ≤ 8 := by omega
      have := Nat.mul_le_mul_left 1000002 this
      omega
    have hwl := wn_len ((rowsOf n fd).take i) v
    rw [List.length_take, List.length_map] at hwl
    conv => whnf
    refine ⟨rfl, ?_⟩
    conv => whnf
    refine body _ _ _ _ _ _ _ (e.take n) _ _ (hlen _ hm) (wr_len (fun r hr => hlen r (hsub r hr)) hv) (hhd _ hm).1 (by omega) (hhd _ hm).2 (hbd _ hm) hbi hvl (by omega) fun c6 c7 => ?_
    refine hN _ ⟨some (.val (ti (e.take n))), some (.val (ti (e.drop n))), c6, c7, ?_⟩
    rw [et, wn_snoc, wr_snoc]
/-- all noughts -/
def nil0 (v : List Int) : Bool := v.all fun x => decide (x = 0)
theorem nil0_iff {v : List Int} : nil0 v = true ↔ ∀ j, col j v = 0 := by
  unfold nil0
  rw [List.all_eq_true]
  constructor
  · intro h j
    unfold col
    rw [List.getD_eq_getElem?_getD]
    cases e : v[j]? with
    | none => rfl
    | some x => exact of_decide_eq_true (h x (List.mem_of_getElem? e))
  · intro h x hx
    obtain ⟨i, hi, e⟩ := List.getElem_of_mem hx
    have := h i
    unfold col at this
    rw [List.getD_eq_getElem?_getD, List.getElem?_eq_getElem hi] at this
    exact decide_eq_true (e ▸ this)
theorem s_are_noughts {v : List Int} (hl : v.length ≤ 60) : Ret w_are_noughts [.val (ti v)] (.bl (nil0 v)) := by
  intro Qd Ed k
  unfold w_are_noughts m_are_noughts
  conv => whnf
  refine ⟨rfl, ?_⟩
  refine lcGo_enc D.int (fun x => D.bl (decide (x = 0))) v [] (fun x hx Kt Kf hK => ?_) (small64 (by rw [List.length_nil]; omega)) ?_
  · conv => whnf
    exact ⟨_, fEq_int x 0, hK⟩
  · have e : ([] : List D) ++ v.map (fun x => D.bl (decide (x = 0))) = (v.map fun x => decide (x = 0)).map D.bl := by
      rw [List.nil_append, List.map_map]
      rfl
    rw [e]
    conv => whnf
    refine ⟨_, gAll_bls _, ?_⟩
    have e2 : (v.map fun x => decide (x = 0)).all id = nil0 v := by
      unfold nil0
      rw [List.all_map]
      rfl
    rw [e2]
    exact k _
end
end Lk71
set_option exponentiation.threshold 100000
namespace Lk71
open PySem PySem.Spec PyProof.Rows L2 DL
/-- data of numbers, truths, texts, None, tuples, lists, not deeper than that -/
def Sb : Nat → D → Prop
  | 0, _ => False
  | _ + 1, .int _ => True
  | _ + 1, .bl _ => True
  | _ + 1, .str x => (toPy (.str x)).canLay0 = true
  | _ + 1, .non => True
  | n + 1, .tup ds => ds.length < 1000000 ∧ ∀ d ∈ ds, Sb n d
  | n + 1, .lst ds => ds.length < 1000000 ∧ ∀ d ∈ ds, Sb n d
  | _ + 1, _ => False
theorem same_seq {n : Nat} {ds : List D} {Kx : D} (hk : Kx = .tup ds ∨ Kx = .lst ds) (hl : ds.length < 1000000) (ih : ∀ d ∈ ds, Ret (w_law_same n) [.val d, .val d] (.bl true)) : Ret (w_law_same (n + 1)) [.val Kx, .val Kx] (.bl true) := by
  intro Qd Ed h
  rw [w_law_same]
  unfold m_law_same
  rcases hk with rfl | rfl
  · conv => whnf
    repeat (refine ⟨_, rfl, ?_⟩; conv => whnf)
    refine ⟨small64 (by simp), ?_⟩
    conv => whnf
    (refine ⟨_, rfl, ?_⟩; conv => whnf)
    (refine ⟨_, rfl, ?_⟩; conv => whnf)
    (refine ⟨_, rfl, ?_⟩; conv => whnf)
    (refine ⟨_, rfl, ?_⟩; conv => whnf)
    refine ⟨_, fEq_t (a := (ds.length : Nat)) (b := (ds.length : Nat)) rfl, ?_⟩
    conv => whnf
    repeat (refine ⟨_, rfl, ?_⟩; conv => whnf)
    refine ⟨⟨by omega, by omega⟩, ?_⟩
    conv => whnf
    refine ⟨rfl, ?_⟩
    refine lcGo_enc (fun i => D.int (0 + (i : Nat))) (fun _ => D.bl true) (List.range ((ds.length : Nat) : Int).toNat) [] (fun z hz Kt Kf hK => ?_) (big_line (by simpa using hl)) ?_
    · have hz2 : z < ds.length := by simpa using hz
      conv => whnf
      refine ⟨_, fIx_tup0 (List.getElem?_eq_getElem hz2), ?_⟩
      conv => whnf
      refine ⟨_, fIx_tup0 (List.getElem?_eq_getElem hz2), ?_⟩
      conv => whnf
      refine ih ds[z] (List.getElem_mem hz2) _ _ fun o => ?_
      exact hK
    · conv => whnf
      refine ⟨_, all_map_true _, ?_⟩
      exact h _
  · conv => whnf
    repeat (refine ⟨_, rfl, ?_⟩; conv => whnf)
    refine ⟨small64 (by simp), ?_⟩
    conv => whnf
    (refine ⟨_, rfl, ?_⟩; conv => whnf)
    (refine ⟨_, rfl, ?_⟩; conv => whnf)
    (refine ⟨_, rfl, ?_⟩; conv => whnf)
    (refine ⟨_, rfl, ?_⟩; conv => whnf)
    refine ⟨_, fEq_t (a := (ds.length : Nat)) (b := (ds.length : Nat)) rfl, ?_⟩
    conv => whnf
    repeat (refine ⟨_, rfl, ?_⟩; conv => whnf)
    refine ⟨⟨by omega, by omega⟩, ?_⟩
    conv => whnf
    refine ⟨rfl, ?_⟩
    refine lcGo_enc (fun i => D.int (0 + (i : Nat))) (fun _ => D.bl true) (List.range ((ds.length : Nat) : Int).toNat) [] (fun z hz Kt Kf hK => ?_) (big_line (by simpa using hl)) ?_
    · have hz2 : z < ds.length := by simpa using hz
      conv => whnf
      refine ⟨_, fIx_lst0 (List.getElem?_eq_getElem hz2), ?_⟩
      conv => whnf
      refine ⟨_, fIx_lst0 (List.getElem?_eq_getElem hz2), ?_⟩
      conv => whnf
      refine ih ds[z] (List.getElem_mem hz2) _ _ fun o => ?_
      exact hK
    · conv => whnf
      refine ⟨_, all_map_true _, ?_⟩
      exact h _
theorem s_same : ∀ (n : Nat) (d : D), Sb n d → Ret (w_law_same n) [.val d, .val d] (.bl true)
  | 0, _, h => h.elim
  | n + 1, .tup ds, h => same_seq (.inl rfl) h.1 fun d hd => s_same n d (h.2 d hd)
  | n + 1, .lst ds, h => same_seq (.inr rfl) h.1 fun d hd => s_same n d (h.2 d hd)
  | n + 1, .int i, _ => by
    intro Qd Ed h
    rw [w_law_same]
    unfold m_law_same m_law_same_6 m_law_same_5 m_law_same_4 m_law_same_3 m_law_same_2
    conv => whnf
    (refine ⟨_, rfl, ?_⟩; conv => whnf)
    repeat (refine ⟨_, rfl, ?_⟩; conv => whnf)
    refine ⟨small64 (by simp), ?_⟩
    conv => whnf
    repeat (refine ⟨_, rfl, ?_⟩; conv => whnf)
    rw [eqD_int, decide_eq_true rfl]
    exact h _
  | n + 1, .non, _ => by
    intro Qd Ed h
    rw [w_law_same]
    unfold m_law_same m_law_same_6 m_law_same_5 m_law_same_4 m_law_same_3 m_law_same_2
    conv => whnf
    (refine ⟨_, rfl, ?_⟩; conv => whnf)
    repeat (refine ⟨_, rfl, ?_⟩; conv => whnf)
    refine ⟨small64 (by simp), ?_⟩
    conv => whnf
    repeat (refine ⟨_, rfl, ?_⟩; conv => whnf)
    exact h _
  | n + 1, .bl b, _ => by
    intro Qd Ed h
    rw [w_law_same]
    unfold m_law_same m_law_same_6 m_law_same_5 m_law_same_4 m_law_same_3 m_law_same_2
    conv => whnf
    (refine ⟨_, rfl, ?_⟩; conv => whnf)
    repeat (refine ⟨_, rfl, ?_⟩; conv => whnf)
    refine ⟨small64 (by simp), ?_⟩
    conv => whnf
    repeat (refine ⟨_, rfl, ?_⟩; conv => whnf)
    rw [eqD_self (n := 1) (d := .bl b) trivial]
    exact h _
  | n + 1, .str x, hx => by
    intro Qd Ed h
    rw [w_law_same]
    unfold m_law_same m_law_same_6 m_law_same_5 m_law_same_4 m_law_same_3 m_law_same_2
    conv => whnf
    (refine ⟨_, rfl, ?_⟩; conv => whnf)
    repeat (refine ⟨_, rfl, ?_⟩; conv => whnf)
    refine ⟨small64 (by simp), ?_⟩
    conv => whnf
    repeat (refine ⟨_, rfl, ?_⟩; conv => whnf)
    refine ⟨_, fEq_self (n := 1) (d := .str x) (by decide) hx, ?_⟩
    exact h _
  | n + 1, .fix _, h => h.elim
  | n + 1, .dic _ _, h => h.elim
  | n + 1, .ty _, h => h.elim
  | n + 1, .obj _ _ _, h => h.elim
  | n + 1, .adr _, h => h.elim
  | n + 1, .rng _ _, h => h.elim
theorem same_v {d : D} (h : Sb 8 d) : Ret v_law_same [.val d, .val d] (.bl true) := by
  unfold v_law_same
  exact s_same 8 d h
end Lk71
set_option exponentiation.threshold 100000
namespace Lk71
open PySem PySem.Spec PyProof.Rows L2 DL Stairs
theorem first_rng {f : Nat → Option D} {d : D} {h : Nat} (h0 : ∀ j, j < h → f j = none) (h1 : f h = some d) : ∀ n, h < n → ((List.range n).filterMap f)[0]? = some d := by
  have z : (List.range h).filterMap f = [] := List.filterMap_eq_nil_iff.mpr fun j hj => h0 j (List.mem_range.mp hj)
  intro n
  induction n with
  | zero => intro h; omega
  | succ n ih =>
    intro hn
    rw [List.range_succ, List.filterMap_append]
    by_cases q : h < n
    · have := ih q
      rw [List.getElem?_append_left (List.getElem?_eq_some_iff.mp this).1]
      exact this
    · have : h = n := by omega
      subst this
      rw [z, List.nil_append, List.filterMap_cons_some h1]
      rfl
theorem fIx_last {xs : List D} {d : D} : fIx (.lst (xs ++ [d])) (.int (-1)) = some (.val d) := by
  show (atI (xs ++ [d]) (-1)).map Cell.val = _
  have e : ixN (xs ++ [d]).length (-1) = some xs.length := by
    unfold ixN
    rw [if_neg (by omega), if_pos (by rw [List.length_append, List.length_cons, List.length_nil]; omega)]
    congr 1
    rw [List.length_append, List.length_cons, List.length_nil]
    omega
  unfold atI
  rw [e]
  show ((xs ++ [d])[xs.length]?).map Cell.val = _
  rw [List.getElem?_append_right (Nat.le_refl _), Nat.sub_self]
  rfl
theorem ixcl {n g : Nat} {r : List Int} {z : Int} (hz : z = (g : Nat)) (hl : r.length = n) (hg : g < n) : fIx (li r) (.int z) = some (.val (.int (col g r))) := ixc0 hz hl hg
section
variable {n : Nat} {rows F : List (List Int)}
/-- stairs with their sizes -/
structure Sta (n : Nat) (F : List (List Int)) : Prop where
  l : ∀ r ∈ F, r.length = n
  e : Ech F
  h : ∀ r ∈ F, hd r < n
  b : ∀ r ∈ F, ∀ x ∈ r, x.natAbs < 2 ^ 1000000
  c : ∀ r ∈ F, (col (hd r) r).natAbs < 2 ^ 9000
  k : F.length ≤ n
  k8 : F.length ≤ 8
theorem Sted.sta {fd left : List (List Int)} (S : Sted n rows fd left) : Sta n (rowsOf n fd) where
  l := S.len
  e := S.ech
  h := fun r hr => by
    obtain ⟨e, he, rfl⟩ := List.mem_map.mp hr
    have h0 := S.e.p e he
    rw [hd_take (by omega) (S.h e he)]
    exact S.h e he
  b := fun r hr x hx => by
    obtain ⟨e, he, rfl⟩ := List.mem_map.mp hr
    exact S.b e he x (List.mem_of_mem_take hx)
  c := fun r hr => by
    obtain ⟨e, he, rfl⟩ := List.mem_map.mp hr
    have h0 := S.e.p e he
    rw [hd_take (by omega) (S.h e he), col_take, if_pos (S.h e he)]
    exact S.c e he
  k := by rw [List.length_map]; exact S.k
  k8 := by rw [List.length_map]; have := S.k2; have := S.k8; omega
/-! ### what is asked of the program -/
section
variable {v w : List Int} (hl : Lst n rows) (hF : Fd n n F) (hE : Eqv rows F) (hv : v.length = n) {b : Nat} (hvb : ∀ x ∈ v, x.natAbs ≤ 2 ^ b) (hb : b ≤ 10000000)
include hl hF hE
include hv hvb hb
end
end
end Lk71
set_option maxHeartbeats 400000
set_option exponentiation.threshold 100000
namespace Lk71
open PySem PySem.Spec PyProof.Rows L2 DL Stairs
theorem Fd.sta {n : Nat} {F : List (List Int)} (h : Fd n n F) : Sta n F := ⟨h.l, h.e, h.h, fun r hr x hx => Nat.lt_of_le_of_lt (h.b r hr x hx) (Nat.pow_lt_pow_right (by decide) (by
  have := fb_le F.length h.k8
  omega)), h.c, h.k, h.k8⟩
theorem sumOf_col {n j : Nat} {rows : List (List Int)} {am : List Int} (hj : j < n) : col j (sumOf n rows am) = ((am.zip rows).map fun p => p.1 * col j p.2).sum := by
  unfold sumOf col
  rw [List.getD_eq_getElem?_getD (l := List.map _ (List.range n)), List.getElem?_map, List.getElem?_range hj]
  rfl
theorem sum_snoc (a : List Int) (b : Int) : (a ++ [b]).sum = a.sum + b := by
  rw [List.sum_append]
  show _ + (b + 0) = _
  rw [Int.add_zero]
/-- the walk's numbers and the rest make the order, as the law sums it -/
theorem sum_back {n : Nat} {F : List (List Int)} {v : List Int} (hF : ∀ r ∈ F, r.length = n) (hv : v.length = n) : sumOf n (F ++ [wr F v]) (wn F v ++ [1]) = v := by
  refine row_ext (n := n) (by simp [sumOf]) hv fun j => ?_
  by_cases hj : j < n
  · rw [sumOf_col hj, List.zip_append (wn_len F v), List.map_append]
    show (_ ++ [1 * col j (wr F v)]).sum = _
    rw [sum_snoc, Int.one_mul]
    exact wr_made j hF hv
  · unfold col
    rw [List.getD_eq_getElem?_getD, List.getD_eq_getElem?_getD, List.getElem?_eq_none (by simp [sumOf]; omega), List.getElem?_eq_none (by omega)]
/-- any: a number that is not 0 -/
def nz1 (v : List Int) : Bool := v.any fun x => x != 0
theorem nz1_nil (v : List Int) : (!nz1 v) = nil0 v := by
  unfold nz1 nil0
  induction v with
  | nil => rfl
  | cons x v ih =>
    rw [List.any_cons, List.all_cons, Bool.not_or, ih]
    congr 1
    by_cases h : x = 0 <;> simp [h]
theorem numsD_ints : ∀ v : List Int, numsD (v.map D.int) = some v
  | [] => rfl
  | x :: v => by
    show (numsD (v.map D.int)).map (x :: ·) = _
    rw [numsD_ints v]
    rfl
theorem fAnyI_ti (v : List Int) : fAnyI [ti v] = some (.val (.bl (nz1 v))) := by
  show ((numsD (v.map D.int)).map fun ns => Cell.val (.bl (ns.any fun x => x != 0))) = _
  rw [numsD_ints]
  rfl
theorem sb_ti {v : List Int} (n : Nat) (h : v.length < 1000000) : Sb (n + 2) (ti v) := ⟨by rw [List.length_map]; exact h, fun d hd => by
  obtain ⟨x, _, rfl⟩ := List.mem_map.mp hd
  exact trivial⟩
theorem sb_two {v w : List Int} (h : v.length < 1000000) (h2 : w.length < 1000000) : Sb 8 (.tup [ti v, ti w]) := ⟨by simp, fun d hd => by
  simp only [List.mem_cons, List.not_mem_nil, or_false] at hd
  rcases hd with rfl | rfl
  · exact sb_ti 5 h
  · exact sb_ti 5 h2⟩
theorem wn_bd {F : List (List Int)} {n b c : Nat} : ∀ {v : List Int}, (∀ r ∈ F, ∀ x ∈ r, x.natAbs < 2 ^ c) → (∀ r ∈ F, col (hd r) r ≠ 0) → (∀ x ∈ v, x.natAbs ≤ 2 ^ b) → F.length ≤ n → ∀ x ∈ wn F v, x.natAbs < 2 ^ (vb b c n + 2) := by
  intro v hA h0 hv hk x hx
  obtain ⟨i, hi, e⟩ := List.getElem_of_mem hx
  have hi2 : i < F.length := by rw [wn_len] at hi; exact hi
  have key : ∀ (F : List (List Int)) (v : List Int) (i : Nat) (hi : i < F.length), (wn F v)[i]? = some (wq F[i] (wr (F.take i) v)) := by
    intro F
    induction F with
    | nil => intro v i hi; exact absurd hi (Nat.not_lt_zero _)
    | cons r F ih =>
      intro v i hi
      cases i with
      | zero => rfl
      | succ i => exact ih (sub v r (wq r v)) i (by simpa using hi)
  have h1 := key F v i hi2
  rw [List.getElem?_eq_getElem hi, e] at h1
  have h1 := Option.some.inj h1
  rw [h1]
  have hm : F[i] ∈ F := List.getElem_mem hi2
  have h2 := wq_le F[i] (wr (F.take i) v) (h0 _ hm)
  have hsub : ∀ r ∈ F.take i, r ∈ F := fun r hr => List.mem_of_mem_take hr
  have h3 := wr_bd (A := F.take i) (b := b) (c := c) (v := v) (fun r hr => hA r (hsub r hr)) (fun r hr => h0 r (hsub r hr)) hv
  have h4 := col_bd h3 (hd F[i])
  have h5 : 2 ^ vb b c (F.take i).length ≤ 2 ^ vb b c n := Nat.pow_le_pow_right (by decide) (by
    unfold vb
    rw [List.length_take]
    exact Nat.add_le_add_left (Nat.mul_le_mul_left _ (by omega)) _)
  have h6 : 2 ^ (vb b c n + 2) = 2 ^ vb b c n * 4 := Nat.pow_add 2 _ 2
  have h7 : 1 ≤ 2 ^ vb b c n := Nat.pow_pos (by decide)
  omega
end Lk71
set_option maxHeartbeats 400000
set_option exponentiation.threshold 100000
namespace Lk71
open PySem PySem.Spec PyProof.Rows L2 DL Stairs
/-! sums of rows, as the program makes them -/
theorem zipWith_zip {α β γ : Type} (f : α → β → γ) : ∀ (a : List α) (b : List β), List.zipWith f a b = (a.zip b).map fun p => f p.1 p.2
  | [], b => rfl
  | a :: as, [] => rfl
  | a :: as, b :: bs => congrArg (f a b :: ·) (zipWith_zip f as bs)
theorem s_noughts {n : Nat} {z : Int} (hz : z = (n : Nat)) (hn : n < 64) : Ret w_noughts [.val (.int z)] (ti (List.replicate n 0)) := by
  intro Qd Ed h
  subst hz
  unfold w_noughts m_noughts
  conv => whnf
  refine ⟨⟨by omega, by omega⟩, ?_⟩
  conv => whnf
  refine ⟨rfl, ?_⟩
  refine lcGo_enc (fun i => D.int (0 + (i : Nat))) (fun _ => D.int 0) (List.range ((n : Nat) : Int).toNat) [] (fun z hz Kt Kf hK => ?_) (small64 (by simpa using hn)) ?_
  · exact hK
  · have e : ([] : List D) ++ (List.range ((n : Nat) : Int).toNat).map (fun _ => D.int 0) = (List.replicate n (0 : Int)).map D.int := by
      simp [List.map_const']
    rw [e]
    conv => whnf
    repeat (refine ⟨_, rfl, ?_⟩; conv => whnf)
    exact h _
theorem s_row_sum (a b : List Int) (hl : a.length < 64) : Ret w_row_sum [.val (ti a), .val (ti b)] (ti (List.zipWith (· + ·) a b)) := by
  intro Qd Ed h
  unfold w_row_sum m_row_sum
  conv => whnf
  rw [zipD2_map]
  refine ⟨rfl, ?_⟩
  refine lcGo_enc (fun p : Int × Int => D.tup [D.int p.1, D.int p.2]) (fun p => D.int (p.1 + p.2)) (a.zip b) [] (fun z hz Kt Kf hK => ?_) (small64 (by rw [List.length_zip]; simp only [List.length_nil]; omega)) ?_
  · conv => whnf
    refine ⟨rfl, ?_⟩
    conv => whnf
    repeat (refine ⟨_, rfl, ?_⟩; conv => whnf)
    exact hK
  · have e : ([] : List D) ++ (a.zip b).map (fun p => D.int (p.1 + p.2)) = (List.zipWith (· + ·) a b).map D.int := by
      rw [List.nil_append, zipWith_zip, List.map_map]
      rfl
    rw [e]
    conv => whnf
    repeat (refine ⟨_, rfl, ?_⟩; conv => whnf)
    exact h _
theorem s_row_times {a : List Int} {t : Int} {M b : Nat} (hl : a.length < 64) (ha : ∀ x ∈ a, x.natAbs < 2 ^ M) (ht : t.natAbs < 2 ^ b) (hb : M + b ≤ 134217728) : Ret w_row_times [.val (ti a), .val (.int t)] (ti (a.map (· * t))) := by
  intro Qd Ed h
  unfold w_row_times m_row_times
  conv => whnf
  refine ⟨rfl, ?_⟩
  refine lcGo_enc D.int (fun x => D.int (x * t)) a [] (fun z hz Kt Kf hK => ?_) (small64 (by simpa using hl)) ?_
  · conv => whnf
    refine ⟨_, fMul_int (i := z) (j := t) (mulB_ok (ha z hz) ht hb), ?_⟩
    exact hK
  · have e : ([] : List D) ++ a.map (fun x => D.int (x * t)) = (a.map (· * t)).map D.int := by simp
    rw [e]
    conv => whnf
    repeat (refine ⟨_, rfl, ?_⟩; conv => whnf)
    exact h _
/-- one row more, so often -/
def addR (acc : List Int) (r : List Int) (q : Int) : List Int := List.zipWith (· + ·) acc (r.map (· * q))
theorem addR_len {n : Nat} {acc r : List Int} {q : Int} (h1 : acc.length = n) (h2 : r.length = n) : (addR acc r q).length = n := by
  unfold addR
  rw [List.length_zipWith, List.length_map]
  omega
theorem addR_col {n : Nat} {acc r : List Int} {q : Int} (h1 : acc.length = n) (h2 : r.length = n) (j : Nat) : col j (addR acc r q) = col j acc + q * col j r := by
  unfold addR col
  rw [List.getD_eq_getElem?_getD, List.getD_eq_getElem?_getD, List.getD_eq_getElem?_getD, List.getElem?_zipWith, List.getElem?_map]
  by_cases hj : j < n
  · rw [List.getElem?_eq_getElem (by omega : j < acc.length), List.getElem?_eq_getElem (by omega : j < r.length)]
    show acc[j] + r[j] * q = acc[j] + q * r[j]
    rw [Int.mul_comm]
  · rw [List.getElem?_eq_none (by omega : acc.length ≤ j), List.getElem?_eq_none (by omega : r.length ≤ j)]
    show (0 : Int) = 0 + q * 0
    omega
def foldR (acc : List Int) (ps : List (List Int × Int)) : List Int := ps.foldl (fun acc p => addR acc p.1 p.2) acc
theorem foldR_len {n : Nat} : ∀ {ps : List (List Int × Int)} {acc : List Int}, acc.length = n → (∀ p ∈ ps, p.1.length = n) → (foldR acc ps).length = n
  | [], _, h, _ => h
  | p :: ps, acc, h, hp => foldR_len (ps := ps) (addR_len h (hp p List.mem_cons_self)) fun q hq => hp q (List.mem_cons_of_mem _ hq)
theorem foldR_col {n j : Nat} : ∀ {rows : List (List Int)} {am : List Int} {acc : List Int}, acc.length = n → (∀ r ∈ rows, r.length = n) → col j (foldR acc (rows.zip am)) = col j acc + ((am.zip rows).map fun p => p.1 * col j p.2).sum
  | [], am, acc, _, _ => by
    rw [List.zip_nil_right]
    show col j acc = col j acc + 0
    omega
  | r :: rows, [], acc, _, _ => by
    rw [List.zip_nil_left]
    show col j acc = col j acc + 0
    omega
  | r :: rows, a :: am, acc, h, hr => by
    have h1 := hr r List.mem_cons_self
    have ih := foldR_col (j := j) (rows := rows) (am := am) (addR_len (q := a) h h1) fun s hs => hr s (List.mem_cons_of_mem _ hs)
    show col j (foldR (addR acc r a) (rows.zip am)) = _
    rw [ih, addR_col h h1, List.zip_cons_cons, List.map_cons, List.sum_cons]
    show _ = _ + (a * col j r + _)
    omega
theorem out_col {n j : Nat} {v : List Int} (hv : v.length = n) (hj : n ≤ j) : col j v = 0 := by
  unfold col
  rw [List.getD_eq_getElem?_getD, List.getElem?_eq_none (by omega)]
  rfl
theorem foldR_sum {n : Nat} {rows : List (List Int)} {am : List Int} (hr : ∀ r ∈ rows, r.length = n) : foldR (List.replicate n 0) (rows.zip am) = sumOf n rows am := by
  have hn : (List.replicate n (0 : Int)).length = n := List.length_replicate
  have hl : (foldR (List.replicate n 0) (rows.zip am)).length = n := foldR_len hn fun p hp => hr _ (List.of_mem_zip hp).1
  have hs : (sumOf n rows am).length = n := by simp [sumOf]
  refine row_ext hl hs fun j => ?_
  by_cases hj : j < n
  · rw [foldR_col hn hr, sumOf_col hj]
    have : col j (List.replicate n (0 : Int)) = 0 := by
      unfold col
      rw [List.getD_eq_getElem?_getD, List.getElem?_replicate]
      split <;> rfl
    omega
  · rw [out_col hl (by omega), out_col hs (by omega)]
section
variable {n : Nat} {rows : List (List Int)} {am : List Int} (hl : Lst n rows) (ha : am.length = rows.length) (hb : ∀ a ∈ am, a.natAbs < 2 ^ 100000000)
include hl ha
include hb
end
end Lk71
set_option maxHeartbeats 400000
set_option exponentiation.threshold 100000
namespace Lk71
open PySem PySem.Spec PyProof.Rows L2 DL Stairs
section
variable {n : Nat} {rows fd left E L : List (List Int)}
theorem two_steads (S : Sted n rows fd left) (S0 : Sted n rows E L) (hl : ∀ r ∈ rows, r.length = n) : rowsOf n fd = rowsOf n E :=
  Ech.unique S.ech S0.ech S.len S0.len ((S.eqv hl).symm.trans (S0.eqv hl))
theorem zip_turn {α β γ : Type} (f : α → γ) : ∀ (A : List α) (B : List β), (A.map f).zip B = (B.zip A).map fun p => (f p.2, p.1)
  | [], B => by rw [List.map_nil, List.zip_nil_left, List.zip_nil_right]; rfl
  | a :: A, [] => rfl
  | a :: A, b :: B => congrArg ((f a, b) :: ·) (zip_turn f A B)
/-- how often each row is taken, down the stairs -/
def amsOf (n p : Nat) (fd : List (List Int)) (ns : List Int) : List Int := sumOf p (fd.map fun e => e.drop n) ns
theorem s_amounts {v : List Int} {b : Nat} (hn : n ≤ 50) (S : Sted n rows fd left) (hv : v.length = n) (hvb : ∀ x ∈ v, x.natAbs ≤ 2 ^ b) (hb : b ≤ 10000000) (hz : nil0 (wr (rowsOf n fd) v) = true) : Ret w_Steads_amounts [.val (stD n rows fd left), .val (ti v)] (ti (amsOf n rows.length fd (wn (rowsOf n fd) v))) := by
  intro Qd Ed k
  have k8 := S.k8
  have k2 := S.k2
  have hbd : ∀ r ∈ rowsOf n fd, ∀ x ∈ r, x.natAbs < 2 ^ 1000000 := S.sta.b
  have hpos := S.ech.p
  have hns := wn_bd (F := rowsOf n fd) (n := 8) (b := b) (c := 1000000) (v := v) hbd (fun r hr => by have := hpos r hr; omega) hvb S.sta.k8
  have hvl : 1000000 + (vb b 1000000 8 + 2) ≤ 134217728 := by
    unfold vb
    omega
  have hdl : ∀ e ∈ fd, (e.drop n).length = rows.length := fun e he => by
    rw [List.length_drop, S.l e (List.mem_append_left _ he)]
    omega
  have wk := s_walk hn S hv hvb hb
  have nt := s_are_noughts (v := wr (rowsOf n fd) v) (by rw [wr_len S.len hv]; omega)
  unfold w_Steads_amounts m_Steads_amounts m_Steads_amounts_4 m_Steads_amounts_3 m_Steads_amounts_2
  revert wk nt
  generalize w_Steads_walk = W1
  generalize w_are_noughts = W2
  revert W1 W2
  refine id ?_
  intro W1 W2 wk nt
  generalize wr (rowsOf n fd) v = lft at *
  have hwl := wn_len (rowsOf n fd) v
  rw [List.length_map] at hwl
  generalize wn (rowsOf n fd) v = ns at *
  conv => whnf
  refine ⟨_, rfl, ?_⟩
  conv => whnf
  refine wk _ _ fun o => ?_
  conv => whnf
  refine ⟨rfl, ?_⟩
  conv => whnf
  refine nt _ _ fun o => ?_
  rw [hz]
  conv => whnf
  repeat (refine ⟨_, rfl, ?_⟩; conv => whnf)
  refine ⟨_, _, rfl, rfl, ?_⟩
  conv => whnf
  (refine ⟨_, rfl, ?_⟩; conv => whnf)
  refine s_noughts (n := rows.length) (by rw [List.length_map]) (by omega) _ _ fun o => ?_
  conv => whnf
  refine ⟨_, _, rfl, rfl, ?_⟩
  conv => whnf
  rw [zipD2_map]
  rw [show amsOf n rows.length fd ns = foldR (List.replicate rows.length 0) ((fd.map fun e => e.drop n).zip ns) from (foldR_sum fun r hr => by
    obtain ⟨e, he, rfl⟩ := List.mem_map.mp hr
    exact hdl e he).symm] at k
  have ez : (fd.map fun e => e.drop n).zip ns = (ns.zip fd).map fun p => (p.2.drop n, p.1) := zip_turn _ _ _
  rw [ez] at k
  refine forGo_ix (fun p : Int × List Int => D.tup [D.int p.1, pD n p.2]) (fun i ρ => ∃ c5 c6 c7, ρ = [some (.val (stD n rows fd left)), some (.val (ti v)), some (.val (ti ns)), some (.val (ti lft)), some (.val (ti (foldR (List.replicate rows.length 0) (((ns.zip fd).take i).map fun p => (p.2.drop n, p.1))))), c5, c6, c7]) (ns.zip fd) 0 _ (Nat.zero_le _) ?_ ?_ ⟨_, _, _, rfl⟩
  · rintro ρ ⟨c5, c6, c7, rfl⟩
    rw [List.take_length]
    exact k _
  · rintro i ⟨q, e⟩ ρ hi ⟨c5, c6, c7, rfl⟩ N hN
    have hp := List.of_mem_zip (List.mem_of_getElem? hi)
    have et := take_one hi
    have hl : (foldR (List.replicate rows.length 0) (((ns.zip fd).take i).map fun p => (p.2.drop n, p.1))).length = rows.length := foldR_len List.length_replicate fun q hq => by
      obtain ⟨p, hp2, rfl⟩ := List.mem_map.mp hq
      exact hdl _ (List.of_mem_zip (List.mem_of_mem_take hp2)).2
    have es : foldR (List.replicate rows.length 0) (((ns.zip fd).take (i + 1)).map fun p => (p.2.drop n, p.1)) = addR (foldR (List.replicate rows.length 0) (((ns.zip fd).take i).map fun p => (p.2.drop n, p.1))) (e.drop n) q := by
      rw [et, List.map_append]
      unfold foldR
      rw [List.foldl_append]
      rfl
    generalize foldR (List.replicate rows.length 0) (((ns.zip fd).take i).map fun p => (p.2.drop n, p.1)) = acc at *
    have hbe : ∀ x ∈ e.drop n, x.natAbs < 2 ^ 1000000 := fun x hx => S.b e hp.2 x (List.mem_of_mem_drop hx)
    conv => whnf
    refine ⟨rfl, ?_⟩
    conv => whnf
    refine ⟨rfl, ?_⟩
    unfold m_Steads_amounts_1
    conv => whnf
    refine s_row_times (by rw [hdl e hp.2]; omega) hbe (hns q hp.1) hvl _ _ fun o => ?_
    conv => whnf
    refine s_row_sum acc _ (by omega) _ _ fun o => ?_
    exact hN _ ⟨_, _, _, by rw [es]; rfl⟩
end
end Lk71
set_option maxHeartbeats 400000
set_option exponentiation.threshold 100000
namespace Lk71
open PySem PySem.Spec PyProof.Rows L2 DL Stairs
abbrev pB (p : Int × Int) : D := .tup [.int p.1, .int p.2]
theorem s_gcd (a b : Int) : fGcd [.int a, .int b] = some (.val (.int (Int.gcd a b : Nat))) := rfl
/-- the least common multiple, as the program makes it -/
def lcmB (e h : Int) : Int := e.fdiv (Int.gcd e h : Nat) * h
theorem lcmB_bd {e h : Int} (he : 1 ≤ e) (hh : 1 ≤ h) : (1 ≤ Int.gcd e h ∧ ((Int.gcd e h : Nat) : Int) ≤ e) ∧ (0 ≤ e.fdiv (Int.gcd e h : Nat) ∧ e.fdiv (Int.gcd e h : Nat) ≤ e) ∧ 1 ≤ lcmB e h ∧ lcmB e h ≤ e * h := by
  have g0 : 0 < Int.gcd e h := Int.gcd_pos_of_ne_zero_left h (by omega)
  obtain ⟨q, hq⟩ := Int.gcd_dvd_left e h
  have gp : (0 : Int) < (Int.gcd e h : Nat) := by omega
  have e1 : e.fdiv (Int.gcd e h : Nat) = q := by
    rw [Int.fdiv_eq_ediv_of_nonneg _ (by omega)]
    exact Int.ediv_eq_of_eq_mul_right (by omega) hq
  have q1 : 1 ≤ q := by
    rcases Int.lt_or_le q 1 with z | z
    · have := Int.mul_le_mul_of_nonneg_left (show q ≤ 0 by omega) (Int.le_of_lt gp)
      rw [Int.mul_zero, ← hq] at this
      omega
    · exact z
  have q2 : q ≤ e := by
    have := Int.mul_le_mul_of_nonneg_right (show (1 : Int) ≤ (Int.gcd e h : Nat) by omega) (show 0 ≤ q by omega)
    rw [Int.one_mul, ← hq] at this
    exact this
  have g2 : ((Int.gcd e h : Nat) : Int) ≤ e := by
    have := Int.mul_le_mul_of_nonneg_left q1 (Int.le_of_lt gp)
    rw [Int.mul_one, ← hq] at this
    exact this
  unfold lcmB
  rw [e1]
  refine ⟨⟨g0, g2⟩, ⟨by omega, q2⟩, ?_, Int.mul_le_mul_of_nonneg_right q2 (by omega)⟩
  have := Int.mul_le_mul_of_nonneg_right q1 (show 0 ≤ h by omega)
  rw [Int.one_mul] at this
  omega
theorem nat_lt {x : Int} {k : Nat} (h0 : 0 ≤ x) (h : x < 2 ^ k) : x.natAbs < 2 ^ k := abs_lt h0 h
theorem s_multiple {e h : Int} (he : 1 ≤ e) (he2 : e < 2 ^ 112) (hh : 1 ≤ h ∧ h ≤ 9999) : Ret w_multiple_of [.val (.int e), .val (.int h)] (.int (lcmB e h)) := by
  intro Qd Ed k
  have b := lcmB_bd he hh.1
  have hd : fDiv (.int e) (.int (Int.gcd e h : Nat)) = some (.val (.int (e.fdiv (Int.gcd e h : Nat)))) := fDiv_int (divB_ok (k := 112) (by omega) (nat_lt (by omega) (by omega)) (by decide))
  have hm : fMul (.int (e.fdiv (Int.gcd e h : Nat))) (.int h) = some (.val (.int (lcmB e h))) := fMul_int (mulB_ok (a := 112) (b := 14) (nat_lt b.2.1.1 (by omega)) (nat_lt (by omega) (by omega)) (by decide))
  unfold w_multiple_of m_multiple_of
  conv => whnf
  refine ⟨_, s_gcd e h, ?_⟩
  conv => whnf
  refine ⟨_, hd, ?_⟩
  conv => whnf
  refine ⟨_, hm, ?_⟩
  exact k _
section
variable {n : Nat} {rows fd left : List (List Int)}
theorem n_amounts {v : List Int} {b : Nat} (hn : n ≤ 50) (S : Sted n rows fd left) (hv : v.length = n) (hvb : ∀ x ∈ v, x.natAbs ≤ 2 ^ b) (hb : b ≤ 10000000) (hz : nil0 (wr (rowsOf n fd) v) = false) : Ret w_Steads_amounts [.val (stD n rows fd left), .val (ti v)] .non := by
  intro Qd Ed k
  have wk := s_walk hn S hv hvb hb
  have nt := s_are_noughts (v := wr (rowsOf n fd) v) (by rw [wr_len S.len hv]; omega)
  unfold w_Steads_amounts m_Steads_amounts m_Steads_amounts_4
  revert wk nt
  generalize w_Steads_walk = W1
  generalize w_are_noughts = W2
  revert W1 W2
  refine id ?_
  intro W1 W2 wk nt
  conv => whnf
  refine ⟨_, rfl, ?_⟩
  conv => whnf
  refine wk _ _ fun o => ?_
  conv => whnf
  refine ⟨rfl, ?_⟩
  conv => whnf
  refine nt _ _ fun o => ?_
  rw [hz]
  conv => whnf
  repeat (refine ⟨_, rfl, ?_⟩; conv => whnf)
  exact k _
theorem pow8 {a b : Nat} (h : a + 3 < b) : 8 * 2 ^ a < 2 ^ b := by
  have e : 8 * 2 ^ a = 2 ^ (a + 3) := by rw [Nat.pow_add, Nat.mul_comm]
  rw [e]
  exact Nat.pow_lt_pow_right (by decide) h
/-- amounts or none, and how great they are -/
theorem t_amounts {v : List Int} {b : Nat} (hn : n ≤ 50) (S : Sted n rows fd left) (hv : v.length = n) (hvb : ∀ x ∈ v, x.natAbs ≤ 2 ^ b) (hb : b ≤ 10000) {Qd : Cell → Outs → Prop} {Ed : Str → List (Str × D) → Outs → Prop}
    (k : ∀ d o, (d = .non ∨ ∃ am : List Int, d = ti am ∧ am.length = rows.length ∧ ∀ x ∈ am, x.natAbs < 2 ^ 50000000) → Qd (.val d) o) : w_Steads_amounts [.val (stD n rows fd left), .val (ti v)] Qd Ed := by
  cases hz : nil0 (wr (rowsOf n fd) v) with
  | false => exact n_amounts hn S hv hvb (by omega) hz _ _ fun o => k _ _ (.inl rfl)
  | true =>
    refine s_amounts hn S hv hvb (by omega) hz _ _ fun o => k _ _ (.inr ⟨_, rfl, sumOf_len _ _ _, fun x hx2 => ?_⟩)
    have k8 := S.k8
    have k2 := S.k2
    have hns := wn_bd (F := rowsOf n fd) (n := 8) (b := b) (c := 1000000) (v := v) S.sta.b (fun r hr => by have := S.ech.p r hr; omega) hvb S.sta.k8
    have hle := sumOf_le (A := 2 ^ (vb b 1000000 8 + 2)) (B := 2 ^ 1000000) (fun r hr y hy => by
      obtain ⟨e, he, rfl⟩ := List.mem_map.mp hr
      exact Nat.le_of_lt (S.b e he y (List.mem_of_mem_drop hy))) (fun a ha => Nat.le_of_lt (hns a ha)) x hx2
    rw [List.length_map, ← Nat.pow_add] at hle
    have e8 := pow8 (a := vb b 1000000 8 + 2 + 1000000) (b := 50000000) (by unfold vb; omega)
    exact Nat.lt_of_le_of_lt hle (Nat.lt_of_le_of_lt (Nat.mul_le_mul_right _ (by omega)) e8)
end
end Lk71
set_option maxHeartbeats 400000
set_option exponentiation.threshold 100000
namespace Lk71
open PySem PySem.Spec PyProof.Rows L2 DL Stairs
theorem two_pow {a b : Nat} (h : a ≤ b) : (2 : Nat) ^ a ≤ 2 ^ b := Nat.pow_le_pow_right (by decide) h
/-- the bell of two bells, or none -/
theorem s_joint {f e g h : Int} (he : 1 ≤ e) (he2 : e < 2 ^ 112) (hf : 0 ≤ f ∧ f < 2 ^ 112) (hg : -9999 ≤ g ∧ g ≤ 9999) (hh : 1 ≤ h ∧ h ≤ 9999) {Qd : Cell → Outs → Prop} {Ed : Str → List (Str × D) → Outs → Prop}
    (k : ∀ d o, (d = .non ∨ ∃ f' : Int, d = pB (f', lcmB e h) ∧ 0 ≤ f' ∧ f' < lcmB e h) → Qd (.val d) o) : w_joint [.val (pB (f, e)), .val (pB (g, h))] Qd Ed := by
  have b := lcmB_bd he hh.1
  have mu := s_multiple he he2 hh
  have p229 : (2 : Int) ^ 112 ≤ ((mb 3 : Nat) : Int) := by decide
  have p112 : (2 : Int) ^ 112 = 5192296858534827628530496329220096 := by decide
  have st : ∀ (Q' : Cell → Outs → Prop) (E' : Str → List (Str × D) → Outs → Prop), (∀ fd left o, Sted 1 [[e], [h]] fd left → Q' (.val (stD 1 [[e], [h]] fd left)) o) → w_Steads_init [.val (.int 1), .val (.lst [.tup [.int e], .tup [.int h]])] Q' E' := fun Q' E' kk =>
    s_init (n := 1) (rows := [[e], [h]]) (k0 := 3) (R := .lst [.tup [.int e], .tup [.int h]]) (Or.inr rfl) (by decide) (Nat.le_of_ble_eq_true rfl) (fun r hr => by
      simp only [List.mem_cons, List.not_mem_nil, or_false] at hr
      rcases hr with rfl | rfl <;> rfl) (fun r hr x hx => by
      simp only [List.mem_cons, List.not_mem_nil, or_false] at hr
      rcases hr with rfl | rfl
      · have : x = e := by simpa using hx
        omega
      · have : x = h := by simpa using hx
        omega) fun fd left o S _ => kk fd left o S
  have am : ∀ fd left, Sted 1 [[e], [h]] fd left → ∀ (Q' : Cell → Outs → Prop) (E' : Str → List (Str × D) → Outs → Prop), (∀ d o, (d = .non ∨ ∃ a c : Int, d = ti [a, c] ∧ a.natAbs < 2 ^ 50000000) → Q' (.val d) o) → w_Steads_amounts [.val (stD 1 [[e], [h]] fd left), .val (.tup [.int (g - f)])] Q' E' := fun fd left S Q' E' kk =>
    t_amounts (n := 1) (rows := [[e], [h]]) (v := [g - f]) (b := 120) (by decide) S rfl (fun x hx => by
      have : x = g - f := by simpa using hx
      have q : (2 : Nat) ^ 120 = 1329227995784915872903807060280344576 := by decide
      rw [q]
      omega) (by decide) fun d o hd => kk d o (by
      rcases hd with rfl | ⟨am, rfl, hl, hb⟩
      · exact .inl rfl
      · match am, hl, hb with
        | [a, c], _, hb => exact .inr ⟨a, c, rfl, hb a (by simp)⟩)
  have hmod : ∀ x : Int, fMod (.int x) (.int (lcmB e h)) = some (.val (.int (x % lcmB e h))) := fun x => fMod_int (by omega)
  have hl := b.2.2.1
  unfold w_joint m_joint m_joint_3 m_joint_2 m_joint_1
  revert mu st am
  generalize w_multiple_of = W1
  generalize w_Steads_init = W2
  generalize w_Steads_amounts = W3
  revert W1 W2 W3
  refine id ?_
  intro W1 W2 W3 mu st am
  generalize lcmB e h = ev at *
  conv => whnf
  repeat ((first | refine ⟨_, rfl, ?_⟩ | refine ⟨small64 (by simp), ?_⟩); conv => whnf)
  refine st _ _ fun fd left o S => ?_
  conv => whnf
  repeat ((first | refine ⟨_, rfl, ?_⟩ | refine ⟨small64 (by simp), ?_⟩); conv => whnf)
  refine am fd left S _ _ fun d o hd => ?_
  rcases hd with rfl | ⟨a, c, rfl, ha⟩
  · conv => whnf
    repeat (refine ⟨_, rfl, ?_⟩; conv => whnf)
    exact k _ _ (.inl rfl)
  · conv => whnf
    repeat (refine ⟨_, rfl, ?_⟩; conv => whnf)
    refine mu _ _ fun o => ?_
    conv => whnf
    repeat (refine ⟨_, rfl, ?_⟩; conv => whnf)
    have hm : fMul (.int a) (.int e) = some (.val (.int (a * e))) := fMul_int (mulB_ok (a := 50000000) (b := 112) ha (nat_lt (by omega) he2) (by decide))
    refine ⟨_, hm, ?_⟩
    conv => whnf
    repeat (refine ⟨_, rfl, ?_⟩; conv => whnf)
    refine ⟨_, hmod _, ?_⟩
    conv => whnf
    refine ⟨small64 (by simp), ?_⟩
    conv => whnf
    exact k _ _ (.inr ⟨_, rfl, Int.emod_nonneg _ (by omega), Int.emod_lt_of_pos _ (by omega)⟩)
end Lk71
set_option maxHeartbeats 400000
set_option exponentiation.threshold 100000
namespace Lk71
open PySem PySem.Spec PyProof.Rows L2 DL Stairs
/-- bells by the document -/
structure Bl (bs : List (Int × Int)) : Prop where
  l : 1 ≤ bs.length ∧ bs.length ≤ 8
  x : ∀ p ∈ bs, (-9999 ≤ p.1 ∧ p.1 ≤ 9999) ∧ 1 ≤ p.2 ∧ p.2 ≤ 9999
abbrev tB (bs : List (Int × Int)) : D := .tup (bs.map pB)
theorem p9 {i j : Nat} (h : i ≤ j) : (9999 : Int) ^ i ≤ 9999 ^ j := by
  have := Nat.pow_le_pow_right (n := 9999) (by decide) h
  exact_mod_cast this
theorem s_together {bs : List (Int × Int)} (hb : Bl bs) {Qd : Cell → Outs → Prop} {Ed : Str → List (Str × D) → Outs → Prop}
    (k : ∀ d o, (d = .non ∨ ∃ f e : Int, d = pB (f, e) ∧ 1 ≤ e ∧ e ≤ 9999 ^ 8 ∧ 0 ≤ f ∧ f < e) → Qd (.val d) o) : w_together_by [.val (tB bs)] Qd Ed := by
  have hl := hb.l
  unfold w_together_by m_together_by m_together_by_2
  conv => whnf
  refine ⟨small64 (by simp), ?_⟩
  conv => whnf
  refine forGo_ix pB (fun i ρ => ∃ d c2, ρ = [some (.val (tB bs)), some (.val d), c2] ∧ (d = .non ∨ ∃ f e : Int, d = pB (f, e) ∧ 1 ≤ e ∧ e ≤ 9999 ^ i ∧ 0 ≤ f ∧ f < e)) bs 0 _ (Nat.zero_le _) ?_ ?_ ⟨_, _, rfl, .inr ⟨0, 1, rfl, by decide, by decide, by decide, by decide⟩⟩
  · rintro ρ ⟨d, c2, rfl, hd⟩
    refine k d _ ?_
    rcases hd with rfl | ⟨f, e, rfl, h1, h2, h3⟩
    · exact .inl rfl
    · refine .inr ⟨f, e, rfl, h1, Int.le_trans h2 ?_, h3⟩
      exact p9 hl.2
  · rintro i ⟨g, h⟩ ρ hi ⟨d, c2, rfl, hd⟩ N hN
    have hi8 := (List.getElem?_eq_some_iff.mp hi).1
    have hp := hb.x _ (List.mem_of_getElem? hi)
    rcases hd with rfl | ⟨f, e, rfl, h1, h2, h3⟩
    · conv => whnf
      repeat (refine ⟨_, rfl, ?_⟩; conv => whnf)
      exact hN _ ⟨_, _, rfl, .inl rfl⟩
    · have e7 : (9999 : Int) ^ i ≤ 9999 ^ 7 := p9 (by omega)
      have q7 : (9999 : Int) ^ 7 < 2 ^ 112 := by decide
      have b := lcmB_bd h1 hp.2.1
      have jt := fun (Q' : Cell → Outs → Prop) (E' : Str → List (Str × D) → Outs → Prop) => s_joint (e := e) (f := f) (g := g) (h := h) h1 (by omega) ⟨h3.1, by omega⟩ hp.1 hp.2 (Qd := Q') (Ed := E')
      have le2 : lcmB e h ≤ 9999 ^ (i + 1) := by
        refine Int.le_trans b.2.2.2 ?_
        rw [Int.pow_succ]
        exact Int.mul_le_mul h2 hp.2.2 (by omega) (by omega)
      unfold m_together_by_1
      revert jt
      generalize w_joint = W1
      revert W1
      refine id ?_
      intro W1 jt
      conv => whnf
      repeat (refine ⟨_, rfl, ?_⟩; conv => whnf)
      refine jt _ _ fun d o hd => ?_
      conv => whnf
      refine hN _ ⟨_, _, rfl, ?_⟩
      rcases hd with rfl | ⟨f', rfl, h4, h5⟩
      · exact .inl rfl
      · exact .inr ⟨f', _, rfl, b.2.2.1, le2, h4, h5⟩
theorem s_next {bs : List (Int × Int)} (hb : Bl bs) (t : Int) {Qd : Cell → Outs → Prop} {Ed : Str → List (Str × D) → Outs → Prop} (k : ∀ c o, Qd c o) : w_next_time_by [.val (tB bs), .val (.int t)] Qd Ed := by
  have tg := fun (Q' : Cell → Outs → Prop) (E' : Str → List (Str × D) → Outs → Prop) => s_together hb (Qd := Q') (Ed := E')
  unfold w_next_time_by m_next_time_by m_next_time_by_1
  revert tg
  generalize w_together_by = W1
  revert W1
  refine id ?_
  intro W1 tg
  conv => whnf
  refine tg _ _ fun d o hd => ?_
  rcases hd with rfl | ⟨f, e, rfl, h1, h2, h3⟩
  · conv => whnf
    repeat (refine ⟨_, rfl, ?_⟩; conv => whnf)
    exact k _ _
  · conv => whnf
    repeat (refine ⟨_, rfl, ?_⟩; conv => whnf)
    refine ⟨_, fMod_int (i := f - t) (j := e) (by omega), ?_⟩
    conv => whnf
    repeat (refine ⟨_, rfl, ?_⟩; conv => whnf)
    exact k _ _
theorem s_ringing {bs : List (Int × Int)} (hb : Bl bs) (t : Int) {Qd : Cell → Outs → Prop} {Ed : Str → List (Str × D) → Outs → Prop} (k : ∀ c o, Qd c o) : w_ringing_by [.val (tB bs), .val (.int t)] Qd Ed := by
  have hl := hb.l
  unfold w_ringing_by m_ringing_by
  conv => whnf
  rw [enumD_map]
  refine ⟨rfl, ?_⟩
  refine lcGo_fil (fun p : (Int × Int) × Nat => D.tup [.int (p.2 : Nat), pB p.1]) (fun p => if (t - p.1.1) % p.1.2 = 0 then some (.int (p.2 : Nat)) else none) bs.zipIdx [] (fun p hp Kt Kf k1 k2 => ?_) (small64 (by rw [List.length_zipIdx, List.length_nil]; omega)) ?_
  · have hp2 : p.1 ∈ bs := (List.mem_zipIdx' hp).2 ▸ List.getElem_mem _
    have hx := hb.x _ hp2
    conv => whnf
    refine ⟨rfl, ?_⟩
    conv => whnf
    refine ⟨rfl, ?_⟩
    conv => whnf
    repeat (refine ⟨_, rfl, ?_⟩; conv => whnf)
    refine ⟨_, fMod_int (i := t - p.1.1) (j := p.1.2) (by omega), ?_⟩
    conv => whnf
    refine ⟨_, fEq_int _ 0, ?_⟩
    by_cases q : (t - p.1.1) % p.1.2 = 0
    · rw [decide_eq_true q]
      conv => whnf
      exact k1 _ (if_pos q)
    · rw [decide_eq_false q]
      conv => whnf
      exact k2 (if_neg q)
  · rw [List.nil_append]
    generalize List.filterMap _ bs.zipIdx = fs at *
    conv => whnf
    repeat (refine ⟨_, rfl, ?_⟩; conv => whnf)
    exact k _ _
end Lk71
set_option maxHeartbeats 400000
set_option exponentiation.threshold 100000
namespace Lk71
open PySem PySem.Spec PyProof.Rows L2 DL Stairs
theorem fil_cons {α β : Type} (g : α → Option β) (z : α) (zs : List α) {x : β} (h : g z = some x) : (z :: zs).filterMap g = x :: zs.filterMap g := by rw [List.filterMap_cons, h]
/-- .. where what is kept alone is counted -/
theorem lcGo_filS {α : Type} {p : Pt} {tt : DT} {te : DE} {vs : List Nat} (e : α → D) (g : α → Option D) {ρ : En} {Q : List D → En → Prop} : ∀ (zs : List α) (acc : List D), (∀ z ∈ zs, ∀ Kt Kf, (∀ x, g z = some x → Kt x ρ) → (g z = none → Kf ρ) → stp p tt te vs (e z) ρ Kt Kf) → acc.length + (zs.filterMap g).length ≤ sizeLine →
    Q (acc ++ zs.filterMap g) ρ → lcGo p tt te vs (zs.map e) acc ρ Q
  | [], acc, _, _, q => by
    rw [List.filterMap_nil, List.append_nil] at q
    exact q
  | z :: zs, acc, h, hl, q => by
    refine lcGo_cons (h z List.mem_cons_self _ _ (fun x hx => ?_) (fun hx => ?_))
    · rw [fil_cons g z zs hx] at hl q
      rw [List.length_cons] at hl
      refine ⟨by omega, lcGo_filS e g zs _ (fun y hy => h y (List.mem_cons_of_mem _ hy)) ?_ ?_⟩
      · rw [List.length_append, List.length_cons, List.length_nil]; omega
      · rw [List.append_assoc]; exact q
    · rw [List.filterMap_cons, hx] at hl q
      exact lcGo_filS e g zs _ (fun y hy => h y (List.mem_cons_of_mem _ hy)) hl q
theorem all_rows : ∀ ds : List D, (∀ d ∈ ds, ∃ r : List Int, d = ti r) → ∃ rows : List (List Int), ds = rows.map ti
  | [], _ => ⟨[], rfl⟩
  | d :: ds, h => by
    obtain ⟨r, hr⟩ := h d List.mem_cons_self
    obtain ⟨rs, hrs⟩ := all_rows ds fun x hx => h x (List.mem_cons_of_mem _ hx)
    exact ⟨r :: rs, by rw [hr, hrs]; rfl⟩
theorem flat_le {α β : Type} {g : α → List β} {m : Nat} (h : ∀ z, (g z).length ≤ m) : ∀ zs : List α, (zs.flatMap g).length ≤ zs.length * m
  | [] => by simp
  | z :: zs => by
    have := flat_le h zs
    have := h z
    rw [List.flatMap_cons, List.length_append, List.length_cons, Nat.succ_mul]
    omega
def gapB (bs : List (Int × Int)) (i j : Nat) : Int := (bs.getD i (0, 1)).1 - (bs.getD j (0, 1)).1
def divB (bs : List (Int × Int)) (i j : Nat) : Int := (Int.gcd (Int.gcd 0 (bs.getD i (0, 1)).2 : Nat) (bs.getD j (0, 1)).2 : Nat)
def nvB (bs : List (Int × Int)) (i j : Nat) : Bool := !decide (gapB bs i j % divB bs i j = 0)
theorem s_never {bs : List (Int × Int)} (hb : Bl bs) {i j : Nat} (hi : i < bs.length) (hj : j < bs.length) : Ret w_never_together [.val (tB bs), .val (.int (0 + (i : Nat))), .val (.int (0 + (j : Nat)))] (.bl (nvB bs i j)) := by
  intro Qd Ed k
  have e1 : (bs.map pB)[i]? = some (pB bs[i]) := by rw [List.getElem?_map, List.getElem?_eq_getElem hi]; rfl
  have e2 : (bs.map pB)[j]? = some (pB bs[j]) := by rw [List.getElem?_map, List.getElem?_eq_getElem hj]; rfl
  have g1 : bs.getD i (0, 1) = bs[i] := by rw [List.getD_eq_getElem?_getD, List.getElem?_eq_getElem hi]; rfl
  have g2 : bs.getD j (0, 1) = bs[j] := by rw [List.getD_eq_getElem?_getD, List.getElem?_eq_getElem hj]; rfl
  have x1 := hb.x _ (List.getElem_mem hi)
  have x2 := hb.x _ (List.getElem_mem hj)
  have dp : 0 < divB bs i j := by
    unfold divB
    rw [g2]
    have : 0 < Int.gcd (Int.gcd 0 (bs.getD i (0, 1)).2 : Nat) (bs[j]).2 := Int.gcd_pos_of_ne_zero_right _ (by omega)
    omega
  unfold nvB at k
  unfold w_never_together m_never_together m_never_together_1 w_divisor_of m_divisor_of m_divisor_of_2 m_divisor_of_1
  conv => whnf
  refine ⟨_, fIx_tup0 e1, ?_⟩
  conv => whnf
  repeat (refine ⟨_, rfl, ?_⟩; conv => whnf)
  refine ⟨_, fIx_tup0 e2, ?_⟩
  conv => whnf
  repeat (refine ⟨_, rfl, ?_⟩; conv => whnf)
  refine ⟨_, fIx_tup0 e1, ?_⟩
  conv => whnf
  repeat (refine ⟨_, rfl, ?_⟩; conv => whnf)
  refine ⟨_, fIx_tup0 e2, ?_⟩
  conv => whnf
  repeat ((first | refine ⟨_, rfl, ?_⟩ | refine ⟨small64 (by simp), ?_⟩); conv => whnf)
  have hm : fMod (.int (bs[i].1 - bs[j].1)) (.int (divB bs i j)) = some (.val (.int (gapB bs i j % divB bs i j))) := by
    rw [fMod_int dp]
    unfold gapB
    rw [g1, g2]
  have ed : divB bs i j = ((((((Int.natAbs 0).gcd bs[i].2.natAbs : Nat) : Int).natAbs.gcd bs[j].2.natAbs : Nat)) : Int) := by
    unfold divB
    rw [g1, g2]
    rfl
  rw [ed] at hm
  refine ⟨_, hm, ?_⟩
  rw [← ed]
  conv => whnf
  refine ⟨_, fNe_int _ 0, ?_⟩
  exact k _
def pairB (bs : List (Int × Int)) (m i : Nat) : List D := (List.range m).filterMap fun j => if i < j ∧ nvB bs i j = true then some (ti [(0 + (i : Nat) : Int), (0 + (j : Nat) : Int)]) else none
theorem s_apart {bs : List (Int × Int)} (hb : Bl bs) {Qd : Cell → Outs → Prop} {Ed : Str → List (Str × D) → Outs → Prop} (k : ∀ c o, Qd c o) : w_apart_by [.val (tB bs)] Qd Ed := by
  have hl := hb.l
  have nv := fun (i j : Nat) (hi : i < bs.length) (hj : j < bs.length) => s_never hb hi hj
  have pl : ∀ i, (pairB bs bs.length i).length ≤ bs.length := fun i => by
    refine Nat.le_trans (List.length_filterMap_le _ _) ?_
    rw [List.length_range]
    exact Nat.le_refl _
  have fl := flat_le pl (List.range bs.length)
  rw [List.length_range] at fl
  have f64 : bs.length * bs.length ≤ 8 * 8 := Nat.mul_le_mul hl.2 hl.2
  unfold w_apart_by m_apart_by m_apart_by_2
  revert nv
  generalize w_never_together = W1
  revert W1
  refine id ?_
  intro W1 nv
  conv => whnf
  repeat (refine ⟨_, rfl, ?_⟩; conv => whnf)
  rw [List.length_map]
  refine ⟨⟨by omega, by omega⟩, ?_⟩
  conv => whnf
  refine ⟨⟨by omega, by omega⟩, ?_⟩
  refine ⟨rfl, ?_⟩
  refine lcGo2_enc (fun i => D.int (0 + (i : Nat))) (pairB bs bs.length) (List.range ((bs.length : Nat) : Int).toNat) [] (fun i hi acc K hacc hK => ?_) (by rw [Int.toNat_natCast, List.length_nil, sizeLine_eq]; omega) ?_
  · rw [Int.toNat_natCast, List.mem_range] at hi
    conv => whnf
    have e0 : (((bs.length : Nat) : Int) - 0).toNat = bs.length := by omega
    rw [e0]
    refine ⟨⟨by omega, by omega⟩, ?_⟩
    refine ⟨⟨by omega, by omega⟩, ?_⟩
    refine lcGo_filS (fun j => D.int (0 + (j : Nat))) (fun j => if i < j ∧ nvB bs i j = true then some (ti [(0 + (i : Nat) : Int), (0 + (j : Nat) : Int)]) else none) (List.range bs.length) acc (fun j hj Kt Kf k1 k2 => ?_) hacc hK
    · rw [List.mem_range] at hj
      conv => whnf
      by_cases q : (0 + (i : Int)) < 0 + (j : Int)
      · refine ⟨_, fLt_t q, ?_⟩
        conv => whnf
        refine nv i j hi hj _ _ fun o => ?_
        cases q2 : nvB bs i j with
        | true =>
          conv => whnf
          repeat (refine ⟨_, rfl, ?_⟩; conv => whnf)
          refine ⟨small64 (by simp), ?_⟩
          conv => whnf
          exact k1 _ (if_pos ⟨by omega, q2⟩)
        | false =>
          conv => whnf
          repeat (refine ⟨_, rfl, ?_⟩; conv => whnf)
          exact k2 (if_neg (by rw [q2]; simp))
      · refine ⟨_, fLt_f q, ?_⟩
        conv => whnf
        exact k2 (if_neg (by omega))
  · have hr : ∃ rows : List (List Int), [] ++ List.flatMap (pairB bs bs.length) (List.range ((bs.length : Nat) : Int).toNat) = rows.map ti := by
      refine all_rows _ fun d hd => ?_
      rw [List.nil_append] at hd
      obtain ⟨i, _, hd2⟩ := List.mem_flatMap.mp hd
      obtain ⟨j, _, hd3⟩ := List.mem_filterMap.mp hd2
      by_cases q : i < j ∧ nvB bs i j = true
      · have hd3 : (if i < j ∧ nvB bs i j = true then some (ti [(0 + (i : Nat) : Int), (0 + (j : Nat) : Int)]) else none) = some d := hd3
        rw [if_pos q] at hd3
        cases hd3
        exact ⟨_, rfl⟩
      · have hd3 : (if i < j ∧ nvB bs i j = true then some (ti [(0 + (i : Nat) : Int), (0 + (j : Nat) : Int)]) else none) = some d := hd3
        rw [if_neg q] at hd3
        cases hd3
    obtain ⟨rows, er⟩ := hr
    rw [er]
    unfold m_apart_by_1
    conv => whnf
    refine ⟨small64 (by simp), ?_⟩
    conv => whnf
    refine ⟨_, fNe_rows0 rows, ?_⟩
    cases rows with
    | nil =>
      conv => whnf
      exact k _ _
    | cons r l =>
      rw [decide_eq_false (List.cons_ne_nil r l)]
      conv => whnf
      repeat (refine ⟨_, rfl, ?_⟩; conv => whnf)
      refine ⟨_, fIx_lst (k := 0) (d := ti r) rfl, ?_⟩
      exact k _ _
end Lk71
set_option maxHeartbeats 400000
set_option exponentiation.threshold 100000
namespace Lk71
open PySem PySem.Spec PyProof.Rows L2 DL Stairs
theorem bell_ex {d : D} (h : isBell d = true) : ∃ p : Int × Int, d = pB p ∧ (-9999 ≤ p.1 ∧ p.1 ≤ 9999) ∧ 1 ≤ p.2 ∧ p.2 ≤ 9999 := by
  cases d <;> first | (cases h; done) | skip
  case tup ds =>
    rcases ds with _ | ⟨a, _ | ⟨b, _ | ⟨c, l⟩⟩⟩
    · cases h
    · cases h
    · have h : (inB (-9999) 9999 a && inB 1 9999 b) = true := h
      rw [Bool.and_eq_true] at h
      obtain ⟨i, rfl, hi⟩ := inB_int h.1
      obtain ⟨j, rfl, hj⟩ := inB_int h.2
      exact ⟨(i, j), rfl, hi, hj⟩
    · cases h
theorem bells_ex : ∀ ds : List D, (∀ d ∈ ds, isBell d = true) → ∃ bs : List (Int × Int), ds = bs.map pB ∧ ∀ p ∈ bs, (-9999 ≤ p.1 ∧ p.1 ≤ 9999) ∧ 1 ≤ p.2 ∧ p.2 ≤ 9999
  | [], _ => ⟨[], rfl, fun _ h => by cases h⟩
  | d :: ds, h => by
    obtain ⟨p, hp, hb⟩ := bell_ex (h d List.mem_cons_self)
    obtain ⟨bs, hs, hbs⟩ := bells_ex ds fun x hx => h x (List.mem_cons_of_mem _ hx)
    refine ⟨p :: bs, by rw [hp, hs]; rfl, fun q hq => ?_⟩
    rcases List.mem_cons.mp hq with rfl | z
    · exact hb
    · exact hbs q z
theorem good_ex {d : D} (h : wrongB d = []) : ∃ bs, d = tB bs ∧ Bl bs := by
  cases d <;> first | (cases h; done) | skip
  case tup ds =>
    by_cases hl : 1 ≤ ds.length ∧ ds.length ≤ 8
    · have e : wrongB (.tup ds) = (ds.zipIdx.filterMap bad1).take 1 := if_pos hl
      rw [e] at h
      have h2 : ds.zipIdx.filterMap bad1 = [] := by
        cases q : ds.zipIdx.filterMap bad1 with
        | nil => rfl
        | cons x l =>
          rw [q] at h
          cases h
      obtain ⟨bs, hs, hb⟩ := bells_ex ds fun d hd => by
        obtain ⟨i, hi, rfl⟩ := List.mem_iff_getElem.mp hd
        have hm : (ds[i], i) ∈ ds.zipIdx := by
          rw [List.mem_zipIdx_iff_getElem?]
          exact List.getElem?_eq_getElem hi
        have := List.filterMap_eq_nil_iff.mp h2 _ hm
        cases q : isBell ds[i] with
        | true => rfl
        | false =>
          unfold bad1 at this
          rw [if_neg (by rw [q]; decide)] at this
          cases this
      refine ⟨bs, by rw [hs], ⟨?_, hb⟩⟩
      rw [hs, List.length_map] at hl
      exact hl
    · have e : wrongB (.tup ds) = [.non] := if_neg hl
      rw [e] at h
      cases h
section
variable {d t : D} {Qd : Cell → Outs → Prop} {Ed : Str → List (Str × D) → Outs → Prop} (hd : okA d = true) (h0 : ∀ x l, wrongB d = x :: l → ∀ o, Ed "InvalidBells" [("index", x)] o)
include hd h0
theorem t_together (h2 : wrongB d = [] → ∀ c o, Qd c o) : w_together [.val d] Qd Ed := by
  have ck := fun (Q' : Cell → Outs → Prop) (E' : Str → List (Str × D) → Outs → Prop) => a_check hd (Qd := Q') (Ed := E')
  have tg := fun (bs : List (Int × Int)) (hb : Bl bs) (Q' : Cell → Outs → Prop) (E' : Str → List (Str × D) → Outs → Prop) => s_together hb (Qd := Q') (Ed := E')
  unfold w_together m_together m_together_1
  revert ck tg
  generalize w_check_bells = W1
  generalize w_together_by = W2
  revert W1 W2
  refine id ?_
  intro W1 W2 ck tg
  conv => whnf
  refine ck _ _ (fun e c o => ?_) fun x l e o => ?_
  · obtain ⟨bs, rfl, hb⟩ := good_ex e
    conv => whnf
    refine tg bs hb _ _ fun d o _ => ?_
    exact h2 e _ _
  · exact h0 x l e _
theorem t_apart (h2 : wrongB d = [] → ∀ c o, Qd c o) : w_apart [.val d] Qd Ed := by
  have ck := fun (Q' : Cell → Outs → Prop) (E' : Str → List (Str × D) → Outs → Prop) => a_check hd (Qd := Q') (Ed := E')
  have tg := fun (bs : List (Int × Int)) (hb : Bl bs) (Q' : Cell → Outs → Prop) (E' : Str → List (Str × D) → Outs → Prop) => s_apart hb (Qd := Q') (Ed := E')
  unfold w_apart m_apart
  revert ck tg
  generalize w_check_bells = W1
  generalize w_apart_by = W2
  revert W1 W2
  refine id ?_
  intro W1 W2 ck tg
  conv => whnf
  refine ck _ _ (fun e c o => ?_) fun x l e o => ?_
  · obtain ⟨bs, rfl, hb⟩ := good_ex e
    conv => whnf
    exact tg bs hb _ _ fun c o => h2 e _ _
  · exact h0 x l e _
variable (ht : okA t = true) (h1 : wrongB d = [] → isI t = false → ∀ o, Ed "InvalidNumber" [("given", t)] o)
include ht h1
theorem t_ringing (h2 : wrongB d = [] → isI t = true → ∀ c o, Qd c o) : w_ringing [.val d, .val t] Qd Ed := by
  have ck := fun (Q' : Cell → Outs → Prop) (E' : Str → List (Str × D) → Outs → Prop) => a_check hd (Qd := Q') (Ed := E')
  have ct := fun (Q' : Cell → Outs → Prop) (E' : Str → List (Str × D) → Outs → Prop) => a_time ht (Qd := Q') (Ed := E')
  have tg := fun (bs : List (Int × Int)) (hb : Bl bs) (i : Int) (Q' : Cell → Outs → Prop) (E' : Str → List (Str × D) → Outs → Prop) => s_ringing hb i (Qd := Q') (Ed := E')
  unfold w_ringing m_ringing m_ringing_2 m_ringing_1
  revert ck ct tg
  generalize w_check_bells = W1
  generalize w_check_time = W3
  generalize w_ringing_by = W2
  revert W1 W3 W2
  refine id ?_
  intro W1 W3 W2 ck ct tg
  conv => whnf
  refine ck _ _ (fun e c o => ?_) fun x l e o => ?_
  · conv => whnf
    refine ct _ _ (fun e2 c o => ?_) fun e2 o => ?_
    · obtain ⟨bs, rfl, hb⟩ := good_ex e
      obtain ⟨i, rfl⟩ := isI_int e2
      conv => whnf
      exact tg bs hb i _ _ fun c o => h2 e e2 _ _
    · exact h1 e e2 _
  · exact h0 x l e _
theorem t_next (h2 : wrongB d = [] → isI t = true → ∀ c o, Qd c o) : w_next_time [.val d, .val t] Qd Ed := by
  have ck := fun (Q' : Cell → Outs → Prop) (E' : Str → List (Str × D) → Outs → Prop) => a_check hd (Qd := Q') (Ed := E')
  have ct := fun (Q' : Cell → Outs → Prop) (E' : Str → List (Str × D) → Outs → Prop) => a_time ht (Qd := Q') (Ed := E')
  have tg := fun (bs : List (Int × Int)) (hb : Bl bs) (i : Int) (Q' : Cell → Outs → Prop) (E' : Str → List (Str × D) → Outs → Prop) => s_next hb i (Qd := Q') (Ed := E')
  unfold w_next_time m_next_time m_next_time_2 m_next_time_1
  revert ck ct tg
  generalize w_check_bells = W1
  generalize w_check_time = W3
  generalize w_next_time_by = W2
  revert W1 W3 W2
  refine id ?_
  intro W1 W3 W2 ck ct tg
  conv => whnf
  refine ck _ _ (fun e c o => ?_) fun x l e o => ?_
  · conv => whnf
    refine ct _ _ (fun e2 c o => ?_) fun e2 o => ?_
    · obtain ⟨bs, rfl, hb⟩ := good_ex e
      obtain ⟨i, rfl⟩ := isI_int e2
      conv => whnf
      exact tg bs hb i _ _ fun c o => h2 e e2 _ _
    · exact h1 e e2 _
  · exact h0 x l e _
end
def saidB (way : Int) (d t : D) : D := match wrongB d with
  | x :: _ => .tup [.str "bells", x]
  | [] => if 1 < way ∧ isI t = false then .tup [.str "time", t] else .tup [.str "told", .non]
theorem ub : und (Str.ofString "InvalidBells") (Str.ofString "InvalidBells") = some true := und_InvalidBells_InvalidBells
theorem unb : und (Str.ofString "InvalidNumber") (Str.ofString "InvalidBells") = some false := und_InvalidNumber_InvalidBells
theorem unn : und (Str.ofString "InvalidNumber") (Str.ofString "InvalidNumber") = some true := und_InvalidNumber_InvalidNumber
theorem s_said {d t : D} {way : Int} (hw : way = 0 ∨ way = 1 ∨ way = 2 ∨ way = 3) (hd : okA d = true) (ht : okA t = true) : Ret w_law_said [.val (.int way), .val d, .val t] (saidB way d t) := by
  intro Qd Ed k
  have w0 := fun (Q' : Cell → Outs → Prop) (E' : Str → List (Str × D) → Outs → Prop) => t_together hd (Qd := Q') (Ed := E')
  have w1 := fun (Q' : Cell → Outs → Prop) (E' : Str → List (Str × D) → Outs → Prop) => t_apart hd (Qd := Q') (Ed := E')
  have w2 := fun (Q' : Cell → Outs → Prop) (E' : Str → List (Str × D) → Outs → Prop) (h0 : ∀ x l, wrongB d = x :: l → ∀ o, E' "InvalidBells" [("index", x)] o) (h1 : wrongB d = [] → isI t = false → ∀ o, E' "InvalidNumber" [("given", t)] o) => t_ringing hd h0 ht h1 (Qd := Q') (Ed := E')
  have w3 := fun (Q' : Cell → Outs → Prop) (E' : Str → List (Str × D) → Outs → Prop) (h0 : ∀ x l, wrongB d = x :: l → ∀ o, E' "InvalidBells" [("index", x)] o) (h1 : wrongB d = [] → isI t = false → ∀ o, E' "InvalidNumber" [("given", t)] o) => t_next hd h0 ht h1 (Qd := Q') (Ed := E')
  have e0 : ∀ x l, wrongB d = x :: l → saidB way d t = .tup [.str "bells", x] := fun x l e => by unfold saidB; rw [e]
  have e1 : wrongB d = [] → 1 < way → isI t = false → saidB way d t = .tup [.str "time", t] := fun e h1 h2 => by unfold saidB; rw [e]; exact if_pos ⟨h1, h2⟩
  have e2 : wrongB d = [] → ¬ (1 < way ∧ isI t = false) → saidB way d t = .tup [.str "told", .non] := fun e h1 => by unfold saidB; rw [e]; exact if_neg h1
  generalize saidB way d t = r at *
  unfold w_law_said m_law_said m_law_said_1 w_law_done m_law_done m_law_done_1
  revert w0 w1 w2 w3
  generalize w_together = W1
  generalize w_apart = W2
  generalize w_ringing = W3
  generalize w_next_time = W4
  revert W1 W2 W3 W4
  refine id ?_
  intro W1 W2 W3 W4 w0 w1 w2 w3
  rcases hw with rfl | rfl | rfl | rfl
  · conv => whnf
    repeat (refine ⟨_, rfl, ?_⟩; conv => whnf)
    refine w0 _ _ (fun x l e o => ?_) fun e c o => ?_
    · conv => whnf
      rw [ub]
      conv => whnf
      refine ⟨Nat.le_of_ble_eq_true rfl, rfl, _, rfl, ?_⟩
      rw [← e0 x l e]
      exact k _
    · conv => whnf
      refine ⟨small64 (by simp), ?_⟩
      conv => whnf
      rw [← e2 e (by omega)]
      exact k _
  · conv => whnf
    repeat (refine ⟨_, rfl, ?_⟩; conv => whnf)
    refine w1 _ _ (fun x l e o => ?_) fun e c o => ?_
    · conv => whnf
      rw [ub]
      conv => whnf
      refine ⟨Nat.le_of_ble_eq_true rfl, rfl, _, rfl, ?_⟩
      rw [← e0 x l e]
      exact k _
    · conv => whnf
      refine ⟨small64 (by simp), ?_⟩
      conv => whnf
      rw [← e2 e (by omega)]
      exact k _
  · conv => whnf
    repeat (refine ⟨_, rfl, ?_⟩; conv => whnf)
    refine w2 _ _ (fun x l e o => ?_) (fun e e3 o => ?_) fun e e3 c o => ?_
    · conv => whnf
      rw [ub]
      conv => whnf
      refine ⟨Nat.le_of_ble_eq_true rfl, rfl, _, rfl, ?_⟩
      rw [← e0 x l e]
      exact k _
    · conv => whnf
      rw [unb]
      conv => whnf
      rw [unn]
      conv => whnf
      refine ⟨Nat.le_of_ble_eq_true rfl, rfl, _, rfl, ?_⟩
      rw [← e1 e (by decide) e3]
      exact k _
    · conv => whnf
      refine ⟨small64 (by simp), ?_⟩
      conv => whnf
      rw [← e2 e (by rw [e3]; simp)]
      exact k _
  · conv => whnf
    repeat (refine ⟨_, rfl, ?_⟩; conv => whnf)
    refine w3 _ _ (fun x l e o => ?_) (fun e e3 o => ?_) fun e e3 c o => ?_
    · conv => whnf
      rw [ub]
      conv => whnf
      refine ⟨Nat.le_of_ble_eq_true rfl, rfl, _, rfl, ?_⟩
      rw [← e0 x l e]
      exact k _
    · conv => whnf
      rw [unb]
      conv => whnf
      rw [unn]
      conv => whnf
      refine ⟨Nat.le_of_ble_eq_true rfl, rfl, _, rfl, ?_⟩
      rw [← e1 e (by decide) e3]
      exact k _
    · conv => whnf
      refine ⟨small64 (by simp), ?_⟩
      conv => whnf
      rw [← e2 e (by rw [e3]; simp)]
      exact k _
end Lk71
set_option exponentiation.threshold 100000
namespace Lk71
open PySem PySem.Spec PyProof.Rows L2 DL Stairs
theorem mul_ab {x y : Int} {a b : Int} (hx : 0 ≤ x ∧ x ≤ a) (hy : -b ≤ y ∧ y ≤ b) (hb : 0 ≤ b) : -(a * b) ≤ x * y ∧ x * y ≤ a * b := by
  have h1 := Int.mul_le_mul_of_nonneg_left hy.2 hx.1
  have h2 := Int.mul_le_mul_of_nonneg_left hy.1 hx.1
  have h3 := Int.mul_le_mul_of_nonneg_right hx.2 hb
  rw [Int.mul_neg] at h2
  omega
theorem s_bells {k : Nat} {p : List D} (hp : Pool k p) (hk : k < 2 ^ 40) {Qd : Cell → Outs → Prop} {Ed : Str → List (Str × D) → Outs → Prop}
    (h : ∀ bs o, 1 ≤ bs.length ∧ bs.length ≤ 6 → (∀ q ∈ bs, (-9999 ≤ q.1 ∧ q.1 ≤ 9999) ∧ 1 ≤ q.2 ∧ q.2 ≤ 9999) → Pool (k + 40) (o 0) → Qd (.val (tB bs)) o) : w_law_bells_iv [.own p, .val (.int 99)] Qd Ed := by
  unfold w_law_bells_iv m_law_bells_iv
  conv => whnf
  refine ⟨small64 (by simp), ?_⟩
  conv => whnf
  refine s_take hp (by omega) (by decide) (many_pow (by decide) (by decide)) fun b o hb0 hb1 hp1 => ?_
  conv => whnf
  repeat (refine ⟨_, rfl, ?_⟩; conv => whnf)
  refine ⟨rfl, ?_⟩
  show m_law_bells_iv_3 _ [some (.own (o 0)), some (.val (.int 99)), some (.own []), some (.val (.int (b - 200))), none, none]
  generalize o 0 = p1 at hp1 ⊢
  obtain ⟨base, eb⟩ : ∃ base, base = b - 200 := ⟨_, rfl⟩
  rw [← eb]
  unfold m_law_bells_iv_3
  conv => whnf
  refine s_take hp1 (by omega) (by decide) (many_pow (by decide) (by decide)) fun r o2 h2 h3 hp2 => ?_
  conv => whnf
  repeat (refine ⟨_, rfl, ?_⟩; conv => whnf)
  refine ⟨⟨by omega, by omega⟩, ?_⟩
  show forGo _ _ _ _ [some (.own (o2 0)), some (.val (.int 99)), some (.own []), some (.val (.int base)), none, none]
  generalize o2 0 = p2 at hp2 ⊢
  refine forGo_ix (fun i => D.int (0 + (i : Nat))) (fun i ρ => ∃ p' bs c4 c5, ρ = [some (.own p'), some (.val (.int 99)), some (.own (List.map pB bs)), some (.val (.int base)), c4, c5] ∧ Pool (k + 1 + 1 + 4 * i) p' ∧ bs.length = i ∧ ∀ q ∈ bs, (-9999 ≤ q.1 ∧ q.1 ≤ 9999) ∧ 1 ≤ q.2 ∧ q.2 ≤ 9999) (List.range (1 + r).toNat) 0 _ (Nat.zero_le _) ?_ ?_ ⟨p2, [], _, _, rfl, hp2, rfl, fun q hq => by cases hq⟩
  · rintro ρ ⟨p', bs, c4, c5, rfl, hp3, hl, hb⟩
    rw [List.length_range] at hl hp3
    conv => whnf
    repeat (refine ⟨_, rfl, ?_⟩; conv => whnf)
    exact h bs _ ⟨by omega, by omega⟩ hb (hp3.mono (by omega))
  · rintro i z ρ hz ⟨p', bs, c4, c5, rfl, hp3, hl, hb⟩ N hN
    have hi := (List.getElem?_eq_some_iff.mp hz).1
    rw [List.length_range] at hi
    show m_law_bells_iv_2 _ [some (.own p'), some (.val (.int 99)), some (.own (List.map pB bs)), some (.val (.int base)), some (.val (.int (0 + (z : Nat)))), c5]
    unfold m_law_bells_iv_2
    conv => whnf
    refine ⟨small64 (by simp), ?_⟩
    conv => whnf
    refine s_of hp3 (by omega) (by decide) (by decide) fun d o3 hin hp4 => ?_
    obtain ⟨m, rfl, hm⟩ : ∃ m : Int, d = .int m ∧ 4 ≤ m ∧ m ≤ 99 := by
      simp only [List.mem_cons, List.not_mem_nil, or_false] at hin
      rcases hin with rfl | rfl | rfl
      · exact ⟨4, rfl, by decide, by decide⟩
      · exact ⟨12, rfl, by decide, by decide⟩
      · exact ⟨99, rfl, by decide, by decide⟩
    conv => whnf
    refine s_take hp4 (by omega) (by omega) (many_pow (by omega) (by omega)) fun e o4 he0 he1 hp5 => ?_
    conv => whnf
    repeat (refine ⟨_, rfl, ?_⟩; conv => whnf)
    show m_law_bells_iv_1 _ [some (.own (o4 0)), some (.val (.int 99)), some (.own (List.map pB bs)), some (.val (.int base)), some (.val (.int (0 + (z : Nat)))), some (.val (.int (1 + e)))]
    generalize o4 0 = p4 at hp5 ⊢
    clear hin
    unfold m_law_bells_iv_1
    conv => whnf
    refine s_take hp5 (by omega) (by decide) (many_pow (by decide) (by decide)) fun a o5 ha0 ha1 hp6 => ?_
    conv => whnf
    repeat (refine ⟨_, rfl, ?_⟩; conv => whnf)
    have hmu : fMul (.int (1 + e)) (.int (a - 3)) = some (.val (.int ((1 + e) * (a - 3)))) := fMul_int (mulB_ok (a := 60) (b := 60) (nat_lt (by omega) (by omega)) (by
      have : (a - 3).natAbs < 8 := by omega
      exact Nat.lt_of_lt_of_le this (by decide)) (by decide))
    refine ⟨_, hmu, ?_⟩
    conv => whnf
    repeat (refine ⟨_, rfl, ?_⟩; conv => whnf)
    refine ⟨small64 (by simp), ?_⟩
    conv => whnf
    refine s_of hp6 (by omega) (by decide) (by decide) fun d o6 hin hp7 => ?_
    obtain ⟨c, rfl, hc⟩ : ∃ c : Int, d = .int c ∧ 0 ≤ c ∧ c ≤ 1 := by
      simp only [List.mem_cons, List.not_mem_nil, or_false] at hin
      rcases hin with rfl | rfl | rfl | rfl | rfl
      · exact ⟨0, rfl, by decide, by decide⟩
      · exact ⟨0, rfl, by decide, by decide⟩
      · exact ⟨0, rfl, by decide, by decide⟩
      · exact ⟨0, rfl, by decide, by decide⟩
      · exact ⟨1, rfl, by decide, by decide⟩
    conv => whnf
    repeat (refine ⟨_, rfl, ?_⟩; conv => whnf)
    refine ⟨small64 (by simp), ?_⟩
    conv => whnf
    refine ⟨small64 (by rw [List.length_map]; omega), ?_⟩
    have hb2 := mul_ab (x := 1 + e) (y := a - 3) (a := 99) (b := 3) (by omega) (by omega) (by decide)
    refine hN _ ⟨o6 0, bs ++ [(base + (1 + e) * (a - 3) + c, 1 + e)], some (.val (.int (0 + (z : Nat)))), some (.val (.int (1 + e))), ?_, hp7.mono (by omega), by rw [List.length_append, hl]; rfl, fun q hq => ?_⟩
    · rw [List.map_append]
      rfl
    · rcases List.mem_append.mp hq with z | z
      · exact hb q z
      · have e1 : q = (base + (1 + e) * (a - 3) + c, 1 + e) := by simpa using z
        rw [e1]
        show (-9999 ≤ base + (1 + e) * (a - 3) + c ∧ base + (1 + e) * (a - 3) + c ≤ 9999) ∧ 1 ≤ 1 + e ∧ 1 + e ≤ 9999
        omega
end Lk71
set_option exponentiation.threshold 100000
namespace Lk71
open PySem PySem.Spec PyProof.Rows L2 DL Stairs
/-! what own looks tell of the drawn bells -/
theorem bell_pB {p : Int × Int} (h : (-9999 ≤ p.1 ∧ p.1 ≤ 9999) ∧ 1 ≤ p.2 ∧ p.2 ≤ 9999) : isBell (pB p) = true := by
  show ((decide (-9999 ≤ p.1) && decide (p.1 ≤ 9999)) && (decide (1 ≤ p.2) && decide (p.2 ≤ 9999))) = true
  rw [decide_eq_true h.1.1, decide_eq_true h.1.2, decide_eq_true h.2.1, decide_eq_true h.2.2]
  rfl
theorem good_nil {xs : List D} (h : ∀ x ∈ xs, isBell x = true) (i : Nat) : (xs.zipIdx i).filterMap bad1 = [] := by
  rw [List.filterMap_eq_nil_iff]
  rintro ⟨x, j⟩ hx
  have := (List.mem_zipIdx hx).2.2
  unfold bad1
  rw [if_pos]
  show isBell x = true
  rw [this]
  exact h _ (List.getElem_mem _)
theorem wrong_at {pre post : List D} {x : D} (h : ∀ y ∈ pre, isBell y = true) (hx : isBell x = false) (hl : (pre ++ x :: post).length ≤ 8) : wrongB (.tup (pre ++ x :: post)) = [.int (pre.length : Nat)] := by
  have e : wrongB (.tup (pre ++ x :: post)) = (((pre ++ x :: post).zipIdx).filterMap bad1).take 1 := if_pos ⟨by rw [List.length_append, List.length_cons]; omega, hl⟩
  have e1 : bad1 (x, 0 + pre.length) = some (.int (pre.length : Nat)) := by
    unfold bad1
    rw [if_neg (by rw [hx]; decide), Nat.zero_add]
  rw [e, List.zipIdx_append, List.filterMap_append, good_nil h 0, List.nil_append, List.zipIdx_cons, List.filterMap_cons, e1]
  rfl
theorem wrong_bs {bs : List (Int × Int)} (hb : Bl bs) : wrongB (tB bs) = [] := by
  have e : wrongB (tB bs) = (((bs.map pB).zipIdx).filterMap bad1).take 1 := if_pos (by rw [List.length_map]; exact hb.l)
  rw [e, good_nil fun x hx => ?_]
  · rfl
  · obtain ⟨p, hp, rfl⟩ := List.mem_map.mp hx
    exact bell_pB (hb.x p hp)
theorem okA_pB (p : Int × Int) : okA (pB p) = true := rfl
theorem okA_bs {bs : List (Int × Int)} (h : bs.length ≤ 1000) : okA (tB bs) = true := by
  rw [okA_tup]
  refine ⟨by rw [List.length_map]; exact h, fun x hx => ?_⟩
  obtain ⟨p, hp, rfl⟩ := List.mem_map.mp hx
  rfl
/-- the bells with another thing at a place -/
def rep (bs : List (Int × Int)) (i : Nat) (x : D) : List D := (bs.map pB).take i ++ x :: (bs.map pB).drop (i + 1)
theorem rep_len {bs : List (Int × Int)} {i : Nat} {x : D} (hi : i < bs.length) : (rep bs i x).length = bs.length := by
  unfold rep
  rw [List.length_append, List.length_cons, List.length_take, List.length_drop, List.length_map]
  omega
theorem pre_good {bs : List (Int × Int)} (hb : Bl bs) (i : Nat) : ∀ y ∈ (bs.map pB).take i, isBell y = true := fun y hy => by
  obtain ⟨p, hp, rfl⟩ := List.mem_map.mp (List.mem_of_mem_take hy)
  exact bell_pB (hb.x p hp)
theorem rep_wrong {bs : List (Int × Int)} {i : Nat} {x : D} (hb : Bl bs) (hi : i < bs.length) (hx : isBell x = false) : wrongB (.tup (rep bs i x)) = [.int (i : Nat)] := by
  have hl := hb.l
  have := wrong_at (pre := (bs.map pB).take i) (post := (bs.map pB).drop (i + 1)) (x := x) (pre_good hb i) hx (by
    have := rep_len (x := x) hi
    unfold rep at this
    rw [this]
    exact hl.2)
  rw [List.length_take, List.length_map, Nat.min_eq_left (by omega)] at this
  exact this
theorem okA_rep {bs : List (Int × Int)} {i : Nat} {x : D} (hb : Bl bs) (hi : i < bs.length) (hx : okA x = true) : okA (.tup (rep bs i x)) = true := by
  have hl := hb.l
  rw [okA_tup]
  refine ⟨by rw [rep_len hi]; omega, fun y hy => ?_⟩
  unfold rep at hy
  rcases List.mem_append.mp hy with z | z
  · obtain ⟨p, hp, rfl⟩ := List.mem_map.mp (List.mem_of_mem_take z)
    rfl
  · rcases List.mem_cons.mp z with rfl | z
    · exact hx
    · obtain ⟨p, hp, rfl⟩ := List.mem_map.mp (List.mem_of_mem_drop z)
      rfl
theorem two_wrong {bs : List (Int × Int)} {i : Nat} (hb : Bl bs) (hi : i < bs.length) : wrongB (.tup ((rep bs i .non ++ [D.tup []]).take 8)) = [.int (i : Nat)] ∧ okA (.tup ((rep bs i .non ++ [D.tup []]).take 8)) = true := by
  have hl := hb.l
  have e : (rep bs i .non ++ [D.tup []]).take 8 = (bs.map pB).take i ++ .non :: ((bs.map pB).drop (i + 1) ++ [D.tup []]).take (7 - i) := by
    unfold rep
    rw [List.append_assoc, List.cons_append, List.take_append, List.take_of_length_le (by rw [List.length_take, List.length_map]; omega), List.length_take, List.length_map, Nat.min_eq_left (by omega : i ≤ bs.length)]
    rw [show 8 - i = (7 - i) + 1 by omega, List.take_succ_cons]
  refine ⟨?_, ?_⟩
  · have := wrong_at (pre := (bs.map pB).take i) (post := ((bs.map pB).drop (i + 1) ++ [D.tup []]).take (7 - i)) (x := .non) (pre_good hb i) rfl (by
      rw [← e, List.length_take]
      omega)
    rw [List.length_take, List.length_map, Nat.min_eq_left (by omega)] at this
    rw [e]
    exact this
  · rw [okA_tup]
    refine ⟨by rw [List.length_take]; omega, fun y hy => ?_⟩
    rcases List.mem_append.mp (List.mem_of_mem_take hy) with z | z
    · exact (okA_tup.mp (okA_rep hb hi (x := .non) rfl)).2 y z
    · have : y = .tup [] := by simpa using z
      rw [this]
      rfl
theorem sb2 {a b : D} (ha : Sb 7 a) (hb : Sb 7 b) : Sb 8 (.tup [a, b]) := ⟨Nat.le_of_ble_eq_true rfl, fun d hd => by
  simp only [List.mem_cons, List.not_mem_nil, or_false] at hd
  rcases hd with rfl | rfl
  · exact ha
  · exact hb⟩
theorem said_bad {way : Int} {d t x : D} {l : List D} (h : wrongB d = x :: l) : saidB way d t = .tup [.str "bells", x] := by
  unfold saidB
  rw [h]
theorem said_time {way : Int} {d t : D} (h : wrongB d = []) (hw : 1 < way) (ht : isI t = false) : saidB way d t = .tup [.str "time", t] := by
  unfold saidB
  rw [h]
  exact if_pos ⟨hw, ht⟩
theorem said_told {way : Int} {d t : D} (h : wrongB d = []) (ht : isI t = true) : saidB way d t = .tup [.str "told", .non] := by
  unfold saidB
  rw [h]
  exact if_neg (by rw [ht]; simp)
theorem sz_told : Sz 2 (.tup [.str "told", .non]) := fun d hd => by
  simp only [List.mem_cons, List.not_mem_nil, or_false] at hd
  rcases hd with rfl | rfl
  · show (toPy (.str "told")).canLay0 = true
    decide +kernel
  · trivial
theorem sb_bells : Sb 7 (.str "bells") := by
  show (toPy (.str "bells")).canLay0 = true
  decide +kernel
theorem sb_time : Sb 7 (.str "time") := by
  show (toPy (.str "time")).canLay0 = true
  decide +kernel
section
variable {k : Nat} {p : List D} {bs : List (Int × Int)} {i : Nat} {way : Int} {c6 c7 c8 c9 : Option Cell} {Dd : DEnds}
abbrev ev (p : List D) (bs : List (Int × Int)) (i : Nat) (f e : Int) (way : Int) (c6 c7 c8 c9 : Option Cell) : En := [some (.own p), some (.val (tB bs)), some (.val (.int (i : Nat))), some (.val (.int f)), some (.val (.int e)), some (.val (.int way)), c6, c7, c8, c9]
variable {f e : Int} (hb : Bl bs) (hi : i < bs.length) (hw : way = 0 ∨ way = 1 ∨ way = 2 ∨ way = 3)
include hb hw
theorem q1 {t : D} (ht : isI t = true) (hD : Dd.nx (ev p bs i f e way (some (.val t)) c7 c8 c9)) : m_law_right_i_1 Dd (ev p bs i f e way (some (.val t)) c7 c8 c9) := by
  have hl := hb.l
  obtain ⟨j, rfl⟩ := isI_int ht
  have sd := s_said (t := .int j) hw (okA_bs (bs := bs) (by omega)) rfl
  rw [said_told (wrong_bs hb) rfl] at sd
  unfold m_law_right_i_1
  revert sd
  generalize w_law_said = W1
  revert W1
  refine id ?_
  intro W1 sd
  conv => whnf
  refine sd _ _ fun o => ?_
  conv => whnf
  refine ⟨small64 (by simp), ?_⟩
  conv => whnf
  refine ⟨_, fNe_self (n := 2) (d := .tup [.str "told", .non]) (by decide) sz_told, ?_⟩
  conv => whnf
  exact hD
theorem q2 (hp : Pool k p) (hk : k < 2 ^ 40) {x : D} (hx : okA x = true) {l : List D} (hx2 : wrongB x = .non :: l)
    (hD : ∀ p', Pool (k + 1) p' → Dd.nx (ev p' bs i f e way c6 (some (.val x)) c8 c9)) : m_law_right_i_2 Dd (ev p bs i f e way c6 (some (.val x)) c8 c9) := by
  have sd := fun (t : D) (ht : okA t = true) => s_said (d := x) (t := t) hw hx ht
  have sm := same_v (sb2 (b := .non) sb_bells trivial)
  unfold m_law_right_i_2
  revert sd sm
  generalize w_law_said = W1
  generalize v_law_same = W2
  revert W1 W2
  refine id ?_
  intro W1 W2 sd sm
  conv => whnf
  refine ⟨small64 (by simp), ?_⟩
  conv => whnf
  refine s_of hp (by omega) (by decide) (by decide) fun d o hin hp1 => ?_
  have hd : okA d = true := by
    simp only [List.mem_cons, List.not_mem_nil, or_false] at hin
    rcases hin with rfl | rfl <;> rfl
  conv => whnf
  refine sd d hd _ _ fun o2 => ?_
  rw [said_bad hx2]
  conv => whnf
  refine ⟨small64 (by simp), ?_⟩
  conv => whnf
  refine sm _ _ fun o3 => ?_
  conv => whnf
  repeat (refine ⟨_, rfl, ?_⟩; conv => whnf)
  exact hD _ hp1
end
end Lk71
set_option exponentiation.threshold 100000
namespace Lk71
open PySem PySem.Spec PyProof.Rows L2 DL Stairs
theorem cut_a (xs : List D) (i : Nat) : DL.cutD xs none (some (i : Int)) = xs.take i := oCut_hi xs i
theorem cut_b (xs : List D) (i : Nat) (h : i < xs.length) : DL.cutD xs (some ((i : Int) + 1)) none = xs.drop (i + 1) := by
  have := oCut_lo xs (i + 1) (by omega)
  rw [← this]
  rfl
section
variable {k : Nat} {p : List D} {bs : List (Int × Int)} {i : Nat} {way : Int} {c6 c7 c8 c9 : Option Cell} {Dd : DEnds} {f e : Int} (hb : Bl bs) (hi : i < bs.length) (hw : way = 0 ∨ way = 1 ∨ way = 2 ∨ way = 3)
include hb hi hw
theorem q4 (hp : Pool k p) (hk : k < 2 ^ 40) {x : D} (hx : okA x = true) (hx2 : isBell x = false)
    (hD : ∀ p' c9', Pool (k + 1) p' → Dd.nx (ev p' bs i f e way c6 (some (.val x)) c8 c9')) : m_law_right_i_4 Dd (ev p bs i f e way c6 (some (.val x)) c8 c9) := by
  have hl := hb.l
  have rl := rep_len (x := x) hi
  have sd := fun (t : D) (ht : okA t = true) => s_said (d := .tup (rep bs i x)) (t := t) hw (okA_rep hb hi hx) ht
  have sm := same_v (sb2 (a := .str "bells") (b := .int (i : Nat)) sb_bells trivial)
  unfold m_law_right_i_4 m_law_right_i_3
  revert sd sm
  generalize w_law_said = W1
  generalize v_law_same = W2
  revert W1 W2
  refine id ?_
  intro W1 W2 sd sm
  conv => whnf
  (refine ⟨_, rfl, ?_⟩; conv => whnf)
  rw [cut_a]
  refine ⟨small64 (by simp), ?_⟩
  conv => whnf
  refine ⟨_, fAdd_tup (xs := (bs.map pB).take i) (ys := [x]) (small64 (by rw [List.length_take, List.length_map, List.length_cons, List.length_nil]; omega)), ?_⟩
  conv => whnf
  (refine ⟨_, rfl, ?_⟩; conv => whnf)
  (refine ⟨_, rfl, ?_⟩; conv => whnf)
  rw [cut_b _ _ (by rw [List.length_map]; exact hi)]
  have er : (bs.map pB).take i ++ [x] ++ (bs.map pB).drop (i + 1) = rep bs i x := by
    unfold rep
    rw [List.append_assoc]
    rfl
  refine ⟨_, fAdd_tup (xs := (bs.map pB).take i ++ [x]) (ys := (bs.map pB).drop (i + 1)) (small64 (by rw [← List.length_append, er, rl]; omega)), ?_⟩
  rw [er]
  conv => whnf
  refine ⟨small64 (by simp), ?_⟩
  conv => whnf
  refine s_of hp (by omega) (by decide) (by decide) fun d o hin hp1 => ?_
  have hd : okA d = true := by
    simp only [List.mem_cons, List.not_mem_nil, or_false] at hin
    rcases hin with rfl | rfl <;> rfl
  conv => whnf
  refine sd d hd _ _ fun o2 => ?_
  rw [said_bad (rep_wrong hb hi hx2)]
  conv => whnf
  refine ⟨small64 (by simp), ?_⟩
  conv => whnf
  refine sm _ _ fun o3 => ?_
  conv => whnf
  repeat (refine ⟨_, rfl, ?_⟩; conv => whnf)
  exact hD _ _ hp1
omit hi in
theorem q5 {x : D} (hx : okA x = true) (hx2 : isI x = false) (hs : Sb 7 x) (hD : Dd.nx (ev p bs i f e way c6 (some (.val x)) c8 c9)) : m_law_right_i_5 Dd (ev p bs i f e way c6 (some (.val x)) c8 c9) := by
  have hl := hb.l
  have sd := s_said (d := tB bs) (t := x) hw (okA_bs (by omega)) hx
  have sm := same_v (sb2 (a := .str "time") (b := x) sb_time hs)
  unfold m_law_right_i_5
  revert sd sm
  generalize w_law_said = W1
  generalize v_law_same = W2
  revert W1 W2
  refine id ?_
  intro W1 W2 sd sm
  conv => whnf
  by_cases q : 1 < way
  · rw [said_time (wrong_bs hb) q hx2] at sd
    refine ⟨_, fGt_t (a := way) (b := 1) q, ?_⟩
    conv => whnf
    refine sd _ _ fun o2 => ?_
    conv => whnf
    refine ⟨small64 (by simp), ?_⟩
    conv => whnf
    refine sm _ _ fun o3 => ?_
    conv => whnf
    repeat (refine ⟨_, rfl, ?_⟩; conv => whnf)
    exact hD
  · refine ⟨_, fGt_f (a := way) (b := 1) q, ?_⟩
    conv => whnf
    exact hD
theorem q6 (hD : ∀ c7', Dd.nx (ev p bs i f e way c6 c7' c8 c9)) : m_law_right_i_6 Dd (ev p bs i f e way c6 c7 c8 c9) := by
  have hl := hb.l
  have rl := rep_len (x := .non) hi
  have tw := two_wrong hb hi
  have sd := s_said (d := .tup ((rep bs i .non ++ [D.tup []]).take 8)) (t := .non) hw tw.2 rfl
  rw [said_bad tw.1] at sd
  have sm := same_v (sb2 (a := .str "bells") (b := .int (i : Nat)) sb_bells trivial)
  have h5 := fun (c7' : Option Cell) (Dd : DEnds) (x : D) (hx : okA x = true) (hx2 : isI x = false) (hs : Sb 7 x) (hD : Dd.nx (ev p bs i f e way c6 (some (.val x)) c8 c9)) => q5 (i := i) (f := f) (e := e) (p := p) (c6 := c6) (c8 := c8) (c9 := c9) hb hw hx hx2 hs hD
  unfold m_law_right_i_6 x_law_right_i_4
  revert sd sm h5
  generalize w_law_said = W1
  generalize v_law_same = W2
  generalize m_law_right_i_5 = M5
  revert W1 W2 M5
  refine id ?_
  intro W1 W2 M5 sd sm h5
  conv => whnf
  (refine ⟨_, rfl, ?_⟩; conv => whnf)
  rw [cut_a]
  refine ⟨small64 (by simp), ?_⟩
  conv => whnf
  refine ⟨_, fAdd_tup (xs := (bs.map pB).take i) (ys := [D.non]) (small64 (by rw [List.length_take, List.length_map, List.length_cons, List.length_nil]; omega)), ?_⟩
  conv => whnf
  (refine ⟨_, rfl, ?_⟩; conv => whnf)
  (refine ⟨_, rfl, ?_⟩; conv => whnf)
  rw [cut_b _ _ (by rw [List.length_map]; exact hi)]
  have er : (bs.map pB).take i ++ [D.non] ++ (bs.map pB).drop (i + 1) = rep bs i .non := by
    unfold rep
    rw [List.append_assoc]
    rfl
  refine ⟨_, fAdd_tup (xs := (bs.map pB).take i ++ [D.non]) (ys := (bs.map pB).drop (i + 1)) (small64 (by rw [← List.length_append, er, rl]; omega)), ?_⟩
  rw [er]
  conv => whnf
  refine ⟨small64 (by simp), ?_⟩
  conv => whnf
  refine ⟨small64 (by simp), ?_⟩
  conv => whnf
  refine ⟨_, fAdd_tup (xs := rep bs i .non) (ys := [D.tup []]) (small64 (by rw [rl]; simp; omega)), ?_⟩
  conv => whnf
  (refine ⟨_, rfl, ?_⟩; conv => whnf)
  rw [show DL.cutD (rep bs i .non ++ [D.tup []]) none (some 8) = (rep bs i .non ++ [D.tup []]).take 8 from oCut_hi _ 8]
  refine sd _ _ fun o => ?_
  conv => whnf
  refine ⟨small64 (by simp), ?_⟩
  conv => whnf
  refine sm _ _ fun o3 => ?_
  conv => whnf
  repeat (refine ⟨_, rfl, ?_⟩; conv => whnf)
  repeat (refine ⟨small64 (by simp), ?_⟩; conv => whnf)
  show forGo (.nm 7) M5 [D.non, .str "0", .bl true, .tup [.int 0], .lst [], .tup [.int 1, .int 2]] Dd (ev p bs i f e way c6 c7 c8 c9)
  refine forGo_ind (fun ds ρ => (∃ c7', ρ = ev p bs i f e way c6 c7' c8 c9) ∧ ∀ d ∈ ds, okA d = true ∧ isI d = false ∧ Sb 7 d) ?_ ?_ _ _ ⟨⟨_, rfl⟩, fun d hd => ?_⟩
  · rintro ρ ⟨⟨c7', rfl⟩, _⟩
    exact hD _
  · rintro d ds ρ ⟨⟨c7', rfl⟩, hi2⟩ N hN
    have hd := hi2 d List.mem_cons_self
    conv => whnf
    refine h5 none _ d hd.1 hd.2.1 hd.2.2 ?_
    exact hN _ ⟨⟨_, rfl⟩, fun d hd => hi2 d (List.mem_cons_of_mem _ hd)⟩
  · simp only [List.mem_cons, List.not_mem_nil, or_false] at hd
    rcases hd with rfl | rfl | rfl | rfl | rfl | rfl
    · exact ⟨rfl, rfl, trivial⟩
    · refine ⟨rfl, rfl, ?_⟩
      show (toPy (.str "0")).canLay0 = true
      decide +kernel
    · exact ⟨rfl, rfl, trivial⟩
    · refine ⟨rfl, rfl, Nat.le_of_ble_eq_true rfl, fun d hd => ?_⟩
      have : d = .int 0 := by simpa using hd
      rw [this]
      trivial
    · exact ⟨rfl, rfl, Nat.le_of_ble_eq_true rfl, fun d hd => by cases hd⟩
    · refine ⟨rfl, rfl, Nat.le_of_ble_eq_true rfl, fun d hd => ?_⟩
      simp only [List.mem_cons, List.not_mem_nil, or_false] at hd
      rcases hd with rfl | rfl <;> trivial
end
end Lk71
set_option exponentiation.threshold 100000
namespace Lk71
open PySem PySem.Spec PyProof.Rows L2 DL Stairs
/-- a walk over things as they are, the place counted -/
theorem forGo_self {tg : Tg} {tb : DS} {D : DEnds} (I : Nat → En → Prop) (zs : List DL.D) (ρ : En) (h0 : I 0 ρ) (done : ∀ ρ, I zs.length ρ → D.nx ρ) (step : ∀ (i : Nat) z ρ, zs[i]? = some z → I i ρ → ∀ N : En → Prop, (∀ ρ', I (i + 1) ρ' → N ρ') → tgGo tg (.val z) ρ (fun ρ1 => tb { D with nx := N, ct := N, bk := D.nx } ρ1) D.ex) : forGo tg tb zs D ρ := by
  have := forGo_ix (fun d => d) I zs 0 ρ (Nat.zero_le _) done step h0
  rwa [List.drop_zero, List.map_id'] at this
/-- two lists of things that are no bells -/
def oddA (f e : Int) : List D := [.non, .int 3, .tup [], .tup [.int f], .tup [.int f, .int e, .int 0], .lst [.int f, .int e], .tup [.int f, .int 0], .tup [.int f, .int (-1)], .tup [.int f, .int 10000], .tup [.int 10000, .int e], .tup [.int (-10000), .int e], .tup [.bl true, .int e]]
def oddB (f e : Int) : List D := [.tup [.int f, .bl true], .tup [.non, .int e], .tup [.int f, .non], .tup [.str "1", .int e], .tup [.int (10 ^ 30), .int e], .tup [.int f, .int (10 ^ 30)]]
theorem nb1 {a b : D} (h : inB (-9999) 9999 a = false) : isBell (.tup [a, b]) = false := by
  show (inB (-9999) 9999 a && inB 1 9999 b) = false
  rw [h]
  rfl
theorem nb2 {a b : D} (h : inB 1 9999 b = false) : isBell (.tup [a, b]) = false := by
  show (inB (-9999) 9999 a && inB 1 9999 b) = false
  rw [h, Bool.and_false]
theorem odd_bad (f e : Int) : ∀ d ∈ oddA f e ++ oddB f e, okA d = true ∧ isBell d = false := fun d hd => by
  unfold oddA oddB at hd
  simp only [List.mem_append, List.mem_cons, List.not_mem_nil, or_false] at hd
  rcases hd with (rfl | rfl | rfl | rfl | rfl | rfl | rfl | rfl | rfl | rfl | rfl | rfl) | (rfl | rfl | rfl | rfl | rfl | rfl)
  · exact ⟨rfl, rfl⟩
  · exact ⟨rfl, rfl⟩
  · exact ⟨rfl, rfl⟩
  · exact ⟨rfl, rfl⟩
  · exact ⟨rfl, rfl⟩
  · exact ⟨rfl, rfl⟩
  · exact ⟨rfl, nb2 rfl⟩
  · exact ⟨rfl, nb2 rfl⟩
  · exact ⟨rfl, nb2 rfl⟩
  · exact ⟨rfl, nb1 rfl⟩
  · exact ⟨rfl, nb1 rfl⟩
  · exact ⟨rfl, nb1 rfl⟩
  · exact ⟨rfl, nb2 rfl⟩
  · exact ⟨rfl, nb1 rfl⟩
  · exact ⟨rfl, nb2 rfl⟩
  · exact ⟨rfl, nb1 rfl⟩
  · exact ⟨rfl, nb1 (by decide +kernel)⟩
  · exact ⟨rfl, nb2 (by decide +kernel)⟩
section
variable {k : Nat} {p : List D} {bs : List (Int × Int)} {i : Nat} {way : Int} {c6 c7 c8 c9 : Option Cell} {Dd : DEnds} {f e : Int} (hb : Bl bs) (hi : i < bs.length) (hw : way = 0 ∨ way = 1 ∨ way = 2 ∨ way = 3)
include hb hi hw
theorem q8 (hp : Pool k p) (hk : k < 2 ^ 39) (hD : ∀ p' c7' c8' c9', Pool (k + 18) p' → Dd.nx (ev p' bs i f e way c6 c7' c8' c9')) : m_law_right_i_8 Dd (ev p bs i f e way c6 c7 c8 c9) := by
  have h4 := fun (k : Nat) (p : List D) (c9 : Option Cell) (Dd : DEnds) (x : D) (hp : Pool k p) (hk : k < 2 ^ 40) (hx : okA x = true) (hx2 : isBell x = false) (hD : ∀ p' c9', Pool (k + 1) p' → Dd.nx (ev p' bs i f e way c6 (some (.val x)) (some (.val (.lst (oddA f e)))) c9')) => q4 (f := f) (e := e) (c6 := c6) (c8 := (some (.val (.lst (oddA f e))))) (c9 := c9) hb hi hw hp hk hx hx2 hD
  have h6 := fun (p : List D) (c7 c9 : Option Cell) (Dd : DEnds) (hD : ∀ c7', Dd.nx (ev p bs i f e way c6 c7' (some (.val (.lst (oddA f e)))) c9)) => q6 (f := f) (e := e) (p := p) (c6 := c6) (c7 := c7) (c8 := (some (.val (.lst (oddA f e))))) (c9 := c9) hb hi hw hD
  unfold m_law_right_i_8 m_law_right_i_7 x_law_right_i_2 x_law_right_i_3
  revert h4 h6
  generalize m_law_right_i_4 = M4
  generalize m_law_right_i_6 = M6
  revert M4 M6
  refine id ?_
  intro M4 M6 h4 h6
  conv => whnf
  repeat ((first | refine ⟨_, rfl, ?_⟩ | refine ⟨small64 (by simp), ?_⟩); conv => whnf)
  show forGo (.nm 7) M4 (oddA f e ++ oddB f e) { nx := M6 Dd, rt := Dd.rt, bk := Dd.bk, ct := Dd.ct, ex := Dd.ex } (ev p bs i f e way c6 c7 (some (.val (.lst (oddA f e)))) c9)
  have hl18 : (oddA f e ++ oddB f e).length = 18 := rfl
  have hbad := odd_bad f e
  generalize oddA f e ++ oddB f e = items at *
  generalize oddA f e = odds at *
  refine forGo_self (fun j ρ => ∃ p' c7' c9', ρ = ev p' bs i f e way c6 c7' (some (.val (.lst odds))) c9' ∧ Pool (k + j) p') items _ ⟨p, c7, c9, rfl, hp⟩ ?_ ?_
  · rintro ρ ⟨p', c7', c9', rfl, hp2⟩
    rw [hl18] at hp2
    exact h6 _ _ _ _ fun c7'' => hD _ _ _ _ hp2
  · rintro j z ρ hz ⟨p', c7', c9', rfl, hp2⟩ N hN
    have hj := (List.getElem?_eq_some_iff.mp hz).1
    have hx := hbad z (List.mem_of_getElem? hz)
    conv => whnf
    refine h4 (k + j) p' c9' _ z hp2 (by omega) hx.1 hx.2 fun p2 c9'' hp3 => ?_
    exact hN _ ⟨_, _, _, rfl, hp3⟩
end
end Lk71
set_option exponentiation.threshold 100000
namespace Lk71
open PySem PySem.Spec PyProof.Rows L2 DL Stairs
def nineB (bs : List (Int × Int)) : List D := ((List.replicate 9 (bs.map pB)).flatten).take 9
theorem nine_len {bs : List (Int × Int)} (h : 1 ≤ bs.length) : (nineB bs).length = 9 := by
  unfold nineB
  rw [List.length_take, List.length_flatten, List.map_replicate, List.sum_replicate_nat, List.length_map]
  omega
theorem fMul_tup {xs : List D} {k : Int} (h : -(2 ^ 63) ≤ k ∧ k < 2 ^ 63 ∧ xs.length * k.toNat ≤ 1000000) : fMul (.tup xs) (.int k) = some (.val (.tup (List.replicate k.toNat xs).flatten)) := if_pos h
theorem fMul9 {bs : List (Int × Int)} (h : bs.length ≤ 8) : fMul (tB bs) (.int 9) = some (.val (.tup (List.replicate 9 (bs.map pB)).flatten)) := by
  have e := fMul_tup (xs := bs.map pB) (k := 9) ⟨by decide, by decide, by
    rw [List.length_map, show Int.toNat 9 = 9 from rfl]
    omega⟩
  rw [show Int.toNat 9 = 9 from rfl] at e
  exact e
/-- things that are no tuple of bells -/
def badB (bs : List (Int × Int)) : List D := [.non, .int 7, .str "", .tup [], .lst (bs.map pB), .tup (nineB bs), .dic [] [], .bl true]
theorem bad_all {bs : List (Int × Int)} (hb : Bl bs) : ∀ d ∈ badB bs, okA d = true ∧ ∃ l, wrongB d = .non :: l := fun d hd => by
  have hl := hb.l
  have hn := nine_len hl.1
  unfold badB at hd
  simp only [List.mem_cons, List.not_mem_nil, or_false] at hd
  rcases hd with rfl | rfl | rfl | rfl | rfl | rfl | rfl | rfl
  · exact ⟨rfl, [], rfl⟩
  · exact ⟨rfl, [], rfl⟩
  · exact ⟨rfl, [], rfl⟩
  · exact ⟨rfl, [], rfl⟩
  · refine ⟨okA_lst.mpr ⟨by rw [List.length_map]; omega, fun x hx => ?_⟩, [], rfl⟩
    obtain ⟨p, hp, rfl⟩ := List.mem_map.mp hx
    rfl
  · refine ⟨okA_tup.mpr ⟨by omega, fun x hx => ?_⟩, [], if_neg (by omega)⟩
    unfold nineB at hx
    obtain ⟨l, h1, h2⟩ := List.mem_flatten.mp (List.mem_of_mem_take hx)
    rw [(List.mem_replicate.mp h1).2] at h2
    obtain ⟨p, hp, rfl⟩ := List.mem_map.mp h2
    rfl
  · exact ⟨rfl, [], rfl⟩
  · exact ⟨rfl, [], rfl⟩
section
variable {k : Nat} {p : List D} {bs : List (Int × Int)} {i : Nat} {way : Int} {c6 c7 c8 c9 : Option Cell} {Dd : DEnds} {f e : Int} (hb : Bl bs) (hi : i < bs.length) (hw : way = 0 ∨ way = 1 ∨ way = 2 ∨ way = 3)
include hb hi hw
theorem q9 (hp : Pool k p) (hk : k < 2 ^ 38) (hD : ∀ p' c7' c8' c9', Pool (k + 26) p' → Dd.nx (ev p' bs i f e way c6 c7' c8' c9')) : m_law_right_i_9 Dd (ev p bs i f e way c6 c7 c8 c9) := by
  have h2 := fun (k : Nat) (p : List D) (c8 c9 : Option Cell) (Dd : DEnds) (x : D) (l : List D) (hp : Pool k p) (hk : k < 2 ^ 40) (hx : okA x = true) (hx2 : wrongB x = .non :: l) (hD : ∀ p', Pool (k + 1) p' → Dd.nx (ev p' bs i f e way c6 (some (.val x)) c8 c9)) => q2 (i := i) (f := f) (e := e) (c6 := c6) (c8 := c8) (c9 := c9) hb hw hp hk hx hx2 hD
  have h8 := fun (k : Nat) (p : List D) (c7 c8 c9 : Option Cell) (Dd : DEnds) (hp : Pool k p) (hk : k < 2 ^ 39) (hD : ∀ p' c7' c8' c9', Pool (k + 18) p' → Dd.nx (ev p' bs i f e way c6 c7' c8' c9')) => q8 (f := f) (e := e) (c6 := c6) (c7 := c7) (c8 := c8) (c9 := c9) hb hi hw hp hk hD
  unfold m_law_right_i_9 x_law_right_i_1
  revert h2 h8
  generalize m_law_right_i_2 = M2
  generalize m_law_right_i_8 = M8
  revert M2 M8
  refine id ?_
  intro M2 M8 h2 h8
  conv => whnf
  refine ⟨small64 (by simp), ?_⟩
  conv => whnf
  (refine ⟨_, rfl, ?_⟩; conv => whnf)
  refine ⟨_, fMul9 hb.l.2, ?_⟩
  conv => whnf
  (refine ⟨_, rfl, ?_⟩; conv => whnf)
  rw [show DL.cutD (List.replicate 9 (bs.map pB)).flatten none (some 9) = nineB bs from oCut_hi _ 9]
  refine ⟨small64 (by simp), ?_⟩
  show forGo (.nm 7) M2 (badB bs) { nx := M8 Dd, rt := Dd.rt, bk := Dd.bk, ct := Dd.ct, ex := Dd.ex } (ev p bs i f e way c6 c7 c8 c9)
  have hl8 : (badB bs).length = 8 := rfl
  have hbad := bad_all hb
  generalize badB bs = items at *
  refine forGo_self (fun j ρ => ∃ p' c7', ρ = ev p' bs i f e way c6 c7' c8 c9 ∧ Pool (k + j) p') items _ ⟨p, c7, rfl, hp⟩ ?_ ?_
  · rintro ρ ⟨p', c7', rfl, hp2⟩
    rw [hl8] at hp2
    exact h8 (k + 8) _ _ _ _ _ hp2 (by omega) fun p2 c7'' c8' c9' hp3 => hD _ _ _ _ hp3
  · rintro j z ρ hz ⟨p', c7', rfl, hp2⟩ N hN
    have hj := (List.getElem?_eq_some_iff.mp hz).1
    obtain ⟨hx, l, hx2⟩ := hbad z (List.mem_of_getElem? hz)
    conv => whnf
    refine h2 (k + j) p' _ _ _ z l hp2 (by omega) hx hx2 fun p2 hp3 => ?_
    exact hN _ ⟨_, _, rfl, hp3⟩
end
end Lk71
set_option exponentiation.threshold 100000
namespace Lk71
open PySem PySem.Spec PyProof.Rows L2 DL Stairs
section
variable {k : Nat} {p : List D} {bs : List (Int × Int)} {i : Nat} {way : Int} {c6 c7 c8 c9 : Option Cell} {Dd : DEnds} {f e : Int} (hb : Bl bs) (hi : i < bs.length) (hw : way = 0 ∨ way = 1 ∨ way = 2 ∨ way = 3)
include hb hi hw
theorem q10 (hp : Pool k p) (hk : k < 2 ^ 38) (hD : ∀ p' c6' c7' c8' c9', Pool (k + 26) p' → Dd.nx (ev p' bs i f e way c6' c7' c8' c9')) : m_law_right_i_10 Dd (ev p bs i f e way c6 c7 c8 c9) := by
  have h1 := fun (p : List D) (c7 c8 c9 : Option Cell) (Dd : DEnds) (t : D) (ht : isI t = true) (hD : Dd.nx (ev p bs i f e way (some (.val t)) c7 c8 c9)) => q1 (i := i) (f := f) (e := e) (c7 := c7) (c8 := c8) (c9 := c9) hb hw ht hD
  have h9 := fun (k : Nat) (p : List D) (c6 c7 c8 c9 : Option Cell) (Dd : DEnds) (hp : Pool k p) (hk : k < 2 ^ 38) (hD : ∀ p' c7' c8' c9', Pool (k + 26) p' → Dd.nx (ev p' bs i f e way c6 c7' c8' c9')) => q9 (f := f) (e := e) (c6 := c6) (c7 := c7) (c8 := c8) (c9 := c9) hb hi hw hp hk hD
  unfold m_law_right_i_10
  revert h1 h9
  generalize m_law_right_i_1 = M1
  generalize m_law_right_i_9 = M9
  revert M1 M9
  refine id ?_
  intro M1 M9 h1 h9
  conv => whnf
  repeat (refine ⟨_, rfl, ?_⟩; conv => whnf)
  refine ⟨small64 (by simp), ?_⟩
  show forGo (.nm 6) M1 [.int 0, .int (-5), .int (10 ^ 39), .int (-10 ^ 39)] { nx := M9 Dd, rt := Dd.rt, bk := Dd.bk, ct := Dd.ct, ex := Dd.ex } (ev p bs i f e way c6 c7 c8 c9)
  have hI : ∀ d ∈ ([.int 0, .int (-5), .int (10 ^ 39), .int (-10 ^ 39)] : List D), isI d = true := fun d hd => by
    simp only [List.mem_cons, List.not_mem_nil, or_false] at hd
    rcases hd with rfl | rfl | rfl | rfl <;> rfl
  generalize ([.int 0, .int (-5), .int (10 ^ 39), .int (-10 ^ 39)] : List D) = items at *
  refine forGo_self (fun j ρ => ∃ c6', ρ = ev p bs i f e way c6' c7 c8 c9) items _ ⟨c6, rfl⟩ ?_ ?_
  · rintro ρ ⟨c6', rfl⟩
    exact h9 k _ _ _ _ _ _ hp hk fun p2 c7' c8' c9' hp3 => hD _ _ _ _ _ hp3
  · rintro j z ρ hz ⟨c6', rfl⟩ N hN
    conv => whnf
    refine h1 p _ _ _ _ z (hI z (List.mem_of_getElem? hz)) ?_
    exact hN _ ⟨_, rfl⟩
end
theorem q11 {k : Nat} {p : List D} {bs : List (Int × Int)} {i : Nat} {c5 c6 c7 c8 c9 : Option Cell} {Dd : DEnds} {f e : Int} (hb : Bl bs) (hi : i < bs.length) (hp : Pool k p) (hk : k < 2 ^ 37) (hD : ∀ ρ, Dd.rt (.val (.bl true)) ρ) :
    m_law_right_i_11 Dd [some (.own p), some (.val (tB bs)), some (.val (.int (i : Nat))), some (.val (.int f)), some (.val (.int e)), c5, c6, c7, c8, c9] := by
  have h10 := fun (k : Nat) (p : List D) (way : Int) (c6 c7 c8 c9 : Option Cell) (Dd : DEnds) (hw : way = 0 ∨ way = 1 ∨ way = 2 ∨ way = 3) (hp : Pool k p) (hk : k < 2 ^ 38) (hD : ∀ p' c6' c7' c8' c9', Pool (k + 26) p' → Dd.nx (ev p' bs i f e way c6' c7' c8' c9')) => q10 (f := f) (e := e) (c6 := c6) (c7 := c7) (c8 := c8) (c9 := c9) hb hi hw hp hk hD
  unfold m_law_right_i_11
  revert h10
  generalize m_law_right_i_10 = M10
  revert M10
  refine id ?_
  intro M10 h10
  conv => whnf
  refine ⟨⟨by decide, by decide⟩, ?_⟩
  refine forGo_ix (fun i => D.int (0 + (i : Nat))) (fun j ρ => ∃ p' c5' c6' c7' c8' c9', ρ = [some (.own p'), some (.val (tB bs)), some (.val (.int (i : Nat))), some (.val (.int f)), some (.val (.int e)), c5', c6', c7', c8', c9'] ∧ Pool (k + 26 * j) p') (List.range (Int.toNat 4)) 0 _ (Nat.zero_le _) ?_ ?_ ⟨p, c5, c6, c7, c8, c9, rfl, hp⟩
  · rintro ρ ⟨p', c5, c6, c7, c8, c9, rfl, hp2⟩
    exact hD _
  · rintro j z ρ hz ⟨p', c5, c6, c7, c8, c9, rfl, hp2⟩ N hN
    obtain ⟨hj, rfl⟩ : j < 4 ∧ z = j := by
      have := List.getElem?_eq_some_iff.mp hz
      obtain ⟨q1, q2⟩ := this
      rw [List.length_range] at q1
      rw [List.getElem_range] at q2
      exact ⟨q1, q2.symm⟩
    refine h10 (k + 26 * z) p' (0 + (z : Nat)) c6 c7 c8 c9 _ (by omega) hp2 (by omega) fun p2 c6' c7' c8' c9' hp3 => ?_
    exact hN _ ⟨_, _, _, _, _, _, rfl, hp3.mono (by omega)⟩
end Lk71
set_option exponentiation.threshold 100000
namespace Lk71
open PySem PySem.Spec PyProof.Rows L2 DL Stairs
theorem s_right {ds : List D} (hp : Pool 0 ds) {Qd : Cell → Outs → Prop} {Ed : Str → List (Str × D) → Outs → Prop} (h : ∀ o, Qd (.val (.bl true)) o) : w_law_right_i [.own ds] Qd Ed := by
  have h11 := fun (k : Nat) (p : List D) (bs : List (Int × Int)) (i : Nat) (f e : Int) (c5 c6 c7 c8 c9 : Option Cell) (Dd : DEnds) (hb : Bl bs) (hi : i < bs.length) (hp : Pool k p) (hk : k < 2 ^ 37) (hD : ∀ ρ, Dd.rt (.val (.bl true)) ρ) => q11 (c5 := c5) (c6 := c6) (c7 := c7) (c8 := c8) (c9 := c9) (f := f) (e := e) hb hi hp hk hD
  unfold w_law_right_i m_law_right_i
  conv => whnf
  refine s_bells hp (by decide) fun b0 o hbl hbx hp1 => ?_
  conv => whnf
  refine ⟨small64 (by simp), ?_⟩
  conv => whnf
  (refine ⟨_, rfl, ?_⟩; conv => whnf)
  refine ⟨small64 (by simp), ?_⟩
  conv => whnf
  refine ⟨small64 (by simp), ?_⟩
  conv => whnf
  refine ⟨_, fAdd_tup (xs := b0.map pB) (ys := [pB (9999, 9999), pB (-9999, 1)]) (small64 (by rw [List.length_map]; simp; omega)), ?_⟩
  rw [show b0.map pB ++ [pB (9999, 9999), pB (-9999, 1)] = (b0 ++ [(9999, 9999), (-9999, 1)]).map pB by rw [List.map_append]; rfl]
  conv => whnf
  show m_law_right_i_14 _ [some (.own (o 0)), some (.val (tB (b0 ++ [(9999, 9999), (-9999, 1)]))), none, none, none, none, none, none, none, none]
  generalize o 0 = p1 at hp1 ⊢
  have hB : ∀ p ∈ b0 ++ [((9999 : Int), (9999 : Int)), (-9999, 1)], (-9999 ≤ p.1 ∧ p.1 ≤ 9999) ∧ 1 ≤ p.2 ∧ p.2 ≤ 9999 := fun p hp => by
    rcases List.mem_append.mp hp with z | z
    · exact hbx p z
    · simp only [List.mem_cons, List.not_mem_nil, or_false] at z
      rcases z with rfl | rfl
      · decide
      · decide
  have hL : 3 ≤ (b0 ++ [((9999 : Int), (9999 : Int)), (-9999, 1)]).length := by
    rw [List.length_append]
    show 3 ≤ b0.length + 2
    omega
  generalize b0 ++ [((9999 : Int), (9999 : Int)), (-9999, 1)] = b1 at hB hL ⊢
  unfold m_law_right_i_14
  conv => whnf
  refine s_take hp1 (by omega) (by decide) (many_pow (by decide) (by decide)) fun r o2 h2 h3 hp2 => ?_
  conv => whnf
  repeat (refine ⟨_, rfl, ?_⟩; conv => whnf)
  obtain ⟨m, hm⟩ : ∃ m : Nat, 1 + r = (m : Nat) := ⟨(1 + r).toNat, by omega⟩
  rw [hm, cut_a, ← List.map_take]
  show m_law_right_i_13 _ [some (.own (o2 0)), some (.val (tB (b1.take m))), none, none, none, none, none, none, none, none]
  generalize o2 0 = p2 at hp2 ⊢
  have hb : Bl (b1.take m) := ⟨by rw [List.length_take]; omega, fun p hp => hB p (List.mem_of_mem_take hp)⟩
  generalize b1.take m = bs at hb ⊢
  have hl := hb.l
  unfold m_law_right_i_13
  conv => whnf
  (refine ⟨_, rfl, ?_⟩; conv => whnf)
  rw [List.length_map]
  refine s_take hp2 (by omega) (by omega) (many_pow (by omega) (by omega)) fun i o3 h4 h5 hp3 => ?_
  obtain ⟨j, rfl⟩ := Int.eq_ofNat_of_zero_le h4
  have hj : j < bs.length := by omega
  conv => whnf
  show m_law_right_i_12 _ [some (.own (o3 0)), some (.val (tB bs)), some (.val (.int (j : Nat))), none, none, none, none, none, none, none]
  generalize o3 0 = p3 at hp3 ⊢
  unfold m_law_right_i_12
  conv => whnf
  refine ⟨_, fIx_tup (d := pB bs[j]) (by rw [List.getElem?_map, List.getElem?_eq_getElem hj]; rfl), ?_⟩
  conv => whnf
  refine ⟨rfl, ?_⟩
  exact h11 _ p3 bs j bs[j].1 bs[j].2 none none none none none _ hb hj hp3 (by omega) fun ρ => h _
theorem law_pure (ns : List Int) (hl : ns.length ≤ 63) (hb : ∀ i ∈ ns, Builtin.Int.intBits i ≤ 1048576) : w_law (lawD ns) (fun c _ => c = .val (.bl true)) (fun _ _ _ => False) := by
  unfold w_law m_law
  conv => whnf
  repeat (refine ⟨_, rfl, ?_⟩; conv => whnf)
  have key : ∀ m : Int, (m = (((ns.map D.int).length : Nat) : Int) ∨ m = 4 ∨ m = 2) → 0 ≤ m ∧ m ≤ 63 := fun m hm => by
    rw [List.length_map] at hm
    omega
  have hm : (if (if (4 : Int) < (((ns.map D.int).length : Nat) : Int) then (4 : Int) else (((ns.map D.int).length : Nat) : Int)) > 2 then (if (4 : Int) < (((ns.map D.int).length : Nat) : Int) then (4 : Int) else (((ns.map D.int).length : Nat) : Int)) else 2) ≤ 63 ∧ 0 ≤ (if (if (4 : Int) < (((ns.map D.int).length : Nat) : Int) then (4 : Int) else (((ns.map D.int).length : Nat) : Int)) > 2 then (if (4 : Int) < (((ns.map D.int).length : Nat) : Int) then (4 : Int) else (((ns.map D.int).length : Nat) : Int)) else 2) := by
    rw [List.length_map]
    split <;> split <;> omega
  generalize (if (if (4 : Int) < (((ns.map D.int).length : Nat) : Int) then (4 : Int) else (((ns.map D.int).length : Nat) : Int)) > 2 then (if (4 : Int) < (((ns.map D.int).length : Nat) : Int) then (4 : Int) else (((ns.map D.int).length : Nat) : Int)) else 2) = m at hm ⊢
  refine ⟨⟨by omega, by omega⟩, ?_⟩
  conv => whnf
  refine ⟨rfl, ?_⟩
  refine lcGo_enc (fun i => D.int (0 + (i : Nat))) (fun _ => D.bl true) (List.range m.toNat) [] (fun z hz Kt Kf hK => ?_) (small64 (by simp; omega)) ?_
  · have hz2 : z < m.toNat := by simpa using hz
    conv => whnf
    rw [Int.zero_add]
    refine s_well ns z (by omega) hl fun ds o hp => ?_
    conv => whnf
    refine s_right hp fun o => ?_
    exact hK
  · conv => whnf
    refine ⟨_, all_map_true _, ?_⟩
    rfl
end Lk71
open PySem PySem.W PySem.Calls PyProof.Rows
theorem PySem.Challenge.cw_packtags_k71_bells_refused_holds : PySem.Challenge.rw_packtags_k71_bells_refused.Holds := by
  w_on; o_law
  refine HandSHeadRun.head_imp (r := OpenLaw.row PySem.Challenge.rw_packtags_k71_bells_refused) (q := view (OpenLaw.row PySem.Challenge.rw_packtags_k71_bells_refused).prog [58]) (H := Lk71.hk) (ob := Lk71.ob) (M := 5000) (loose := Lk71.loose) (d := HandSHeadRun.topDef (OpenLaw.row PySem.Challenge.rw_packtags_k71_bells_refused).prog 58) (kwd := []) Lk71.ob_eq
    Lk71.run (by kernel_rfl) (by kernel_rfl) (by kernel_rfl) (by rfl) (by first | assumption | decide +kernel) (by decide +kernel) ⟨rfl, rfl, rfl, rfl, rfl, by decide +kernel⟩ ?hw ?hc
  case hw => w_witness2
  case hc =>
    refine DL.walk_ofM (l := PySem.Challenge.rw_packtags_k71_bells_refused) (n := 63) (k := 15) (x := "script") (CX := fun w => L2.CX PySem.Challenge.rw_packtags_k71_bells_refused.prog w) rfl (by decide) (by kernel_rfl) ⟨rfl, by decide, by decide⟩ ?F ?X
    case X => exact fun w H s e s' ⟨_, _, _, _, _, _, _, _, _, _, _, _, z⟩ => z
    intro w mg fa h Y G hmg0
    obtain ⟨K, KX, c⟩ := Y
    have hmg : mg ("law" : PySem.Str) = some (.ref fa) := by
      have e : (HandSHeadRun.topDef (OpenLaw.row PySem.Challenge.rw_packtags_k71_bells_refused).prog 58).name = ("law" : PySem.Str) := by kernel_rfl
      rw [← e]
      exact hmg0
    obtain ⟨fd, gl, hb, hF⟩ := DL.law_def_of (fun base Z => Lk71.ok_law (P := PySem.Challenge.rw_packtags_k71_bells_refused.prog) (w := w) (base := base) Z) KX G c (fun _ _ _ _ _ _ us hl => match us, hl with | [_], _ => rfl)
    have e := hmg.symm.trans gl
    cases e
    exact ⟨K, fd, _, KX, hb, fun H a ns hl hbits hS => DL.law_sp hS (Lk71.law_pure ns hl hbits), hF⟩
