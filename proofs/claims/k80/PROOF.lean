import PyProof.Rows.All
import Wide.All
import OpenK.AllK
import Wide.FinOn
import PyProof.EqAt
import PyProof.EqKinds
import PyProof.TupleCall
import HandS.ForMost
import HandS.ForExc
import HandS.Wide
import HandS.WideBits
import HandS.IsInst
import HandS.Gcd
import HandS.TupAny
import HandS.TupMul
import HandS.Deep
import HandS.Flow
import HandS.Style
import HandS.Zip
import HandS.Defaults
import HandS.ExcInit
import HandS.ExcField
import HandS.TryMany
import HandS.SortInts
import KE.KStateDown
import HandS.Head0
import HandS.Head1
import HandS.Head2
import HandS.Head3
import HandS.HeadEnd
import HandS.EndBits
import HandS.Words
import HandS.WordsExc
import HandS.HeadHook1
import HandS.HeadHook2
import KE.GoesNew
import HandS.Dict
import HandS.RaiseMore
import HandS.Exc
import HandS.Star
import HandS.Sort
import HandS.WordsDict
import HandS.DictComp
import HandS.Text
import HandS.HotCalls
import KE.KExcIs
import KE.DatumOrd
import HandS.More
import PyProof.P3Eq
import KE.IntTextLaws
import PySem.Challenge.RW_packtags_k80_whole_texts_of_rows_and_fra
set_option Elab.async false
set_option linter.all false
set_option maxRecDepth 100000
set_option maxHeartbeats 0
/-! The data layer: data D, how it lies in a heap, the state of a body, the readings. -/
namespace DL
open PySem PySem.Spec PyProof.Rows L2
/-- data: what a value is, through and through -/
inductive D where
  | non | bl (b : Bool) | int (i : Int) | str (x : Str)
  | tup (xs : List D) | lst (xs : List D) | dic (ks : List Key) (vs : List D)
  /-- a list that is only read (the script); a built-in class -/
  | fix (xs : List D) | ty (n : String)
  /-- an instance that is only read: its class, its attributes in order; an address -/
  | obj (c : Str) (fs : List Str) (vs : List D) | adr (a : Addr)
  /-- a range object -/
  | rng (lo hi : Int)
/-! ### how data lies -/
mutual
def Rp (K : PySem.W.Frag) (F : Hp) : D → V → Prop
  | .non, v => v = .non
  | .bl b, v => v = .bl b
  | .int i, v => v = .int i
  | .str x, v => v = .str x
  | .tup ds, v => ∃ a vs, v = .ref a ∧ SqT K F a vs ∧ RpL K F ds vs
  | .lst ds, v => ∃ a vs, v = .ref a ∧ F a = some (.lst vs) ∧ RpL K F ds vs
  | .fix ds, v => ∃ a vs, v = .ref a ∧ SqL K F a vs ∧ RpL K F ds vs
  | .ty n, v => v = .ty n
  | .dic ks ds, v => ∃ a vs, v = .ref a ∧ F a = some (.dK (ks.zip vs)) ∧ ks.length = vs.length ∧ RpL K F ds vs
  | .obj c fs ds, v => ∃ a dx vs, v = .ref a ∧ F a = some (.ins (He.ga K c) dx (fs.zip vs)) ∧ fs.length = vs.length ∧ RpL K F ds vs
  | .adr a, v => v = .ref a
  | .rng lo hi, v => ∃ a, v = .ref a ∧ F a = some (.rng lo hi)
def RpL (K : PySem.W.Frag) (F : Hp) : List D → List V → Prop
  | [], vs => vs = []
  | d :: ds, vs => ∃ v r, vs = v :: r ∧ Rp K F d v ∧ RpL K F ds r
end
theorem RpL.length {K : PySem.W.Frag} {F : Hp} : ∀ {ds : List D} {vs : List V}, RpL K F ds vs → ds.length = vs.length
  | [], _, h => by
    have e : _ = [] := h
    subst e
    rfl
  | d :: ds, vs, h => by
    obtain ⟨v, r, rfl, _, t⟩ := h
    rw [List.length_cons, List.length_cons, RpL.length t]
theorem Same.tseq {K : PySem.W.Frag} {H H' : Hp} {a : Addr} {xs : List V} (e : Same H H') (h : SqT K H a xs) : SqT K H' a xs := by
  rcases h with (h | ⟨o, h⟩) | h
  · exact .inl (.inl (e _ _ h))
  · exact .inl (.inr ⟨o, e _ _ h⟩)
  · exact .inr h
mutual
theorem Rp.mono {K : PySem.W.Frag} {F F' : Hp} (s : Same F F') : ∀ {d : D} {v : V}, Rp K F d v → Rp K F' d v
  | .non, _, h => h
  | .bl _, _, h => h
  | .int _, _, h => h
  | .str _, _, h => h
  | .tup ds, _, h => by
    obtain ⟨a, vs, e, q, r⟩ := h
    exact ⟨a, vs, e, Same.tseq s q, RpL.mono s r⟩
  | .ty _, _, h => h
  | .fix ds, _, h => by
    obtain ⟨a, vs, e, q, r⟩ := h
    exact ⟨a, vs, e, s.seq q, RpL.mono s r⟩
  | .lst ds, _, h => by
    obtain ⟨a, vs, e, q, r⟩ := h
    exact ⟨a, vs, e, s _ _ q, RpL.mono s r⟩
  | .dic ks ds, _, h => by
    obtain ⟨a, vs, e, q, l, r⟩ := h
    exact ⟨a, vs, e, s _ _ q, l, RpL.mono s r⟩
  | .obj c fs ds, _, h => by
    obtain ⟨a, dx, vs, e, q, l, r⟩ := h
    exact ⟨a, dx, vs, e, s _ _ q, l, RpL.mono s r⟩
  | .adr _, _, h => h
  | .rng _ _, _, h => by
    obtain ⟨a, e, q⟩ := h
    exact ⟨a, e, s _ _ q⟩
theorem RpL.mono {K : PySem.W.Frag} {F F' : Hp} (s : Same F F') : ∀ {ds : List D} {vs : List V}, RpL K F ds vs → RpL K F' ds vs
  | [], _, h => h
  | d :: ds, _, h => by
    obtain ⟨v, r, e, h1, h2⟩ := h
    exact ⟨v, r, e, Rp.mono s h1, RpL.mono s h2⟩
end
theorem RpL.get {K : PySem.W.Frag} {F : Hp} : ∀ {ds : List D} {vs : List V} {i : Nat} {d : D}, RpL K F ds vs → ds[i]? = some d → ∃ v, vs[i]? = some v ∧ Rp K F d v
  | [], _, _, _, _, e => by simp at e
  | d :: ds, _, 0, x, h, e => by
    obtain ⟨v, r, rfl, h1, h2⟩ := h
    simp at e
    subst e
    exact ⟨v, rfl, h1⟩
  | d :: ds, _, i + 1, x, h, e => by
    obtain ⟨v, r, rfl, h1, h2⟩ := h
    obtain ⟨u, e2, h3⟩ := RpL.get h2 (i := i) (d := x) (by simpa using e)
    exact ⟨u, by simpa using e2, h3⟩
theorem RpL.append {K : PySem.W.Frag} {F : Hp} : ∀ {ds es : List D} {vs us : List V}, RpL K F ds vs → RpL K F es us → RpL K F (ds ++ es) (vs ++ us)
  | [], _, _, _, h, g => by
    have e : _ = [] := h
    subst e
    exact g
  | d :: ds, _, _, _, h, g => by
    obtain ⟨v, r, rfl, h1, h2⟩ := h
    exact ⟨v, r ++ _, rfl, h1, RpL.append h2 g⟩
theorem RpL.take {K : PySem.W.Frag} {F : Hp} : ∀ (n : Nat) {ds : List D} {vs : List V}, RpL K F ds vs → RpL K F (ds.take n) (vs.take n)
  | 0, _, _, _ => rfl
  | n + 1, [], _, h => by
    have e : _ = [] := h
    subst e
    rfl
  | n + 1, d :: ds, _, h => by
    obtain ⟨v, r, rfl, h1, h2⟩ := h
    exact ⟨v, r.take n, rfl, h1, RpL.take n h2⟩
theorem RpL.drop {K : PySem.W.Frag} {F : Hp} : ∀ (n : Nat) {ds : List D} {vs : List V}, RpL K F ds vs → RpL K F (ds.drop n) (vs.drop n)
  | 0, _, _, h => h
  | n + 1, [], _, h => by
    have e : _ = [] := h
    subst e
    rfl
  | n + 1, d :: ds, _, h => by
    obtain ⟨v, r, rfl, h1, h2⟩ := h
    exact RpL.drop n h2
theorem RpL.set {K : PySem.W.Frag} {F : Hp} {d : D} {v : V} (hd : Rp K F d v) : ∀ (n : Nat) {ds : List D} {vs : List V}, RpL K F ds vs → RpL K F (ds.set n d) (vs.set n v)
  | _, [], _, h => by
    have e : _ = [] := h
    subst e
    rfl
  | 0, d :: ds, _, h => by
    obtain ⟨v, r, rfl, h1, h2⟩ := h
    exact ⟨_, r, rfl, hd, h2⟩
  | n + 1, d :: ds, _, h => by
    obtain ⟨v, r, rfl, h1, h2⟩ := h
    exact ⟨v, _, rfl, h1, RpL.set hd n h2⟩
theorem RpL.reverse {K : PySem.W.Frag} {F : Hp} : ∀ {ds : List D} {vs : List V}, RpL K F ds vs → RpL K F ds.reverse vs.reverse
  | [], _, h => by
    have e : _ = [] := h
    subst e
    rfl
  | d :: ds, _, h => by
    obtain ⟨v, r, rfl, h1, h2⟩ := h
    rw [List.reverse_cons, List.reverse_cons]
    exact RpL.append (RpL.reverse h2) ⟨v, [], rfl, h1, rfl⟩
theorem RpL.ints {K : PySem.W.Frag} {F : Hp} : ∀ ns : List Int, RpL K F (ns.map D.int) (ns.map V.int)
  | [] => rfl
  | n :: ns => ⟨.int n, ns.map V.int, rfl, rfl, RpL.ints ns⟩
theorem RpL.to_ints {K : PySem.W.Frag} {F : Hp} : ∀ {ns : List Int} {vs : List V}, RpL K F (ns.map D.int) vs → vs = ns.map V.int
  | [], _, h => h
  | n :: ns, _, h => by
    obtain ⟨v, r, rfl, h1, h2⟩ := h
    have e1 : v = .int n := h1
    rw [e1, RpL.to_ints h2]
    rfl
theorem RpL.one {K : PySem.W.Frag} {F : Hp} {d : D} {v : V} (h : Rp K F d v) : RpL K F [d] [v] := ⟨v, [], rfl, h, rfl⟩
/-- .. seen from above: a list may be one's own -/
def RpV (K : PySem.W.Frag) (F H : Hp) : D → V → Prop
  | .lst ds, v => ∃ a vs, v = .ref a ∧ H a = some (.lst vs) ∧ RpL K F ds vs
  | d, v => Rp K F d v
theorem Rp.view {K : PySem.W.Frag} {F H : Hp} (s : Same F H) : ∀ {d : D} {v : V}, Rp K F d v → RpV K F H d v
  | .non, _, h => h
  | .bl _, _, h => h
  | .int _, _, h => h
  | .str _, _, h => h
  | .tup _, _, h => h
  | .dic _ _, _, h => h
  | .fix _, _, h => h
  | .ty _, _, h => h
  | .obj _ _ _, _, h => h
  | .adr _, _, h => h
  | .rng _ _, _, h => h
  | .lst ds, _, h => by
    obtain ⟨a, vs, e, q, r⟩ := h
    exact ⟨a, vs, e, s _ _ q, r⟩
/-! ### a body's state -/
/-- what stands at a name: data, or a list of one's own -/
inductive Cell where
  | val (d : D) | own (ds : List D)
def Cell.toD : Cell → D
  | .val d => d
  | .own ds => .lst ds
abbrev En := List (Option Cell)
/-- fixed through a body: the written part, the heap and the still part of it at the entry, the parameters that are lists handed over, their addresses -/
structure Bd where
  K : PySem.W.Frag
  H0 : Hp
  F0 : Hp
  ios : List Nat
  ad : Nat → Addr
abbrev La := Nat → Option Addr
def SlotR (B : Bd) (F H : Hp) : Option Cell → Option V → Option Addr → Prop
  | none, _, l => l = none
  | some (.val d), s, l => l = none ∧ ∃ v, s = some v ∧ Rp B.K F d v
  | some (.own ds), s, l => ∃ a vs, s = some (.ref a) ∧ l = some a ∧ H a = some (.lst vs) ∧ F a = none ∧ RpL B.K F ds vs ∧ ((∃ j ∈ B.ios, B.ad j = a) ∨ B.H0 a = none)
structure SR (B : Bd) (F : Hp) (L : La) (σ : L2.St) (H : Hp) (ρ : En) : Prop where
  len : ρ.length = σ.length
  sub : Same F H
  slot : ∀ i, SlotR B F H (ρ.getD i none) (σ.getD i none) (L i)
  inj : ∀ i j a, L i = some a → L j = some a → i = j
  f0 : Same B.F0 F
  fn : ∀ a o, F a = some o → B.F0 a = some o ∨ B.H0 a = none
  keep : ∀ a o, B.H0 a = some o → (∀ j ∈ B.ios, B.ad j ≠ a) → H a = some o
  io : ∀ j ∈ B.ios, L j = some (B.ad j)
  al : ∀ a, B.H0 a ≠ none → H a ≠ none
/-- from one state of an expression's evaluation to the next -/
structure Stp (F : Hp) (L : La) (H F' : Hp) (L' : La) (H' : Hp) : Prop where
  f : Same F F'
  l : ∀ i a, L' i = some a → L i = some a
  h : ∀ b o, H b = some o → (∀ i, L i ≠ some b) → H' b = some o
  fn : ∀ b o, F' b = some o → F b = some o ∨ H b = none ∨ ∃ i, L i = some b
  al : ∀ b, H b ≠ none → H' b ≠ none
theorem Stp.refl (F : Hp) (L : La) (H : Hp) : Stp F L H F L H := ⟨Same.refl F, fun _ _ h => h, fun _ _ h _ => h, fun _ _ h => .inl h, fun _ h => h⟩
theorem Stp.trans {F F1 F2 H H1 H2 : Hp} {L L1 L2 : La} (a : Stp F L H F1 L1 H1) (b : Stp F1 L1 H1 F2 L2 H2) : Stp F L H F2 L2 H2 where
  f := a.f.trans b.f
  l := fun i x h => a.l i x (b.l i x h)
  h := fun x o e n => b.h x o (a.h x o e n) fun i q => n i (a.l i x q)
  fn := fun x o e => by
    rcases b.fn x o e with q | q | ⟨i, q⟩
    · exact a.fn x o q
    · refine .inr (.inl ?_)
      cases e2 : H x with
      | none => rfl
      | some u => exact absurd q (a.al x (by rw [e2]; simp))
    · exact .inr (.inr ⟨i, a.l i x q⟩)
  al := fun x h => b.al x (a.al x h)
/-- new things are laid: F and H grow -/
structure Grow (F H F' H' : Hp) : Prop where
  f : Same F F'
  h : Same H H'
  fn : ∀ b o, F' b = some o → F b = some o ∨ H b = none
theorem Grow.refl (F H : Hp) : Grow F H F H := ⟨Same.refl F, Same.refl H, fun _ _ h => .inl h⟩
theorem Grow.stp {F H F' H' : Hp} {L : La} (g : Grow F H F' H') : Stp F L H F' L H' :=
  ⟨g.f, fun _ _ h => h, fun b o e _ => g.h b o e, fun b o e => (g.fn b o e).imp id .inl, fun b n => by
    cases e : H b with
    | none => exact absurd e n
    | some o => rw [g.h b o e]; simp⟩
theorem same_upd {H : Hp} {p : Addr} {o : HO} (h : H p = none) : Same H (upd H p o) := fun b x e => by
  rw [upd_ne (ne_of_none e h)]
  exact e
theorem Grow.none {F H F' H' : Hp} (g : Grow F H F' H') {a : Addr} (h : H a ≠ none) (f : F a = none) : F' a = none := by
  cases e : F' a with
  | none => rfl
  | some o =>
    rcases g.fn a o e with q | q
    · rw [f] at q; cases q
    · exact absurd q h
theorem Grow.trans {F F1 F2 H H1 H2 : Hp} (a : Grow F H F1 H1) (b : Grow F1 H1 F2 H2) : Grow F H F2 H2 :=
  ⟨a.f.trans b.f, a.h.trans b.h, fun x o e => by
    rcases b.fn x o e with q | q
    · exact a.fn x o q
    · exact .inr (a.h.free q)⟩
theorem SlotR.grow {B : Bd} {F H F' H' : Hp} (g : Grow F H F' H') : ∀ {c : Option Cell} {s : Option V} {l : Option Addr}, SlotR B F H c s l → SlotR B F' H' c s l
  | none, _, _, h => h
  | some (.val d), _, _, h => by
    obtain ⟨h1, v, h2, h3⟩ := h
    exact ⟨h1, v, h2, h3.mono g.f⟩
  | some (.own ds), _, _, h => by
    obtain ⟨a, vs, h1, h2, h3, h4, h5, h6⟩ := h
    exact ⟨a, vs, h1, h2, g.h _ _ h3, g.none (by rw [h3]; simp) h4, h5.mono g.f, h6⟩
theorem SR.grow {B : Bd} {F H F' H' : Hp} {L : La} {σ : L2.St} {ρ : En} (S : SR B F L σ H ρ) (g : Grow F H F' H') (sub : Same F' H') : SR B F' L σ H' ρ where
  len := S.len
  sub := sub
  slot := fun i => (S.slot i).grow g
  inj := S.inj
  f0 := S.f0.trans g.f
  fn := fun a o e => by
    rcases g.fn a o e with q | q
    · exact S.fn a o q
    · refine .inr ?_
      cases e2 : B.H0 a with
      | none => rfl
      | some u => exact absurd q (S.al a (by rw [e2]; simp))
  keep := fun a o e n => g.h _ _ (S.keep a o e n)
  io := S.io
  al := fun a n => by
    have q := S.al a n
    cases e : H a with
    | none => exact absurd e q
    | some o => rw [g.h a o e]; simp
theorem SR.own {B : Bd} {F H : Hp} {L : La} {σ : L2.St} {ρ : En} (S : SR B F L σ H ρ) {i : Nat} {a : Addr} (h : L i = some a) :
    ∃ ds vs, ρ.getD i none = some (.own ds) ∧ σ.getD i none = some (.ref a) ∧ H a = some (.lst vs) ∧ F a = none ∧ RpL B.K F ds vs ∧ ((∃ j ∈ B.ios, B.ad j = a) ∨ B.H0 a = none) := by
  have q := S.slot i
  cases e : ρ.getD i none with
  | none =>
    rw [e] at q
    have z : L i = none := q
    rw [h] at z
    cases z
  | some c =>
    rw [e] at q
    cases c with
    | val d =>
      obtain ⟨z, _⟩ := q
      rw [h] at z
      cases z
    | own ds =>
      obtain ⟨b, vs, h1, h2, h3, h4, h5, h6⟩ := q
      rw [h] at h2
      cases h2
      exact ⟨ds, vs, rfl, h1, h3, h4, h5, h6⟩
/-! ### exceptions -/
/-- a raised one: its class by name, its attributes -/
abbrev DX := Str → List (Str × D) → En → Prop
def ExcR (K : PySem.W.Frag) (F H : Hp) (c : Str) (fs : List (Str × D)) (cls : Value) (dd : Option Addr) : Prop :=
  cls = .ref (He.ga K c) ∧ ((fs = [] ∧ dd = none) ∨ ∃ d fv, dd = some d ∧ H d = some (.xd fv) ∧ fv.map (·.1) = fs.map (·.1) ∧ RpL K F (fs.map (·.2)) (fv.map (·.2)))
def XOk (B : Bd) (W : WX) (F : Hp) (E : DX) : Prop := ∀ c fs ρ' cls dd σ' F' L' H', E c fs ρ' → SR B F' L' σ' H' ρ' → Same F F' → ExcR B.K F' H' c fs cls dd → W cls dd σ' H'
theorem XOk.mono {B : Bd} {W : WX} {F F' : Hp} {E : DX} (x : XOk B W F E) (s : Same F F') : XOk B W F' E := fun c fs ρ' cls dd σ' F2 L' H' e S q r => x c fs ρ' cls dd σ' F2 L' H' e S (s.trans q) r
/-! ### readings -/
abbrev DQ := D → En → Prop
abbrev DE := En → DQ → DX → Prop
abbrev CQ := Cell → En → Prop
abbrev DC := En → CQ → DX → Prop
abbrev DT := En → (Bool → En → Prop) → DX → Prop
/-- an expression of data -/
def rV (B : Bd) (W : WX) (t : DE) : TE := fun σ H Q => ∃ F L ρ Qd Ed, SR B F L σ H ρ ∧ t ρ Qd Ed ∧
  (∀ d ρ' v F' L' H', Qd d ρ' → SR B F' L' σ H' ρ' → Stp F L H F' L' H' → Rp B.K F' d v → Q v H') ∧ XOk B W F Ed
/-- how a result lies: data; or a list that no name holds -/
def ResC (B : Bd) (F : Hp) (L : La) (H F' : Hp) (L' : La) (H' : Hp) : Cell → V → Prop
  | .val d, v => Rp B.K F' d v
  | .own ds, v => ∃ a vs, v = .ref a ∧ H' a = some (.lst vs) ∧ F' a = none ∧ (∀ i, L' i ≠ some a) ∧ B.H0 a = none ∧ RpL B.K F' ds vs ∧ (H a = none ∨ ∃ i, L i = some a)
def rC (B : Bd) (W : WX) (t : DC) : TE := fun σ H Q => ∃ F L ρ Qd Ed, SR B F L σ H ρ ∧ t ρ Qd Ed ∧
  (∀ c ρ' v F' L' H', Qd c ρ' → SR B F' L' σ H' ρ' → Stp F L H F' L' H' → ResC B F L H F' L' H' c v → Q v H') ∧ XOk B W F Ed
def rT (B : Bd) (W : WX) (t : DT) : TT := fun σ H Q => ∃ F L ρ Qd Ed, SR B F L σ H ρ ∧ t ρ Qd Ed ∧
  (∀ b ρ' F' L' H', Qd b ρ' → SR B F' L' σ H' ρ' → Stp F L H F' L' H' → Q b H') ∧ XOk B W F Ed
/-! weaker readings -/
section
variable {X : Cx} {e : Expr}
theorem pe_imp {t u : TE} (h : PE X e t) (i : ∀ σ H Q, u σ H Q → t σ H Q) : PE X e u := ⟨fun pins s σ H Q I q => h.run pins s σ H Q I (i σ H Q q)⟩
theorem pt_imp {t u : TT} (h : PT X e t) (i : ∀ σ H Q, u σ H Q → t σ H Q) : PT X e u := ⟨fun pins s σ H Q I q => h.run pins s σ H Q I (i σ H Q q)⟩
theorem pw_imp {t u : TT} (h : PW X e t) (i : ∀ σ H Q, u σ H Q → t σ H Q) : PW X e u := ⟨fun wh pins s σ H Q I q => h.run wh pins s σ H Q I (i σ H Q q)⟩
theorem pa_imp {es : List Expr} {t u : TA} (h : PA X es t) (i : ∀ σ H Q, u σ H Q → t σ H Q) : PA X es u := ⟨fun pos pins s σ H Q I q => h.run pos pins s σ H Q I (i σ H Q q)⟩
theorem ps_imp {st : Stmt} {t u : TS} (h : PS X st t) (i : ∀ D σ H, u D σ H → t D σ H) : PS X st u := ⟨fun pins s σ H D I q => h.run pins s σ H D I (i D σ H q)⟩
theorem pss_imp {st : List Stmt} {t u : TS} (h : PSs X st t) (i : ∀ D σ H, u D σ H → t D σ H) : PSs X st u := ⟨fun pins s σ H D I q => h.run pins s σ H D I (i D σ H q)⟩
end
end DL
/-! The data layer: names, operands, operators, built-in calls, tests. -/
namespace DL
open PySem PySem.Spec PyProof.Rows L2
theorem getD_some {α : Type} {l : List (Option α)} {i : Nat} {v : α} (h : l.getD i none = some v) : l[i]? = some (some v) := by
  rw [List.getD_eq_getElem?_getD] at h
  cases e : l[i]? with
  | none => rw [e] at h; cases h
  | some o => rw [e] at h; exact congrArg some h
theorem getD_set_ne {α : Type} {l : List α} {i j : Nat} {v d : α} (h : i ≠ j) : (l.set i v).getD j d = l.getD j d := by
  rw [List.getD_eq_getElem?_getD, List.getD_eq_getElem?_getD, List.getElem?_set_ne h]
theorem getD_set_self {α : Type} {l : List α} {i : Nat} {v d : α} (h : i < l.length) : (l.set i v).getD i d = v := by
  rw [List.getD_eq_getElem?_getD, List.getElem?_set_self h]
  rfl
theorem getD_lt {α : Type} {l : List (Option α)} {i : Nat} {v : α} (h : l.getD i none = some v) : i < l.length :=
  (List.getElem?_eq_some_iff.mp (getD_some h)).1
section
variable {B : Bd} {F H F' H' : Hp} {L : La} {σ : L2.St} {ρ : En}
/-- a list that no name holds is made still -/
theorem SR.freeze {a : Addr} {vs : List V} (S : SR B F L σ H ρ) (h : H a = some (.lst vs)) (f : F a = none) (n : ∀ i, L i ≠ some a) (h0 : B.H0 a = none) : SR B (upd F a (.lst vs)) L σ H ρ where
  len := S.len
  sub := fun b o e => by
    by_cases hb : b = a
    · subst hb; rw [upd_same] at e; rw [← e]; exact h
    · rw [upd_ne hb] at e; exact S.sub b o e
  slot := fun i => by
    have q := S.slot i
    revert q
    cases ρ.getD i none with
    | none => exact id
    | some c =>
      cases c with
      | val d => exact fun ⟨h1, v, h2, h3⟩ => ⟨h1, v, h2, h3.mono (same_upd f)⟩
      | own ds =>
        intro ⟨b, ws, h1, h2, h3, h4, h5, h6⟩
        have hb : b ≠ a := fun z => n i (by rw [h2, z])
        exact ⟨b, ws, h1, h2, h3, by rw [upd_ne hb]; exact h4, h5.mono (same_upd f), h6⟩
  inj := S.inj
  f0 := S.f0.trans (same_upd f)
  fn := fun b o e => by
    by_cases hb : b = a
    · rw [hb]; exact .inr h0
    · rw [upd_ne hb] at e; exact S.fn b o e
  keep := S.keep
  io := S.io
  al := S.al
theorem Stp.freeze {L' : La} {a : Addr} {vs : List V} (s : Stp F L H F' L' H') (f : F' a = none) (nw : H a = none ∨ ∃ i, L i = some a) : Stp F L H (upd F' a (.lst vs)) L' H' where
  f := s.f.trans (same_upd f)
  l := s.l
  h := s.h
  fn := fun b o e => by
    by_cases hb : b = a
    · rw [hb]; exact .inr nw
    · rw [upd_ne hb] at e; exact s.fn b o e
  al := s.al
theorem RpV_own {K : PySem.W.Frag} {a : Addr} {vs : List V} {ds : List D} (h : H a = some (.lst vs)) (r : RpL K F ds vs) : RpV K F H (.lst ds) (.ref a) := ⟨a, vs, rfl, h, r⟩
end
/-! ### frozen, data, moved -/
def frz (t : DC) : DE := fun ρ Q E => t ρ (fun c ρ' => Q c.toD ρ') E
def vl (t : DE) : DC := fun ρ Q E => t ρ (fun d ρ' => Q (.val d) ρ') E
section
variable {X : Cx} {B : Bd} {W : WX} {e : Expr} {pos : Pos}
theorem de_frz {t : DC} (h : PE X e (rC B W t)) : PE X e (rV B W (frz t)) := by
  refine pe_imp h fun σ H Q ⟨F, L, ρ, Qd, Ed, S, ht, hq, hx⟩ => ⟨F, L, ρ, fun c ρ' => Qd c.toD ρ', Ed, S, ht, fun c ρ' v F' L' H' q S' s r => ?_, hx⟩
  cases c with
  | val d => exact hq d ρ' v F' L' H' q S' s r
  | own ds =>
    obtain ⟨a, vs, rfl, h1, h2, h3, h4, h5, h6⟩ := r
    exact hq (.lst ds) ρ' _ _ L' H' q (S'.freeze h1 h2 h3 h4) (s.freeze h2 h6) ⟨a, vs, rfl, upd_same, h5.mono (same_upd h2)⟩
theorem dc_val {t : DE} (h : PE X e (rV B W t)) : PE X e (rC B W (vl t)) :=
  pe_imp h fun σ H Q ⟨F, L, ρ, Qd, Ed, S, ht, hq, hx⟩ => ⟨F, L, ρ, fun d ρ' => Qd (.val d) ρ', Ed, S, ht, fun d ρ' v F' L' H' q S' s r => hq (.val d) ρ' v F' L' H' q S' s r, hx⟩
/-- a name that holds data -/
def mVar (i : Nat) : DE := fun ρ Q _ => match ρ.getD i none with
  | some (.val d) => Q d ρ
  | _ => False
theorem SR.val {F H : Hp} {L : La} {σ : L2.St} {ρ : En} (S : SR B F L σ H ρ) {i : Nat} {d : D} (h : ρ.getD i none = some (.val d)) : L i = none ∧ ∃ v, σ[i]? = some (some v) ∧ Rp B.K F d v := by
  have q := S.slot i
  rw [h] at q
  obtain ⟨h1, v, h2, h3⟩ := q
  exact ⟨h1, v, getD_some h2, h3⟩
theorem SR.ow {F H : Hp} {L : La} {σ : L2.St} {ρ : En} (S : SR B F L σ H ρ) {i : Nat} {ds : List D} (h : ρ.getD i none = some (.own ds)) :
    ∃ a vs, σ[i]? = some (some (.ref a)) ∧ L i = some a ∧ H a = some (.lst vs) ∧ F a = none ∧ RpL B.K F ds vs ∧ ((∃ j ∈ B.ios, B.ad j = a) ∨ B.H0 a = none) := by
  have q := S.slot i
  rw [h] at q
  obtain ⟨a, vs, h1, h2, h3, h4, h5, h6⟩ := q
  exact ⟨a, vs, getD_some h1, h2, h3, h4, h5, h6⟩
theorem de_var (i : Nat) {x : Str} (hN : X.N[i]? = some x := by rfl) (hv : Vis X.env.scope x := by first | exact Or.inl rfl | exact Or.inr (Or.inl rfl) | exact Or.inr (Or.inr rfl)) (hd : (x == ("__debug__" : Str)) = false := by decide)
    (hcd : (x == ("__classdict__" : Str)) = false := by decide) : PE X (.Name x pos) (rV B W (mVar i)) := by
  refine pe_imp (pe_var (i := i) hN hv hd hcd) fun σ H Q ⟨F, L, ρ, Qd, Ed, S, ht, hq, hx⟩ => ?_
  unfold mVar at ht
  split at ht
  · rename_i d e
    obtain ⟨h1, v, h2, h3⟩ := S.val e
    exact ⟨v, h2, hq d ρ v F L H ht S (Stp.refl _ _ _) h3⟩
  · exact ht.elim
def forget (L : La) (i : Nat) : La := fun j => if j = i then none else L j
theorem SR.drop {F H : Hp} {L : La} {σ : L2.St} {ρ : En} (S : SR B F L σ H ρ) {i : Nat} (hi : B.ios.contains i = false) : SR B F (forget L i) σ H (ρ.set i none) where
  len := by rw [List.length_set]; exact S.len
  sub := S.sub
  slot := fun j => by
    unfold forget
    by_cases hj : j = i
    · subst hj
      rw [if_pos rfl]
      have e : (ρ.set j none).getD j none = none := by
        by_cases hl : j < ρ.length
        · exact getD_set_self hl
        · rw [List.getD_eq_getElem?_getD, List.getElem?_eq_none (by rw [List.length_set]; omega)]
          rfl
      rw [e]
      exact rfl
    · rw [if_neg hj, getD_set_ne (fun z => hj z.symm)]
      exact S.slot j
  inj := fun j k a h1 h2 => by
    unfold forget at h1 h2
    split at h1
    · cases h1
    · split at h2
      · cases h2
      · exact S.inj j k a h1 h2
  f0 := S.f0
  fn := S.fn
  keep := S.keep
  io := fun j hj => by
    unfold forget
    rw [if_neg (fun z => by subst z; rw [List.contains_iff_mem.mpr hj] at hi; cases hi)]
    exact S.io j hj
  al := S.al
theorem Stp.drop {F H : Hp} {L : La} {i : Nat} : Stp F L H F (forget L i) H where
  f := Same.refl F
  l := fun j a h => by
    unfold forget at h
    split at h
    · cases h
    · exact h
  h := fun _ _ h _ => h
  fn := fun _ _ h => .inl h
  al := fun _ h => h
/-- a list of one's own goes out of its name -/
def mMove (i : Nat) : DC := fun ρ Q _ => match ρ.getD i none with
  | some (.own ds) => Q (.own ds) (ρ.set i none)
  | some (.val d) => Q (.val d) ρ
  | none => False
theorem SR.alone {F H : Hp} {L : La} {σ : L2.St} {ρ : En} (S : SR B F L σ H ρ) {i : Nat} {a : Addr} (hi : B.ios.contains i = false) (h : L i = some a) (z : (∃ j ∈ B.ios, B.ad j = a) ∨ B.H0 a = none) : B.H0 a = none := by
  rcases z with ⟨j, hj, e⟩ | z
  · have q := S.io j hj
    rw [e] at q
    have e2 := S.inj _ _ _ h q
    subst e2
    rw [List.contains_iff_mem.mpr hj] at hi
    cases hi
  · exact z
theorem dc_move (i : Nat) {x : Str} (hi : B.ios.contains i = false := by rfl) (hN : X.N[i]? = some x := by rfl) (hv : Vis X.env.scope x := by first | exact Or.inl rfl | exact Or.inr (Or.inl rfl) | exact Or.inr (Or.inr rfl)) (hd : (x == ("__debug__" : Str)) = false := by decide)
    (hcd : (x == ("__classdict__" : Str)) = false := by decide) : PE X (.Name x pos) (rC B W (mMove i)) := by
  refine pe_imp (pe_var (i := i) hN hv hd hcd) fun σ H Q ⟨F, L, ρ, Qd, Ed, S, ht, hq, hx⟩ => ?_
  unfold mMove at ht
  split at ht
  · rename_i ds e
    obtain ⟨a, vs, h1, h2, h3, h4, h5, h6⟩ := S.ow e
    refine ⟨_, h1, hq (.own ds) _ _ F _ H ht (S.drop hi) Stp.drop ⟨a, vs, rfl, h3, h4, fun j q => ?_, S.alone hi h2 h6, h5, .inr ⟨i, h2⟩⟩⟩
    unfold forget at q
    split at q
    · cases q
    · rename_i hj
      exact hj (S.inj _ _ _ q h2)
  · rename_i d e
    obtain ⟨h1, v, h2, h3⟩ := S.val e
    exact ⟨v, h2, hq (.val d) ρ v F L H ht S (Stp.refl _ _ _) h3⟩
  · exact ht.elim
/-- a list of one's own is made still, its name holds it on -/
def mStill (i : Nat) : DE := fun ρ Q _ => match ρ.getD i none with
  | some (.own ds) => Q (.lst ds) (ρ.set i (some (.val (.lst ds))))
  | some (.val d) => Q d ρ
  | none => False
theorem SR.hold {F H : Hp} {L : La} {σ : L2.St} {ρ : En} (S : SR B F L σ H ρ) {i : Nat} {d : D} {v : V} (hi : i < ρ.length) (hl : L i = none) (hs : σ.getD i none = some v) (r : Rp B.K F d v) : SR B F L σ H (ρ.set i (some (.val d))) where
  len := by rw [List.length_set]; exact S.len
  sub := S.sub
  slot := fun j => by
    by_cases hj : i = j
    · subst hj
      rw [getD_set_self hi]
      exact ⟨hl, v, hs, r⟩
    · rw [getD_set_ne hj]
      exact S.slot j
  inj := S.inj
  f0 := S.f0
  fn := S.fn
  keep := S.keep
  io := S.io
  al := S.al
theorem set_set {α : Type} (l : List α) (i : Nat) (a b : α) : (l.set i a).set i b = l.set i b := by simp
theorem de_still (i : Nat) {x : Str} (hi : B.ios.contains i = false := by rfl) (hN : X.N[i]? = some x := by rfl) (hv : Vis X.env.scope x := by first | exact Or.inl rfl | exact Or.inr (Or.inl rfl) | exact Or.inr (Or.inr rfl)) (hd : (x == ("__debug__" : Str)) = false := by decide)
    (hcd : (x == ("__classdict__" : Str)) = false := by decide) : PE X (.Name x pos) (rV B W (mStill i)) := by
  refine pe_imp (pe_var (i := i) hN hv hd hcd) fun σ H Q ⟨F, L, ρ, Qd, Ed, S, ht, hq, hx⟩ => ?_
  unfold mStill at ht
  split at ht
  · rename_i ds e
    obtain ⟨a, vs, h1, h2, h3, h4, h5, h6⟩ := S.ow e
    have n : ∀ j, forget L i j ≠ some a := fun j q => by
      unfold forget at q
      split at q
      · cases q
      · rename_i hj
        exact hj (S.inj _ _ _ q h2)
    have h0 := S.alone hi h2 h6
    have r : Rp B.K (upd F a (.lst vs)) (.lst ds) (.ref a) := ⟨a, vs, rfl, upd_same, h5.mono (same_upd h4)⟩
    have S2 := ((S.drop hi).freeze h3 h4 n h0).hold (i := i) (d := .lst ds) (v := .ref a) (by rw [List.length_set]; exact getD_lt e) (by unfold forget; rw [if_pos rfl]) (by rw [List.getD_eq_getElem?_getD, h1]; rfl) r
    rw [set_set] at S2
    exact ⟨_, h1, hq (.lst ds) _ _ _ _ H ht S2 (Stp.drop.freeze h4 (.inr ⟨i, h2⟩)) r⟩
  · rename_i d e
    obtain ⟨h1, v, h2, h3⟩ := S.val e
    exact ⟨v, h2, hq d ρ v F L H ht S (Stp.refl _ _ _) h3⟩
  · exact ht.elim
/-! constants -/
def mK (d : D) : DE := fun ρ Q _ => Q d ρ
theorem de_K {v : V} {d : D} (h : PE X e (L2.tC v)) (r : ∀ F, Rp B.K F d v) : PE X e (rV B W (mK d)) :=
  pe_imp h fun σ H Q ⟨F, L, ρ, Qd, Ed, S, ht, hq, hx⟩ => hq d ρ v F L H ht S (Stp.refl _ _ _) (r F)
theorem de_int {i : Int} {j : Nat} : PE X (.Constant (.int i) j pos) (rV B W (mK (.int i))) := de_K pe_int fun _ => rfl
theorem de_bl {b : Bool} {j : Nat} : PE X (.Constant (.bool b) j pos) (rV B W (mK (.bl b))) := de_K pe_bl fun _ => rfl
theorem de_non {j : Nat} : PE X (.Constant .none j pos) (rV B W (mK .non)) := de_K pe_non fun _ => rfl
theorem de_str {x : Str} {j : Nat} : PE X (.Constant (.str x) j pos) (rV B W (mK (.str x))) := de_K pe_str fun _ => rfl
theorem de_glob {x : Str} {d : D} {v : V} {u : Value} (hm : X.mg x = some u) (r : RelV v u) (rd : ∀ F, Rp B.K F d v) (hg : Gl X x := by rfl) (hd : (x == ("__debug__" : Str)) = false := by decide) : PE X (.Name x pos) (rV B W (mK d)) := de_K (pe_glob hg hm r hd) rd
/-! ### operands -/
inductive AX where
  | e (t : DE) | s (i : Nat)
abbrev AV := D ⊕ Nat
def mAX : AX → En → (AV → En → Prop) → DX → Prop
  | .e t, ρ, Q, E => t ρ (fun d => Q (.inl d)) E
  | .s i, ρ, Q, _ => match ρ.getD i none with
    | some (.own _) => Q (.inr i) ρ
    | _ => False
def mAXs : List AX → En → (List AV → En → Prop) → DX → Prop
  | [], ρ, Q, _ => Q [] ρ
  | a :: as, ρ, Q, E => mAX a ρ (fun x ρ1 => mAXs as ρ1 (fun xs => Q (x :: xs)) E) E
def view (ρ : En) : AV → Option D
  | .inl d => some d
  | .inr i => match ρ.getD i none with
    | some (.own ds) => some (.lst ds)
    | _ => none
def views (ρ : En) : List AV → Option (List D)
  | [] => some []
  | x :: xs => match view ρ x, views ρ xs with
    | some d, some ds => some (d :: ds)
    | _, _ => none
def ArgV (K : PySem.W.Frag) (F : Hp) (L : La) : AV → V → Prop
  | .inl d, v => Rp K F d v
  | .inr i, v => ∃ a, v = .ref a ∧ ∀ b, L i = some b → b = a
def ArgVs (K : PySem.W.Frag) (F : Hp) (L : La) : List AV → List V → Prop
  | [], vs => vs = []
  | x :: xs, vs => ∃ v r, vs = v :: r ∧ ArgV K F L x v ∧ ArgVs K F L xs r
theorem ArgV.step {K : PySem.W.Frag} {F H F' H' : Hp} {L L' : La} (s : Stp F L H F' L' H') : ∀ {x : AV} {v : V}, ArgV K F L x v → ArgV K F' L' x v
  | .inl _, _, h => Rp.mono s.f h
  | .inr i, _, ⟨a, e, h⟩ => ⟨a, e, fun b q => h b (s.l i b q)⟩
theorem view_ok {F H : Hp} {L : La} {σ : L2.St} {ρ : En} (S : SR B F L σ H ρ) : ∀ {x : AV} {v : V} {d : D}, ArgV B.K F L x v → view ρ x = some d → RpV B.K F H d v
  | .inl d, v, d', h, e => by
    have e' : d = d' := Option.some.inj e
    subst e'
    exact Rp.view S.sub h
  | .inr i, v, d', ⟨a, e1, h⟩, e => by
    subst e1
    have e' : (match ρ.getD i none with | some (.own ds) => some (D.lst ds) | _ => none) = some d' := e
    split at e'
    · rename_i ds q
      cases e'
      obtain ⟨b, vs, h1, h2, h3, h4, h5, h6⟩ := S.ow q
      have := h b h2
      subst this
      exact RpV_own h3 h5
    · cases e'
def RpVs (K : PySem.W.Frag) (F H : Hp) : List D → List V → Prop
  | [], vs => vs = []
  | d :: ds, vs => ∃ v r, vs = v :: r ∧ RpV K F H d v ∧ RpVs K F H ds r
theorem views_ok {F H : Hp} {L : La} {σ : L2.St} {ρ : En} (S : SR B F L σ H ρ) : ∀ {xs : List AV} {vs : List V} {ds : List D}, ArgVs B.K F L xs vs → views ρ xs = some ds → RpVs B.K F H ds vs
  | [], vs, ds, h, e => by
    cases e
    exact h
  | x :: xs, vs, ds, ⟨v, r, e1, h1, h2⟩, e => by
    have e' : (match view ρ x, views ρ xs with | some d, some ds => some (d :: ds) | _, _ => none) = some ds := e
    split at e'
    · rename_i d es q1 q2
      cases e'
      exact ⟨v, r, e1, view_ok S h1 q1, views_ok S h2 q2⟩
    · cases e'
def rX (B : Bd) (W : WX) (a : AX) : TE := fun σ H Q => ∃ F L ρ Qd Ed, SR B F L σ H ρ ∧ mAX a ρ Qd Ed ∧
  (∀ x ρ' v F' L' H', Qd x ρ' → SR B F' L' σ H' ρ' → Stp F L H F' L' H' → ArgV B.K F' L' x v → Q v H') ∧ XOk B W F Ed
def rA (B : Bd) (W : WX) (as : List AX) : TA := fun σ H Q => ∃ F L ρ Qd Ed, SR B F L σ H ρ ∧ mAXs as ρ Qd Ed ∧
  (∀ xs ρ' vs F' L' H', Qd xs ρ' → SR B F' L' σ H' ρ' → Stp F L H F' L' H' → ArgVs B.K F' L' xs vs → Q vs H') ∧ XOk B W F Ed
theorem dx_e {t : DE} (h : PE X e (rV B W t)) : PE X e (rX B W (.e t)) :=
  pe_imp h fun σ H Q ⟨F, L, ρ, Qd, Ed, S, ht, hq, hx⟩ => ⟨F, L, ρ, fun d => Qd (.inl d), Ed, S, ht, fun d ρ' v F' L' H' q S' s r => hq (.inl d) ρ' v F' L' H' q S' s r, hx⟩
theorem dx_s (i : Nat) {x : Str} (hN : X.N[i]? = some x := by rfl) (hv : Vis X.env.scope x := by first | exact Or.inl rfl | exact Or.inr (Or.inl rfl) | exact Or.inr (Or.inr rfl)) (hd : (x == ("__debug__" : Str)) = false := by decide)
    (hcd : (x == ("__classdict__" : Str)) = false := by decide) : PE X (.Name x pos) (rX B W (.s i)) := by
  refine pe_imp (pe_var (i := i) hN hv hd hcd) fun σ H Q ⟨F, L, ρ, Qd, Ed, S, ht, hq, hx⟩ => ?_
  have ht' : (match ρ.getD i none with | some (.own _) => Qd (.inr i) ρ | _ => False) := ht
  split at ht'
  · rename_i ds e
    obtain ⟨a, vs, h1, h2, h3, h4, h5, h6⟩ := S.ow e
    exact ⟨_, h1, hq (.inr i) ρ _ F L H ht' S (Stp.refl _ _ _) ⟨a, rfl, fun b q => by rw [h2] at q; cases q; rfl⟩⟩
  · exact ht'.elim
/-- two operands, one after the other -/
theorem two_X {ax bx : AX} {k : AV → AV → En → Prop} {E : DX} {σ : L2.St} {H F : Hp} {L : La} {ρ : En} {R : V → V → Hp → Prop} (S : SR B F L σ H ρ) (h : mAX ax ρ (fun x ρ1 => mAX bx ρ1 (fun y ρ2 => k x y ρ2) E) E) (hx : XOk B W F E)
    (hk : ∀ x y ρ' v u F' L' H', k x y ρ' → SR B F' L' σ H' ρ' → Stp F L H F' L' H' → ArgV B.K F' L' x v → ArgV B.K F' L' y u → R v u H') :
    rX B W ax σ H fun v H1 => rX B W bx σ H1 fun u H2 => R v u H2 :=
  ⟨F, L, ρ, _, E, S, h, fun x ρ1 v F1 L1 H1 q1 S1 s1 r1 => ⟨F1, L1, ρ1, _, E, S1, q1, fun y ρ2 u F2 L2 H2 q2 S2 s2 r2 => hk x y ρ2 v u F2 L2 H2 q2 S2 (s1.trans s2) (r1.step s2) r2, hx.mono s1.f⟩, hx⟩
theorem da_nil : PA X [] (rA B W []) := pa_imp pa_nil fun σ H Q ⟨F, L, ρ, Qd, Ed, S, ht, hq, hx⟩ => hq [] ρ [] F L H ht S (Stp.refl _ _ _) rfl
theorem da_cons {es : List Expr} {a : AX} {as : List AX} (ha : PE X e (rX B W a)) (hr : PA X es (rA B W as)) (hs : starEach (e :: es) X.env = (false, eval e X.env) :: starEach es X.env := by rfl) : PA X (e :: es) (rA B W (a :: as)) :=
  pa_imp (pa_cons ha hr hs) fun σ H Q ⟨F, L, ρ, Qd, Ed, S, ht, hq, hx⟩ =>
    ⟨F, L, ρ, _, Ed, S, ht, fun x ρ1 v F1 L1 H1 q1 S1 s1 r1 => ⟨F1, L1, ρ1, _, Ed, S1, q1, fun xs ρ2 vs F2 L2 H2 q2 S2 s2 r2 => hq (x :: xs) ρ2 (v :: vs) F2 L2 H2 q2 S2 (s1.trans s2) ⟨v, vs, rfl, r1.step s2, r2⟩, hx.mono s1.f⟩, hx⟩
/-! ### operators -/
/-- a new result: data, or a new list -/
def NewR (K : PySem.W.Frag) (H : Hp) : Cell → V → Hp → Hp → Prop
  | .val d, v, F', _ => Rp K F' d v
  | .own ds, v, F', H' => ∃ a vs, v = .ref a ∧ H a = none ∧ H' a = some (.lst vs) ∧ F' a = none ∧ RpL K F' ds vs
theorem NewR.res {F H F' H' : Hp} {L : La} {σ : L2.St} {ρ : En} (S : SR B F L σ H ρ) : ∀ {c : Cell} {v : V}, NewR B.K H c v F' H' → ResC B F L H F' L H' c v
  | .val _, _, h => h
  | .own ds, _, ⟨a, vs, e, h1, h2, h3, h4⟩ => by
    refine ⟨a, vs, e, h2, h3, fun i q => ?_, ?_, h4, .inl h1⟩
    · obtain ⟨_, _, _, _, q3, _⟩ := S.own q
      rw [h1] at q3
      cases q3
    · cases e0 : B.H0 a with
      | none => rfl
      | some o => exact absurd h1 (S.al a (by rw [e0]; simp))
abbrev DOp2 := D → D → Option Cell
/-- an operator's reading by values serves a function of data -/
def Op2 (K : PySem.W.Frag) (r : R2) (f : DOp2) : Prop := ∀ (F H : Hp) (d1 d2 : D) (v1 v2 : V) (c : Cell) (Q : VK), Same F H → RpV K F H d1 v1 → RpV K F H d2 v2 → f d1 d2 = some c →
  (∀ v F' H', Grow F H F' H' → Same F' H' → NewR K H c v F' H' → Q v H') → r v1 v2 H Q
def DOpN := List D → Option Cell
def OpN (K : PySem.W.Frag) (r : List V → Hp → VK → Prop) (f : DOpN) : Prop := ∀ (F H : Hp) (ds : List D) (vs : List V) (c : Cell) (Q : VK), Same F H → RpVs K F H ds vs → f ds = some c →
  (∀ v F' H', Grow F H F' H' → Same F' H' → NewR K H c v F' H' → Q v H') → r vs H Q
def app2 (f : DOp2) (ρ : En) (x y : AV) (Q : CQ) : Prop := match view ρ x, view ρ y with
  | some d, some e => ∃ c, f d e = some c ∧ Q c ρ
  | _, _ => False
def mOp2 (f : DOp2) (a b : AX) : DC := fun ρ Q E => mAX a ρ (fun x ρ1 => mAX b ρ1 (fun y ρ2 => app2 f ρ2 x y Q) E) E
theorem app2_ok {r : R2} {f : DOp2} (hf : Op2 B.K r f) {x y : AV} {Q : CQ} {F H : Hp} {L : La} {σ : L2.St} {ρ : En} {v u : V} {R : VK} (S : SR B F L σ H ρ) (h : app2 f ρ x y Q) (rx : ArgV B.K F L x v) (ry : ArgV B.K F L y u)
    (hq : ∀ c w F' H', Q c ρ → SR B F' L σ H' ρ → Stp F L H F' L H' → ResC B F L H F' L H' c w → R w H') : r v u H R := by
  unfold app2 at h
  split at h
  · rename_i d e e1 e2
    obtain ⟨c, ec, h⟩ := h
    exact hf F H d e v u c R S.sub (view_ok S rx e1) (view_ok S ry e2) ec fun w F' H' g sb n => hq c w F' H' h (S.grow g sb) g.stp (n.res S)
  · exact h.elim
theorem ResC.back {F F1 H H1 F2 H2 : Hp} {L L1 L2' : La} (s : Stp F L H F1 L1 H1) : ∀ {c : Cell} {v : V}, ResC B F1 L1 H1 F2 L2' H2 c v → ResC B F L H F2 L2' H2 c v
  | .val _, _, h => h
  | .own _, _, ⟨a, vs, e, h1, h2, h3, h4, h5, h6⟩ => ⟨a, vs, e, h1, h2, h3, h4, h5, by
      rcases h6 with q | ⟨i, q⟩
      · refine .inl ?_
        cases e0 : H a with
        | none => rfl
        | some o => exact absurd q (s.al a (by rw [e0]; simp))
      · exact .inr ⟨i, s.l i a q⟩⟩
theorem two_op {ax bx : AX} {r : R2} {f : DOp2} (hf : Op2 B.K r f) {σ : L2.St} {H : Hp} {Q : VK} (h : rC B W (mOp2 f ax bx) σ H Q) : tOp r (rX B W ax) (rX B W bx) σ H Q := by
  obtain ⟨F, L, ρ, Qd, Ed, S, ht, hq, hx⟩ := h
  refine two_X S ht hx fun x y ρ' v u F' L' H' k S' s r1 r2 => ?_
  exact app2_ok hf S' k r1 r2 fun c w F2 H2 q S2 s2 rs => hq c ρ' w F2 L' H2 q S2 (s.trans s2) (rs.back s)
theorem dc_bin {a b : Expr} {ax bx : AX} {op : Operator} {r : R2} {f : DOp2} (ho : OpR X (binaryOp op) r) (hf : Op2 B.K r f) (ha : PE X a (rX B W ax)) (hb : PE X b (rX B W bx)) : PE X (.BinOp a op b pos) (rC B W (mOp2 f ax bx)) :=
  pe_imp (pe_op ho ha hb) fun _ _ _ h => two_op hf h
theorem dc_cmp {a b : Expr} {ax bx : AX} {op : CmpOp} {r : R2} {f : DOp2} (ho : OpR X (compareOp op) r) (hf : Op2 B.K r f) (ha : PE X a (rX B W ax)) (hb : PE X b (rX B W bx)) (hm : behindInMarks op b = false := by first | exact nomark _ | rfl) : PE X (.Compare a [op] [b] pos) (rC B W (mOp2 f ax bx)) :=
  pe_imp (pe_cmpR ho ha hb hm) fun _ _ _ h => two_op hf h
theorem dc_ix {a b : Expr} {ax bx : AX} {r : R2} {f : DOp2} (ho : IxR X r) (hf : Op2 B.K r f) (ha : PE X a (rX B W ax)) (hb : PE X b (rX B W bx)) (hs : PlainIx b := by exact fun _ _ => rfl) : PE X (.Subscript a b pos) (rC B W (mOp2 f ax bx)) :=
  pe_imp (pe_ix ho ha hb hs) fun _ _ _ h => two_op hf h
/-- a test: what is told must be True or False -/
def asT (t : DC) : DT := fun ρ Q E => t ρ (fun c ρ' => match c with
  | .val (.bl b) => Q b ρ'
  | _ => False) E
theorem dt_cmp {a b : Expr} {ax bx : AX} {op : CmpOp} {r : R2} {f : DOp2} (ho : OpR X (compareOp op) r) (hf : Op2 B.K r f) (ha : PE X a (rX B W ax)) (hb : PE X b (rX B W bx)) (hm : behindInMarks op b = false := by first | exact nomark _ | rfl) : PT X (.Compare a [op] [b] pos) (rT B W (asT (mOp2 f ax bx))) := by
  refine pt_imp (pt_cmpR ho ha hb hm) fun σ H Q ⟨F, L, ρ, Qd, Ed, S, ht, hq, hx⟩ => ?_
  refine two_op hf ⟨F, L, ρ, _, Ed, S, ht, fun c ρ' v F' L' H' q S' s r => ?_, hx⟩
  cases c with
  | own _ => exact False.elim q
  | val d =>
    cases d with
    | bl b =>
      have e : v = .bl b := r
      exact ⟨b, e, hq b ρ' F' L' H' q S' s⟩
    | _ => exact False.elim q
/-! one operand -/
abbrev DOp1 := D → Option Cell
def Op1 (K : PySem.W.Frag) (r : V → Hp → VK → Prop) (f : DOp1) : Prop := ∀ (F H : Hp) (d : D) (v : V) (c : Cell) (Q : VK), Same F H → RpV K F H d v → f d = some c →
  (∀ w F' H', Grow F H F' H' → Same F' H' → NewR K H c w F' H' → Q w H') → r v H Q
def mOp1 (f : DOp1) (a : AX) : DC := fun ρ Q E => mAX a ρ (fun x ρ1 => match view ρ1 x with
  | some d => ∃ c, f d = some c ∧ Q c ρ1
  | none => False) E
theorem one_op {ax : AX} {r : V → Hp → VK → Prop} {f : DOp1} (hf : Op1 B.K r f) {σ : L2.St} {H : Hp} {Q : VK} (h : rC B W (mOp1 f ax) σ H Q) : tUn r (rX B W ax) σ H Q := by
  obtain ⟨F, L, ρ, Qd, Ed, S, ht, hq, hx⟩ := h
  refine ⟨F, L, ρ, _, Ed, S, ht, fun x ρ' v F' L' H' k S' s r1 => ?_, hx⟩
  split at k
  · rename_i d e
    obtain ⟨c, ec, k⟩ := k
    exact hf F' H' d v c Q S'.sub (view_ok S' r1 e) ec fun w F2 H2 g sb n => hq c ρ' w F2 L' H2 k (S'.grow g sb) (s.trans g.stp) ((n.res S').back s)
  · exact k.elim
theorem dc_un {a : Expr} {ax : AX} {op : UnaryOp} {r : V → Hp → VK → Prop} {f : DOp1} (ho : UnR X (unaryOp op) r) (hf : Op1 B.K r f) (ha : PE X a (rX B W ax)) : PE X (.UnaryOp op a pos) (rC B W (mOp1 f ax)) :=
  pe_imp (pe_un ho ha) fun _ _ _ h => one_op hf h
/-! built-in calls -/
def mOpN (f : DOpN) (as : List AX) : DC := fun ρ Q E => mAXs as ρ (fun xs ρ1 => match views ρ1 xs with
  | some ds => ∃ c, f ds = some c ∧ Q c ρ1
  | none => False) E
theorem many_op {as : List AX} {r : List V → Hp → VK → Prop} {f : DOpN} (hf : OpN B.K r f) {σ : L2.St} {H : Hp} {Q : VK} (h : rC B W (mOpN f as) σ H Q) : tCB r (rA B W as) σ H Q := by
  obtain ⟨F, L, ρ, Qd, Ed, S, ht, hq, hx⟩ := h
  refine ⟨F, L, ρ, _, Ed, S, ht, fun xs ρ' vs F' L' H' k S' s r1 => ?_, hx⟩
  split at k
  · rename_i ds e
    obtain ⟨c, ec, k⟩ := k
    exact hf F' H' ds vs c Q S'.sub (views_ok S' r1 e) ec fun w F2 H2 g sb n => hq c ρ' w F2 L' H2 k (S'.grow g sb) (s.trans g.stp) ((n.res S').back s)
  · exact k.elim
section
variable {x : Str} {p : Pos} {es : List Expr} {as : List AX} {id T : String} {r : List V → Hp → VK → Prop} {f : DOpN}
theorem dc_callB (hc : CallR X (.builtin id) r) (hf : OpN B.K r f) (hm : X.mg x = none) (ha : PA X (e :: es) (rA B W as)) (hv : bootBuiltins x = some (.builtin id) := by decide +kernel) (hg : Gl X x := by rfl) (hn : x ≠ "__name__" := by decide) (hdb : (x == ("__debug__" : Str)) = false := by decide)
    (he : starEach (e :: es) X.env = (false, eval e X.env) :: starEach es X.env := by rfl) (hpl : (backTo pos (starEach es X.env)).any (·.1) = false := by rfl) : PE X (.Call (.Name x p) (e :: es) [] pos) (rC B W (mOpN f as)) :=
  pe_imp (pe_callB hc hg hm hv ha hn hdb he hpl) fun _ _ _ h => many_op hf h
theorem dc_callTy (hc : CallR X (.type T) r) (hf : OpN B.K r f) (hm : X.mg x = none) (ha : PA X (e :: es) (rA B W as)) (hv : bootBuiltins x = some (.type T) := by decide +kernel) (hg : Gl X x := by rfl) (hn : x ≠ "__name__" := by decide) (hdb : (x == ("__debug__" : Str)) = false := by decide)
    (he : starEach (e :: es) X.env = (false, eval e X.env) :: starEach es X.env := by rfl) (hpl : (backTo pos (starEach es X.env)).any (·.1) = false := by rfl) : PE X (.Call (.Name x p) (e :: es) [] pos) (rC B W (mOpN f as)) :=
  pe_imp (pe_callTy hc hg hm hv ha hn hdb he hpl) fun _ _ _ h => many_op hf h
theorem dc_callF (hc : CallR X (.builtin id) r) (hf : OpN B.K r f) (hm : X.mg x = some (.builtin id)) (ha : PA X (e :: es) (rA B W as)) (hg : Gl X x := by rfl) (hdb : (x == ("__debug__" : Str)) = false := by decide)
    (he : starEach (e :: es) X.env = (false, eval e X.env) :: starEach es X.env := by rfl) (hpl : (backTo pos (starEach es X.env)).any (·.1) = false := by rfl) : PE X (.Call (.Name x p) (e :: es) [] pos) (rC B W (mOpN f as)) :=
  pe_imp (pe_callBfun hc hg hm ha hdb he hpl) fun _ _ _ h => many_op hf h
end
/-! tests -/
/-- truth of data -/
def truD : D → Option Bool
  | .non => some false
  | .bl b => some b
  | .int i => some (i != 0)
  | .str x => if x.length ≤ sizeLine then some ((x.length : Int) != 0) else none
  | .tup ds => some (!ds.isEmpty)
  | .lst ds => some (!ds.isEmpty)
  | .fix ds => some (!ds.isEmpty)
  | .dic _ _ => none
  | .ty _ => none
  | .obj _ _ _ => none
  | .adr _ => none
  | .rng _ _ => none
theorem isEmpty_rp {K : PySem.W.Frag} {F : Hp} : ∀ {ds : List D} {vs : List V}, RpL K F ds vs → ds.isEmpty = vs.isEmpty
  | [], _, h => by
    have e : _ = [] := h
    subst e
    rfl
  | _ :: _, _, ⟨_, _, e, _, _⟩ => by subst e; rfl
theorem truD_ok {K : PySem.W.Frag} {F H : Hp} : ∀ {d : D} {v : V} {b : Bool}, Same F H → RpV K F H d v → truD d = some b → TruV K v H b
  | .non, _, _, _, h, e => by
    cases (show _ = V.non from h)
    cases e
    exact rfl
  | .bl _, _, _, _, h, e => by
    cases (show _ = V.bl _ from h)
    cases e
    exact rfl
  | .int _, _, _, _, h, e => by
    cases (show _ = V.int _ from h)
    cases e
    exact rfl
  | .str x, _, b, _, h, e => by
    cases (show _ = V.str _ from h)
    have e' : (if x.length ≤ sizeLine then some ((x.length : Int) != 0) else none) = some b := e
    split at e'
    · rename_i hl
      cases e'
      exact ⟨hl, rfl⟩
    · cases e'
  | .tup ds, _, _, s, h, e => by
    obtain ⟨a, vs, rfl, q, r⟩ := h
    cases e
    exact .inr (.inl ⟨vs, Same.tseq s q, by rw [isEmpty_rp r]⟩)
  | .lst ds, _, _, s, h, e => by
    obtain ⟨a, vs, rfl, q, r⟩ := h
    cases e
    exact .inl ⟨vs, SqL.of q, by rw [isEmpty_rp r]⟩
  | .fix ds, _, _, s, h, e => by
    obtain ⟨a, vs, rfl, q, r⟩ := h
    cases e
    exact .inl ⟨vs, s.seq q, by rw [isEmpty_rp r]⟩
  | .dic _ _, _, _, _, _, e => by cases e
  | .obj _ _ _, _, _, _, _, e => by cases e
  | .adr _, _, _, _, _, e => by cases e
  | .rng _ _, _, _, _, _, e => by cases e
  | .ty _, _, _, _, _, e => by cases e
/-- an operand's truth -/
def mTru (a : AX) : DT := fun ρ Q E => mAX a ρ (fun x ρ1 => match view ρ1 x with
  | some d => ∃ b, truD d = some b ∧ Q b ρ1
  | none => False) E
theorem dt_tru {a : Expr} {ax : AX} (ha : PE X a (rX B W ax)) (he : ∀ whole, isTrue a X.env whole = (do let v ← whole; standAt a.pos; holding [v] (truthy v)) := by intro _; rfl) (hK : B.K = X.K := by rfl) : PT X a (rT B W (mTru ax)) := by
  refine pt_imp (pt_truth ha he) fun σ H Q ⟨F, L, ρ, Qd, Ed, S, ht, hq, hx⟩ => ⟨F, L, ρ, _, Ed, S, ht, fun x ρ' v F' L' H' k S' s r1 => ?_, hx⟩
  split at k
  · rename_i d e
    obtain ⟨b, eb, k⟩ := k
    exact ⟨b, hK ▸ truD_ok S'.sub (view_ok S' r1 e) eb, hq b ρ' F' L' H' k S' s⟩
  · exact k.elim
def mNot (t : DT) : DT := fun ρ Q E => t ρ (fun b ρ' => Q (!b) ρ') E
theorem dt_not {a : Expr} {t : DT} (ha : PT X a (rT B W t)) : PT X (.UnaryOp .Not a pos) (rT B W (mNot t)) :=
  pt_imp (pt_not ha) fun σ H Q ⟨F, L, ρ, Qd, Ed, S, ht, hq, hx⟩ => ⟨F, L, ρ, _, Ed, S, ht, fun b ρ' F' L' H' q S' s => hq (!b) ρ' F' L' H' q S' s, hx⟩
def mAndT (t u : DT) : DT := fun ρ Q E => t ρ (fun b ρ1 => if b = true then u ρ1 Q E else Q false ρ1) E
def mOrT (t u : DT) : DT := fun ρ Q E => t ρ (fun b ρ1 => if b = true then Q true ρ1 else u ρ1 Q E) E
theorem dw_and1 {a : Expr} {t : DT} (ha : PT X a (rT B W t)) : PW X (.BoolOp .And [a] pos) (rT B W t) := pw_and1 ha
theorem dw_or1 {a : Expr} {t : DT} (ha : PT X a (rT B W t)) : PW X (.BoolOp .Or [a] pos) (rT B W t) := pw_or1 ha
theorem dw_and {a b : Expr} {rest : List Expr} {t u : DT} (ha : PT X a (rT B W t)) (hb : PW X (.BoolOp .And (b :: rest) pos) (rT B W u)) : PW X (.BoolOp .And (a :: b :: rest) pos) (rT B W (mAndT t u)) := by
  refine pw_imp (pw_and ha hb) fun σ H Q ⟨F, L, ρ, Qd, Ed, S, ht, hq, hx⟩ => ⟨F, L, ρ, _, Ed, S, ht, fun c ρ1 F1 L1 H1 q S1 s1 => ?_, hx⟩
  cases c with
  | true => exact ⟨F1, L1, ρ1, Qd, Ed, S1, q, fun b ρ' F' L' H' q' S' s' => hq b ρ' F' L' H' q' S' (s1.trans s'), hx.mono s1.f⟩
  | false => exact hq false ρ1 F1 L1 H1 q S1 s1
theorem dw_or {a b : Expr} {rest : List Expr} {t u : DT} (ha : PT X a (rT B W t)) (hb : PW X (.BoolOp .Or (b :: rest) pos) (rT B W u)) : PW X (.BoolOp .Or (a :: b :: rest) pos) (rT B W (mOrT t u)) := by
  refine pw_imp (pw_or ha hb) fun σ H Q ⟨F, L, ρ, Qd, Ed, S, ht, hq, hx⟩ => ⟨F, L, ρ, _, Ed, S, ht, fun c ρ1 F1 L1 H1 q S1 s1 => ?_, hx⟩
  cases c with
  | false => exact ⟨F1, L1, ρ1, Qd, Ed, S1, q, fun b ρ' F' L' H' q' S' s' => hq b ρ' F' L' H' q' S' (s1.trans s'), hx.mono s1.f⟩
  | true => exact hq true ρ1 F1 L1 H1 q S1 s1
theorem dt_w {a : Expr} {t : DT} (h : PW X a (rT B W t)) : PT X a (rT B W t) := h.pt
/-! and, or, not as values: all but the last must be True or False where they are told -/
def mAndV (a : AX) (u : DC) : DC := fun ρ Q E => mAX a ρ (fun x ρ1 => match x with
  | .inl d => ∃ b, truD d = some b ∧ (if b = true then u ρ1 Q E else Q (.val d) ρ1)
  | .inr _ => False) E
def mOrV (a : AX) (u : DC) : DC := fun ρ Q E => mAX a ρ (fun x ρ1 => match x with
  | .inl d => ∃ b, truD d = some b ∧ (if b = true then Q (.val d) ρ1 else u ρ1 Q E)
  | .inr _ => False) E
def mNotV (a : AX) : DE := fun ρ Q E => mAX a ρ (fun x ρ1 => match view ρ1 x with
  | some d => ∃ b, truD d = some b ∧ Q (.bl (!b)) ρ1
  | none => False) E
theorem dc_one {a : Expr} {op : BoolOp} {t : DC} (h : PE X a (rC B W t)) : PE X (.BoolOp op [a] pos) (rC B W t) := pe_one h
theorem dc_and {a b : Expr} {rest : List Expr} {ax : AX} {u : DC} (ha : PE X a (rX B W ax)) (hb : PE X (.BoolOp .And (b :: rest) pos) (rC B W u)) (hK : B.K = X.K := by rfl) : PE X (.BoolOp .And (a :: b :: rest) pos) (rC B W (mAndV ax u)) := by
  refine pe_imp (pe_andT ha hb) fun σ H Q ⟨F, L, ρ, Qd, Ed, S, ht, hq, hx⟩ => ⟨F, L, ρ, _, Ed, S, ht, fun x ρ1 v F1 L1 H1 k S1 s1 r1 => ?_, hx⟩
  split at k
  · rename_i d
    obtain ⟨b, e, k⟩ := k
    cases b with
    | true => exact ⟨true, hK ▸ truD_ok S1.sub (Rp.view S1.sub r1) e, ⟨F1, L1, ρ1, Qd, Ed, S1, k, fun c ρ' w F' L' H' q' S' s' r' => hq c ρ' w F' L' H' q' S' (s1.trans s') (r'.back s1), hx.mono s1.f⟩⟩
    | false => exact ⟨false, hK ▸ truD_ok S1.sub (Rp.view S1.sub r1) e, hq (.val d) ρ1 v F1 L1 H1 k S1 s1 r1⟩
  · exact k.elim
theorem dc_or {a b : Expr} {rest : List Expr} {ax : AX} {u : DC} (ha : PE X a (rX B W ax)) (hb : PE X (.BoolOp .Or (b :: rest) pos) (rC B W u)) (hK : B.K = X.K := by rfl) : PE X (.BoolOp .Or (a :: b :: rest) pos) (rC B W (mOrV ax u)) := by
  refine pe_imp (pe_orT ha hb) fun σ H Q ⟨F, L, ρ, Qd, Ed, S, ht, hq, hx⟩ => ⟨F, L, ρ, _, Ed, S, ht, fun x ρ1 v F1 L1 H1 k S1 s1 r1 => ?_, hx⟩
  split at k
  · rename_i d
    obtain ⟨b, e, k⟩ := k
    cases b with
    | false => exact ⟨false, hK ▸ truD_ok S1.sub (Rp.view S1.sub r1) e, ⟨F1, L1, ρ1, Qd, Ed, S1, k, fun c ρ' w F' L' H' q' S' s' r' => hq c ρ' w F' L' H' q' S' (s1.trans s') (r'.back s1), hx.mono s1.f⟩⟩
    | true => exact ⟨true, hK ▸ truD_ok S1.sub (Rp.view S1.sub r1) e, hq (.val d) ρ1 v F1 L1 H1 k S1 s1 r1⟩
  · exact k.elim
theorem de_not {a : Expr} {ax : AX} (ha : PE X a (rX B W ax)) (hK : B.K = X.K := by rfl) : PE X (.UnaryOp .Not a pos) (rV B W (mNotV ax)) := by
  refine pe_imp (pe_notT ha) fun σ H Q ⟨F, L, ρ, Qd, Ed, S, ht, hq, hx⟩ => ⟨F, L, ρ, _, Ed, S, ht, fun x ρ' v F' L' H' k S' s r1 => ?_, hx⟩
  split at k
  · rename_i d e
    obtain ⟨b, eb, k⟩ := k
    exact ⟨b, hK ▸ truD_ok S'.sub (view_ok S' r1 e) eb, hq (.bl (!b)) ρ' _ F' L' H' k S' s rfl⟩
  · exact k.elim
def mIf (t : DT) (u w : DC) : DC := fun ρ Q E => t ρ (fun b ρ1 => if b = true then u ρ1 Q E else w ρ1 Q E) E
theorem dc_if {c a b : Expr} {t : DT} {u w : DC} (hc : PT X c (rT B W t)) (ha : PE X a (rC B W u)) (hb : PE X b (rC B W w)) : PE X (.IfExp c a b pos) (rC B W (mIf t u w)) := by
  refine pe_imp (pe_ifExp hc ha hb) fun σ H Q ⟨F, L, ρ, Qd, Ed, S, ht, hq, hx⟩ => ⟨F, L, ρ, _, Ed, S, ht, fun c ρ1 F1 L1 H1 k S1 s1 => ?_, hx⟩
  cases c with
  | true => exact ⟨F1, L1, ρ1, Qd, Ed, S1, k, fun c ρ' w F' L' H' q' S' s' r' => hq c ρ' w F' L' H' q' S' (s1.trans s') (r'.back s1), hx.mono s1.f⟩
  | false => exact ⟨F1, L1, ρ1, Qd, Ed, S1, k, fun c ρ' w F' L' H' q' S' s' r' => hq c ρ' w F' L' H' q' S' (s1.trans s') (r'.back s1), hx.mono s1.f⟩
end
end DL
/-! The data layer: tuple * int, of any count. -/
namespace DL
open PySem PySem.Spec PyProof.Rows L2
theorem tuple_mulSame (l : Addr) (items : Array Value) (n : Nat) (dd : Option Addr) (sl : Array (Option Value)) (x : Int) (u : Tok) (c0 : (decide (x < -(2 ^ 63)) || decide (x ≥ 2 ^ 63)) = false) (c1 : (items.isEmpty || x == 1) = true) :
    Meets (Builtin.«tuple.__mul__» ⟨[.ref l, .int x u], []⟩) (fun _ R s => s.heap.get? l = some { cls := .type "tuple", dict := dd, data := .seq items n, slots := sl } ∧
      R (.ok (.ret (Value.ref l))) s) :=
  .of_wp fun prog w A R s h => by
    obtain ⟨hp, g, d, tk, os⟩ := s
    obtain ⟨hl, h⟩ := h
    have f1 := AutoSeq1.idx_int
    wp_walk using wpAny_loadPart' hl
    repeat (first
      | (refine wpAny_ite_false (decide_eq_false (by rw [c0]; exact Bool.false_ne_true)) ?_; wp_walk using wpAny_loadPart' hl)
      | (refine wpAny_ite_true (decide_eq_true (by rw [c1])) ?_; wp_walk using wpAny_loadPart' hl))
    exact ⟨_, rfl, h⟩
theorem tuple_mulNone (l : Addr) (items : Array Value) (n : Nat) (dd : Option Addr) (sl : Array (Option Value)) (x : Int) (u : Tok) (c0 : (decide (x < -(2 ^ 63)) || decide (x ≥ 2 ^ 63)) = false) (c1 : (items.isEmpty || x == 1) = false) (c2 : (decide (x ≤ 0) || items.isEmpty) = true) :
    Meets (Builtin.«tuple.__mul__» ⟨[.ref l, .int x u], []⟩) (fun _ R s => s.heap.get? l = some { cls := .type "tuple", dict := dd, data := .seq items n, slots := sl } ∧
      R (.ok (.ret (Value.ref s.heap.objs.size))) { s with heap := s.heap.push { cls := Value.type "tuple", data := Data.seq #[] }, toks := s.toks }) :=
  .of_wp fun prog w A R s h => by
    obtain ⟨hp, g, d, tk, os⟩ := s
    obtain ⟨hl, h⟩ := h
    have f1 := AutoSeq1.idx_int
    wp_walk using wpAny_loadPart' hl
    repeat (first
      | (refine wpAny_ite_false (decide_eq_false (by rw [c0]; exact Bool.false_ne_true)) ?_; wp_walk using wpAny_loadPart' hl)
      | (refine wpAny_ite_false (decide_eq_false (by rw [c1]; exact Bool.false_ne_true)) ?_; wp_walk using wpAny_loadPart' hl)
      | (refine wpAny_ite_true (decide_eq_true (by rw [c2])) ?_; wp_walk using wpAny_loadPart' hl))
    exact ⟨_, rfl, h⟩
def rRepA (K : PySem.W.Frag) : R2 := fun x y H Q => ∃ l k xs, x = .ref l ∧ y = .int k ∧ SqT K H l xs ∧ (-(2 ^ 63) ≤ k ∧ k < 2 ^ 63) ∧ xs.length * k.toNat ≤ 1000000 ∧ ((xs = [] ∨ k = 1) → Q (.ref l) H) ∧ (xs ≠ [] → k ≠ 1 → ∀ p, H p = none → Q (.ref p) (upd H p (.tup (List.replicate k.toNat xs).flatten)))
theorem op_repA {X : Cx} : OpR X (binaryOp .Mult) (rRepA X.K) := by
  intro pins s σ H x y v u Q I rx ry h
  obtain ⟨l, k, xs, rfl, rfl, hT, ⟨hk1, hk2⟩, hz, q1, q2⟩ := h
  cases rx
  obtain ⟨t, rfl⟩ := ry
  obtain ⟨its, r, ⟨⟨cls, dd, data, sl⟩, ho, hc, n, hd⟩, hs⟩ := I.tuple hT
  simp only at hc hd
  subst hc hd
  have hle : its.length = xs.length := r.length.symm
  have c0 : (decide (k < -(2 ^ 63)) || decide (k ≥ 2 ^ 63)) = false := by
    rw [decide_eq_false (by omega), decide_eq_false (by omega)] <;> rfl
  have hE : its.toArray.isEmpty = xs.isEmpty := by
    cases its with
    | nil => cases xs with
      | nil => rfl
      | cons a b => cases hle
    | cons a b => cases xs with
      | nil => cases hle
      | cons a b => rfl
  refine wpAny_binaryOp_repeat_ref (T := "tuple") (U := "int") (by decide) ⟨_, ho, rfl⟩ (fun s' => typeIs_int s' k t) noFill_tuple_mul F.fills_int_mul F.slot_int_rmul repeat_tuple F.slot_int_index.lookup
    (call_meets F.slot_int_rmul (typeIs_int s k t) F.entry_int_rmul (F.args_int_rmul_2 _ _) (int_rmul_tuple k t l its.toArray n dd sl) ⟨ho, rfl, ⟨_, ho, rfl⟩, ?_⟩)
  by_cases h1 : xs = [] ∨ k = 1
  · have c1 : (its.toArray.isEmpty || k == 1) = true := by
      rcases h1 with h1 | h1
      · rw [hE, h1]; rfl
      · rw [h1]; simp
    exact call_meets F.slot_tuple_mul ⟨_, ho, rfl⟩ F.entry_tuple_mul (F.args_tuple_mul_2 _ _) (tuple_mulSame l its.toArray n dd sl k t c0 c1) ⟨ho, ⟨.ref l, H, I, rfl, q1 h1⟩⟩
  · have hne : xs ≠ [] := fun z => h1 (.inl z)
    have hk : k ≠ 1 := fun z => h1 (.inr z)
    have hi : its.toArray.isEmpty = false := by
      rw [hE]
      cases xs with
      | nil => exact absurd rfl hne
      | cons a b => rfl
    have c1 : (its.toArray.isEmpty || k == 1) = false := by
      rw [hi, Bool.false_or]
      exact beq_eq_false_iff_ne.mpr hk
    by_cases h0 : k ≤ 0
    · have c2 : (decide (k ≤ 0) || its.toArray.isEmpty) = true := by rw [decide_eq_true h0]; rfl
      have ek : k.toNat = 0 := by omega
      have q3 := q2 hne hk s.heap.objs.size (I.hok.fresh (Nat.le_refl _))
      rw [ek] at q3
      refine call_meets F.slot_tuple_mul ⟨_, ho, rfl⟩ F.entry_tuple_mul (F.args_tuple_mul_2 _ _) (tuple_mulNone l its.toArray n dd sl k t c0 c1 c2) ⟨ho, ?_⟩
      exact ⟨.ref s.heap.objs.size, _, I.laid (t' := s.toks) (o := .tup []) (fun b ob q => Heap.get?_push_of_some _ q) (Nat.le_refl _) ⟨by rw [sizeLine_eq]; decide, [], .nil, IsTup.new _ _⟩, rfl, q3⟩
    · have ek : (k.toNat : Int) = k := by omega
      have hm : ((its.toArray.size : Nat) : Int) * k ≤ 1000000 := by
        rw [List.size_toArray, hle, ← ek]
        rw [← Int.natCast_mul]
        omega
      have flen : (List.replicate k.toNat its).flatten.length ≤ sizeLine := by
        rw [PyProof.Rows.lm_len_rep_flat, hle, sizeLine_eq, Nat.mul_comm]
        omega
      have c2 : (decide (k ≤ 0) || its.toArray.isEmpty) = false := by
        rw [hi, Bool.or_false]
        exact decide_eq_false h0
      have c4 : Builtin.Tuple.tupleTooMany (((its.toArray.size : Nat) : Int) * k) = false := by
        unfold Builtin.Tuple.tupleTooMany
        rw [sizeLine_eq]
        exact decide_eq_false (by omega)
      refine call_meets F.slot_tuple_mul ⟨_, ho, rfl⟩ F.entry_tuple_mul (F.args_tuple_mul_2 _ _) (tuple_mulW l its.toArray n dd sl k t c0 c1 c2 (by omega) c4 (by rw [size_rep, List.size_toArray]; exact flen)) ⟨ho, ?_⟩
      rw [size_rep]
      refine ⟨.ref s.heap.objs.size, _, I.laid (t' := s.toks) (o := .tup (List.replicate k.toNat xs).flatten) (fun b ob q => Heap.get?_push_of_some _ q) (Nat.le_refl _) ?_, rfl, q2 hne hk _ (I.hok.fresh (Nat.le_refl _))⟩
      exact ⟨by rw [PyProof.Rows.lm_len_rep_flat, sizeLine_eq, Nat.mul_comm]; omega, _, r.rep k.toNat, IsTup.new _ _⟩
end DL
/-! The data layer: operators and built-ins as functions of data. -/
namespace DL
open PySem PySem.Spec PyProof.Rows L2
section
variable {K : PySem.W.Frag} {F H : Hp} {Q : VK}
theorem fin_val {d : D} {v : V} (sb : Same F H) (h : ∀ v F' H', Grow F H F' H' → Same F' H' → NewR K H (.val d) v F' H' → Q v H') (r : Rp K F d v) : Q v H := h v F H (Grow.refl _ _) sb r
theorem grow_upd {p : Addr} {o : HO} (sb : Same F H) (hp : H p = none) : Grow F H (upd F p o) (upd H p o) ∧ Same (upd F p o) (upd H p o) := by
  refine ⟨⟨same_upd (sb.free hp), same_upd hp, fun b u e => ?_⟩, fun b u e => ?_⟩
  · by_cases hb : b = p
    · rw [hb]; exact .inr hp
    · rw [upd_ne hb] at e; exact .inl e
  · by_cases hb : b = p
    · subst hb; rw [upd_same] at e ⊢; exact e
    · rw [upd_ne hb] at e; rw [upd_ne hb]; exact sb b u e
theorem fin_tup {ds : List D} {vs : List V} {p : Addr} (sb : Same F H) (h : ∀ v F' H', Grow F H F' H' → Same F' H' → NewR K H (.val (.tup ds)) v F' H' → Q v H') (hp : H p = none) (r : RpL K F ds vs) : Q (.ref p) (upd H p (.tup vs)) := by
  obtain ⟨g, s⟩ := grow_upd (o := .tup vs) sb hp
  exact h _ _ _ g s ⟨p, vs, rfl, SqT.of upd_same, r.mono g.f⟩
theorem fin_lst {ds : List D} {vs : List V} {p : Addr} (sb : Same F H) (h : ∀ v F' H', Grow F H F' H' → Same F' H' → NewR K H (.own ds) v F' H' → Q v H') (hp : H p = none) (r : RpL K F ds vs) : Q (.ref p) (upd H p (.lst vs)) :=
  h _ F _ ⟨Same.refl F, same_upd hp, fun _ _ e => .inl e⟩ (sb.trans (same_upd hp)) ⟨p, vs, rfl, hp, upd_same, sb.free hp, r⟩
end
theorem RpV.tup_ {K : PySem.W.Frag} {F H : Hp} {ds : List D} {v : V} (sb : Same F H) (h : RpV K F H (.tup ds) v) : ∃ a vs, v = .ref a ∧ SqT K H a vs ∧ RpL K F ds vs := by
  obtain ⟨a, vs, e, q, r⟩ := h
  exact ⟨a, vs, e, Same.tseq sb q, r⟩
/-! ### + - * // % ** and the sign -/
section
variable {X : Cx}
def rAddD (K : PySem.W.Frag) : R2 := fun x y H Q => (∃ i j, x = .int i ∧ y = .int j ∧ Q (.int (i + j)) H) ∨
  ((∃ i j, x = .str i ∧ y = .str j ∧ i.length + j.length ≤ sizeLine ∧ Q (.str (i ++ j)) H) ∨ (rCatA K x y H Q ∨ rCat x y H Q))
theorem op_addD : OpR X (binaryOp .Add) (rAddD X.K) := OpR.or op_add (OpR.or op_add_str (OpR.or op_catA op_cat))
def fAdd : DOp2
  | .int i, .int j => some (.val (.int (i + j)))
  | .str x, .str y => if x.length + y.length ≤ sizeLine then some (.val (.str (x ++ y))) else none
  | .tup xs, .tup ys => if xs.length + ys.length ≤ sizeLine then some (.val (.tup (xs ++ ys))) else none
  | .lst xs, .lst ys => if xs.length + ys.length ≤ sizeLine then some (.own (xs ++ ys)) else none
  | _, _ => none
theorem fAdd_ok {K : PySem.W.Frag} : Op2 K (rAddD K) fAdd := by
  intro F H d1 d2 v1 v2 c Q sb h1 h2 e q
  cases d1 <;> cases d2 <;> first | (cases e; done) | skip
  · cases e
    cases (show v1 = V.int _ from h1)
    cases (show v2 = V.int _ from h2)
    exact .inl ⟨_, _, rfl, rfl, fin_val sb q rfl⟩
  · rename_i x y
    cases (show v1 = V.str _ from h1)
    cases (show v2 = V.str _ from h2)
    have e' : (if x.length + y.length ≤ sizeLine then some (Cell.val (.str (x ++ y))) else none) = some c := e
    split at e'
    · rename_i hl
      cases e'
      exact .inr (.inl ⟨_, _, rfl, rfl, hl, fin_val sb q rfl⟩)
    · cases e'
  · rename_i xs ys
    obtain ⟨a, vs, rfl, q1, r1⟩ := RpV.tup_ sb h1
    obtain ⟨b, us, rfl, q2, r2⟩ := RpV.tup_ sb h2
    have e' : (if xs.length + ys.length ≤ sizeLine then some (Cell.val (.tup (xs ++ ys))) else none) = some c := e
    split at e'
    · rename_i hl
      cases e'
      rw [r1.length, r2.length] at hl
      refine .inr (.inr (.inl ⟨a, b, vs, us, rfl, rfl, q1, q2, hl, fun z => ?_, fun _ z => ?_, fun _ _ p hp => fin_tup sb q hp (r1.append r2)⟩))
      · subst z
        have z2 : xs = [] := List.eq_nil_of_length_eq_zero r1.length
        subst z2
        exact fin_val sb q h2
      · subst z
        have z2 : ys = [] := List.eq_nil_of_length_eq_zero r2.length
        subst z2
        rw [List.append_nil] at q
        exact fin_val sb q h1
    · cases e'
  · rename_i xs ys
    obtain ⟨a, vs, rfl, q1, r1⟩ := h1
    obtain ⟨b, us, rfl, q2, r2⟩ := h2
    have e' : (if xs.length + ys.length ≤ sizeLine then some (Cell.own (xs ++ ys)) else none) = some c := e
    split at e'
    · rename_i hl
      cases e'
      rw [r1.length, r2.length] at hl
      exact .inr (.inr (.inr ⟨a, b, vs, us, rfl, rfl, q1, q2, hl, fun p hp => fin_lst sb q hp (r1.append r2)⟩))
    · cases e'
/-- an operator of two whole numbers -/
def fI2 (C : Int → Int → Bool) (g : Int → Int → D) : DOp2
  | .int i, .int j => if C i j = true then some (.val (g i j)) else none
  | _, _ => none
theorem fI2_ok {K : PySem.W.Frag} {C : Int → Int → Bool} {P : Int → Int → Prop} {g : Int → Int → D} {gv : Int → Int → V} (hC : ∀ i j, C i j = true → P i j) (hg : ∀ F i j, Rp K F (g i j) (gv i j)) : Op2 K (rI P gv) (fI2 C g) := by
  intro F H d1 d2 v1 v2 c Q sb h1 h2 e q
  cases d1 <;> cases d2 <;> first | (cases e; done) | skip
  rename_i i j
  cases (show v1 = V.int _ from h1)
  cases (show v2 = V.int _ from h2)
  have e' : (if C i j = true then some (Cell.val (g i j)) else none) = some c := e
  split at e'
  · rename_i hc
    cases e'
    exact ⟨i, j, rfl, rfl, hC i j hc, fin_val sb q (hg F i j)⟩
  · cases e'
theorem fI0_ok {K : PySem.W.Frag} {g : Int → Int → D} {gv : Int → Int → V} (hg : ∀ F i j, Rp K F (g i j) (gv i j)) : Op2 K (rI0 gv) (fI2 (fun _ _ => true) g) := by
  intro F H d1 d2 v1 v2 c Q sb h1 h2 e q
  cases d1 <;> cases d2 <;> first | (cases e; done) | skip
  rename_i i j
  cases (show v1 = V.int _ from h1)
  cases (show v2 = V.int _ from h2)
  cases e
  exact ⟨i, j, rfl, rfl, fin_val sb q (hg F i j)⟩
abbrev fSub : DOp2 := fI2 (fun _ _ => true) fun i j => .int (i - j)
theorem fSub_ok {K : PySem.W.Frag} : Op2 K (rI0 fun i j => .int (i - j)) fSub := fI0_ok fun _ _ _ => rfl
/-- j is not 0, and the division is done by C -/
@[irreducible] def CDivB (i j : Int) : Bool := decide (j ≠ 0) && !Builtin.divisionGoesByPylong i j
theorem op_fdivD : OpR X (binaryOp .FloorDiv) (rI (fun i j => CDivB i j = true) fun i j => .int (i.fdiv j)) := opI fun i j _ _ _ _ _ hc q => by
  have hc' : CDivB i j = true := hc
  unfold CDivB at hc'
  rw [Bool.and_eq_true] at hc'
  exact floordiv_int (of_decide_eq_true hc'.1) q (.inl (by simpa using hc'.2))
abbrev fDiv : DOp2 := fI2 CDivB fun i j => .int (i.fdiv j)
theorem fDiv_ok {K : PySem.W.Frag} : Op2 K (rI (fun i j => CDivB i j = true) fun i j => .int (i.fdiv j)) fDiv := fI2_ok (fun _ _ h => h) fun _ _ _ => rfl
abbrev fMod : DOp2 := fI2 (fun _ j => decide (j ≠ 0)) fun i j => .int (i.fmod j)
theorem fMod_ok {K : PySem.W.Frag} : Op2 K (rI (fun _ j => j ≠ 0) fun i j => .int (i.fmod j)) fMod := fI2_ok (fun _ _ h => of_decide_eq_true h) fun _ _ _ => rfl
def CPowB (i j : Int) : Bool := decide (0 ≤ j) && (decide (j ≤ 1000000) && decide (i.natAbs < 2 ^ 64))
abbrev fPow : DOp2 := fI2 CPowB fun i j => .int (i ^ j.toNat)
theorem fPow_ok {K : PySem.W.Frag} : Op2 K (rI CPow fun i j => .int (i ^ j.toNat)) fPow := fI2_ok (fun i j h => by
  have h' : (decide (0 ≤ j) && (decide (j ≤ 1000000) && decide (i.natAbs < 2 ^ 64))) = true := h
  simp only [Bool.and_eq_true, decide_eq_true_eq] at h'
  exact h') fun _ _ _ => rfl
/-- * : two numbers of together less than 2 ^ 27 bits; a list so many times -/
@[irreducible] def CMulB (i j : Int) : Bool := decide ((Builtin.Int.intBits i : Int) + (Builtin.Int.intBits j : Int) ≤ 134217728)
def rMulD (K : PySem.W.Frag) : R2 := fun x y H Q => rI CMulX (fun i j => .int (i * j)) x y H Q ∨ (rRep x y H Q ∨ rRepA K x y H Q)
theorem op_mulD : OpR X (binaryOp .Mult) (rMulD X.K) := OpR.or op_mulX (OpR.or op_rep op_repA)
def fMul : DOp2
  | .int i, .int j => if CMulB i j = true then some (.val (.int (i * j))) else none
  | .lst xs, .int k => if -(2 ^ 63) ≤ k ∧ k < 2 ^ 63 ∧ xs.length * k.toNat ≤ sizeLine then some (.own (List.replicate k.toNat xs).flatten) else none
  | .tup xs, .int k => if -(2 ^ 63) ≤ k ∧ k < 2 ^ 63 ∧ xs.length * k.toNat ≤ 1000000 then some (.val (.tup (List.replicate k.toNat xs).flatten)) else none
  | _, _ => none
theorem RpL.rep {K : PySem.W.Frag} {F : Hp} {ds : List D} {vs : List V} (h : RpL K F ds vs) : ∀ k : Nat, RpL K F (List.replicate k ds).flatten (List.replicate k vs).flatten
  | 0 => rfl
  | k + 1 => by
    rw [List.replicate_succ, List.replicate_succ, List.flatten_cons, List.flatten_cons]
    exact h.append (RpL.rep h k)
theorem fMul_ok {K : PySem.W.Frag} : Op2 K (rMulD K) fMul := by
  intro F H d1 d2 v1 v2 c Q sb h1 h2 e q
  cases d1 <;> cases d2 <;> first | (cases e; done) | skip
  · rename_i i j
    cases (show v1 = V.int _ from h1)
    cases (show v2 = V.int _ from h2)
    have e' : (if CMulB i j = true then some (Cell.val (.int (i * j))) else none) = some c := e
    split at e'
    · rename_i hc
      cases e'
      unfold CMulB at hc
      exact .inl ⟨i, j, rfl, rfl, (show (Builtin.Int.intBits i : Int) + (Builtin.Int.intBits j : Int) ≤ 134217728 from of_decide_eq_true hc), fin_val sb q rfl⟩
    · cases e'
  · rename_i xs k
    have h1' := h1
    obtain ⟨a, vs, rfl, q1, r1⟩ := RpV.tup_ sb h1
    cases (show v2 = V.int _ from h2)
    have e' : (if -(2 ^ 63) ≤ k ∧ k < 2 ^ 63 ∧ xs.length * k.toNat ≤ 1000000 then some (Cell.val (.tup (List.replicate k.toNat xs).flatten)) else none) = some c := e
    split at e'
    · rename_i hc
      cases e'
      obtain ⟨c1, c2, c3⟩ := hc
      have same : vs = [] ∨ k = 1 → (List.replicate k.toNat xs).flatten = xs := fun z => by
        rcases z with z | z
        · have e0 : xs = [] := List.eq_nil_of_length_eq_zero (by rw [r1.length, z]; rfl)
          rw [e0]
          simp
        · rw [z]
          simp
      rw [r1.length] at c3
      refine .inr (.inr ⟨a, k, vs, rfl, rfl, q1, ⟨c1, c2⟩, c3, fun z => ?_, fun _ _ p hp => fin_tup sb q hp (r1.rep _)⟩)
      rw [same z] at q
      exact fin_val sb q h1'
    · cases e'
  · rename_i xs k
    obtain ⟨a, vs, rfl, q1, r1⟩ := h1
    cases (show v2 = V.int _ from h2)
    have e' : (if -(2 ^ 63) ≤ k ∧ k < 2 ^ 63 ∧ xs.length * k.toNat ≤ sizeLine then some (Cell.own (List.replicate k.toNat xs).flatten) else none) = some c := e
    split at e'
    · rename_i hc
      cases e'
      obtain ⟨c1, c2, c3⟩ := hc
      rw [r1.length] at c3
      exact .inr (.inl ⟨a, k, vs, rfl, rfl, q1, c1, c2, c3, fun p hp => fin_lst sb q hp (r1.rep _)⟩)
    · cases e'
def fNeg : DOp1
  | .int i => some (.val (.int (-i)))
  | _ => none
theorem fNeg_ok {K : PySem.W.Frag} : Op1 K (rU fun i => .int (-i)) fNeg := by
  intro F H d v c Q sb h e q
  cases d <;> first | (cases e; done) | skip
  cases (show v = V.int _ from h)
  cases e
  exact ⟨_, rfl, fin_val sb q rfl⟩
/-! ### comparisons -/
abbrev fLt : DOp2 := fI2 (fun _ _ => true) fun i j => .bl (decide (i < j))
abbrev fLe : DOp2 := fI2 (fun _ _ => true) fun i j => .bl (decide (i ≤ j))
abbrev fGt : DOp2 := fI2 (fun _ _ => true) fun i j => .bl (decide (j < i))
abbrev fGe : DOp2 := fI2 (fun _ _ => true) fun i j => .bl (decide (j ≤ i))
theorem fLt_ok {K : PySem.W.Frag} : Op2 K (rI0 fun i j => .bl (decide (i < j))) fLt := fI0_ok fun _ _ _ => rfl
theorem fLe_ok {K : PySem.W.Frag} : Op2 K (rI0 fun i j => .bl (decide (i ≤ j))) fLe := fI0_ok fun _ _ _ => rfl
theorem fGt_ok {K : PySem.W.Frag} : Op2 K (rI0 fun i j => .bl (decide (j < i))) fGt := fI0_ok fun _ _ _ => rfl
theorem fGe_ok {K : PySem.W.Frag} : Op2 K (rI0 fun i j => .bl (decide (j ≤ i))) fGe := fI0_ok fun _ _ _ => rfl
mutual
/-- data as the library has it -/
def toPy : D → PyData
  | .non => .none
  | .bl b => .bool b
  | .int i => .int i
  | .str x => .str x
  | .tup ds => .tuple (toPyL ds)
  | .lst ds => .list (toPyL ds)
  | .fix ds => .list (toPyL ds)
  | .dic _ _ => .dict []
  | .ty _ => .dict []
  | .obj _ _ _ => .dict []
  | .adr _ => .dict []
  | .rng _ _ => .dict []
def toPyL : List D → List PyData
  | [] => []
  | d :: ds => toPy d :: toPyL ds
end
/-- what may be compared by == -/
def eqOk (d : D) : Bool := SeqAt.shaped (toPy d)
theorem shaped_ {d : PyData} (h : SeqAt.shaped d = true) : d.canLay0 = true := SeqAt.canLay_of_shaped h
mutual
theorem Rp.dp {K : PySem.W.Frag} {F H : Hp} (sb : Same F H) : ∀ {d : D} {v : V}, (toPy d).canLay0 = true → Rp K F d v → Dp K H v (toPy d)
  | .non, _, _, h => by cases (show _ = V.non from h); exact .non
  | .bl _, _, _, h => by cases (show _ = V.bl _ from h); exact .bl _
  | .int _, _, _, h => by cases (show _ = V.int _ from h); exact .int _
  | .str _, _, _, h => by cases (show _ = V.str _ from h); exact .str _
  | .tup ds, _, c, ⟨a, vs, e, q, r⟩ => by
    subst e
    exact .tup (Same.tseq sb q) (RpL.dp sb c r)
  | .lst ds, _, c, ⟨a, vs, e, q, r⟩ => by
    subst e
    exact .lst (SqL.of (sb _ _ q)) (RpL.dp sb c r)
  | .fix ds, _, c, ⟨a, vs, e, q, r⟩ => by
    subst e
    exact .lst (sb.seq q) (RpL.dp sb c r)
  | .dic _ _, _, c, _ => by cases c
  | .ty _, _, c, _ => by cases c
  | .obj _ _ _, _, c, _ => by cases c
  | .adr _, _, c, _ => by cases c
  | .rng _ _, _, c, _ => by cases c
theorem RpL.dp {K : PySem.W.Frag} {F H : Hp} (sb : Same F H) : ∀ {ds : List D} {vs : List V}, PyData.canLayAll0 (toPyL ds) = true → RpL K F ds vs → DpAll K H vs (toPyL ds)
  | [], _, _, h => by
    have e : _ = [] := h
    subst e
    exact .nil
  | d :: ds, _, c, ⟨v, r, e, h1, h2⟩ => by
    subst e
    have c' : (PyData.canLay0 (toPy d) && PyData.canLayAll0 (toPyL ds)) = true := c
    rw [Bool.and_eq_true] at c'
    exact .cons (Rp.dp sb c'.1 h1) (RpL.dp sb c'.2 h2)
end
theorem RpV.dp {K : PySem.W.Frag} {F H : Hp} (sb : Same F H) : ∀ {d : D} {v : V}, (toPy d).canLay0 = true → RpV K F H d v → Dp K H v (toPy d)
  | .lst ds, _, c, ⟨a, vs, e, q, r⟩ => by
    subst e
    exact .lst (SqL.of q) (RpL.dp sb c r)
  | .non, _, c, h => Rp.dp sb c h
  | .bl _, _, c, h => Rp.dp sb c h
  | .int _, _, c, h => Rp.dp sb c h
  | .str _, _, c, h => Rp.dp sb c h
  | .tup _, _, c, h => Rp.dp sb c h
  | .fix _, _, c, h => Rp.dp sb c h
  | .dic _ _, _, c, h => Rp.dp sb c h
  | .ty _, _, c, h => Rp.dp sb c h
  | .obj _ _ _, _, c, h => Rp.dp sb c h
  | .adr _, _, c, h => Rp.dp sb c h
  | .rng _ _, _, c, h => Rp.dp sb c h
def eqD (d e : D) : Bool := PyData.eqv (toPy d) (toPy e)
def fEq : DOp2 := fun d e => if eqOk d = true ∧ eqOk e = true then some (.val (.bl (eqD d e))) else none
def fNe : DOp2 := fun d e => if eqOk d = true ∧ eqOk e = true then some (.val (.bl (!eqD d e))) else none
theorem fEq_ok {K : PySem.W.Frag} : Op2 K (rEqD K) fEq := by
  intro F H d1 d2 v1 v2 c Q sb h1 h2 e q
  unfold fEq at e
  split at e
  · rename_i hc
    cases e
    exact ⟨toPy d1, toPy d2, RpV.dp sb (shaped_ hc.1) h1, RpV.dp sb (shaped_ hc.2) h2, hc.1, hc.2, fin_val sb q rfl⟩
  · cases e
theorem fNe_ok {K : PySem.W.Frag} : Op2 K (rNeD K) fNe := by
  intro F H d1 d2 v1 v2 c Q sb h1 h2 e q
  unfold fNe at e
  split at e
  · rename_i hc
    cases e
    exact ⟨toPy d1, toPy d2, RpV.dp sb (shaped_ hc.1) h1, RpV.dp sb (shaped_ hc.2) h2, hc.1, hc.2, fin_val sb q rfl⟩
  · cases e
def isNon : D → Bool
  | .non => true
  | _ => false
theorem isNon_ok {K : PySem.W.Frag} {F H : Hp} : ∀ {d : D} {v : V}, RpV K F H d v → decide (v = .non) = isNon d
  | .non, _, h => by cases (show _ = V.non from h); rfl
  | .bl _, _, h => by cases (show _ = V.bl _ from h); rfl
  | .int _, _, h => by cases (show _ = V.int _ from h); rfl
  | .str _, _, h => by cases (show _ = V.str _ from h); rfl
  | .ty _, _, h => by cases (show _ = V.ty _ from h); rfl
  | .tup _, _, ⟨_, _, e, _⟩ => by subst e; rfl
  | .lst _, _, ⟨_, _, e, _⟩ => by subst e; rfl
  | .fix _, _, ⟨_, _, e, _⟩ => by subst e; rfl
  | .dic _ _, _, ⟨_, _, e, _⟩ => by subst e; rfl
  | .obj _ _ _, _, ⟨_, _, _, e, _⟩ => by subst e; rfl
  | .adr _, _, h => by cases (show _ = V.ref _ from h); rfl
  | .rng _ _, _, ⟨_, e, _⟩ => by cases e; rfl
/-- is None, is not None -/
def fIsN : DOp2
  | d, .non => some (.val (.bl (isNon d)))
  | _, _ => none
def fNotN : DOp2
  | d, .non => some (.val (.bl (!isNon d)))
  | _, _ => none
theorem fIsN_ok {K : PySem.W.Frag} : Op2 K (fun x y H Q => y = .non ∧ Q (.bl (decide (x = .non))) H) fIsN := by
  intro F H d1 d2 v1 v2 c Q sb h1 h2 e q
  cases d2 <;> first | (cases d1 <;> cases e; done) | skip
  have e' : some (Cell.val (.bl (isNon d1))) = some c := by cases d1 <;> exact e
  cases e'
  refine ⟨h2, ?_⟩
  rw [isNon_ok h1]
  exact fin_val sb q rfl
theorem fNotN_ok {K : PySem.W.Frag} : Op2 K (fun x y H Q => y = .non ∧ Q (.bl (!decide (x = .non))) H) fNotN := by
  intro F H d1 d2 v1 v2 c Q sb h1 h2 e q
  cases d2 <;> first | (cases d1 <;> cases e; done) | skip
  have e' : some (Cell.val (.bl (!isNon d1))) = some c := by cases d1 <;> exact e
  cases e'
  refine ⟨h2, ?_⟩
  rw [isNon_ok h1]
  exact fin_val sb q rfl
/-- is True, is not True, of truths -/
def fIsB : DOp2
  | .bl a, .bl b => some (.val (.bl (decide (a = b))))
  | _, _ => none
def fNotB : DOp2
  | .bl a, .bl b => some (.val (.bl (!decide (a = b))))
  | _, _ => none
theorem fIsB_ok {K : PySem.W.Frag} : Op2 K rIsB fIsB := by
  intro F H d1 d2 v1 v2 c Q sb h1 h2 e q
  cases d1 <;> cases d2 <;> first | (cases e; done) | skip
  cases (show v1 = V.bl _ from h1)
  cases (show v2 = V.bl _ from h2)
  cases e
  exact ⟨_, _, rfl, rfl, fin_val sb q rfl⟩
theorem fNotB_ok {K : PySem.W.Frag} : Op2 K rNotB fNotB := by
  intro F H d1 d2 v1 v2 c Q sb h1 h2 e q
  cases d1 <;> cases d2 <;> first | (cases e; done) | skip
  cases (show v1 = V.bl _ from h1)
  cases (show v2 = V.bl _ from h2)
  cases e
  exact ⟨_, _, rfl, rfl, fin_val sb q rfl⟩
/-! ### subscripts, slices -/
def fIx : DOp2
  | .tup xs, .int i => (atI xs i).map Cell.val
  | .lst xs, .int i => (atI xs i).map Cell.val
  | .fix xs, .int i => (atI xs i).map Cell.val
  | .str z, .int i => if z.length ≤ sizeLine then (atI z.cps.toList i).map fun c => .val (.str ⟨#[c]⟩) else none
  | _, _ => none
theorem atI_rp {K : PySem.W.Frag} {F : Hp} {ds : List D} {vs : List V} {i : Int} {d : D} (r : RpL K F ds vs) (h : atI ds i = some d) : ∃ v, atI vs i = some v ∧ Rp K F d v := by
  unfold atI at h ⊢
  rw [← r.length]
  cases e : ixN ds.length i with
  | none => rw [e] at h; cases h
  | some j =>
    rw [e] at h
    exact r.get h
theorem fIx_ok {K : PySem.W.Frag} : Op2 K (rIx K) fIx := by
  intro F H d1 d2 v1 v2 c Q sb h1 h2 e q
  cases d1 <;> cases d2 <;> first | (cases e; done) | skip
  · rename_i z i
    cases (show v1 = V.str _ from h1)
    cases (show v2 = V.int _ from h2)
    have e' : (if z.length ≤ sizeLine then (atI z.cps.toList i).map fun c => Cell.val (.str ⟨#[c]⟩) else none) = some c := e
    split at e'
    · rename_i hl
      cases ea : atI z.cps.toList i with
      | none => rw [ea] at e'; cases e'
      | some k =>
        rw [ea] at e'
        cases e'
        exact .inr (.inr ⟨z, i, k, rfl, rfl, hl, ea, fin_val sb q rfl⟩)
    · cases e'
  · rename_i xs i
    obtain ⟨a, vs, rfl, q1, r1⟩ := RpV.tup_ sb h1
    cases (show v2 = V.int _ from h2)
    have e' : (atI xs i).map Cell.val = some c := e
    cases ea : atI xs i with
    | none => rw [ea] at e'; cases e'
    | some d =>
      rw [ea] at e'
      cases e'
      obtain ⟨v, ev, rv⟩ := atI_rp r1 ea
      exact .inr (.inl ⟨a, vs, i, v, rfl, rfl, q1, ev, fin_val sb q rv⟩)
  · rename_i xs i
    obtain ⟨a, vs, rfl, q1, r1⟩ := h1
    cases (show v2 = V.int _ from h2)
    have e' : (atI xs i).map Cell.val = some c := e
    cases ea : atI xs i with
    | none => rw [ea] at e'; cases e'
    | some d =>
      rw [ea] at e'
      cases e'
      obtain ⟨v, ev, rv⟩ := atI_rp r1 ea
      exact .inl ⟨a, vs, i, v, rfl, rfl, SqL.of q1, ev, fin_val sb q rv⟩
  · rename_i xs i
    obtain ⟨a, vs, rfl, q1, r1⟩ := h1
    cases (show v2 = V.int _ from h2)
    have e' : (atI xs i).map Cell.val = some c := e
    cases ea : atI xs i with
    | none => rw [ea] at e'; cases e'
    | some d =>
      rw [ea] at e'
      cases e'
      obtain ⟨v, ev, rv⟩ := atI_rp r1 ea
      exact .inl ⟨a, vs, i, v, rfl, rfl, sb.seq q1, ev, fin_val sb q rv⟩
/-- xs[lo:hi] -/
def cutD {α : Type} (xs : List α) (lo hi : Option Int) : List α := (xs.drop (HT.sIx xs.length 0 lo)).take (HT.sIx xs.length xs.length hi - HT.sIx xs.length 0 lo)
def fSl (lo hi : Option Int) : DOp1
  | .tup xs => some (.val (.tup (cutD xs lo hi)))
  | .lst xs => some (.own (cutD xs lo hi))
  | .fix xs => some (.own (cutD xs lo hi))
  | .str z => if z.length ≤ sizeLine then some (.val (.str (cutS z lo hi))) else none
  | _ => none
def rSlD (K : PySem.W.Frag) : V → Option Int → Option Int → Hp → VK → Prop := fun x lo hi H Q => rSlA K x lo hi H Q ∨ (rSlL K x lo hi H Q ∨ rSlS x lo hi H Q)
theorem sl_D : SlR X (rSlD X.K) := sl_tupA.or (sl_list.or sl_str)
theorem cut_rp {K : PySem.W.Frag} {F : Hp} {ds : List D} {vs : List V} {lo hi : Option Int} (r : RpL K F ds vs) : RpL K F (cutD ds lo hi) (cutV vs lo hi) := by
  unfold cutD cutV
  rw [r.length]
  exact (r.drop _).take _
theorem fSl_ok {K : PySem.W.Frag} {lo hi : Option Int} : Op1 K (fun x H Q => rSlD K x lo hi H Q) (fSl lo hi) := by
  intro F H d v c Q sb h e q
  cases d <;> first | (cases e; done) | skip
  · rename_i z
    cases (show v = V.str _ from h)
    have e' : (if z.length ≤ sizeLine then some (Cell.val (.str (cutS z lo hi))) else none) = some c := e
    split at e'
    · rename_i hl
      cases e'
      exact .inr (.inr ⟨z, rfl, hl, fin_val sb q rfl⟩)
    · cases e'
  · rename_i xs
    obtain ⟨a, vs, rfl, q1, r1⟩ := RpV.tup_ sb h
    cases e
    refine .inl ⟨a, vs, rfl, q1, fun z => ?_, fun _ p hp => fin_tup sb q hp (cut_rp r1)⟩
    have ez : cutD xs lo hi = xs := by
      unfold cutD
      rw [r1.length, z.1, z.2, List.drop_zero, Nat.sub_zero, ← r1.length, List.take_length]
    rw [ez] at q
    exact fin_val sb q h
  · obtain ⟨a, vs, rfl, q1, r1⟩ := h
    cases e
    exact .inr (.inl ⟨a, vs, rfl, SqL.of q1, fun p hp => fin_lst sb q hp (cut_rp r1)⟩)
  · obtain ⟨a, vs, rfl, q1, r1⟩ := h
    cases e
    exact .inr (.inl ⟨a, vs, rfl, sb.seq q1, fun p hp => fin_lst sb q hp (cut_rp r1)⟩)
end
/-- a part of a slice: an int, or left out -/
def mPart : Option DE → En → (Option Int → En → Prop) → DX → Prop
  | none, ρ, Q, _ => Q none ρ
  | some t, ρ, Q, E => t ρ (fun d ρ1 => match d with
    | .int i => Q (some i) ρ1
    | _ => False) E
def rPart (B : Bd) (W : WX) (o : Option DE) : TO := fun σ H Q => ∃ F L ρ Qd Ed, SR B F L σ H ρ ∧ mPart o ρ Qd Ed ∧ (∀ i ρ' F' L' H', Qd i ρ' → SR B F' L' σ H' ρ' → Stp F L H F' L' H' → Q i H') ∧ XOk B W F Ed
def mSl (a : AX) (lo hi : Option DE) : DC := fun ρ Q E => mAX a ρ (fun x ρ1 => mPart lo ρ1 (fun i ρ2 => mPart hi ρ2 (fun j ρ3 => match view ρ3 x with
  | some d => ∃ c, fSl i j d = some c ∧ Q c ρ3
  | none => False) E) E) E
section
variable {X : Cx} {B : Bd} {W : WX} {pos : Pos}
theorem do_none : PO X none (rPart B W none) := ⟨fun pins s σ H Q I ⟨F, L, ρ, Qd, Ed, S, ht, hq, hx⟩ => po_none.run pins s σ H Q I (hq none ρ F L H ht S (Stp.refl _ _ _))⟩
theorem do_some {e : Expr} {t : DE} (h : PE X e (rV B W t)) : PO X (some e) (rPart B W (some t)) := by
  refine ⟨fun pins s σ H Q I ⟨F, L, ρ, Qd, Ed, S, ht, hq, hx⟩ => (po_some h).run pins s σ H Q I ⟨F, L, ρ, _, Ed, S, ht, fun d ρ' v F' L' H' k S' s r => ?_, hx⟩⟩
  cases d <;> first | (exact False.elim k) | skip
  rename_i i
  exact ⟨i, r, hq (some i) ρ' F' L' H' k S' s⟩
theorem dc_slice {e : Expr} {lo hi : Option Expr} {p2 : Pos} {ax : AX} {ol oh : Option DE} (he : PE X e (rX B W ax)) (hl : PO X lo (rPart B W ol)) (hu : PO X hi (rPart B W oh)) (hK : B.K = X.K := by rfl) :
    PE X (.Subscript e (.Slice lo hi none p2) pos) (rC B W (mSl ax ol oh)) := by
  refine pe_imp (pe_slice sl_D he hl hu) fun σ H Q ⟨F, L, ρ, Qd, Ed, S, ht, hq, hx⟩ => ?_
  refine ⟨F, L, ρ, _, Ed, S, ht, fun x ρ1 v F1 L1 H1 k1 S1 s1 r1 => ⟨F1, L1, ρ1, _, Ed, S1, k1, fun i ρ2 F2 L2 H2 k2 S2 s2 => ⟨F2, L2, ρ2, _, Ed, S2, k2, fun j ρ3 F3 L3 H3 k3 S3 s3 => ?_, (hx.mono s1.f).mono s2.f⟩, hx.mono s1.f⟩, hx⟩
  split at k3
  · rename_i d ed
    obtain ⟨c, ec, k3⟩ := k3
    have st := (s1.trans s2).trans s3
    exact hK ▸ fSl_ok F3 H3 d v c Q S3.sub (view_ok S3 ((r1.step s2).step s3) ed) ec fun w F' H' g sb n => hq c ρ3 w F' L3 H' k3 (S3.grow g sb) (st.trans g.stp) ((n.res S3).back st)
  · exact k3.elim
end
end DL
/-! The data layer: statements, targets, loops. -/
namespace DL
open PySem PySem.Spec PyProof.Rows L2
structure DEnds where
  nx : En → Prop
  rt : Cell → En → Prop
  bk : En → Prop
  ct : En → Prop
  ex : DX
abbrev DS := DEnds → En → Prop
/-- a cell beside the names: data; or a list that no name holds -/
def CellR (B : Bd) (F : Hp) (L : La) (H : Hp) : Cell → V → Prop
  | .val d, v => Rp B.K F d v
  | .own ds, v => ∃ a vs, v = .ref a ∧ H a = some (.lst vs) ∧ F a = none ∧ (∀ i, L i ≠ some a) ∧ B.H0 a = none ∧ RpL B.K F ds vs
theorem ResC.cell {B : Bd} {F H F' H' : Hp} {L L' : La} : ∀ {c : Cell} {v : V}, ResC B F L H F' L' H' c v → CellR B F' L' H' c v
  | .val _, _, h => h
  | .own _, _, ⟨a, vs, e, h1, h2, h3, h4, h5, _⟩ => ⟨a, vs, e, h1, h2, h3, h4, h5⟩
structure EOk (B : Bd) (W : WX) (F : Hp) (Dd : DEnds) (D : Ends) : Prop where
  nx : ∀ ρ' σ' F' L' H', Dd.nx ρ' → SR B F' L' σ' H' ρ' → Same F F' → D.nx σ' H'
  rt : ∀ r ρ' v σ' F' L' H', Dd.rt r ρ' → SR B F' L' σ' H' ρ' → Same F F' → CellR B F' L' H' r v → D.rt v H'
  bk : ∀ ρ' σ' F' L' H', Dd.bk ρ' → SR B F' L' σ' H' ρ' → Same F F' → D.bk σ' H'
  ct : ∀ ρ' σ' F' L' H', Dd.ct ρ' → SR B F' L' σ' H' ρ' → Same F F' → D.ct σ' H'
  ex : XOk B W F Dd.ex
theorem EOk.mono {B : Bd} {W : WX} {F F1 : Hp} {Dd : DEnds} {D : Ends} (o : EOk B W F Dd D) (s : Same F F1) : EOk B W F1 Dd D where
  nx := fun ρ' σ' F' L' H' q S z => o.nx ρ' σ' F' L' H' q S (s.trans z)
  rt := fun r ρ' v σ' F' L' H' q S z c => o.rt r ρ' v σ' F' L' H' q S (s.trans z) c
  bk := fun ρ' σ' F' L' H' q S z => o.bk ρ' σ' F' L' H' q S (s.trans z)
  ct := fun ρ' σ' F' L' H' q S z => o.ct ρ' σ' F' L' H' q S (s.trans z)
  ex := o.ex.mono s
def rS (B : Bd) (W : WX) (t : DS) : TS := fun D σ H => ∃ F L ρ Dd, SR B F L σ H ρ ∧ t Dd ρ ∧ EOk B W F Dd D
section
variable {X : Cx} {B : Bd} {W : WX}
/-- a weaker reading, the slots' number known -/
theorem ps_impL {st : Stmt} {t u : TS} (h : PS X st t) (i : ∀ D σ H, σ.length = X.N.length → u D σ H → t D σ H) : PS X st u := ⟨fun pins s σ H D I q => h.run pins s σ H D I (i D σ H I.len q)⟩
theorem pg_impL {e : Expr} {t u : TG} (h : PG X e t) (i : ∀ v σ H Q, σ.length = X.N.length → u v σ H Q → t v σ H Q) : PG X e u := ⟨fun pins s σ H v w Q I r q => h.run pins s σ H v w Q I r (i v σ H Q I.len q)⟩
theorem pgs_impL {es : List Expr} {t u : TGs} (h : PGs X es t) (i : ∀ v σ H Q, σ.length = X.N.length → u v σ H Q → t v σ H Q) : PGs X es u := ⟨fun pins s σ H v w Q I r q => h.run pins s σ H v w Q I r (i v σ H Q I.len q)⟩
variable {pos : Pos}
def mNext : DS := fun D ρ => D.nx ρ
def mSeq (t u : DS) : DS := fun D ρ => t { D with nx := u D } ρ
theorem dss_nil : PSs X [] (rS B W mNext) := pss_imp pss_nil fun D σ H ⟨F, L, ρ, Dd, S, q, o⟩ => o.nx ρ σ F L H q S (Same.refl F)
theorem dss_cons {st : Stmt} {rest : List Stmt} {t u : DS} (h1 : PS X st (rS B W t)) (h2 : PSs X rest (rS B W u)) : PSs X (st :: rest) (rS B W (mSeq t u)) :=
  pss_imp (pss_cons h1 h2) fun D σ H ⟨F, L, ρ, Dd, S, q, o⟩ => ⟨F, L, ρ, { Dd with nx := u Dd }, S, q, ⟨fun ρ' σ' F' L' H' k S' z => ⟨F', L', ρ', Dd, S', k, o.mono z⟩, o.rt, o.bk, o.ct, o.ex⟩⟩
theorem dss_one {st : Stmt} {t : DS} (h : PS X st (rS B W t)) : PSs X [st] (rS B W t) := pss_one h
theorem ds_pass : PS X (.Pass pos) (rS B W mNext) := ps_imp ps_pass fun D σ H ⟨F, L, ρ, Dd, S, q, o⟩ => o.nx ρ σ F L H q S (Same.refl F)
def mBreak : DS := fun D ρ => D.bk ρ
def mCont : DS := fun D ρ => D.ct ρ
theorem ds_break : PS X (.Break pos) (rS B W mBreak) := ps_imp ps_break fun D σ H ⟨F, L, ρ, Dd, S, q, o⟩ => o.bk ρ σ F L H q S (Same.refl F)
theorem ds_continue : PS X (.Continue pos) (rS B W mCont) := ps_imp ps_continue fun D σ H ⟨F, L, ρ, Dd, S, q, o⟩ => o.ct ρ σ F L H q S (Same.refl F)
theorem ds_doc {x : Str} {j : Nat} {pos' : Pos} : PS X (.Expr (.Constant (.str x) j pos) pos') (rS B W mNext) := ps_imp ps_doc fun D σ H ⟨F, L, ρ, Dd, S, q, o⟩ => o.nx ρ σ F L H q S (Same.refl F)
def mDrop (t : DC) : DS := fun D ρ => t ρ (fun _ ρ1 => D.nx ρ1) D.ex
theorem ds_expr {e : Expr} {t : DC} (he : PE X e (rC B W t)) (hs : swapsWith e none pos.line X.env = pure false := by rfl) : PS X (.Expr e pos) (rS B W (mDrop t)) :=
  ps_imp (ps_expr he hs) fun D σ H ⟨F, L, ρ, Dd, S, q, o⟩ => ⟨F, L, ρ, _, Dd.ex, S, q, fun c ρ' v F' L' H' k S' s _ => o.nx ρ' σ F' L' H' k S' s.f, o.ex⟩
def mRet (t : DC) : DS := fun D ρ => t ρ D.rt D.ex
theorem ds_ret {e : Expr} {t : DC} (he : PE X e (rC B W t)) : PS X (.Return (some e) pos) (rS B W (mRet t)) :=
  ps_imp (ps_ret he) fun D σ H ⟨F, L, ρ, Dd, S, q, o⟩ => ⟨F, L, ρ, Dd.rt, Dd.ex, S, q, fun c ρ' v F' L' H' k S' s r => o.rt c ρ' v σ F' L' H' k S' s.f r.cell, o.ex⟩
def mRetN : DS := fun D ρ => D.rt (.val .non) ρ
theorem ds_retN : PS X (.Return none pos) (rS B W mRetN) := ps_imp ps_retN fun D σ H ⟨F, L, ρ, Dd, S, q, o⟩ => o.rt (.val .non) ρ .non σ F L H q S (Same.refl F) rfl
def mIfS (c : DT) (t u : DS) : DS := fun D ρ => c ρ (fun b ρ1 => if b = true then t D ρ1 else u D ρ1) D.ex
theorem ds_if {c : Expr} {a b : List Stmt} {tc : DT} {t u : DS} (hc : PT X c (rT B W tc)) (ha : PSs X a (rS B W t)) (hb : PSs X b (rS B W u)) : PS X (.If c a b pos) (rS B W (mIfS tc t u)) :=
  ps_imp (ps_if hc ha hb) fun D σ H ⟨F, L, ρ, Dd, S, q, o⟩ => ⟨F, L, ρ, _, Dd.ex, S, q, fun c ρ' F' L' H' k S' s => by
    cases c with
    | true => exact ⟨F', L', ρ', Dd, S', k, o.mono s.f⟩
    | false => exact ⟨F', L', ρ', Dd, S', k, o.mono s.f⟩, o.ex⟩
/-! ### targets -/
/-- a name; a place of a list of one's own; several -/
inductive Tg where
  | nm (i : Nat) | sub (i : Nat) (ix : DE) | tp (ts : List Tg)
def setIx (ρ : En) (i : Nat) (k d : D) (Q : En → Prop) : Prop := match k, ρ.getD i none with
  | .int k, some (.own ds) => ∃ j, ixN ds.length k = some j ∧ Q (ρ.set i (some (.own (ds.set j d))))
  | _, _ => False
mutual
def tgGo : Tg → Cell → En → (En → Prop) → DX → Prop
  | .nm i, c, ρ, Q, _ => Q (ρ.set i (some c))
  | .sub i ix, c, ρ, Q, E => match ρ.getD i none with
    | some (.own _) => ix ρ (fun k ρ1 => setIx ρ1 i k c.toD Q) E
    | _ => False
  | .tp ts, c, ρ, Q, E => match c with
    | .val (.tup ds) => ds.length = ts.length ∧ tgsGo ts (ds.map Cell.val) ρ Q E
    | _ => False
def tgsGo : List Tg → List Cell → En → (En → Prop) → DX → Prop
  | [], [], ρ, Q, _ => Q ρ
  | t :: ts, c :: cs, ρ, Q, E => tgGo t c ρ (fun ρ1 => tgsGo ts cs ρ1 Q E) E
  | _, _, _, _, _ => False
end
def putL (L : La) (i : Nat) (o : Option Addr) : La := fun j => if j = i then o else L j
theorem SR.put {F H : Hp} {L : La} {σ : L2.St} {ρ : En} {i : Nat} {d : D} {v : V} (S : SR B F L σ H ρ) (hi : B.ios.contains i = false) (hl : i < σ.length) (r : Rp B.K F d v) : SR B F (forget L i) (σ.set i (some v)) H (ρ.set i (some (.val d))) where
  len := by rw [List.length_set, List.length_set]; exact S.len
  sub := S.sub
  slot := fun j => by
    unfold forget
    by_cases hj : j = i
    · subst hj
      rw [if_pos rfl, getD_set_self (by rw [S.len]; exact hl), getD_set_self hl]
      exact ⟨rfl, v, rfl, r⟩
    · rw [if_neg hj, getD_set_ne (fun z => hj z.symm), getD_set_ne (fun z => hj z.symm)]
      exact S.slot j
  inj := (S.drop hi).inj
  f0 := S.f0
  fn := S.fn
  keep := S.keep
  io := (S.drop hi).io
  al := S.al
theorem SR.putO {F H : Hp} {L : La} {σ : L2.St} {ρ : En} {i : Nat} {ds : List D} {a : Addr} {vs : List V} (S : SR B F L σ H ρ) (hi : B.ios.contains i = false) (hl : i < σ.length) (h1 : H a = some (.lst vs)) (h2 : F a = none) (h3 : ∀ j, L j ≠ some a) (h4 : B.H0 a = none)
    (r : RpL B.K F ds vs) : SR B F (putL L i (some a)) (σ.set i (some (.ref a))) H (ρ.set i (some (.own ds))) where
  len := by rw [List.length_set, List.length_set]; exact S.len
  sub := S.sub
  slot := fun j => by
    unfold putL
    by_cases hj : j = i
    · subst hj
      rw [if_pos rfl, getD_set_self (by rw [S.len]; exact hl), getD_set_self hl]
      exact ⟨a, vs, rfl, rfl, h1, h2, r, .inr h4⟩
    · rw [if_neg hj, getD_set_ne (fun z => hj z.symm), getD_set_ne (fun z => hj z.symm)]
      exact S.slot j
  inj := fun j k b e1 e2 => by
    unfold putL at e1 e2
    split at e1
    · split at e2
      · rename_i q1 q2; rw [q1, q2]
      · cases e1; exact absurd e2 (h3 k)
    · split at e2
      · cases e2; exact absurd e1 (h3 j)
      · exact S.inj j k b e1 e2
  f0 := S.f0
  fn := S.fn
  keep := S.keep
  io := fun j hj => by
    unfold putL
    rw [if_neg (fun z => by subst z; rw [List.contains_iff_mem.mpr hj] at hi; cases hi)]
    exact S.io j hj
  al := S.al
theorem CellR.stp {F H F' H' : Hp} {L L' : La} (s : Stp F L H F' L' H') : ∀ {c : Cell} {v : V}, CellR B F L H c v → CellR B F' L' H' c v
  | .val _, _, h => Rp.mono s.f h
  | .own ds, _, ⟨a, vs, e, h1, h2, h3, h4, h5⟩ => ⟨a, vs, e, s.h _ _ h1 h3, by
      cases q : F' a with
      | none => rfl
      | some o =>
        rcases s.fn a o q with z | z | ⟨i, z⟩
        · rw [h2] at z; cases z
        · rw [h1] at z; cases z
        · exact absurd z (h3 i), fun i q => h3 i (s.l i a q), h4, h5.mono s.f⟩
def ownA : Cell → V → List Addr
  | .own _, .ref a => [a]
  | _, _ => []
def ownAs : List Cell → List V → List Addr
  | c :: cs, v :: vs => ownA c v ++ ownAs cs vs
  | _, _ => []
/-- several cells, their lists apart -/
def CellsR (B : Bd) (F : Hp) (L : La) (H : Hp) : List Cell → List V → Prop
  | [], vs => vs = []
  | c :: cs, vs => ∃ v r, vs = v :: r ∧ CellR B F L H c v ∧ CellsR B F L H cs r ∧ ∀ a, a ∈ ownA c v → a ∉ ownAs cs r
theorem CellsR.stp {F H F' H' : Hp} {L L' : La} (s : Stp F L H F' L' H') : ∀ {cs : List Cell} {vs : List V}, CellsR B F L H cs vs → CellsR B F' L' H' cs vs
  | [], _, h => h
  | _ :: _, _, ⟨v, r, e, h1, h2, h3⟩ => ⟨v, r, e, h1.stp s, CellsR.stp s h2, h3⟩
theorem CellsR.vals {F H : Hp} {L : La} : ∀ {ds : List D} {vs : List V}, RpL B.K F ds vs → CellsR B F L H (ds.map Cell.val) vs
  | [], _, h => h
  | _ :: _, _, ⟨v, r, e, h1, h2⟩ => ⟨v, r, e, h1, CellsR.vals h2, fun a z => by cases z⟩
theorem CellsR.length {F H : Hp} {L : La} : ∀ {cs : List Cell} {vs : List V}, CellsR B F L H cs vs → cs.length = vs.length
  | [], _, h => by
    have e : _ = [] := h
    subst e
    rfl
  | _ :: _, _, ⟨v, r, e, h1, h2, h3⟩ => by
    subst e
    rw [List.length_cons, List.length_cons, CellsR.length h2]
/-- from one state to the next, of names too -/
structure Mv (B : Bd) (F : Hp) (L : La) (H F' : Hp) (L' : La) (H' : Hp) (own : List Addr) : Prop where
  f : Same F F'
  /-- a list that no name holds is as it was, unless it is one of own -/
  c : ∀ c v, CellR B F L H c v → (∀ a, a ∈ ownA c v → a ∉ own) → CellR B F' L' H' c v
theorem CellsR.mv {F H F' H' : Hp} {L L' : La} {own : List Addr} (m : Mv B F L H F' L' H' own) : ∀ {cs : List Cell} {vs : List V}, CellsR B F L H cs vs → (∀ a, a ∈ own → a ∉ ownAs cs vs) → CellsR B F' L' H' cs vs
  | [], _, h, _ => h
  | c :: cs, _, ⟨v, r, e, h1, h2, h3⟩, n => by
    subst e
    have n1 : ∀ a, a ∈ own → a ∉ ownA c v ++ ownAs cs r := n
    exact ⟨v, r, rfl, m.c c v h1 fun a ha ho => n1 a ho (List.mem_append_left _ ha), CellsR.mv m h2 fun a ha hb => n1 a ha (List.mem_append_right _ hb), h3⟩
theorem Mv.of_stp {F H F' H' : Hp} {L L' : La} (s : Stp F L H F' L' H') : Mv B F L H F' L' H' [] := ⟨s.f, fun _ _ h _ => h.stp s⟩
theorem Mv.mono {F H F' H' : Hp} {L L' : La} {o o' : List Addr} (m : Mv B F L H F' L' H' o) (h : ∀ a, a ∈ o → a ∈ o') : Mv B F L H F' L' H' o' := ⟨m.f, fun c v r n => m.c c v r fun a ha hb => n a ha (h a hb)⟩
theorem Mv.trans {F H F1 H1 F2 H2 : Hp} {L L1 L2 : La} {o : List Addr} (a : Mv B F L H F1 L1 H1 o) (b : Mv B F1 L1 H1 F2 L2 H2 o) : Mv B F L H F2 L2 H2 o := ⟨a.f.trans b.f, fun c v r n => b.c c v (a.c c v r n) n⟩
/-- a target takes a cell -/
def rG (B : Bd) (W : WX) (tg : Tg) : TG := fun v σ H Q => ∃ F L ρ Qd Ed c, SR B F L σ H ρ ∧ CellR B F L H c v ∧ tgGo tg c ρ Qd Ed ∧
  (∀ ρ' σ' F' L' H', Qd ρ' → SR B F' L' σ' H' ρ' → Mv B F L H F' L' H' (ownA c v) → Q σ' H') ∧ XOk B W F Ed
def rGs (B : Bd) (W : WX) (ts : List Tg) : TGs := fun vs σ H Q => ∃ F L ρ Qd Ed cs, SR B F L σ H ρ ∧ CellsR B F L H cs vs ∧ tgsGo ts cs ρ Qd Ed ∧
  (∀ ρ' σ' F' L' H', Qd ρ' → SR B F' L' σ' H' ρ' → Mv B F L H F' L' H' (ownAs cs vs) → Q σ' H') ∧ XOk B W F Ed
theorem mv_forget {F H : Hp} {L : La} {i : Nat} {o : List Addr} : Mv B F L H F (forget L i) H o := ⟨Same.refl F, fun c v h _ => h.stp Stp.drop⟩
theorem mv_put {F H : Hp} {L : La} {i : Nat} {a : Addr} : Mv B F L H F (putL L i (some a)) H [a] := ⟨Same.refl F, fun c v h n => by
  cases c with
  | val d => exact h
  | own ds =>
    obtain ⟨b, vs, e, h1, h2, h3, h4, h5⟩ := h
    subst e
    refine ⟨b, vs, rfl, h1, h2, fun j q => ?_, h4, h5⟩
    unfold putL at q
    split at q
    · cases q
      exact n _ List.mem_cons_self List.mem_cons_self
    · exact h3 j q⟩
theorem dg_nm (i : Nat) {x : Str} (hN : X.N.Nodup) (hio : B.ios.contains i = false := by rfl) (hi : X.N[i]? = some x := by rfl) (hx : Loc X.env.scope x := by first | exact Or.inl rfl | exact Or.inr rfl)
    (hf : X.fn x = true ∨ X.env.scope.names.lookup x = some .local := by first | exact .inl rfl | exact .inr rfl) : PG X (.Name x pos) (rG B W (.nm i)) := by
  refine pg_impL (pg_name hN hi hx hf) fun v σ H Q hl ⟨F, L, ρ, Qd, Ed, c, S, r, q, o, hxx⟩ => ?_
  have hlt : i < σ.length := by rw [hl]; exact (List.getElem?_eq_some_iff.mp hi).1
  cases c with
  | val d => exact o _ _ _ _ _ q (S.put hio hlt r) mv_forget
  | own ds =>
    obtain ⟨a, vs, e, h1, h2, h3, h4, h5⟩ := r
    subst e
    exact o _ _ _ _ _ q (S.putO hio hlt h1 h2 h3 h4 h5) mv_put
/-- cells to data: a list that no name holds is made still -/
theorem CellR.toD {F H : Hp} {L : La} {σ : L2.St} {ρ : En} (S : SR B F L σ H ρ) : ∀ {c : Cell} {v : V}, CellR B F L H c v → ∃ F', SR B F' L σ H ρ ∧ Rp B.K F' c.toD v ∧ Mv B F L H F' L H (ownA c v)
  | .val d, v, h => ⟨F, S, h, Mv.mono (Mv.of_stp (Stp.refl _ _ _)) fun _ z => by cases z⟩
  | .own ds, v, h => by
    obtain ⟨a, vs, e, h1, h2, h3, h4, h5⟩ := h
    subst e
    refine ⟨upd F a (.lst vs), S.freeze h1 h2 h3 h4, ⟨a, vs, rfl, upd_same, h5.mono (same_upd h2)⟩, same_upd h2, fun c v h n => ?_⟩
    cases c with
    | val d => exact Rp.mono (same_upd h2) h
    | own es =>
      obtain ⟨b, us, e, g1, g2, g3, g4, g5⟩ := h
      subst e
      have hb : b ≠ a := fun z => n b List.mem_cons_self (by rw [z]; exact List.mem_cons_self)
      exact ⟨b, us, rfl, g1, by rw [upd_ne hb]; exact g2, g3, g4, g5.mono (same_upd h2)⟩
theorem SR.write {F H : Hp} {L : La} {σ : L2.St} {ρ : En} {i : Nat} {a : Addr} {ds' : List D} {vs' : List V} (S : SR B F L σ H ρ) (h : L i = some a) (r : RpL B.K F ds' vs') : SR B F L σ (upd H a (.lst vs')) (ρ.set i (some (.own ds'))) := by
  obtain ⟨ds, vs, e1, e2, e3, e4, e5, e6⟩ := S.own h
  have nF : ∀ b o, F b = some o → b ≠ a := fun b o q z => by rw [z, e4] at q; cases q
  refine ⟨by rw [List.length_set]; exact S.len, fun b o q => by rw [upd_ne (nF b o q)]; exact S.sub b o q, fun j => ?_, S.inj, S.f0, S.fn, fun b o q n => ?_, S.io, fun b n => ?_⟩
  · by_cases hj : i = j
    · subst hj
      rw [getD_set_self (getD_lt e1)]
      exact ⟨a, vs', e2, h, upd_same, e4, r, e6⟩
    · rw [getD_set_ne hj]
      have q := S.slot j
      revert q
      cases ρ.getD j none with
      | none => exact id
      | some c =>
        cases c with
        | val d => exact id
        | own es =>
          intro ⟨b, us, g1, g2, g3, g4, g5, g6⟩
          have hb : b ≠ a := fun z => hj (S.inj i j a h (by rw [g2, z]))
          exact ⟨b, us, g1, g2, by rw [upd_ne hb]; exact g3, g4, g5, g6⟩
  · have hb : b ≠ a := fun z => by
      subst z
      rcases e6 with ⟨j, hj, ej⟩ | z
      · exact n j hj ej
      · rw [z] at q; cases q
    rw [upd_ne hb]
    exact S.keep b o q n
  · by_cases hb : b = a
    · rw [hb, upd_same]; simp
    · rw [upd_ne hb]; exact S.al b n
theorem mv_write {F H : Hp} {L : La} {i : Nat} {a : Addr} {vs' : List V} {o : List Addr} (h : L i = some a) : Mv B F L H F L (upd H a (.lst vs')) o := ⟨Same.refl F, fun c v r _ => by
  cases c with
  | val d => exact r
  | own es =>
    obtain ⟨b, us, e, g1, g2, g3, g4, g5⟩ := r
    have hb : b ≠ a := fun z => g3 i (by rw [h, z])
    exact ⟨b, us, e, by rw [upd_ne hb]; exact g1, g2, g3, g4, g5⟩⟩
theorem stp_write {F H : Hp} {L : La} {i : Nat} {a : Addr} {vs' : List V} (h : L i = some a) (hH : H a ≠ none) : Stp F L H F L (upd H a (.lst vs')) where
  f := Same.refl F
  l := fun _ _ q => q
  h := fun b o q n => by rw [upd_ne (fun z => n i (by rw [h, z]))]; exact q
  fn := fun _ _ q => .inl q
  al := fun b n => by
    by_cases hb : b = a
    · rw [hb, upd_same]; simp
    · rw [upd_ne hb]; exact n
theorem dg_sub (i : Nat) {x : Str} {ix : Expr} {t : DE} {p : Pos} (hix : PE X ix (rV B W t)) (hN : X.N[i]? = some x := by rfl) (hv : Vis X.env.scope x := by first | exact Or.inl rfl | exact Or.inr (Or.inl rfl) | exact Or.inr (Or.inr rfl)) (hd : (x == ("__debug__" : Str)) = false := by decide)
    (hcd : (x == ("__classdict__" : Str)) = false := by decide)
    (ha : ∀ v, assign (.Subscript (.Name x p) ix pos) X.env v = (do
      let ov ← holding [v] (eval (.Name x p) X.env)
      let iv ← holding [v, ov] (eval ix X.env)
      standAt pos
      holding [v, ov, iv] (setItem ov iv v)
      release [v, ov, iv] []) := by intro _; rfl) : PG X (.Subscript (.Name x p) ix pos) (rG B W (.sub i t)) := by
  refine pg_impL (pg_sub (pe_var (i := i) hN hv hd hcd) hix set_list ha) fun v σ H Q hl ⟨F, L, ρ, Qd, Ed, c, S, r, q, o, hx⟩ => ?_
  obtain ⟨F1, S1, r1, m1⟩ := r.toD S
  have q0 : (match ρ.getD i none with | some (.own _) => t ρ (fun k ρ1 => setIx ρ1 i k c.toD Qd) Ed | _ => False) := q
  split at q0
  · rename_i es e0
    obtain ⟨a, vs, e1, e2, e3, _⟩ := S.ow e0
    refine ⟨_, e1, F1, L, ρ, _, Ed, S1, q0, fun k ρ1 kv F2 L2 H2 z S2 s2 rk => ?_, hx.mono m1.f⟩
    unfold setIx at z
    split at z
    · rename_i k ds eo
      obtain ⟨j, ej, z⟩ := z
      obtain ⟨b, us, g1, g2, g3, g4, g5, g6⟩ := S2.ow eo
      have ea : L i = some b := s2.l i b g2
      rw [e2] at ea
      cases ea
      have hk : kv = .int k := rk
      subst hk
      refine ⟨a, us, k, j, rfl, rfl, g3, by rw [← g5.length]; exact ej, ?_⟩
      refine o _ _ _ _ _ z (S2.write g2 (g5.set (r1.mono s2.f) j)) ?_
      exact m1.trans (((Mv.of_stp s2).mono fun _ z => by cases z).trans (mv_write g2))
    · exact z.elim
  · exact q0.elim
theorem dgs_nil : PGs X [] (rGs B W []) := by
  refine pgs_impL pgs_nil fun vs σ H Q _ ⟨F, L, ρ, Qd, Ed, cs, S, r, q, o, hx⟩ => ?_
  cases cs with
  | nil => exact ⟨r, o _ _ _ _ _ q S ((Mv.of_stp (Stp.refl _ _ _)).mono fun _ z => by cases z)⟩
  | cons c cs => exact False.elim q
theorem dgs_cons {e : Expr} {es : List Expr} {t : Tg} {ts : List Tg} (h1 : PG X e (rG B W t)) (h2 : PGs X es (rGs B W ts)) (hs : (assignEach (e :: es) X.env).map (·.2) = assign e X.env :: (assignEach es X.env).map (·.2) := by rfl) : PGs X (e :: es) (rGs B W (t :: ts)) := by
  refine pgs_impL (pgs_cons h1 h2 hs) fun vs σ H Q _ ⟨F, L, ρ, Qd, Ed, cs, S, r, q, o, hx⟩ => ?_
  cases cs with
  | nil => exact False.elim q
  | cons c cs =>
    obtain ⟨v, r', e, c1, c2, n⟩ := r
    subst e
    refine ⟨v, r', rfl, F, L, ρ, _, Ed, c, S, c1, q, fun ρ1 σ1 F1 L1 H1 q1 S1 m1 => ⟨F1, L1, ρ1, Qd, Ed, cs, S1, c2.mv m1 n, q1, fun ρ' σ' F' L' H' q' S' m' => ?_, hx.mono m1.f⟩, hx⟩
    exact o _ _ _ _ _ q' S' ((m1.mono fun a ha => List.mem_append_left _ ha).trans (m'.mono fun a ha => List.mem_append_right _ ha))
/-- (a, b) = a pair told as data -/
theorem dg_tp {es : List Expr} {k : Nat} {ts : List Tg} {n : Nat} (hc : X.calm = true) (h : PGs X es (rGs B W ts)) (htn : ts.length = n := by rfl) (hn : (assignEach es X.env).length = n := by rfl) (hst : (assignEach es X.env).findIdx? (·.1) = none := by rfl) (hK : B.K = X.K := by rfl) :
    PG X (.Tuple es k pos) (rG B W (.tp ts)) := by
  refine pg_impL (pg_tup hc h hn hst) fun v σ H Q _ ⟨F, L, ρ, Qd, Ed, c, S, r, q, o, hx⟩ => ?_
  cases c with
  | own _ => exact False.elim q
  | val d =>
    cases d <;> first | (exact False.elim q) | skip
    rename_i ds
    obtain ⟨a, vs, e, h1, h2⟩ := r
    subst e
    obtain ⟨hl, q'⟩ : ds.length = ts.length ∧ tgsGo ts (ds.map Cell.val) ρ Qd Ed := q
    refine ⟨a, vs, rfl, hK ▸ Same.tseq S.sub h1, by rw [← h2.length, hl, htn], F, L, ρ, Qd, Ed, _, S, CellsR.vals h2, q', fun ρ' σ' F' L' H' q S' m => o _ _ _ _ _ q S' (m.mono fun b hb => ?_), hx⟩
    have z : ∀ (ds : List D) (vs : List V), b ∉ ownAs (ds.map Cell.val) vs := by
      intro ds
      induction ds with
      | nil => intro vs hm; cases hm
      | cons d ds ih =>
        intro vs hm
        cases vs with
        | nil => cases hm
        | cons v vs => exact ih vs hm
    exact absurd hb (z ds vs)
/-! ### assignments -/
def mAsg (tg : Tg) (t : DC) : DS := fun D ρ => t ρ (fun c ρ1 => tgGo tg c ρ1 D.nx D.ex) D.ex
theorem asg_imp {tg : Tg} {t : DC} {D : Ends} {σ : L2.St} {H : Hp} (h : rS B W (mAsg tg t) D σ H) : rC B W t σ H fun x H1 => rG B W tg x σ H1 D.nx := by
  obtain ⟨F, L, ρ, Dd, S, q, o⟩ := h
  exact ⟨F, L, ρ, _, Dd.ex, S, q, fun c ρ1 v F1 L1 H1 k S1 s1 r1 => ⟨F1, L1, ρ1, Dd.nx, Dd.ex, c, S1, r1.cell, k, fun ρ' σ' F' L' H' q' S' m => o.nx ρ' σ' F' L' H' q' S' (s1.f.trans m.f), o.ex.mono s1.f⟩, o.ex⟩
theorem ds_asg {tg e : Expr} {g : Tg} {t : DC} (he : PE X e (rC B W t)) (hg : PG X tg (rG B W g)) (hs : swapsWithSole [tg] e pos.line X.env = pure false := by rfl) (hw : swappedStores [tg] e X.env = pure none := by rfl)
    (h1 : (assignEach [tg] X.env).map (·.2) = [assign tg X.env] := by rfl) : PS X (.Assign [tg] e pos) (rS B W (mAsg g t)) := ps_imp (ps_asg he hg hs hw h1) fun _ _ _ h => asg_imp h
/-- name = value -/
theorem ds_set (i : Nat) {x : Str} {e : Expr} {t : DC} {pos' : Pos} (he : PE X e (rC B W t)) (hN : X.N.Nodup) (hio : B.ios.contains i = false := by rfl) (hi : X.N[i]? = some x := by rfl) (hx : Loc X.env.scope x := by first | exact Or.inl rfl | exact Or.inr rfl)
    (hs : swapsWith e (some (.Name x pos')) pos.line X.env = pure false := by rfl) (hf : X.fn x = true ∨ X.env.scope.names.lookup x = some .local := by first | exact .inl rfl | exact .inr rfl) : PS X (.Assign [.Name x pos'] e pos) (rS B W (mAsg (.nm i) t)) := by
  refine ps_impL (ps_set hN hi hx he hs hf) fun D σ H hl h => ?_
  obtain ⟨F, L, ρ, Dd, S, q, o⟩ := h
  have hlt : i < σ.length := by rw [hl]; exact (List.getElem?_eq_some_iff.mp hi).1
  refine ⟨F, L, ρ, _, Dd.ex, S, q, fun c ρ1 v F1 L1 H1 k S1 s1 r1 => ?_, o.ex⟩
  have k' : Dd.nx (ρ1.set i (some c)) := k
  cases c with
  | val d => exact o.nx _ _ _ _ _ k' (S1.put hio hlt r1) s1.f
  | own ds =>
    obtain ⟨a, vs, e, h1, h2, h3, h4, h5, _⟩ := r1
    subst e
    exact o.nx _ _ _ _ _ k' (S1.putO hio hlt h1 h2 h3 h4 h5) s1.f
/-! several expressions, one after the other -/
def mCs : List DC → En → (List Cell → En → Prop) → DX → Prop
  | [], ρ, Q, _ => Q [] ρ
  | t :: ts, ρ, Q, E => t ρ (fun c ρ1 => mCs ts ρ1 (fun cs => Q (c :: cs)) E) E
def rCs (B : Bd) (W : WX) (ts : List DC) : TA := fun σ H Q => ∃ F L ρ Qd Ed, SR B F L σ H ρ ∧ mCs ts ρ Qd Ed ∧
  (∀ cs ρ' vs F' L' H', Qd cs ρ' → SR B F' L' σ H' ρ' → Stp F L H F' L' H' → CellsR B F' L' H' cs vs → (∀ a, a ∈ ownAs cs vs → H a = none ∨ ∃ i, L i = some a) → Q vs H') ∧ XOk B W F Ed
theorem dcs_nil : PA X [] (rCs B W []) := pa_imp pa_nil fun σ H Q ⟨F, L, ρ, Qd, Ed, S, ht, hq, hx⟩ => hq [] ρ [] F L H ht S (Stp.refl _ _ _) rfl (fun a z => by cases z)
theorem dcs_cons {e : Expr} {es : List Expr} {t : DC} {ts : List DC} (ha : PE X e (rC B W t)) (hr : PA X es (rCs B W ts)) (hs : starEach (e :: es) X.env = (false, eval e X.env) :: starEach es X.env := by rfl) : PA X (e :: es) (rCs B W (t :: ts)) := by
  refine pa_imp (pa_cons ha hr hs) fun σ H Q ⟨F, L, ρ, Qd, Ed, S, ht, hq, hx⟩ => ?_
  refine ⟨F, L, ρ, _, Ed, S, ht, fun c ρ1 v F1 L1 H1 q1 S1 s1 r1 => ⟨F1, L1, ρ1, _, Ed, S1, q1, fun cs ρ2 vs F2 L2 H2 q2 S2 s2 r2 nw => ?_, hx.mono s1.f⟩, hx⟩
  have nw2 : ∀ a, a ∈ ownA c v → (H a = none ∨ ∃ i, L i = some a) ∧ H1 a ≠ none ∧ ∀ i, L1 i ≠ some a := fun a ha => by
    cases c with
    | val d => cases ha
    | own ds =>
      obtain ⟨b, us, e, g1, g2, g3, g4, g5, g6⟩ := r1
      subst e
      have : a = b := by simpa [ownA] using ha
      subst this
      exact ⟨g6, by rw [g1]; simp, g3⟩
  refine hq (c :: cs) ρ2 (v :: vs) F2 L2 H2 q2 S2 (s1.trans s2) ⟨v, vs, rfl, r1.cell.stp s2, r2, fun a ha hb => ?_⟩ fun a ha => ?_
  · obtain ⟨_, n1, n2⟩ := nw2 a ha
    rcases nw a hb with z | ⟨i, z⟩
    · exact n1 z
    · exact n2 i z
  · have ha' : a ∈ ownA c v ++ ownAs cs vs := ha
    rcases List.mem_append.mp ha' with z | z
    · exact (nw2 a z).1
    · rcases nw a z with q | ⟨i, q⟩
      · refine .inl ?_
        cases e0 : H a with
        | none => rfl
        | some o => exact absurd q (s1.al a (by rw [e0]; simp))
      · exact .inr ⟨i, s1.l i a q⟩
/-- a, b = x, y -/
def mPar (tgs : List Tg) (ts : List DC) : DS := fun D ρ => mCs ts ρ (fun cs ρ1 => cs.length = tgs.length ∧ tgsGo tgs cs ρ1 D.nx D.ex) D.ex
/-- .. by the pair itself -/
theorem ds_parT {es vs : List Expr} {k k2 : Nat} {p p2 : Pos} {tgs : List Tg} {ts : List DC} {n : Nat} (hc : X.calm = true) (hv : PA X vs (rCs B W ts)) (hg : PGs X es (rGs B W tgs)) (hn : (assignEach es X.env).length = n := by rfl) (hst : (assignEach es X.env).findIdx? (·.1) = none := by rfl)
    (hln : tgs.length = n := by rfl) (hsz : n ≤ sizeLine := by decide) (hs : swapsWithSole [.Tuple es k p] (.Tuple vs k2 p2) pos.line X.env = pure false := by rfl) (hw : swappedStores [.Tuple es k p] (.Tuple vs k2 p2) X.env = pure none := by rfl)
    (h1 : (assignEach [.Tuple es k p] X.env).map (·.2) = [assign (.Tuple es k p) X.env] := by rfl) : PS X (.Assign [.Tuple es k p] (.Tuple vs k2 p2) pos) (rS B W (mPar tgs ts)) := by
  refine ps_imp (ps_asg (pe_tup hv) (pg_tup hc hg hn hst) hs hw h1) fun D σ H ⟨F, L, ρ, Dd, S, q, o⟩ => ?_
  refine ⟨F, L, ρ, _, Dd.ex, S, q, fun cs ρ1 us F1 L1 H1 k1 S1 s1 r1 nw => ?_, o.ex⟩
  · obtain ⟨hl, k1⟩ := k1
    rw [hln] at hl
    have hl2 : us.length = n := by rw [← r1.length, hl]
    refine ⟨by rw [hl2]; exact hsz, fun p hp => ⟨p, us, rfl, SqT.of upd_same, hl2, F1, L1, ρ1, Dd.nx, Dd.ex, cs, ?_, ?_, k1, fun ρ' σ' F' L' H' q' S' m => o.nx ρ' σ' F' L' H' q' S' (s1.f.trans m.f), o.ex.mono s1.f⟩⟩
    · exact S1.grow ⟨Same.refl _, same_upd hp, fun _ _ e => .inl e⟩ (S1.sub.trans (same_upd hp))
    · exact r1.stp (Grow.stp ⟨Same.refl _, same_upd hp, fun _ _ e => .inl e⟩)
/-- .. names that are stored from the right -/
theorem ds_par2 (i j : Nat) {x y : Str} {a b : Expr} {px py pt pt2 : Pos} {kt k2 : Nat} {ts : List DC} (hc : X.calm = true) (hN : X.N.Nodup) (ha : PA X [a, b] (rCs B W ts)) (hioi : B.ios.contains i = false := by rfl) (hioj : B.ios.contains j = false := by rfl) (hi : X.N[i]? = some x := by rfl) (hj : X.N[j]? = some y := by rfl)
    (hij : i ≠ j := by decide) (hx : X.env.scope.names.lookup x = some .local := by rfl) (hy : X.env.scope.names.lookup y = some .local := by rfl)
    (hw : swappedStores [.Tuple [.Name x px, .Name y py] kt pt] (.Tuple [a, b] k2 pt2) X.env = pure (some [x, y]) := by rfl)
    (hs : swapsWithSole [.Tuple [.Name x px, .Name y py] kt pt] (.Tuple [a, b] k2 pt2) pos.line X.env = pure false := by rfl) : PS X (.Assign [.Tuple [.Name x px, .Name y py] kt pt] (.Tuple [a, b] k2 pt2) pos) (rS B W (mPar [.nm i, .nm j] ts)) := by
  refine ps_impL (ps_par hc hN hi hj hij hx hy ha hw hs) fun D σ H hl ⟨F, L, ρ, Dd, S, q, o⟩ => ?_
  have hli : i < σ.length := by rw [hl]; exact (List.getElem?_eq_some_iff.mp hi).1
  have hlj : j < σ.length := by rw [hl]; exact (List.getElem?_eq_some_iff.mp hj).1
  refine ⟨F, L, ρ, _, Dd.ex, S, q, fun cs ρ1 us F1 L1 H1 k1 S1 s1 r1 nw => ?_, o.ex⟩
  obtain ⟨hl2, k1⟩ := k1
  match cs, hl2, k1, r1, nw with
  | [c, d], _, k1, r1, nw =>
    obtain ⟨v, r, e, c1, ⟨w, r', e', c2, e2, _⟩, n⟩ := r1
    have e2' : r' = [] := e2
    subst e2'
    subst e'
    subst e
    refine ⟨v, w, rfl, ?_⟩
    have k2 : Dd.nx ((ρ1.set i (some c)).set j (some d)) := k1
    have step1 : ∃ L2, SR B F1 L2 (σ.set i (some v)) H1 (ρ1.set i (some c)) ∧ CellR B F1 L2 H1 d w := by
      cases c with
      | val z => exact ⟨_, S1.put hioi hli c1, (mv_forget (o := [])).c _ _ c2 fun a _ h => by cases h⟩
      | own ds =>
        obtain ⟨a, vs, e, h1, h2, h3, h4, h5⟩ := c1
        subst e
        exact ⟨_, S1.putO hioi hli h1 h2 h3 h4 h5, mv_put.c _ _ c2 fun b hb hm => n a List.mem_cons_self (by
          have : b = a := by simpa using hm
          subst this
          exact List.mem_append_left _ hb)⟩
    obtain ⟨L2, S2, c2'⟩ := step1
    have hlj2 : j < (σ.set i (some v)).length := by rw [List.length_set]; exact hlj
    cases d with
    | val z => exact o.nx _ _ _ _ _ k2 (S2.put hioj hlj2 c2') s1.f
    | own ds =>
      obtain ⟨a, vs, e, h1, h2, h3, h4, h5⟩ := c2'
      subst e
      exact o.nx _ _ _ _ _ k2 (S2.putO hioj hlj2 h1 h2 h3 h4 h5) s1.f
theorem ds_par3 (i j l : Nat) {x y z : Str} {a b c : Expr} {px py pz pt pt2 : Pos} {kt k2 : Nat} {ts : List DC} (hc : X.calm = true) (hN : X.N.Nodup) (ha : PA X [a, b, c] (rCs B W ts)) (hioi : B.ios.contains i = false := by rfl) (hioj : B.ios.contains j = false := by rfl) (hiol : B.ios.contains l = false := by rfl)
    (hi : X.N[i]? = some x := by rfl) (hj : X.N[j]? = some y := by rfl) (hlz : X.N[l]? = some z := by rfl) (hij : i ≠ j := by decide) (hil : i ≠ l := by decide) (hjl : j ≠ l := by decide)
    (hx : X.env.scope.names.lookup x = some .local := by rfl) (hy : X.env.scope.names.lookup y = some .local := by rfl) (hz : X.env.scope.names.lookup z = some .local := by rfl)
    (hw : swappedStores [.Tuple [.Name x px, .Name y py, .Name z pz] kt pt] (.Tuple [a, b, c] k2 pt2) X.env = pure (some [x, y, z]) := by rfl)
    (hs : swapsWithSole [.Tuple [.Name x px, .Name y py, .Name z pz] kt pt] (.Tuple [a, b, c] k2 pt2) pos.line X.env = pure false := by rfl) : PS X (.Assign [.Tuple [.Name x px, .Name y py, .Name z pz] kt pt] (.Tuple [a, b, c] k2 pt2) pos) (rS B W (mPar [.nm i, .nm j, .nm l] ts)) := by
  refine ps_impL (ps_par3 hc hN hi hj hlz hij hil hjl hx hy hz ha hw hs) fun D σ H hl ⟨F, L, ρ, Dd, S, q, o⟩ => ?_
  have hli : i < σ.length := by rw [hl]; exact (List.getElem?_eq_some_iff.mp hi).1
  have hlj : j < σ.length := by rw [hl]; exact (List.getElem?_eq_some_iff.mp hj).1
  have hll : l < σ.length := by rw [hl]; exact (List.getElem?_eq_some_iff.mp hlz).1
  refine ⟨F, L, ρ, _, Dd.ex, S, q, fun cs ρ1 us F1 L1 H1 k1 S1 s1 r1 nw => ?_, o.ex⟩
  obtain ⟨hl2, k1⟩ := k1
  match cs, hl2, k1, r1, nw with
  | [c1, c2, c3], _, k1, r1, nw =>
    obtain ⟨v, r, e, q1, ⟨w, r', e', q2, ⟨u, r'', e'', q3, e3, _⟩, n2⟩, n⟩ := r1
    have e3' : r'' = [] := e3
    subst e3'
    subst e''
    subst e'
    subst e
    refine ⟨v, w, u, rfl, ?_⟩
    have k2 : Dd.nx (((ρ1.set i (some c1)).set j (some c2)).set l (some c3)) := k1
    have put1 : ∀ {L : La} {σ : L2.St} {ρ : En} {c : Cell} {v : V} {m : Nat}, SR B F1 L σ H1 ρ → B.ios.contains m = false → m < σ.length → CellR B F1 L H1 c v → ∃ L2, SR B F1 L2 (σ.set m (some v)) H1 (ρ.set m (some c)) ∧ Mv B F1 L H1 F1 L2 H1 (ownA c v) := by
      intro L σ ρ c v m S hio hlt r
      cases c with
      | val z => exact ⟨_, S.put hio hlt r, mv_forget⟩
      | own ds =>
        obtain ⟨a, vs, e, h1, h2, h3, h4, h5⟩ := r
        subst e
        exact ⟨_, S.putO hio hlt h1 h2 h3 h4 h5, mv_put⟩
    obtain ⟨L2, S2, m2⟩ := put1 S1 hioi hli q1
    have q2' := m2.c _ _ q2 fun a ha hb => n a hb (List.mem_append_left _ ha)
    have q3' := m2.c _ _ q3 fun a ha hb => n a hb (List.mem_append_right _ (List.mem_append_left _ ha))
    obtain ⟨L3, S3, m3⟩ := put1 S2 hioj (by rw [List.length_set]; exact hlj) q2'
    have q3'' := m3.c _ _ q3' fun a ha hb => n2 a hb (List.mem_append_left _ ha)
    obtain ⟨L4, S4, m4⟩ := put1 S3 hiol (by rw [List.length_set, List.length_set]; exact hll) q3''
    exact o.nx _ _ _ _ _ k2 S4 s1.f
/-! ### x.append(e), x.extend(e) -/
def mApp (i : Nat) (t : DE) : DS := fun D ρ => match ρ.getD i none with
  | some (.own _) => t ρ (fun d ρ1 => match ρ1.getD i none with
    | some (.own ds) => ds.length < sizeLine ∧ D.nx (ρ1.set i (some (.own (ds ++ [d]))))
    | _ => False) D.ex
  | _ => False
theorem ds_app (i : Nat) {x : Str} {e : Expr} {t : DE} {p apos cpos : Pos} (he : PE X e (rV B W t)) (hN : X.N[i]? = some x := by rfl) (hv : Vis X.env.scope x := by first | exact Or.inl rfl | exact Or.inr (Or.inl rfl) | exact Or.inr (Or.inr rfl)) (hd : (x == ("__debug__" : Str)) = false := by decide)
    (hcd : (x == ("__classdict__" : Str)) = false := by decide) (hb : PE X (.Call (.Attribute (.Name x p) "append" apos) [e] [] cpos) (tBM X.K "list" rAppend (tVar i) (tCons (rV B W t) tNil)))
    (hs : swapsWith (.Call (.Attribute (.Name x p) "append" apos) [e] [] cpos) none pos.line X.env = pure false := by rfl) : PS X (.Expr (.Call (.Attribute (.Name x p) "append" apos) [e] [] cpos) pos) (rS B W (mApp i t)) := by
  refine ps_imp (ps_expr hb hs) fun D σ H ⟨F, L, ρ, Dd, S, q, o⟩ => ?_
  unfold mApp at q
  split at q
  · rename_i es e0
    obtain ⟨a, vs, e1, e2, e3, _⟩ := S.ow e0
    refine ⟨_, e1, .inl ⟨rfl, _, SqL.of e3⟩, F, L, ρ, _, Dd.ex, S, q, fun d ρ1 v F2 L2 H2 z S2 s2 rk => ?_, o.ex⟩
    split at z
    · rename_i ds eo
      obtain ⟨b, us, g1, g2, g3, g4, g5, g6⟩ := S2.ow eo
      have ea : L i = some b := s2.l i b g2
      rw [e2] at ea
      cases ea
      refine ⟨a, us, v, rfl, rfl, g3, by rw [← g5.length]; exact z.1, ?_⟩
      exact o.nx _ _ _ _ _ z.2 (S2.write g2 (g5.append (RpL.one rk))) s2.f
    · exact z.elim
  · exact q.elim
def mExt (i : Nat) (t : DE) : DS := fun D ρ => match ρ.getD i none with
  | some (.own _) => t ρ (fun d ρ1 => match d, ρ1.getD i none with
    | .lst es, some (.own ds) => ds.length + es.length ≤ sizeLine ∧ D.nx (ρ1.set i (some (.own (ds ++ es))))
    | _, _ => False) D.ex
  | _ => False
theorem ds_ext (i : Nat) {x : Str} {e : Expr} {t : DE} {p apos cpos : Pos} (he : PE X e (rV B W t)) (hN : X.N[i]? = some x := by rfl) (hv : Vis X.env.scope x := by first | exact Or.inl rfl | exact Or.inr (Or.inl rfl) | exact Or.inr (Or.inr rfl)) (hd : (x == ("__debug__" : Str)) = false := by decide)
    (hcd : (x == ("__classdict__" : Str)) = false := by decide) (hb : PE X (.Call (.Attribute (.Name x p) "extend" apos) [e] [] cpos) (tBM X.K "list" rExtend (tVar i) (tCons (rV B W t) tNil)))
    (hs : swapsWith (.Call (.Attribute (.Name x p) "extend" apos) [e] [] cpos) none pos.line X.env = pure false := by rfl) : PS X (.Expr (.Call (.Attribute (.Name x p) "extend" apos) [e] [] cpos) pos) (rS B W (mExt i t)) := by
  refine ps_imp (ps_expr hb hs) fun D σ H ⟨F, L, ρ, Dd, S, q, o⟩ => ?_
  unfold mExt at q
  split at q
  · rename_i es e0
    obtain ⟨a, vs, e1, e2, e3, _⟩ := S.ow e0
    refine ⟨_, e1, .inl ⟨rfl, _, SqL.of e3⟩, F, L, ρ, _, Dd.ex, S, q, fun d ρ1 v F2 L2 H2 z S2 s2 rk => ?_, o.ex⟩
    split at z
    · rename_i es' ds eo
      obtain ⟨b, us, g1, g2, g3, g4, g5, g6⟩ := S2.ow eo
      obtain ⟨c, ws, ec, hc, rc⟩ := rk
      subst ec
      have ea : L i = some b := s2.l i b g2
      rw [e2] at ea
      cases ea
      refine ⟨a, c, us, ws, rfl, rfl, g3, S2.sub _ _ hc, by rw [← g5.length, ← rc.length]; exact z.1, ?_⟩
      exact o.nx _ _ _ _ _ z.2 (S2.write g2 (g5.append rc)) s2.f
    · exact z.elim
  · exact q.elim
end
end DL
/-! The data layer: what is walked. -/
namespace DL
open PySem PySem.Spec PyProof.Rows L2
/-! ### a list or a tuple -/
def SqS (K : PySem.W.Frag) : Bool → Hp → Addr → List V → Prop
  | true, H, a, xs => SqL K H a xs
  | false, H, a, xs => SqT K H a xs
def IterS : Bool → Heap → Addr → Addr → Nat → Prop
  | true, h, it, a, i => h.IsListIter it a i
  | false, h, it, a, i => h.IsTupleIter it a i
def IsS : Bool → Heap → Addr → Array Value → Prop
  | true, h, a, its => h.IsList a its
  | false, h, a, its => h.IsTuple a its
def objS : Bool → Addr → Obj
  | true, a => { cls := .type "list_iterator", data := .fields #[.ref a, .int 0 0] }
  | false, a => { cls := .type "tuple_iterator", data := .fields #[.ref a, .int 0 0] }
theorem begins_S : ∀ (b : Bool) (a : Addr) (its : Array Value), Begins (.ref a) (objS b a) fun h => IsS b h a its
  | true, a, its => begins_list a its
  | false, a, its => begins_tuple a its
theorem draws_S {P : Program} {w : World} {A : Around} (hh : A.handled = none) : ∀ (b : Bool) (it a : Addr) (hne : a ≠ it) (its : Array Value),
    Draws P w A it [it, a] its.size (fun i v => its[i]? = some v) (fun i h => IterS b h it a i ∧ IsS b h a its)
  | true, it, a, hne, its => Draws.list hh it a hne its
  | false, it, a, hne, its => Draws.tuple hh it a hne its
theorem IterS.at : ∀ {b : Bool} {h h' : Heap} {it a : Addr} {i : Nat}, IterS b h it a i → (∀ o, h.get? it = some o → h'.get? it = some o) → IterS b h' it a i
  | true, _, _, _, _, _, x, k => Heap.IsListIter.at x k
  | false, _, _, _, _, _, x, k => Heap.IsTupleIter.at x k
theorem IterS.new : ∀ {b : Bool} {h : Heap} {it a : Addr}, h.get? it = some (objS b a) → IterS b h it a 0
  | true, _, _, _, e => ⟨_, e, rfl, rfl⟩
  | false, _, _, _, e => ⟨_, e, rfl, rfl⟩
theorem IterS.obj : ∀ {b : Bool} {h : Heap} {it a : Addr} {i : Nat}, IterS b h it a i → ∃ o, h.get? it = some o ∧ ∀ v, o.data ≠ .cell v
  | true, _, _, _, _, ⟨o, e, _, d⟩ => ⟨o, e, fun v z => by rw [d] at z; cases z⟩
  | false, _, _, _, _, ⟨o, e, _, d⟩ => ⟨o, e, fun v z => by rw [d] at z; cases z⟩
section
variable {X : Cx} {pins : List (Addr × Obj)} {σ : L2.St} {H : Hp} {s : Shared}
theorem Inv.seqS (I : Inv X pins σ H s) : ∀ {b : Bool} {a : Addr} {xs : List V}, SqS X.K b H a xs → ∃ its : List Value, Vals xs its ∧ IsS b s.heap a its.toArray ∧ a < s.heap.objs.size
  | true, _, _, h => by
    obtain ⟨its, r, p, _⟩ := I.list h
    exact ⟨its, r, p.isList, p.lt⟩
  | false, _, _, h => by
    obtain ⟨its, r, p, _⟩ := I.tuple h
    exact ⟨its, r, p, let ⟨_, e, _⟩ := p; Heap.lt_size e⟩
theorem Inv.injS (I : Inv X pins σ H s) : ∀ {b : Bool} {a : Addr} {xs ys : List V}, SqS X.K b H a xs → SqS X.K b H a ys → xs = ys
  | true, _, _, _, h, h' => I.list_inj h h'
  | false, _, _, _, h, h' => I.tuple_inj h h'
end
/-! ### a turn by the library's walks -/
/-- what a walk of new tuples is worth here -/
theorem turn_goes {P : Program} {w : World} {K : PySem.W.Frag} {tg : Expr} {J : It} {fp wr : List Addr} {it : Addr} {tn : Nat → Heap → Prop} (mem : it ∈ fp) (wf : ∀ b ∈ wr, b ∈ fp)
    (obj : ∀ i h, tn i h → ∀ b ∈ fp, ∃ o, h.get? b = some o ∧ ∀ v, o.data ≠ .cell v)
    (keep : ∀ i h h', tn i h → (∀ b ∈ fp, ∀ o, h.get? b = some o → h'.get? b = some o) → tn i h')
    (self : ∀ (A : Around) (i : Nat) (s : Shared) (Q : Value → Shared → Prop) (E : Value → Shared → Prop), tn i s.heap → Q (.ref it) s → wpAny (model P w) A (pyIter (.ref it)) Q E s)
    (W : ∀ (X : Cx), X.prog = P → X.w = w → X.K = K → ∀ (A : Around), A.handled = none → ∀ (i : Nat) (pins : List (Addr × Obj)) (s : Shared) (σ : L2.St) (H : Hp), Inv X pins σ H s → J.go i H ∨ J.stop i H → tn i s.heap →
      ∃ (fpG : List Addr) (n : Nat) (Y : Nat → Heap → Value → Heap → Prop) (St : Nat → Heap → Prop), GoesN P w A tg it fpG wr n Y St ∧ St i s.heap ∧ (J.go i H → i < n) ∧ (J.stop i H → i = n) ∧ (∀ h', St (i + 1) h' → tn (i + 1) h') ∧
        (∀ v h', Y i s.heap v h' → ∃ (T : Addr) (us : List Value) (xs : List V), v = .ref T ∧ s.heap.objs.size ≤ T ∧ h'.IsTuple T us.toArray ∧ Vals xs us ∧ xs.length ≤ sizeLine ∧ J.yld i H (.ref T) (upd H T (.tup xs)))) :
    Turn P w K tg J fp it tn where
  mem := mem
  obj := obj
  keep := keep
  item := by
    intro X hP hw hK hc i pins s σ H E I hf st hg
    obtain ⟨fpG, n, Y, St, G, hst, h1, h2, h3, h4⟩ := W X hP hw hK X.A (I.ok.hd hc) i pins s σ H I (.inl hg) st
    subst hP hw hK
    refine G.goes i s _ E (h1 hg) hst fun v h' tk hY st' hk htk => ?_
    obtain ⟨T, us, xs, ev, hT, ht, rv, hz, hy⟩ := h4 v h' hY
    subst ev
    have new : ObjOk X.prog X.w (upd H T (.tup xs)) h' T (.tup xs) := ⟨hz, us, rv, ht⟩
    have I1 : Inv X pins σ (upd H T (.tup xs)) { s with heap := h', toks := tk } := I.turnedNew (t' := tk) (ch := fp) (fun b o hb e => hk b o (fun q => hb (wf b q)) e) hf hT new
    refine ⟨.ref T, _, I1, rfl, hy, h3 h' st', fun b hb => ?_⟩
    obtain ⟨o, e, _⟩ := obj i _ st b hb
    have hlt : b < s.heap.objs.size := Heap.lt_size e
    rw [upd_ne (Nat.ne_of_lt (Nat.lt_of_lt_of_le hlt hT))]
    exact (hf b hb).1
  done := by
    intro X hP hw hK hc i pins s σ H E I hf st hg
    obtain ⟨fpG, n, Y, St, G, hst, h1, h2, h3, h4⟩ := W X hP hw hK X.A (I.ok.hd hc) i pins s σ H I (.inr hg) st
    have e := h2 hg
    subst e
    subst hP hw hK
    refine thn (G.stops s (fun s₁ => Inv X pins σ H s₁) E hst fun h' tk hk htk => ?_) fun r s1 q => q
    exact I.turnedL (t' := tk) (ch := fp) (fun b o hb e => hk b o (fun q => hb (wf b q)) e) hf
  self := self
/-! ### a list or a tuple itself -/
def iSeq (K : PySem.W.Frag) (tl : TE) : TI := fun σ H R => tl σ H fun x H1 => ∃ a, x = .ref a ∧ (((∃ xs, SqL K H1 a xs) ∧ R (Itl K a) H1) ∨ ((∃ xs, SqT K H1 a xs) ∧ R (Itt K a) H1))
theorem pi_seq {X : Cx} {tg l : Expr} {tl : TE} (hl : PE X l tl) : PI X tg l (iSeq X.K tl) := by
  refine ⟨fun pins s σ H R I h => ?_⟩
  refine thn (hl.run pins s σ H _ I h) fun v s1 ⟨x, H1, I1, r1, q1⟩ => ?_
  obtain ⟨a, e, q1⟩ := q1
  subst e
  cases r1
  rcases q1 with ⟨⟨xs, hq⟩, q⟩ | ⟨⟨xs, hq⟩, q⟩
  · obtain ⟨its, rv, p, hz⟩ := I1.list hq
    refine wpAny_pyIter_list p.isList ?_
    refine ⟨s1.heap.objs.size, [s1.heap.objs.size], _, _, H1, rfl, I1.kept (t' := s1.toks) fun b o e => Heap.get?_push_of_some _ e, turn_list a _, ⟨_, Heap.get?_push_size _ rfl, rfl, rfl⟩, fun b hb => ?_, q⟩
    have e : b = s1.heap.objs.size := by simpa using hb
    subst e
    exact I1.fpOk (Nat.le_refl _) (I1.hok.fresh (Nat.le_refl _))
  · obtain ⟨its, rv, p, hz⟩ := I1.tuple hq
    refine wpAny_pyIter_tuple (show s1.heap.IsTuple a its.toArray from p) ?_
    refine ⟨s1.heap.objs.size, [s1.heap.objs.size], _, _, H1, rfl, I1.kept (t' := s1.toks) fun b o e => Heap.get?_push_of_some _ e, turn_tuple a _, ⟨_, Heap.get?_push_size _ rfl, rfl, rfl⟩, fun b hb => ?_, q⟩
    have e : b = s1.heap.objs.size := by simpa using hb
    subst e
    exact I1.fpOk (Nat.le_refl _) (I1.hok.fresh (Nat.le_refl _))
/-! ### enumerate -/
def ItE (K : PySem.W.Frag) (b : Bool) (a : Addr) : It :=
  ⟨fun i H => ∃ (xs : List V) (x : V), SqS K b H a xs ∧ xs[i]? = some x, fun i H v H' => ∃ T x, v = .ref T ∧ H T = none ∧ H' = upd H T (.tup [.int (i : Nat), x]) ∧ ∀ xs, SqS K b H a xs → xs[i]? = some x, fun i H => ∃ xs : List V, SqS K b H a xs ∧ i = xs.length⟩
theorem turn_enumS {P : Program} {w : World} {K : PySem.W.Frag} {elts : List Expr} {kk : Nat} {tpos : Pos} {b : Bool} {a e it N : Addr} (hit : it < N) (ha : a < N) (hai : a ≠ it) (hei : e ≠ it) (hea : e ≠ a) :
    Turn P w K (.Tuple elts kk tpos) (ItE K b a) [e, it] e (fun i h => (∃ old, IsEnum h e it ((i : Nat) : Int) old) ∧ IterS b h it a i) := by
  refine turn_goes (wr := [e, it]) (by simp) (fun _ h => h) (fun i h st c hb => ?_) (fun i h h' st k => ?_) (fun A i s Q E st h => ?_) fun X hP hw hK A hh i pins s σ H I hg st => ?_
  · obtain ⟨⟨old, he⟩, hi⟩ := st
    have e' : c = e ∨ c = it := by simpa using hb
    rcases e' with z | z
    · rw [z]; exact ⟨_, he, fun v q => nomatch q⟩
    · rw [z]; exact hi.obj
  · obtain ⟨⟨old, he⟩, hi⟩ := st
    exact ⟨⟨old, k e (by simp) _ he⟩, hi.at fun o q => k it (by simp) o q⟩
  · obtain ⟨⟨_, he⟩, _⟩ := st
    exact wpAny_pyIter_enum he h
  · subst hP hw hK
    have hsrc : ∃ xs, SqS X.K b H a xs := by
      rcases hg with ⟨xs, x, q, _⟩ | ⟨xs, q, _⟩
      · exact ⟨xs, q⟩
      · exact ⟨xs, q⟩
    obtain ⟨xs, hq⟩ := hsrc
    obtain ⟨its, rv, p, hlt⟩ := Inv.seqS I hq
    have D := draws_S (P := X.prog) (w := X.w) (A := A.in1) (show A.in1.handled = none from hh) b it a hai its.toArray
    have G := GoesN.enumFrom (elts := elts) (x1 := kk) (pos := tpos) 0 D e hei (by simp [hei, hea]) (by simp)
    have z0 : ∀ j : Nat, (0 : Int) + (j : Int) = (j : Int) := fun j => by omega
    refine ⟨_, _, _, _, G, ⟨?_, st.2, p⟩, fun ⟨ys, x, q, hx⟩ => ?_, fun ⟨ys, q, hl⟩ => ?_, fun h' st' => ?_, fun v h' hY => ?_⟩
    · obtain ⟨old, he⟩ := st.1
      exact ⟨old, by rw [z0]; exact he⟩
    · have e1 := Inv.injS I q hq
      subst e1
      have := (List.getElem?_eq_some_iff.mp hx).1
      rw [List.size_toArray, ← rv.length]
      exact this
    · have e1 := Inv.injS I q hq
      subst e1
      rw [List.size_toArray, ← rv.length]
      exact hl
    · obtain ⟨⟨old, he⟩, hi, _⟩ := st'
      exact ⟨⟨old, by rw [z0] at he; exact he⟩, hi⟩
    · obtain ⟨T, t, x, ev, hT, hx, ht⟩ := hY
      have hx' : its[i]? = some x := by simpa using hx
      have hi : i < xs.length := by rw [rv.length]; exact (List.getElem?_eq_some_iff.mp hx').1
      obtain ⟨u, hu, ru⟩ := rv.get (List.getElem?_eq_getElem hi)
      rw [hx'] at hu
      cases hu
      rw [z0] at ht
      exact ⟨T, [.int i t, x], [.int (i : Nat), xs[i]], ev, hT, ht, .cons ⟨_, rfl⟩ (.cons ru .nil), by show 2 ≤ sizeLine; decide, T, xs[i], rfl, I.hok.fresh hT, rfl, fun ys hy => by rw [Inv.injS I hy hq]; exact List.getElem?_eq_getElem hi⟩
def iEnumS (K : PySem.W.Frag) (ta : TA) : TI := fun σ H R => ta σ H fun vs H1 => ∃ b a xs, vs = [.ref a] ∧ SqS K b H1 a xs ∧ R (ItE K b a) H1
end DL
namespace DL
open PySem PySem.Spec PyProof.Rows L2
theorem meets_enum1 {v : Value} {o : Obj} {H : Heap → Prop} (B : Begins v o H) :
    Meets (Builtin.«enumerate.__new__» ⟨[.type "enumerate", v], []⟩) (fun _ R s => H s.heap ∧
      R (.ok (.ret (.ref (s.heap.push o).objs.size))) { s with heap := (s.heap.push o).push { cls := .type "enumerate", data := .fields #[.none, .bool false, .ref s.heap.objs.size, rawInt 0, .none, .none] } }) :=
  .of_wp fun prog w A R s h => by
    obtain ⟨hp, g, d, tk, os⟩ := s; obtain ⟨h1, h⟩ := h
    have hsub := sub_enumerate
    have q1 : ∀ {A' : Around} {E : Value → Shared → Prop} {Q : Value → Shared → Prop}, Q (.ref hp.objs.size) ⟨hp.push o, g, d, tk, os⟩ → wpAny (model prog w) A' (pyIter v) Q E ⟨hp, g, d, tk, os⟩ :=
      fun q => B.iter prog w _ _ ⟨hp, g, d, tk, os⟩ _ h1 q
    wp_walk using q1
    refine wpAny_stack_any fun st => wpAny_pure ?_
    split
    · rename_i c _ _ _ _ _
      cases (c == Value.type "enumerate")
      · wp_walk using q1
        exact ⟨_, rfl, h⟩
      · wp_walk using q1
        exact ⟨_, rfl, h⟩
    · wp_walk using q1
      exact ⟨_, rfl, h⟩
section
variable {prog : Program} {w : World} {A : Around} {E : Value → Shared → Prop} {s : Shared}
theorem enum_begins1 {v : Value} {o : Obj} {H : Heap → Prop} {Q : Value → Shared → Prop} (B : Begins v o H) (h1 : H s.heap)
    (h : ∀ h', IsEnum h' (s.heap.objs.size + 1) s.heap.objs.size 0 .none → h'.get? s.heap.objs.size = some o → h'.objs.size = s.heap.objs.size + 2 →
      (∀ b o, s.heap.get? b = some o → h'.get? b = some o) → Q (.ref (s.heap.objs.size + 1)) { s with heap := h' }) :
    wpAny (model prog w) A (call (.type "enumerate") [v]) Q E s := by
  refine callType_new F.called_enumerate (by decide) (F.typeCall_enumerate_1 _) (F.newCall_enumerate_1 _) (fun obj => F.args_object_init_2 obj _) F.entry_enumerate_new
    (meets_enum1 B) ⟨h1, ?_⟩
  have hz : (s.heap.push o).objs.size = s.heap.objs.size + 1 := Heap.size_push ..
  show _ ∧ _
  rw [hz]
  have he : IsEnum ((s.heap.push o).push { cls := .type "enumerate", data := .fields #[.none, .bool false, .ref s.heap.objs.size, rawInt 0, .none, .none] }) (s.heap.objs.size + 1) s.heap.objs.size 0 .none := by
    have := Heap.get?_push_size (s.heap.push o) (o := { cls := .type "enumerate", data := .fields #[.none, .bool false, .ref s.heap.objs.size, rawInt 0, .none, .none] }) rfl
    rw [hz] at this; exact this
  refine ⟨⟨_, he, rfl⟩, h _ he (Heap.get?_push_of_some _ (Heap.get?_push_size _ B.free)) (by rw [Heap.size_push, hz]) fun b o x => Heap.get?_push_of_some _ (Heap.get?_push_of_some _ x)⟩
end
section
variable {X : Cx}
theorem pi_enumS {e : Expr} {ta : TA} {p pos tpos : Pos} {elts : List Expr} {kk : Nat} (hm : X.mg "enumerate" = none) (ha : PA X [e] ta) (hg : Gl X "enumerate" := by rfl) (hs : starEach [e] X.env = [(false, eval e X.env)] := by rfl) :
    PI X (.Tuple elts kk tpos) (.Call (.Name "enumerate" p) [e] [] pos) (iEnumS X.K ta) := by
  refine ⟨fun pins s σ H R I h => ?_⟩
  refine Call_ (ld_blt I hg hm boot_enumerate (PyProof.Rows.callWith_type1 (thn (ha.run pos pins s σ H _ I h) fun us s1 ⟨vs, H1, I1, r1, q1⟩ => ?_) hs rfl))
  obtain ⟨b, a, xs, ex, hq, q⟩ := q1
  subst ex
  cases r1 with
  | cons r rr =>
    cases rr
    cases r
    obtain ⟨its, rv, p', hlt⟩ := Inv.seqS I1 hq
    refine enum_begins1 (begins_S b a its.toArray) p' fun h' he hit hsz hk => wpAny_pyIter_enum he ?_
    have I2 : Inv X pins σ H1 { s1 with heap := h' } := I1.kept (t' := s1.toks) hk
    have hlt' : (a : Nat) < s1.heap.objs.size := hlt
    refine ⟨s1.heap.objs.size + 1, [s1.heap.objs.size + 1, s1.heap.objs.size], _, _, H1, rfl, I2, turn_enumS (N := s1.heap.objs.size + 1) (b := b) (a := a) (e := s1.heap.objs.size + 1) (it := s1.heap.objs.size) (Nat.lt_succ_self _) (Nat.lt_succ_of_lt hlt) (Nat.ne_of_lt hlt) (Nat.succ_ne_self _) (Nat.ne_of_gt (Nat.lt_succ_of_lt hlt)), ⟨⟨.none, he⟩, IterS.new hit⟩, fun c hb => ?_, q⟩
    have e' : c = s1.heap.objs.size + 1 ∨ c = s1.heap.objs.size := by simpa using hb
    have hle : s1.heap.objs.size ≤ c := by
      rcases e' with z | z
      · rw [z]; exact Nat.le_add_right _ _
      · rw [z]; exact Nat.le_refl _
    exact I1.fpOk hle (I1.hok.fresh hle)
end
/-! ### zip of two, of three -/
def ItZ2 (K : PySem.W.Frag) (b1 b2 : Bool) (a1 a2 : Addr) : It :=
  ⟨fun i H => ∃ (xs ys : List V) (x y : V), SqS K b1 H a1 xs ∧ SqS K b2 H a2 ys ∧ xs[i]? = some x ∧ ys[i]? = some y,
    fun i H v H' => ∃ T x y, v = .ref T ∧ H T = none ∧ H' = upd H T (.tup [x, y]) ∧ (∀ xs, SqS K b1 H a1 xs → xs[i]? = some x) ∧ ∀ ys, SqS K b2 H a2 ys → ys[i]? = some y,
    fun i H => ∃ xs ys : List V, SqS K b1 H a1 xs ∧ SqS K b2 H a2 ys ∧ i = min xs.length ys.length⟩
theorem sep2 {z TI TO i1 i2 a1 a2 N : Nat} (h1 : a1 < N) (h2 : a2 < N) (e1 : i1 = N) (e2 : i2 = N + 1) (e3 : TI = N + 2) (e4 : TO = N + 3) (e5 : z = N + 4) : ZipSep2 z TI TO i1 i2 [i1, a1] [i2, a2] := by
  subst e1 e2 e3 e4 e5
  exact zip_sep2 (fp1 := [a1]) (fp2 := [a2]) (fun b hb => by have e := List.mem_singleton.mp hb; rw [e]; assumption) (fun b hb => by have e := List.mem_singleton.mp hb; rw [e]; assumption)
theorem turn_zip2S {P : Program} {w : World} {K : PySem.W.Frag} {elts : List Expr} {kk : Nat} {tpos : Pos} {b1 b2 : Bool} {a1 a2 N : Addr} (h1 : a1 < N) (h2 : a2 < N) :
    Turn P w K (.Tuple elts kk tpos) (ItZ2 K b1 b2 a1 a2) [N + 4, N + 2, N + 3, N, N + 1] (N + 4)
      (fun i h => IsZip h (N + 4) (N + 2) (N + 3) .none ∧ IsTupOf2 h (N + 2) (.ref N) (.ref (N + 1)) ∧ (∃ x y, IsTupOf2 h (N + 3) x y) ∧ IterS b1 h N a1 i ∧ IterS b2 h (N + 1) a2 i) := by
  have h1' : (a1 : Nat) < N := h1
  have h2' : (a2 : Nat) < N := h2
  refine turn_goes (wr := [N + 4, N + 3, N, N + 1]) (by simp) (fun c hc => ?_) (fun i h st c hb => ?_) (fun i h h' st k => ?_) (fun A i s Q E st h => ?_) fun X hP hw hK A hh i pins s σ H I hg st => ?_
  · have e : c = N + 4 ∨ c = N + 3 ∨ c = N ∨ c = N + 1 := by simpa using hc
    rcases e with e | e | e | e <;> (rw [e]; simp)
  · obtain ⟨hz, hTI, ⟨x, y, hTO⟩, q1, q2⟩ := st
    have e : c = N + 4 ∨ c = N + 2 ∨ c = N + 3 ∨ c = N ∨ c = N + 1 := by simpa using hb
    rcases e with e | e | e | e | e
    · rw [e]; exact ⟨_, hz, fun v q => nomatch q⟩
    · rw [e]; exact ⟨_, hTI, fun v q => nomatch q⟩
    · rw [e]; exact ⟨_, hTO, fun v q => nomatch q⟩
    · rw [e]; exact q1.obj
    · rw [e]; exact q2.obj
  · obtain ⟨hz, hTI, ⟨x, y, hTO⟩, q1, q2⟩ := st
    exact ⟨k _ (by simp) _ hz, k _ (by simp) _ hTI, ⟨x, y, k _ (by simp) _ hTO⟩, q1.at fun o q => k _ (by simp) o q, q2.at fun o q => k _ (by simp) o q⟩
  · exact wpAny_pyIter_zip st.1 h
  · subst hP hw hK
    obtain ⟨hz, hTI, hTO, q1, q2⟩ := st
    have hsrc : ∃ xs ys, SqS X.K b1 H a1 xs ∧ SqS X.K b2 H a2 ys := by
      rcases hg with ⟨xs, ys, _, _, q1, q2, _⟩ | ⟨xs, ys, q1, q2, _⟩
      · exact ⟨xs, ys, q1, q2⟩
      · exact ⟨xs, ys, q1, q2⟩
    obtain ⟨xs, ys, hx, hy⟩ := hsrc
    obtain ⟨its, rv, p, _⟩ := Inv.seqS I hx
    obtain ⟨its2, rv2, p2, _⟩ := Inv.seqS I hy
    have D1 := draws_S (P := X.prog) (w := X.w) (A := A.in1) (show A.in1.handled = none from hh) b1 N a1 (Nat.ne_of_lt h1) its.toArray
    have D2 := draws_S (P := X.prog) (w := X.w) (A := A.in1) (show A.in1.handled = none from hh) b2 (N + 1) a2 (Nat.ne_of_lt (Nat.lt_succ_of_lt h2)) its2.toArray
    have G := GoesN.zip2 (elts := elts) (x1 := kk) (pos := tpos) (sep2 (z := N + 4) (TI := N + 2) (TO := N + 3) (i1 := N) (i2 := N + 1) h1 h2 rfl rfl rfl rfl rfl) D1 D2
    have e1 : its.toArray.size = xs.length := by rw [List.size_toArray, ← rv.length]
    have e2 : its2.toArray.size = ys.length := by rw [List.size_toArray, ← rv2.length]
    refine ⟨_, _, _, _, G, ⟨hz, hTI, hTO, ⟨q1, p⟩, ⟨q2, p2⟩⟩, fun ⟨us, ws, x, y, g1, g2, g3, g4⟩ => ?_, fun ⟨us, ws, g1, g2, hl⟩ => ?_, fun h' st' => ?_, fun v h' hY => ?_⟩
    · have z1 := Inv.injS I g1 hx
      have z2 := Inv.injS I g2 hy
      subst z1
      subst z2
      have l1 := (List.getElem?_eq_some_iff.mp g3).1
      have l2 := (List.getElem?_eq_some_iff.mp g4).1
      rw [e1, e2]
      omega
    · have z1 := Inv.injS I g1 hx
      have z2 := Inv.injS I g2 hy
      subst z1
      subst z2
      rw [e1, e2]
      exact hl
    · obtain ⟨a, b, c, d, e⟩ := st'
      exact ⟨a, b, c, d.1, e.1⟩
    · obtain ⟨T, x, y, ev, hT, g1, g2, ht⟩ := hY
      have g1' : its[i]? = some x := by simpa using g1
      have g2' : its2[i]? = some y := by simpa using g2
      have l1 : i < xs.length := by rw [rv.length]; exact (List.getElem?_eq_some_iff.mp g1').1
      have l2 : i < ys.length := by rw [rv2.length]; exact (List.getElem?_eq_some_iff.mp g2').1
      obtain ⟨u, hu, ru⟩ := rv.get (List.getElem?_eq_getElem l1)
      obtain ⟨u2, hu2, ru2⟩ := rv2.get (List.getElem?_eq_getElem l2)
      rw [g1'] at hu
      rw [g2'] at hu2
      cases hu
      cases hu2
      exact ⟨T, [x, y], [xs[i], ys[i]], ev, hT, ht, .cons ru (.cons ru2 .nil), by show 2 ≤ sizeLine; decide, T, xs[i], ys[i], rfl, I.hok.fresh hT, rfl, fun l hl => by rw [Inv.injS I hl hx]; exact List.getElem?_eq_getElem l1, fun l hl => by rw [Inv.injS I hl hy]; exact List.getElem?_eq_getElem l2⟩
def iZip2 (K : PySem.W.Frag) (ta : TA) : TI := fun σ H R => ta σ H fun vs H1 => ∃ b1 b2 a1 a2 xs ys, vs = [.ref a1, .ref a2] ∧ SqS K b1 H1 a1 xs ∧ SqS K b2 H1 a2 ys ∧ R (ItZ2 K b1 b2 a1 a2) H1
section
variable {X : Cx}
theorem fp_above {pins : List (Addr × Obj)} {σ : L2.St} {H : Hp} {s : Shared} {l : List Addr} (I : Inv X pins σ H s) (h : ∀ c ∈ l, s.heap.objs.size ≤ c) : ∀ c ∈ l, FpOk X pins H c := fun c hc => I.fpOk (h c hc) (I.hok.fresh (h c hc))
theorem pi_zip2S {e e2 : Expr} {ta : TA} {p pos tpos : Pos} {elts : List Expr} {kk : Nat} (hm : X.mg "zip" = none) (ha : PA X [e, e2] ta) (hg : Gl X "zip" := by rfl)
    (hs : starEach [e, e2] X.env = (false, eval e X.env) :: starEach [e2] X.env := by rfl) (hpl : (backTo pos (starEach [e2] X.env)).any (·.1) = false := by rfl) :
    PI X (.Tuple elts kk tpos) (.Call (.Name "zip" p) [e, e2] [] pos) (iZip2 X.K ta) := by
  refine ⟨fun pins s σ H R I h => ?_⟩
  refine Call_ (ld_blt I hg hm PyProof.Rows.boot_zip (PyProof.Rows.callWith_type1 (thn (ha.run pos pins s σ H _ I h) fun us s1 ⟨vs, H1, I1, r1, q1⟩ => ?_) hs hpl))
  obtain ⟨b1, b2, a1, a2, xs, ys, ex, hx, hy, q⟩ := q1
  subst ex
  cases r1 with
  | cons r rr =>
    cases rr with
    | cons r' rr =>
      cases rr
      cases r
      cases r'
      obtain ⟨its, rv, p1, l1⟩ := Inv.seqS I1 hx
      obtain ⟨its2, rv2, p2, l2⟩ := Inv.seqS I1 hy
      refine zip_begins2 (begins_S b1 a1 its.toArray) (begins_S b2 a2 its2.toArray) p1 p2 fun h' hz hTI hTO g1 g2 hsz hk => wpAny_pyIter_zip hz ?_
      have I2 : Inv X pins σ H1 { s1 with heap := h' } := I1.kept (t' := s1.toks) hk
      refine ⟨s1.heap.objs.size + 4, _, _, _, H1, rfl, I2, turn_zip2S (b1 := b1) (b2 := b2) l1 l2, ⟨hz, hTI, ⟨_, _, hTO⟩, IterS.new g1, IterS.new g2⟩, fp_above I1 fun c hc => ?_, q⟩
      have e' : c = s1.heap.objs.size + 4 ∨ c = s1.heap.objs.size + 2 ∨ c = s1.heap.objs.size + 3 ∨ c = s1.heap.objs.size ∨ c = s1.heap.objs.size + 1 := by simpa using hc
      rcases e' with z | z | z | z | z
      · rw [z]; exact Nat.le_add_right _ _
      · rw [z]; exact Nat.le_add_right _ _
      · rw [z]; exact Nat.le_add_right _ _
      · rw [z]; exact Nat.le_refl _
      · rw [z]; exact Nat.le_add_right _ _
end
def ItZ3 (K : PySem.W.Frag) (b1 b2 b3 : Bool) (a1 a2 a3 : Addr) : It :=
  ⟨fun i H => ∃ (xs ys zs : List V) (x y z : V), SqS K b1 H a1 xs ∧ SqS K b2 H a2 ys ∧ SqS K b3 H a3 zs ∧ xs[i]? = some x ∧ ys[i]? = some y ∧ zs[i]? = some z,
    fun i H v H' => ∃ T x y z, v = .ref T ∧ H T = none ∧ H' = upd H T (.tup [x, y, z]) ∧ (∀ xs, SqS K b1 H a1 xs → xs[i]? = some x) ∧ (∀ ys, SqS K b2 H a2 ys → ys[i]? = some y) ∧ ∀ zs, SqS K b3 H a3 zs → zs[i]? = some z,
    fun i H => ∃ xs ys zs : List V, SqS K b1 H a1 xs ∧ SqS K b2 H a2 ys ∧ SqS K b3 H a3 zs ∧ i = min (min xs.length ys.length) zs.length⟩
theorem sep3 {z TI TO i1 i2 i3 a1 a2 a3 N : Nat} (h1 : a1 < N) (h2 : a2 < N) (h3 : a3 < N) (e1 : i1 = N) (e2 : i2 = N + 1) (e3 : i3 = N + 2) (e4 : TI = N + 3) (e5 : TO = N + 4) (e6 : z = N + 5) : ZipSep3 z TI TO i1 i2 i3 [i1, a1] [i2, a2] [i3, a3] := by
  subst e1 e2 e3 e4 e5 e6
  exact zip_sep3 (fp1 := [a1]) (fp2 := [a2]) (fp3 := [a3]) (fun b hb => by have e := List.mem_singleton.mp hb; rw [e]; assumption) (fun b hb => by have e := List.mem_singleton.mp hb; rw [e]; assumption) (fun b hb => by have e := List.mem_singleton.mp hb; rw [e]; assumption)
theorem turn_zip3S {P : Program} {w : World} {K : PySem.W.Frag} {elts : List Expr} {kk : Nat} {tpos : Pos} {b1 b2 b3 : Bool} {a1 a2 a3 N : Addr} (h1 : a1 < N) (h2 : a2 < N) (h3 : a3 < N) :
    Turn P w K (.Tuple elts kk tpos) (ItZ3 K b1 b2 b3 a1 a2 a3) [N + 5, N + 3, N + 4, N, N + 1, N + 2] (N + 5)
      (fun i h => IsZip h (N + 5) (N + 3) (N + 4) .none ∧ IsTupOf3 h (N + 3) (.ref N) (.ref (N + 1)) (.ref (N + 2)) ∧ (∃ x y z, IsTupOf3 h (N + 4) x y z) ∧ IterS b1 h N a1 i ∧ IterS b2 h (N + 1) a2 i ∧ IterS b3 h (N + 2) a3 i) := by
  have h1' : (a1 : Nat) < N := h1
  have h2' : (a2 : Nat) < N := h2
  have h3' : (a3 : Nat) < N := h3
  refine turn_goes (wr := [N + 5, N + 4, N, N + 1, N + 2]) (by simp) (fun c hc => ?_) (fun i h st c hb => ?_) (fun i h h' st k => ?_) (fun A i s Q E st h => ?_) fun X hP hw hK A hh i pins s σ H I hg st => ?_
  · have e : c = N + 5 ∨ c = N + 4 ∨ c = N ∨ c = N + 1 ∨ c = N + 2 := by simpa using hc
    rcases e with e | e | e | e | e <;> (rw [e]; simp)
  · obtain ⟨hz, hTI, ⟨x, y, z, hTO⟩, q1, q2, q3⟩ := st
    have e : c = N + 5 ∨ c = N + 3 ∨ c = N + 4 ∨ c = N ∨ c = N + 1 ∨ c = N + 2 := by simpa using hb
    rcases e with e | e | e | e | e | e
    · rw [e]; exact ⟨_, hz, fun v q => nomatch q⟩
    · rw [e]; exact ⟨_, hTI, fun v q => nomatch q⟩
    · rw [e]; exact ⟨_, hTO, fun v q => nomatch q⟩
    · rw [e]; exact q1.obj
    · rw [e]; exact q2.obj
    · rw [e]; exact q3.obj
  · obtain ⟨hz, hTI, ⟨x, y, z, hTO⟩, q1, q2, q3⟩ := st
    exact ⟨k _ (by simp) _ hz, k _ (by simp) _ hTI, ⟨x, y, z, k _ (by simp) _ hTO⟩, q1.at fun o q => k _ (by simp) o q, q2.at fun o q => k _ (by simp) o q, q3.at fun o q => k _ (by simp) o q⟩
  · exact wpAny_pyIter_zip st.1 h
  · subst hP hw hK
    obtain ⟨hz, hTI, hTO, q1, q2, q3⟩ := st
    have hsrc : ∃ xs ys zs, SqS X.K b1 H a1 xs ∧ SqS X.K b2 H a2 ys ∧ SqS X.K b3 H a3 zs := by
      rcases hg with ⟨xs, ys, zs, _, _, _, q1, q2, q3, _⟩ | ⟨xs, ys, zs, q1, q2, q3, _⟩
      · exact ⟨xs, ys, zs, q1, q2, q3⟩
      · exact ⟨xs, ys, zs, q1, q2, q3⟩
    obtain ⟨xs, ys, zs, hx, hy, hw⟩ := hsrc
    obtain ⟨its, rv, p, _⟩ := Inv.seqS I hx
    obtain ⟨its2, rv2, p2, _⟩ := Inv.seqS I hy
    obtain ⟨its3, rv3, p3, _⟩ := Inv.seqS I hw
    have hh' : A.in1.handled = none := hh
    have D1 := draws_S (P := X.prog) (w := X.w) (A := A.in1) hh' b1 N a1 (Nat.ne_of_lt h1) its.toArray
    have D2 := draws_S (P := X.prog) (w := X.w) (A := A.in1) hh' b2 (N + 1) a2 (Nat.ne_of_lt (Nat.lt_succ_of_lt h2)) its2.toArray
    have D3 := draws_S (P := X.prog) (w := X.w) (A := A.in1) hh' b3 (N + 2) a3 (Nat.ne_of_lt (Nat.lt_succ_of_lt (Nat.lt_succ_of_lt h3))) its3.toArray
    have G := GoesN.zip3 (elts := elts) (x1 := kk) (pos := tpos) (sep3 (z := N + 5) (TI := N + 3) (TO := N + 4) (i1 := N) (i2 := N + 1) (i3 := N + 2) h1 h2 h3 rfl rfl rfl rfl rfl rfl) D1 D2 D3
    have e1 : its.toArray.size = xs.length := by rw [List.size_toArray, ← rv.length]
    have e2 : its2.toArray.size = ys.length := by rw [List.size_toArray, ← rv2.length]
    have e3 : its3.toArray.size = zs.length := by rw [List.size_toArray, ← rv3.length]
    refine ⟨_, _, _, _, G, ⟨hz, hTI, hTO, ⟨q1, p⟩, ⟨q2, p2⟩, ⟨q3, p3⟩⟩, fun ⟨us, ws, ts, x, y, z, g1, g2, g3, g4, g5, g6⟩ => ?_, fun ⟨us, ws, ts, g1, g2, g3, hl⟩ => ?_, fun h' st' => ?_, fun v h' hY => ?_⟩
    · have z1 := Inv.injS I g1 hx
      have z2 := Inv.injS I g2 hy
      have z3 := Inv.injS I g3 hw
      subst z1
      subst z2
      subst z3
      have l1 := (List.getElem?_eq_some_iff.mp g4).1
      have l2 := (List.getElem?_eq_some_iff.mp g5).1
      have l3 := (List.getElem?_eq_some_iff.mp g6).1
      rw [e1, e2, e3]
      omega
    · have z1 := Inv.injS I g1 hx
      have z2 := Inv.injS I g2 hy
      have z3 := Inv.injS I g3 hw
      subst z1
      subst z2
      subst z3
      rw [e1, e2, e3]
      exact hl
    · obtain ⟨a, b, c, d, e, f⟩ := st'
      exact ⟨a, b, c, d.1, e.1, f.1⟩
    · obtain ⟨T, x, y, z, ev, hT, g1, g2, g3, ht⟩ := hY
      have g1' : its[i]? = some x := by simpa using g1
      have g2' : its2[i]? = some y := by simpa using g2
      have g3' : its3[i]? = some z := by simpa using g3
      have l1 : i < xs.length := by rw [rv.length]; exact (List.getElem?_eq_some_iff.mp g1').1
      have l2 : i < ys.length := by rw [rv2.length]; exact (List.getElem?_eq_some_iff.mp g2').1
      have l3 : i < zs.length := by rw [rv3.length]; exact (List.getElem?_eq_some_iff.mp g3').1
      obtain ⟨u, hu, ru⟩ := rv.get (List.getElem?_eq_getElem l1)
      obtain ⟨u2, hu2, ru2⟩ := rv2.get (List.getElem?_eq_getElem l2)
      obtain ⟨u3, hu3, ru3⟩ := rv3.get (List.getElem?_eq_getElem l3)
      rw [g1'] at hu
      rw [g2'] at hu2
      rw [g3'] at hu3
      cases hu
      cases hu2
      cases hu3
      exact ⟨T, [x, y, z], [xs[i], ys[i], zs[i]], ev, hT, ht, .cons ru (.cons ru2 (.cons ru3 .nil)), by show 3 ≤ sizeLine; decide, T, xs[i], ys[i], zs[i], rfl, I.hok.fresh hT, rfl, fun l hl => by rw [Inv.injS I hl hx]; exact List.getElem?_eq_getElem l1, fun l hl => by rw [Inv.injS I hl hy]; exact List.getElem?_eq_getElem l2, fun l hl => by rw [Inv.injS I hl hw]; exact List.getElem?_eq_getElem l3⟩
def iZip3 (K : PySem.W.Frag) (ta : TA) : TI := fun σ H R => ta σ H fun vs H1 => ∃ b1 b2 b3 a1 a2 a3 xs ys zs, vs = [.ref a1, .ref a2, .ref a3] ∧ SqS K b1 H1 a1 xs ∧ SqS K b2 H1 a2 ys ∧ SqS K b3 H1 a3 zs ∧ R (ItZ3 K b1 b2 b3 a1 a2 a3) H1
section
variable {X : Cx}
theorem pi_zip3S {e e2 e3 : Expr} {ta : TA} {p pos tpos : Pos} {elts : List Expr} {kk : Nat} (hm : X.mg "zip" = none) (ha : PA X [e, e2, e3] ta) (hg : Gl X "zip" := by rfl)
    (hs : starEach [e, e2, e3] X.env = (false, eval e X.env) :: starEach [e2, e3] X.env := by rfl) (hpl : (backTo pos (starEach [e2, e3] X.env)).any (·.1) = false := by rfl) :
    PI X (.Tuple elts kk tpos) (.Call (.Name "zip" p) [e, e2, e3] [] pos) (iZip3 X.K ta) := by
  refine ⟨fun pins s σ H R I h => ?_⟩
  refine Call_ (ld_blt I hg hm PyProof.Rows.boot_zip (PyProof.Rows.callWith_type1 (thn (ha.run pos pins s σ H _ I h) fun us s1 ⟨vs, H1, I1, r1, q1⟩ => ?_) hs hpl))
  obtain ⟨b1, b2, b3, a1, a2, a3, xs, ys, zs, ex, hx, hy, hw, q⟩ := q1
  subst ex
  cases r1 with
  | cons r rr =>
    cases rr with
    | cons r' rr =>
      cases rr with
      | cons r'' rr =>
        cases rr
        cases r
        cases r'
        cases r''
        obtain ⟨its, rv, p1, l1⟩ := Inv.seqS I1 hx
        obtain ⟨its2, rv2, p2, l2⟩ := Inv.seqS I1 hy
        obtain ⟨its3, rv3, p3, l3⟩ := Inv.seqS I1 hw
        refine zip_begins3 (begins_S b1 a1 its.toArray) (begins_S b2 a2 its2.toArray) (begins_S b3 a3 its3.toArray) p1 p2 p3 fun h' hz hTI hTO g1 g2 g3 hsz hk => wpAny_pyIter_zip hz ?_
        have I2 : Inv X pins σ H1 { s1 with heap := h' } := I1.kept (t' := s1.toks) hk
        refine ⟨s1.heap.objs.size + 5, _, _, _, H1, rfl, I2, turn_zip3S (b1 := b1) (b2 := b2) (b3 := b3) l1 l2 l3, ⟨hz, hTI, ⟨_, _, _, hTO⟩, IterS.new g1, IterS.new g2, IterS.new g3⟩, fp_above I1 fun c hc => ?_, q⟩
        have e' : c = s1.heap.objs.size + 5 ∨ c = s1.heap.objs.size + 3 ∨ c = s1.heap.objs.size + 4 ∨ c = s1.heap.objs.size ∨ c = s1.heap.objs.size + 1 ∨ c = s1.heap.objs.size + 2 := by simpa using hc
        rcases e' with z | z | z | z | z | z
        · rw [z]; exact Nat.le_add_right _ _
        · rw [z]; exact Nat.le_add_right _ _
        · rw [z]; exact Nat.le_add_right _ _
        · rw [z]; exact Nat.le_refl _
        · rw [z]; exact Nat.le_add_right _ _
        · rw [z]; exact Nat.le_add_right _ _
end
end DL
/-! The data layer: loops and comprehensions. -/
namespace DL
open PySem PySem.Spec PyProof.Rows L2
/-! ### what an iterable gives -/
structure Gives (K : PySem.W.Frag) (F1 : Hp) (J : It) (items : List D) : Prop where
  go : ∀ i H, Same F1 H → i < items.length → J.go i H
  stop : ∀ H, Same F1 H → J.stop items.length H
  yld : ∀ i F H x H', Same F1 F → Same F H → i < items.length → J.yld i H x H' → ∃ F' d, Grow F H F' H' ∧ Same F' H' ∧ items[i]? = some d ∧ Rp K F' d x
theorem SqS.mono {K : PySem.W.Frag} {H H' : Hp} (s : Same H H') : ∀ {b : Bool} {a : Addr} {xs : List V}, SqS K b H a xs → SqS K b H' a xs
  | true, _, _, h => s.seq h
  | false, _, _, h => Same.tseq s h
theorem gives_list {K : PySem.W.Frag} {F : Hp} {a : Addr} {vs : List V} {ds : List D} (h : SqL K F a vs) (r : RpL K F ds vs) : Gives K F (Itl K a) ds where
  go := fun i H s hi => ⟨vs, vs[i]'(by rw [← r.length]; exact hi), s.seq h, List.getElem?_eq_getElem _⟩
  stop := fun H s => ⟨vs, s.seq h, by rw [r.length]; exact Nat.le_refl _⟩
  yld := fun i F1 H x H' s1 s2 hi y => by
    obtain ⟨e, g⟩ := y
    subst e
    obtain ⟨v, hv, rv⟩ := r.get (List.getElem?_eq_getElem hi)
    have := g vs ((s1.trans s2).seq h)
    rw [hv] at this
    cases this
    exact ⟨F1, ds[i], Grow.refl _ _, s2, List.getElem?_eq_getElem hi, rv.mono s1⟩
theorem gives_tup {K : PySem.W.Frag} {F : Hp} {a : Addr} {vs : List V} {ds : List D} (h : SqT K F a vs) (r : RpL K F ds vs) : Gives K F (Itt K a) ds where
  go := fun i H s hi => ⟨vs, vs[i]'(by rw [← r.length]; exact hi), Same.tseq s h, List.getElem?_eq_getElem _⟩
  stop := fun H s => ⟨vs, Same.tseq s h, by rw [r.length]; exact Nat.le_refl _⟩
  yld := fun i F1 H x H' s1 s2 hi y => by
    obtain ⟨e, g⟩ := y
    subst e
    obtain ⟨v, hv, rv⟩ := r.get (List.getElem?_eq_getElem hi)
    have := g vs (Same.tseq (s1.trans s2) h)
    rw [hv] at this
    cases this
    exact ⟨F1, ds[i], Grow.refl _ _, s2, List.getElem?_eq_getElem hi, rv.mono s1⟩
def rangeD (lo : Int) (n : Nat) : List D := (List.range n).map fun i => D.int (lo + (i : Nat))
theorem rangeD_get {lo : Int} {n i : Nat} (h : i < n) : (rangeD lo n)[i]? = some (.int (lo + (i : Nat))) := by
  unfold rangeD
  rw [List.getElem?_map, List.getElem?_range h]
  rfl
theorem rangeD_len (lo : Int) (n : Nat) : (rangeD lo n).length = n := by unfold rangeD; rw [List.length_map, List.length_range]
theorem gives_range {K : PySem.W.Frag} {F : Hp} {lo : Int} {n : Nat} : Gives K F (Itr lo n) (rangeD lo n) where
  go := fun i H s hi => by rw [rangeD_len] at hi; exact hi
  stop := fun H s => by rw [rangeD_len]; exact Nat.le_refl _
  yld := fun i F1 H x H' s1 s2 hi y => by
    obtain ⟨e, g⟩ := y
    subst e
    rw [rangeD_len] at hi
    exact ⟨F1, _, Grow.refl _ _, s2, rangeD_get hi, g⟩
def rangeCD (lo c : Int) (n : Nat) : List D := (List.range n).map fun i => D.int (lo + (i : Nat) * c)
theorem rangeCD_len (lo c : Int) (n : Nat) : (rangeCD lo c n).length = n := by unfold rangeCD; rw [List.length_map, List.length_range]
theorem gives_rangeC {K : PySem.W.Frag} {F : Hp} {lo c : Int} {n : Nat} : Gives K F (Itc lo c n) (rangeCD lo c n) where
  go := fun i H s hi => by rw [rangeCD_len] at hi; exact hi
  stop := fun H s => by rw [rangeCD_len]; exact Nat.le_refl _
  yld := fun i F1 H x H' s1 s2 hi y => by
    obtain ⟨e, g⟩ := y
    subst e
    rw [rangeCD_len] at hi
    refine ⟨F1, .int (lo + (i : Nat) * c), Grow.refl _ _, s2, ?_, g⟩
    unfold rangeCD
    rw [List.getElem?_map, List.getElem?_range hi]
    rfl
theorem new_tup {K : PySem.W.Frag} {F H : Hp} {T : Addr} {ds : List D} {vs : List V} (sb : Same F H) (hT : H T = none) (r : RpL K F ds vs) : Grow F H (upd F T (.tup vs)) (upd H T (.tup vs)) ∧ Same (upd F T (.tup vs)) (upd H T (.tup vs)) ∧ Rp K (upd F T (.tup vs)) (.tup ds) (.ref T) := by
  obtain ⟨g, s⟩ := grow_upd (o := .tup vs) sb hT
  exact ⟨g, s, T, vs, rfl, SqT.of upd_same, r.mono g.f⟩
def enumD (ds : List D) : List D := ds.zipIdx.map fun p => D.tup [.int (p.2 : Nat), p.1]
theorem enumD_len (ds : List D) : (enumD ds).length = ds.length := by unfold enumD; rw [List.length_map, List.length_zipIdx]
theorem enumD_get {ds : List D} {i : Nat} {d : D} (h : ds[i]? = some d) : (enumD ds)[i]? = some (.tup [.int (i : Nat), d]) := by
  unfold enumD
  rw [List.getElem?_map, List.getElem?_zipIdx, h]
  simp
theorem gives_enum {K : PySem.W.Frag} {F : Hp} {b : Bool} {a : Addr} {vs : List V} {ds : List D} (h : SqS K b F a vs) (r : RpL K F ds vs) : Gives K F (ItE K b a) (enumD ds) where
  go := fun i H s hi => by
    rw [enumD_len] at hi
    exact ⟨vs, vs[i]'(by rw [← r.length]; exact hi), h.mono s, List.getElem?_eq_getElem _⟩
  stop := fun H s => ⟨vs, h.mono s, by rw [enumD_len, r.length]⟩
  yld := fun i F1 H x H' s1 s2 hi y => by
    obtain ⟨T, u, e1, e2, e3, g⟩ := y
    subst e1
    subst e3
    rw [enumD_len] at hi
    obtain ⟨v, hv, rv⟩ := r.get (List.getElem?_eq_getElem hi)
    have := g vs (h.mono (s1.trans s2))
    rw [hv] at this
    cases this
    obtain ⟨g1, g2, g3⟩ := new_tup (ds := [.int (i : Nat), ds[i]]) s2 e2 ⟨_, _, rfl, rfl, RpL.one (rv.mono s1)⟩
    exact ⟨_, _, g1, g2, enumD_get (List.getElem?_eq_getElem hi), g3⟩
def zipD2 (xs ys : List D) : List D := (xs.zip ys).map fun p => D.tup [p.1, p.2]
theorem zipD2_len (xs ys : List D) : (zipD2 xs ys).length = min xs.length ys.length := by unfold zipD2; rw [List.length_map, List.length_zip]
theorem zipD2_get {xs ys : List D} {i : Nat} {x y : D} (h : xs[i]? = some x) (h2 : ys[i]? = some y) : (zipD2 xs ys)[i]? = some (.tup [x, y]) := by
  unfold zipD2
  rw [List.getElem?_map, (List.getElem?_zip_eq_some (z := (x, y))).mpr ⟨h, h2⟩]
  rfl
theorem gives_zip2 {K : PySem.W.Frag} {F : Hp} {b1 b2 : Bool} {a1 a2 : Addr} {vs us : List V} {ds es : List D} (h : SqS K b1 F a1 vs) (r : RpL K F ds vs) (h2 : SqS K b2 F a2 us) (r2 : RpL K F es us) : Gives K F (ItZ2 K b1 b2 a1 a2) (zipD2 ds es) where
  go := fun i H s hi => by
    rw [zipD2_len] at hi
    exact ⟨vs, us, vs[i]'(by rw [← r.length]; omega), us[i]'(by rw [← r2.length]; omega), h.mono s, h2.mono s, List.getElem?_eq_getElem _, List.getElem?_eq_getElem _⟩
  stop := fun H s => ⟨vs, us, h.mono s, h2.mono s, by rw [zipD2_len, r.length, r2.length]⟩
  yld := fun i F1 H x H' s1 s2 hi y => by
    obtain ⟨T, u, w, e1, e2, e3, g, g2⟩ := y
    subst e1
    subst e3
    rw [zipD2_len] at hi
    have l1 : i < ds.length := by omega
    have l2 : i < es.length := by omega
    obtain ⟨v, hv, rv⟩ := r.get (List.getElem?_eq_getElem l1)
    obtain ⟨v2, hv2, rv2⟩ := r2.get (List.getElem?_eq_getElem l2)
    have q := g vs (h.mono (s1.trans s2))
    have q2 := g2 us (h2.mono (s1.trans s2))
    rw [hv] at q
    rw [hv2] at q2
    cases q
    cases q2
    obtain ⟨g1, g2, g3⟩ := new_tup (ds := [ds[i], es[i]]) s2 e2 ⟨_, _, rfl, rv.mono s1, RpL.one (rv2.mono s1)⟩
    exact ⟨_, _, g1, g2, zipD2_get (List.getElem?_eq_getElem l1) (List.getElem?_eq_getElem l2), g3⟩
def zipD3 : List D → List D → List D → List D
  | x :: xs, y :: ys, z :: zs => .tup [x, y, z] :: zipD3 xs ys zs
  | _, _, _ => []
theorem zipD3_len : ∀ xs ys zs : List D, (zipD3 xs ys zs).length = min (min xs.length ys.length) zs.length
  | [], _, _ => by simp [zipD3]
  | _ :: _, [], _ => by simp [zipD3]
  | _ :: _, _ :: _, [] => by simp [zipD3]
  | x :: xs, y :: ys, z :: zs => by
    have := zipD3_len xs ys zs
    simp only [zipD3, List.length_cons, this]
    omega
theorem zipD3_get : ∀ {xs ys zs : List D} {i : Nat} {x y z : D}, xs[i]? = some x → ys[i]? = some y → zs[i]? = some z → (zipD3 xs ys zs)[i]? = some (.tup [x, y, z])
  | [], _, _, _, _, _, _, h, _, _ => by simp at h
  | _ :: _, [], _, _, _, _, _, _, h, _ => by simp at h
  | _ :: _, _ :: _, [], _, _, _, _, _, _, h => by simp at h
  | x :: xs, y :: ys, z :: zs, 0, _, _, _, h1, h2, h3 => by
    simp at h1 h2 h3
    subst h1 h2 h3
    rfl
  | x :: xs, y :: ys, z :: zs, i + 1, _, _, _, h1, h2, h3 => by
    have := zipD3_get (xs := xs) (ys := ys) (zs := zs) (i := i) (by simpa using h1) (by simpa using h2) (by simpa using h3)
    simpa [zipD3] using this
theorem gives_zip3 {K : PySem.W.Frag} {F : Hp} {b1 b2 b3 : Bool} {a1 a2 a3 : Addr} {vs us ws : List V} {ds es fs : List D} (h : SqS K b1 F a1 vs) (r : RpL K F ds vs) (h2 : SqS K b2 F a2 us) (r2 : RpL K F es us) (h3 : SqS K b3 F a3 ws) (r3 : RpL K F fs ws) :
    Gives K F (ItZ3 K b1 b2 b3 a1 a2 a3) (zipD3 ds es fs) where
  go := fun i H s hi => by
    rw [zipD3_len] at hi
    exact ⟨vs, us, ws, vs[i]'(by rw [← r.length]; omega), us[i]'(by rw [← r2.length]; omega), ws[i]'(by rw [← r3.length]; omega), h.mono s, h2.mono s, h3.mono s, List.getElem?_eq_getElem _, List.getElem?_eq_getElem _, List.getElem?_eq_getElem _⟩
  stop := fun H s => ⟨vs, us, ws, h.mono s, h2.mono s, h3.mono s, by rw [zipD3_len, r.length, r2.length, r3.length]⟩
  yld := fun i F1 H x H' s1 s2 hi y => by
    obtain ⟨T, u, w, t, e1, e2, e3, g, g2, g3⟩ := y
    subst e1
    subst e3
    rw [zipD3_len] at hi
    have l1 : i < ds.length := by omega
    have l2 : i < es.length := by omega
    have l3 : i < fs.length := by omega
    obtain ⟨v, hv, rv⟩ := r.get (List.getElem?_eq_getElem l1)
    obtain ⟨v2, hv2, rv2⟩ := r2.get (List.getElem?_eq_getElem l2)
    obtain ⟨v3, hv3, rv3⟩ := r3.get (List.getElem?_eq_getElem l3)
    have q := g vs (h.mono (s1.trans s2))
    have q2 := g2 us (h2.mono (s1.trans s2))
    have q3 := g3 ws (h3.mono (s1.trans s2))
    rw [hv] at q
    rw [hv2] at q2
    rw [hv3] at q3
    cases q
    cases q2
    cases q3
    obtain ⟨g1, g2, g3⟩ := new_tup (ds := [ds[i], es[i], fs[i]]) s2 e2 ⟨_, _, rfl, rv.mono s1, _, _, rfl, rv2.mono s1, RpL.one (rv3.mono s1)⟩
    exact ⟨_, _, g1, g2, zipD3_get (List.getElem?_eq_getElem l1) (List.getElem?_eq_getElem l2) (List.getElem?_eq_getElem l3), g3⟩
/-! ### iterables -/
abbrev DI := En → (List D → En → Prop) → DX → Prop
def rI (B : Bd) (W : WX) (it : DI) : TI := fun σ H R => ∃ F L ρ Qd Ed, SR B F L σ H ρ ∧ it ρ Qd Ed ∧
  (∀ items ρ' F' L' H' J, Qd items ρ' → SR B F' L' σ H' ρ' → Stp F L H F' L' H' → Gives B.K F' J items → R J H') ∧ XOk B W F Ed
def seqOf : D → Option (List D)
  | .tup ds => some ds
  | .lst ds => some ds
  | .fix ds => some ds
  | _ => none
theorem seqOf_ok {K : PySem.W.Frag} {F : Hp} : ∀ {d : D} {v : V} {ds : List D}, Rp K F d v → seqOf d = some ds → ∃ a vs b, v = .ref a ∧ SqS K b F a vs ∧ RpL K F ds vs
  | .tup _, _, _, ⟨a, vs, e, q, r⟩, z => by cases z; exact ⟨a, vs, false, e, q, r⟩
  | .lst _, _, _, ⟨a, vs, e, q, r⟩, z => by cases z; exact ⟨a, vs, true, e, SqL.of q, r⟩
  | .fix _, _, _, ⟨a, vs, e, q, r⟩, z => by cases z; exact ⟨a, vs, true, e, q, r⟩
  | .non, _, _, _, z => by cases z
  | .bl _, _, _, _, z => by cases z
  | .int _, _, _, _, z => by cases z
  | .str _, _, _, _, z => by cases z
  | .dic _ _, _, _, _, z => by cases z
  | .obj _ _ _, _, _, _, z => by cases z
  | .adr _, _, _, _, z => by cases z
  | .rng _ _, _, _, _, z => by cases z
  | .ty _, _, _, _, z => by cases z
/-- of a list, a tuple -/
def iSq (t : DE) : DI := fun ρ Q E => t ρ (fun d ρ1 => match seqOf d with
  | some ds => Q ds ρ1
  | none => False) E
def lim62 (i : Int) : Prop := -(2 ^ 62) ≤ i ∧ i < 2 ^ 62
def iRg1 (t : DE) : DI := fun ρ Q E => t ρ (fun d ρ1 => match d with
  | .int n => lim62 n ∧ Q (rangeD 0 n.toNat) ρ1
  | _ => False) E
def iRg2 (t u : DE) : DI := fun ρ Q E => t ρ (fun d ρ1 => u ρ1 (fun e ρ2 => match d, e with
  | .int m, .int n => lim62 m ∧ lim62 n ∧ Q (rangeD m (n - m).toNat) ρ2
  | _, _ => False) E) E
/-- range(a, b, -1) -/
def iRgD (t u w : DE) : DI := fun ρ Q E => t ρ (fun d ρ1 => u ρ1 (fun e ρ2 => w ρ2 (fun f ρ3 => match d, e, f with
  | .int m, .int n, .int c => c = -1 ∧ lim62 m ∧ lim62 n ∧ Q (rangeCD m (-1) (m - n).toNat) ρ3
  | _, _, _ => False) E) E) E
def iEn (t : DE) : DI := fun ρ Q E => t ρ (fun d ρ1 => match seqOf d with
  | some ds => Q (enumD ds) ρ1
  | none => False) E
def iZp2 (t u : DE) : DI := fun ρ Q E => t ρ (fun d ρ1 => u ρ1 (fun e ρ2 => match seqOf d, seqOf e with
  | some ds, some es => Q (zipD2 ds es) ρ2
  | _, _ => False) E) E
def iZp3 (t u w : DE) : DI := fun ρ Q E => t ρ (fun d ρ1 => u ρ1 (fun e ρ2 => w ρ2 (fun f ρ3 => match seqOf d, seqOf e, seqOf f with
  | some ds, some es, some fs => Q (zipD3 ds es fs) ρ3
  | _, _, _ => False) E) E) E
section
variable {X : Cx} {B : Bd} {W : WX} {tg : Expr} {pos p : Pos}
theorem pi_imp {e : Expr} {t u : TI} (h : PI X tg e t) (i : ∀ σ H R, u σ H R → t σ H R) : PI X tg e u := ⟨fun pins s σ H R I q => h.run pins s σ H R I (i σ H R q)⟩
theorem di_sq {e : Expr} {t : DE} (he : PE X e (rV B W t)) (hK : B.K = X.K := by rfl) : PI X tg e (rI B W (iSq t)) := by
  refine pi_imp (pi_seq he) fun σ H R ⟨F, L, ρ, Qd, Ed, S, ht, hq, hx⟩ => ⟨F, L, ρ, _, Ed, S, ht, fun d ρ' v F' L' H' k S' s r => ?_, hx⟩
  split at k
  · rename_i ds e
    obtain ⟨a, vs, b, ev, q, rl⟩ := seqOf_ok r e
    subst ev
    refine ⟨a, rfl, ?_⟩
    cases b with
    | true => exact .inl ⟨⟨vs, hK ▸ S'.sub.seq q⟩, hq ds ρ' F' L' H' _ k S' s (hK ▸ gives_list q rl)⟩
    | false => exact .inr ⟨⟨vs, hK ▸ Same.tseq S'.sub q⟩, hq ds ρ' F' L' H' _ k S' s (hK ▸ gives_tup q rl)⟩
  · exact k.elim
/-! frozen arguments -/
def q1 (k : D → En → Prop) : List AV → En → Prop
  | [.inl d], ρ => k d ρ
  | _, _ => False
def q2 (k : D → D → En → Prop) : List AV → En → Prop
  | [.inl d, .inl e], ρ => k d e ρ
  | _, _ => False
def q3 (k : D → D → D → En → Prop) : List AV → En → Prop
  | [.inl d, .inl e, .inl f], ρ => k d e f ρ
  | _, _ => False
theorem q1_ok {k : D → En → Prop} {xs : List AV} {ρ : En} (h : q1 k xs ρ) : ∃ d, xs = [.inl d] ∧ k d ρ := by
  unfold q1 at h
  split at h
  · exact ⟨_, rfl, h⟩
  · exact h.elim
theorem q2_ok {k : D → D → En → Prop} {xs : List AV} {ρ : En} (h : q2 k xs ρ) : ∃ d e, xs = [.inl d, .inl e] ∧ k d e ρ := by
  unfold q2 at h
  split at h
  · exact ⟨_, _, rfl, h⟩
  · exact h.elim
theorem q3_ok {k : D → D → D → En → Prop} {xs : List AV} {ρ : En} (h : q3 k xs ρ) : ∃ d e f, xs = [.inl d, .inl e, .inl f] ∧ k d e f ρ := by
  unfold q3 at h
  split at h
  · exact ⟨_, _, _, rfl, h⟩
  · exact h.elim
theorem args1 {K : PySem.W.Frag} {F : Hp} {L : La} {d : D} {vs : List V} (h : ArgVs K F L [.inl d] vs) : ∃ v, vs = [v] ∧ Rp K F d v := by
  obtain ⟨v, r, e, h1, h2⟩ := h
  cases (show r = [] from h2)
  exact ⟨v, e, h1⟩
theorem args2 {K : PySem.W.Frag} {F : Hp} {L : La} {d e : D} {vs : List V} (h : ArgVs K F L [.inl d, .inl e] vs) : ∃ v u, vs = [v, u] ∧ Rp K F d v ∧ Rp K F e u := by
  obtain ⟨v, r, ev, h1, h2⟩ := h
  obtain ⟨u, e, h3⟩ := args1 h2
  subst e
  exact ⟨v, u, ev, h1, h3⟩
theorem args3 {K : PySem.W.Frag} {F : Hp} {L : La} {d e f : D} {vs : List V} (h : ArgVs K F L [.inl d, .inl e, .inl f] vs) : ∃ v u w, vs = [v, u, w] ∧ Rp K F d v ∧ Rp K F e u ∧ Rp K F f w := by
  obtain ⟨v, r, ev, h1, h2⟩ := h
  obtain ⟨u, w, e, h3, h4⟩ := args2 h2
  subst e
  exact ⟨v, u, w, ev, h1, h3, h4⟩
theorem da1 {e : Expr} {t : DE} (he : PE X e (rV B W t)) (hs : starEach [e] X.env = (false, eval e X.env) :: starEach [] X.env := by rfl) : PA X [e] (rA B W [.e t]) := da_cons (dx_e he) da_nil hs
theorem di_rg1 {e : Expr} {t : DE} (hm : X.mg "range" = none) (he : PE X e (rV B W t)) (hg : Gl X "range" := by rfl) (hs : starEach [e] X.env = [(false, eval e X.env)] := by rfl) : PI X tg (.Call (.Name "range" p) [e] [] pos) (rI B W (iRg1 t)) := by
  refine pi_imp (pi_range1 hg hm (da1 he hs) hs) fun σ H R ⟨F, L, ρ, Qd, Ed, S, ht, hq, hx⟩ => ⟨F, L, ρ, q1 _, Ed, S, ht, fun xs ρ' vs F' L' H' k S' s r => ?_, hx⟩
  obtain ⟨d, e, z⟩ := q1_ok k
  clear k
  have k := z
  subst e
  obtain ⟨v, ev, r1⟩ := args1 r
  clear r
  cases d <;> first | (exact False.elim k) | skip
  rename_i n
  cases (show v = .int n from r1)
  exact ⟨n, ev, k.1.1, k.1.2, hq _ ρ' F' L' H' _ k.2 S' s gives_range⟩
theorem di_rg2 {a b : Expr} {t u : DE} (hm : X.mg "range" = none) (ha : PE X a (rV B W t)) (hb : PE X b (rV B W u)) (hg : Gl X "range" := by rfl) (hs : starEach [a, b] X.env = [(false, eval a X.env), (false, eval b X.env)] := by rfl) (hs2 : starEach [b] X.env = [(false, eval b X.env)] := by rfl)
    (hs3 : starEach (a :: [b]) X.env = (false, eval a X.env) :: starEach [b] X.env := by rfl) : PI X tg (.Call (.Name "range" p) [a, b] [] pos) (rI B W (iRg2 t u)) := by
  refine pi_imp (pi_range2 hg hm (da_cons (dx_e ha) (da1 hb hs2) hs3) hs hs2) fun σ H R ⟨F, L, ρ, Qd, Ed, S, ht, hq, hx⟩ => ⟨F, L, ρ, q2 _, Ed, S, ht, fun xs ρ' vs F' L' H' k S' s r => ?_, hx⟩
  obtain ⟨d, e, e1, z⟩ := q2_ok k
  clear k
  have k := z
  subst e1
  obtain ⟨v, w, e2, r1, r2⟩ := args2 r
  cases d <;> first | (exact False.elim k) | skip
  cases e <;> first | (exact False.elim k) | skip
  rename_i m n
  cases (show v = .int m from r1)
  cases (show w = .int n from r2)
  obtain ⟨k1, k2, k3⟩ : lim62 m ∧ lim62 n ∧ Qd (rangeD m (n - m).toNat) ρ' := k
  exact ⟨m, n, e2, ⟨k1.1, k1.2, k2.1, k2.2⟩, hq _ ρ' F' L' H' _ k3 S' s gives_range⟩
theorem di_rgd {a b c : Expr} {t u w : DE} (hm : X.mg "range" = none) (ha : PE X a (rV B W t)) (hb : PE X b (rV B W u)) (hc : PE X c (rV B W w)) (hg : Gl X "range" := by rfl)
    (hs : starEach [a, b, c] X.env = (false, eval a X.env) :: starEach [b, c] X.env := by rfl) (hs2 : starEach [b, c] X.env = (false, eval b X.env) :: starEach [c] X.env := by rfl) (hs3 : starEach [c] X.env = (false, eval c X.env) :: starEach [] X.env := by rfl) (hpl : (backTo pos (starEach [b, c] X.env)).any (·.1) = false := by rfl) : PI X tg (.Call (.Name "range" p) [a, b, c] [] pos) (rI B W (iRgD t u w)) := by
  refine pi_imp (pi_range3 hg hm (da_cons (dx_e ha) (da_cons (dx_e hb) (da1 hc hs3) hs2) hs) hs hpl) fun σ H R ⟨F, L, ρ, Qd, Ed, S, ht, hq, hx⟩ => ⟨F, L, ρ, q3 _, Ed, S, ht, fun xs ρ' vs F' L' H' k S' s r => ?_, hx⟩
  obtain ⟨d, e, f, e1, z⟩ := q3_ok k
  clear k
  have k := z
  subst e1
  obtain ⟨v, w, x, e2, r1, r2, r3⟩ := args3 r
  cases d <;> first | (exact False.elim k) | skip
  cases e <;> first | (exact False.elim k) | skip
  cases f <;> first | (exact False.elim k) | skip
  rename_i m n c
  cases (show v = .int m from r1)
  cases (show w = .int n from r2)
  cases (show x = .int c from r3)
  obtain ⟨k0, k1, k2, k3⟩ : c = -1 ∧ lim62 m ∧ lim62 n ∧ Qd (rangeCD m (-1) (m - n).toNat) ρ' := k
  subst k0
  exact ⟨m, n, -1, _, e2, RgC.neg k1.1 k1.2 k2.1 k2.2, hq _ ρ' F' L' H' _ k3 S' s gives_rangeC⟩
theorem di_en {e : Expr} {t : DE} {elts : List Expr} {kk : Nat} {tpos : Pos} (hm : X.mg "enumerate" = none) (he : PE X e (rV B W t)) (hg : Gl X "enumerate" := by rfl) (hs : starEach [e] X.env = [(false, eval e X.env)] := by rfl) (hK : B.K = X.K := by rfl) :
    PI X (.Tuple elts kk tpos) (.Call (.Name "enumerate" p) [e] [] pos) (rI B W (iEn t)) := by
  refine pi_imp (pi_enumS hm (da1 he hs) hg hs) fun σ H R ⟨F, L, ρ, Qd, Ed, S, ht, hq, hx⟩ => ⟨F, L, ρ, q1 _, Ed, S, ht, fun xs ρ' vs F' L' H' k S' s r => ?_, hx⟩
  obtain ⟨d, e, z⟩ := q1_ok k
  clear k
  have k := z
  subst e
  obtain ⟨v, e, r⟩ := args1 r
  split at k
  · rename_i ds es
    obtain ⟨a, us, b, ev, q, rl⟩ := seqOf_ok r es
    subst ev
    exact ⟨b, a, us, e, hK ▸ q.mono S'.sub, hq _ ρ' F' L' H' _ k S' s (hK ▸ gives_enum q rl)⟩
  · exact k.elim
theorem di_zp2 {e e2 : Expr} {t u : DE} {elts : List Expr} {kk : Nat} {tpos : Pos} (hm : X.mg "zip" = none) (he : PE X e (rV B W t)) (he2 : PE X e2 (rV B W u)) (hg : Gl X "zip" := by rfl) (hs : starEach [e, e2] X.env = (false, eval e X.env) :: starEach [e2] X.env := by rfl)
    (hs2 : starEach [e2] X.env = (false, eval e2 X.env) :: starEach [] X.env := by rfl) (hpl : (backTo pos (starEach [e2] X.env)).any (·.1) = false := by rfl) (hK : B.K = X.K := by rfl) : PI X (.Tuple elts kk tpos) (.Call (.Name "zip" p) [e, e2] [] pos) (rI B W (iZp2 t u)) := by
  refine pi_imp (pi_zip2S hm (da_cons (dx_e he) (da1 he2 hs2) hs) hg hs hpl) fun σ H R ⟨F, L, ρ, Qd, Ed, S, ht, hq, hx⟩ => ⟨F, L, ρ, q2 _, Ed, S, ht, fun xs ρ' vs F' L' H' k S' s r => ?_, hx⟩
  obtain ⟨d, e, e1, z⟩ := q2_ok k
  clear k
  have k := z
  subst e1
  obtain ⟨v, w, e2, r1, r2⟩ := args2 r
  split at k
  · rename_i ds es z1 z2
    obtain ⟨a, us, b, ev, q, rl⟩ := seqOf_ok r1 z1
    obtain ⟨a2, us2, b2, ev2, q2, rl2⟩ := seqOf_ok r2 z2
    subst ev
    subst ev2
    exact ⟨b, b2, a, a2, us, us2, e2, hK ▸ q.mono S'.sub, hK ▸ q2.mono S'.sub, hq _ ρ' F' L' H' _ k S' s (hK ▸ gives_zip2 q rl q2 rl2)⟩
  · exact k.elim
theorem di_zp3 {e e2 e3 : Expr} {t u w : DE} {elts : List Expr} {kk : Nat} {tpos : Pos} (hm : X.mg "zip" = none) (he : PE X e (rV B W t)) (he2 : PE X e2 (rV B W u)) (he3 : PE X e3 (rV B W w)) (hg : Gl X "zip" := by rfl) (hs : starEach [e, e2, e3] X.env = (false, eval e X.env) :: starEach [e2, e3] X.env := by rfl)
    (hs2 : starEach [e2, e3] X.env = (false, eval e2 X.env) :: starEach [e3] X.env := by rfl) (hs3 : starEach [e3] X.env = (false, eval e3 X.env) :: starEach [] X.env := by rfl) (hpl : (backTo pos (starEach [e2, e3] X.env)).any (·.1) = false := by rfl) (hK : B.K = X.K := by rfl) :
    PI X (.Tuple elts kk tpos) (.Call (.Name "zip" p) [e, e2, e3] [] pos) (rI B W (iZp3 t u w)) := by
  refine pi_imp (pi_zip3S hm (da_cons (dx_e he) (da_cons (dx_e he2) (da1 he3 hs3) hs2) hs) hg hs hpl) fun σ H R ⟨F, L, ρ, Qd, Ed, S, ht, hq, hx⟩ => ⟨F, L, ρ, q3 _, Ed, S, ht, fun xs ρ' vs F' L' H' k S' s r => ?_, hx⟩
  obtain ⟨d, e, f, e1, z⟩ := q3_ok k
  clear k
  have k := z
  subst e1
  obtain ⟨v, w, x, e2, r1, r2, r3⟩ := args3 r
  split at k
  · rename_i ds es fs z1 z2 z3
    obtain ⟨a, us, b, ev, q, rl⟩ := seqOf_ok r1 z1
    obtain ⟨a2, us2, b2, ev2, q2, rl2⟩ := seqOf_ok r2 z2
    obtain ⟨a3, us3, b3, ev3, q3, rl3⟩ := seqOf_ok r3 z3
    subst ev
    subst ev2
    subst ev3
    exact ⟨b, b2, b3, a, a2, a3, us, us2, us3, e2, hK ▸ q.mono S'.sub, hK ▸ q2.mono S'.sub, hK ▸ q3.mono S'.sub, hq _ ρ' F' L' H' _ k S' s (hK ▸ gives_zip3 q rl q2 rl2 q3 rl3)⟩
  · exact k.elim
end
end DL
/-! The data layer: for, while, list comprehensions. -/
namespace DL
open PySem PySem.Spec PyProof.Rows L2
/-! ### for -/
def forGo (tg : Tg) (tb : DS) : List D → DEnds → En → Prop
  | [], D, ρ => D.nx ρ
  | d :: ds, D, ρ => tgGo tg (.val d) ρ (fun ρ1 => tb { D with nx := forGo tg tb ds D, ct := forGo tg tb ds D, bk := D.nx } ρ1) D.ex
def mFor (it : DI) (tg : Tg) (tb : DS) : DS := fun D ρ => it ρ (fun items ρ1 => forGo tg tb items D ρ1) D.ex
section
variable {X : Cx} {B : Bd} {W : WX} {tg : Expr} {pos : Pos}
theorem ds_for {iter : Expr} {body : List Stmt} {it : DI} {g : Tg} {tb : DS} (hp : PassesOwn (model X.prog X.w) X.A X.env X.xe) (hc : X.calm = true) (hi : PI X tg iter (rI B W it)) (hg : PG X tg (rG B W g)) (hb : PSs X body (rS B W tb))
    (hs : ∀ x, foldedSetIterable iter X.env x = pure x := by intro _; rfl) : PS X (.For tg iter body [] pos) (rS B W (mFor it g tb)) := by
  refine ps_imp (ps_for hp hc hi hg hb hs) fun D σ H ⟨F, L, ρ, Dd, S, q, o⟩ => ⟨F, L, ρ, _, Dd.ex, S, q, fun items ρ1 F1 L1 H1 J k S1 s1 gv => ?_, o.ex⟩
  refine ⟨fun i m σ H => m = items.length - i ∧ i ≤ items.length ∧ ∃ F L ρ, SR B F L σ H ρ ∧ Same F1 F ∧ forGo g tb (items.drop i) Dd ρ, ⟨items.length, rfl, Nat.zero_le _, F1, L1, ρ1, S1, Same.refl F1, k⟩, ?_⟩
  rintro i m σ2 H2 ⟨rfl, hi, F2, L2, ρ2, S2, s2, k2⟩
  by_cases hlt : i < items.length
  · rw [List.drop_eq_getElem_cons hlt] at k2
    refine .inr ⟨gv.go i H2 (s2.trans S2.sub) hlt, fun σ' H' => items.length - (i + 1) = items.length - (i + 1) ∧ i + 1 ≤ items.length ∧ ∃ F L ρ, SR B F L σ' H' ρ ∧ Same F1 F ∧ forGo g tb (items.drop (i + 1)) Dd ρ, fun σ' H' h => ⟨_, by omega, h⟩, fun x H' y => ?_⟩
    obtain ⟨F3, d, g3, sb3, ed, rd⟩ := gv.yld i F2 H2 x H' s2 S2.sub hlt y
    rw [List.getElem?_eq_getElem hlt] at ed
    cases ed
    refine ⟨F3, L2, ρ2, _, Dd.ex, .val items[i], S2.grow g3 sb3, rd, k2, fun ρ' σ' F' L' H'' q' S' m => ⟨F', L', ρ', _, S', q', ?_⟩, o.ex.mono (s1.f.trans (s2.trans g3.f))⟩
    have sF : Same F1 F' := s2.trans (g3.f.trans m.f)
    exact ⟨fun ρ4 σ4 F4 L4 H4 q4 S4 z => ⟨rfl, hlt, F4, L4, ρ4, S4, sF.trans z, q4⟩, fun r ρ4 v σ4 F4 L4 H4 q4 S4 z c => o.rt r ρ4 v σ4 F4 L4 H4 q4 S4 (s1.f.trans (sF.trans z)) c,
      fun ρ4 σ4 F4 L4 H4 q4 S4 z => o.nx ρ4 σ4 F4 L4 H4 q4 S4 (s1.f.trans (sF.trans z)), fun ρ4 σ4 F4 L4 H4 q4 S4 z => ⟨rfl, hlt, F4, L4, ρ4, S4, sF.trans z, q4⟩, o.ex.mono (s1.f.trans sF)⟩
  · have e : i = items.length := by omega
    subst e
    rw [List.drop_length] at k2
    exact .inl ⟨gv.stop H2 (s2.trans S2.sub), o.nx ρ2 σ2 F2 L2 H2 k2 S2 (s1.f.trans s2)⟩
/-! ### while -/
/-- at most n turns -/
def whGo (c : DT) (tb : DS) : Nat → DEnds → En → Prop
  | 0, _, _ => False
  | n + 1, D, ρ => c ρ (fun b ρ1 => if b = true then tb { D with nx := whGo c tb n D, ct := whGo c tb n D, bk := D.nx } ρ1 else D.nx ρ1) D.ex
def mWhile (c : DT) (tb : DS) : DS := fun D ρ => ∃ n, whGo c tb n D ρ
theorem ds_while {c : Expr} {body : List Stmt} {tc : DT} {tb : DS} (hp : PassesOwn (model X.prog X.w) X.A X.env X.xe) (hc : PT X c (rT B W tc)) (hb : PSs X body (rS B W tb)) : PS X (.While c body [] pos) (rS B W (mWhile tc tb)) := by
  refine ps_imp (ps_while hp hc hb) fun D σ H ⟨F, L, ρ, Dd, S, ⟨n, q⟩, o⟩ => ?_
  refine ⟨fun m σ H => ∃ F' L ρ, SR B F' L σ H ρ ∧ Same F F' ∧ whGo tc tb m Dd ρ, ⟨n, F, L, ρ, S, Same.refl F, q⟩, ?_⟩
  rintro m σ2 H2 ⟨F2, L2, ρ2, S2, s2, k2⟩
  cases m with
  | zero => exact k2.elim
  | succ m =>
    refine ⟨F2, L2, ρ2, _, Dd.ex, S2, k2, fun b ρ1 F1 L1 H1 k1 S1 s1 => ?_, o.ex.mono s2⟩
    have sF : Same F F1 := s2.trans s1.f
    cases b with
    | false => exact o.nx _ _ _ _ _ k1 S1 sF
    | true =>
      exact ⟨fun σ' H' => ∃ F' L ρ, SR B F' L σ' H' ρ ∧ Same F F' ∧ whGo tc tb m Dd ρ, fun σ' H' h => ⟨m, Nat.lt_succ_self m, h⟩, F1, L1, ρ1, _, S1, k1,
        ⟨fun ρ4 σ4 F4 L4 H4 q4 S4 z => ⟨F4, L4, ρ4, S4, sF.trans z, q4⟩, fun r ρ4 v σ4 F4 L4 H4 q4 S4 z c => o.rt r ρ4 v σ4 F4 L4 H4 q4 S4 (sF.trans z) c,
          fun ρ4 σ4 F4 L4 H4 q4 S4 z => o.nx ρ4 σ4 F4 L4 H4 q4 S4 (sF.trans z), fun ρ4 σ4 F4 L4 H4 q4 S4 z => ⟨F4, L4, ρ4, S4, sF.trans z, q4⟩, o.ex.mono sF⟩⟩
end
/-! ### patterns: names of a block only -/
inductive Pt where
  | nm (i : Nat) | tp (ps : List Pt)
mutual
def ptGo : Pt → D → En → (En → Prop) → Prop
  | .nm i, d, ρ, Q => Q (ρ.set i (some (.val d)))
  | .tp ps, d, ρ, Q => match d with
    | .tup ds => ds.length = ps.length ∧ ptsGo ps ds ρ Q
    | _ => False
def ptsGo : List Pt → List D → En → (En → Prop) → Prop
  | [], [], ρ, Q => Q ρ
  | p :: ps, d :: ds, ρ, Q => ptGo p d ρ (fun ρ1 => ptsGo ps ds ρ1 Q)
  | _, _, _, _ => False
end
mutual
def ptNs : Pt → List Nat
  | .nm i => [i]
  | .tp ps => ptsNs ps
def ptsNs : List Pt → List Nat
  | [] => []
  | p :: ps => ptNs p ++ ptsNs ps
end
theorem wipe_set {σ : L2.St} {i : Nat} {x : Option V} : ∀ {vs : List Nat}, i ∈ vs → L2.wipe (σ.set i x) vs = L2.wipe σ vs
  | v :: vs, h => by
    unfold L2.wipe
    by_cases hi : i ∈ vs
    · rw [wipe_set hi]
    · have e : i = v := (List.mem_cons.mp h).elim id fun z => absurd z hi
      subst e
      have key : ∀ (us : List Nat), i ∉ us → L2.wipe (σ.set i x) us = (L2.wipe σ us).set i x := by
        intro us
        induction us with
        | nil => intro _; rfl
        | cons u us ih =>
          intro hu
          have h1 : u ≠ i := fun e => hu (by rw [e]; exact List.mem_cons_self)
          unfold L2.wipe
          rw [ih fun m => hu (List.mem_cons_of_mem _ m), List.set_comm _ _ h1]
      rw [key vs hi, List.set_set]
theorem wipe_idem {σ : L2.St} : ∀ {vs us : List Nat}, (∀ i ∈ us, i ∈ vs) → L2.wipe (L2.wipe σ us) vs = L2.wipe σ vs
  | vs, [], _ => rfl
  | vs, u :: us, h => by
    show L2.wipe ((L2.wipe σ us).set u none) vs = _
    rw [wipe_set (h u List.mem_cons_self), wipe_idem fun i hi => h i (List.mem_cons_of_mem _ hi)]
/-- σ' is as σ but for the names ns -/
def Only (ns : List Nat) (σ σ' : L2.St) : Prop := ∀ vs : List Nat, (∀ i ∈ ns, i ∈ vs) → L2.wipe σ' vs = L2.wipe σ vs
def rP (B : Bd) (p : Pt) : TG := fun v σ H Q => ∃ F L ρ Qd d, SR B F L σ H ρ ∧ Rp B.K F d v ∧ ptGo p d ρ Qd ∧
  ∀ ρ' σ' L', Qd ρ' → SR B F L' σ' H ρ' → (∀ i a, L' i = some a → L i = some a) → Only (ptNs p) σ σ' → Q σ' H
def rPs (B : Bd) (ps : List Pt) : TGs := fun vs σ H Q => ∃ F L ρ Qd ds, SR B F L σ H ρ ∧ RpL B.K F ds vs ∧ ptsGo ps ds ρ Qd ∧
  ∀ ρ' σ' L', Qd ρ' → SR B F L' σ' H ρ' → (∀ i a, L' i = some a → L i = some a) → Only (ptsNs ps) σ σ' → Q σ' H
section
variable {X : Cx} {B : Bd} {W : WX} {pos : Pos}
theorem dp_nm (i : Nat) {x : Str} (hN : X.N.Nodup) (hio : B.ios.contains i = false := by rfl) (hi : X.N[i]? = some x := by rfl) (hx : Loc X.env.scope x := by first | exact Or.inl rfl | exact Or.inr rfl)
    (hf : X.fn x = true ∨ X.env.scope.names.lookup x = some .local := by first | exact .inl rfl | exact .inr rfl) : PG X (.Name x pos) (rP B (.nm i)) := by
  refine pg_impL (pg_name hN hi hx hf) fun v σ H Q hl ⟨F, L, ρ, Qd, d, S, r, q, o⟩ => ?_
  have hlt : i < σ.length := by rw [hl]; exact (List.getElem?_eq_some_iff.mp hi).1
  refine o _ _ _ q (S.put hio hlt r) (fun j a h => ?_) fun vs h => wipe_set (h i List.mem_cons_self)
  unfold forget at h
  split at h
  · cases h
  · exact h
theorem dps_nil : PGs X [] (rPs B []) := by
  refine pgs_impL pgs_nil fun vs σ H Q _ ⟨F, L, ρ, Qd, ds, S, r, q, o⟩ => ?_
  cases ds with
  | nil => exact ⟨r, o _ _ _ q S (fun _ _ h => h) fun _ _ => rfl⟩
  | cons c cs => exact False.elim q
theorem dps_cons {e : Expr} {es : List Expr} {p : Pt} {ps : List Pt} (h1 : PG X e (rP B p)) (h2 : PGs X es (rPs B ps)) (hs : (assignEach (e :: es) X.env).map (·.2) = assign e X.env :: (assignEach es X.env).map (·.2) := by rfl) : PGs X (e :: es) (rPs B (p :: ps)) := by
  refine pgs_impL (pgs_cons h1 h2 hs) fun vs σ H Q _ ⟨F, L, ρ, Qd, ds, S, r, q, o⟩ => ?_
  cases ds with
  | nil => exact False.elim q
  | cons d ds =>
    obtain ⟨v, r', e, c1, c2⟩ := r
    refine ⟨v, r', e, F, L, ρ, _, d, S, c1, q, fun ρ1 σ1 L1 q1 S1 l1 w1 => ⟨F, L1, ρ1, Qd, ds, S1, c2, q1, fun ρ' σ' L' q' S' l' w' => ?_⟩⟩
    exact o _ _ _ q' S' (fun i a h => l1 i a (l' i a h)) fun vs h => (w' vs fun i hi => h i (List.mem_append_right _ hi)).trans (w1 vs fun i hi => h i (List.mem_append_left _ hi))
theorem dp_tp {es : List Expr} {k : Nat} {ps : List Pt} {n : Nat} (hc : X.calm = true) (h : PGs X es (rPs B ps)) (htn : ps.length = n := by rfl) (hn : (assignEach es X.env).length = n := by rfl) (hst : (assignEach es X.env).findIdx? (·.1) = none := by rfl) (hK : B.K = X.K := by rfl) :
    PG X (.Tuple es k pos) (rP B (.tp ps)) := by
  refine pg_impL (pg_tup hc h hn hst) fun v σ H Q _ ⟨F, L, ρ, Qd, d, S, r, q, o⟩ => ?_
  cases d <;> first | (exact False.elim q) | skip
  rename_i ds
  obtain ⟨a, vs, e, h1, h2⟩ := r
  obtain ⟨hl, q'⟩ : ds.length = ps.length ∧ ptsGo ps ds ρ Qd := q
  exact ⟨a, vs, e, hK ▸ Same.tseq S.sub h1, by rw [← h2.length, hl, htn], F, L, ρ, Qd, _, S, h2, q', o⟩
end
/-! ### names forgotten, and put back -/
def wipeE (ρ : En) : List Nat → En
  | [] => ρ
  | v :: vs => (wipeE ρ vs).set v none
def backE (ρ' ρ : En) : List Nat → En
  | [] => ρ'
  | v :: vs => (backE ρ' ρ vs).set v (ρ.getD v none)
def isOwn : Option Cell → Bool
  | some (.own _) => true
  | _ => false
def noOwn (ρ : En) (vs : List Nat) : Bool := vs.all fun v => !isOwn (ρ.getD v none)
theorem SR.unsig {B : Bd} {F H : Hp} {L : La} {σ : L2.St} {ρ : En} (S : SR B F L σ H ρ) {i : Nat} (h : ρ.getD i none = none) : SR B F L (σ.set i none) H ρ where
  len := by rw [List.length_set]; exact S.len
  sub := S.sub
  slot := fun j => by
    by_cases hj : i = j
    · subst hj
      have q := S.slot i
      rw [h] at q ⊢
      exact q
    · rw [getD_set_ne hj]
      exact S.slot j
  inj := S.inj
  f0 := S.f0
  fn := S.fn
  keep := S.keep
  io := S.io
  al := S.al
theorem getD_set_none {ρ : En} {i : Nat} : (ρ.set i none).getD i none = none := by
  by_cases hl : i < ρ.length
  · exact getD_set_self hl
  · rw [List.getD_eq_getElem?_getD, List.getElem?_eq_none (by rw [List.length_set]; omega)]
    rfl
theorem SR.wipe {B : Bd} {F H : Hp} {L : La} {σ : L2.St} {ρ : En} (S : SR B F L σ H ρ) : ∀ {vs : List Nat}, (vs.all fun v => !B.ios.contains v) = true → ∃ L', SR B F L' (L2.wipe σ vs) H (wipeE ρ vs) ∧ ∀ i a, L' i = some a → L i = some a
  | [], _ => ⟨L, S, fun _ _ h => h⟩
  | v :: vs, hio => by
    rw [List.all_cons, Bool.and_eq_true] at hio
    obtain ⟨L1, S1, l1⟩ := SR.wipe S hio.2
    refine ⟨forget L1 v, (S1.drop (i := v) (by simpa using hio.1)).unsig getD_set_none, fun i a h => l1 i a ?_⟩
    unfold forget at h
    split at h
    · cases h
    · exact h
theorem backE_len (ρ' ρ : En) : ∀ vs : List Nat, (backE ρ' ρ vs).length = ρ'.length
  | [] => rfl
  | v :: vs => by unfold backE; rw [List.length_set, backE_len]
theorem backE_out (ρ' ρ : En) {i : Nat} : ∀ {vs : List Nat}, i ∉ vs → (backE ρ' ρ vs).getD i none = ρ'.getD i none
  | [], _ => rfl
  | v :: vs, h => by
    unfold backE
    rw [getD_set_ne fun e => h (by rw [e]; exact List.mem_cons_self)]
    exact backE_out ρ' ρ fun m => h (List.mem_cons_of_mem _ m)
theorem backE_in (ρ' ρ : En) {i : Nat} : ∀ {vs : List Nat}, i ∈ vs → i < ρ'.length → (backE ρ' ρ vs).getD i none = ρ.getD i none
  | v :: vs, h, hl => by
    unfold backE
    by_cases hi : v = i
    · subst hi
      exact getD_set_self (by rw [backE_len]; exact hl)
    · rw [getD_set_ne hi]
      exact backE_in ρ' ρ ((List.mem_cons.mp h).elim (fun e => absurd e.symm hi) id) hl
theorem wipe_getD {σ : L2.St} {i : Nat} {vs : List Nat} (h : i ∉ vs) : (L2.wipe σ vs).getD i none = σ.getD i none := by
  rw [List.getD_eq_getElem?_getD, List.getD_eq_getElem?_getD, L2.wipe_out h]
theorem wipe_getD_in {σ : L2.St} {i : Nat} : ∀ {vs : List Nat}, i ∈ vs → (L2.wipe σ vs).getD i none = none
  | v :: vs, h => by
    unfold L2.wipe
    by_cases hi : v = i
    · subst hi
      by_cases hl : v < (L2.wipe σ vs).length
      · exact getD_set_self hl
      · rw [List.getD_eq_getElem?_getD, List.getElem?_eq_none (by rw [List.length_set]; omega)]
        rfl
    · rw [getD_set_ne hi]
      exact wipe_getD_in ((List.mem_cons.mp h).elim (fun e => absurd e.symm hi) id)
theorem SR.back {B : Bd} {F F' H H' : Hp} {L L' : La} {σ : L2.St} {ρ ρ' : En} {vs : List Nat} (S : SR B F L σ H ρ) (n : noOwn ρ vs = true) (S' : SR B F' L' (L2.wipe σ vs) H' ρ') (s : Same F F') : SR B F' L' σ H' (backE ρ' ρ vs) where
  len := by rw [backE_len, S'.len, L2.wipe_length]
  sub := S'.sub
  slot := fun i => by
    by_cases hi : i ∈ vs
    · have q' := S'.slot i
      rw [wipe_getD_in hi] at q'
      have hL : L' i = none := by
        revert q'
        cases ρ'.getD i none with
        | none => exact id
        | some c =>
          cases c with
          | val d => exact fun z => z.1
          | own ds => intro ⟨a, vs, z, _⟩; cases z
      by_cases hl : i < ρ'.length
      · rw [backE_in ρ' ρ hi hl]
        have q := S.slot i
        unfold noOwn at n
        rw [List.all_eq_true] at n
        have n1 := n i hi
        revert q n1
        cases ρ.getD i none with
        | none => exact fun _ _ => hL
        | some c =>
          cases c with
          | val d => exact fun ⟨_, v, h2, h3⟩ _ => ⟨hL, v, h2, h3.mono s⟩
          | own ds => intro _ z; cases z
      · have e : (backE ρ' ρ vs).getD i none = none := by
          rw [List.getD_eq_getElem?_getD, List.getElem?_eq_none (by rw [backE_len]; omega)]
          rfl
        rw [e]
        exact hL
    · have q' := S'.slot i
      rw [wipe_getD hi] at q'
      rw [backE_out ρ' ρ hi]
      exact q'
  inj := S'.inj
  f0 := S'.f0
  fn := S'.fn
  keep := S'.keep
  io := S'.io
  al := S'.al
/-- an object that no name holds and F does not is written -/
theorem SR.poke {B : Bd} {F H : Hp} {L : La} {σ : L2.St} {ρ : En} {a : Addr} {o : HO} (S : SR B F L σ H ρ) (f : F a = none) (n : ∀ i, L i ≠ some a) (h0 : B.H0 a = none) : SR B F L σ (upd H a o) ρ where
  len := S.len
  sub := fun b x e => by
    rw [upd_ne (fun z => by rw [z, f] at e; cases e)]
    exact S.sub b x e
  slot := fun i => by
    have q := S.slot i
    revert q
    cases ρ.getD i none with
    | none => exact id
    | some c =>
      cases c with
      | val d => exact id
      | own ds =>
        intro ⟨b, ws, h1, h2, h3, h4, h5, h6⟩
        have hb : b ≠ a := fun z => n i (by rw [h2, z])
        exact ⟨b, ws, h1, h2, by rw [upd_ne hb]; exact h3, h4, h5, h6⟩
  inj := S.inj
  f0 := S.f0
  fn := S.fn
  keep := fun b x e z => by
    rw [upd_ne (fun y => by rw [y, h0] at e; cases e)]
    exact S.keep b x e z
  io := S.io
  al := fun b z => by
    rw [upd_ne (fun y => z (by rw [y]; exact h0))]
    exact S.al b z
/-! ### list comprehensions -/
def WF : WX := fun _ _ _ _ => False
def noX : DX := fun _ _ _ => False
theorem noX_ok {B : Bd} {W : WX} {F : Hp} : XOk B W F noX := fun _ _ _ _ _ _ _ _ _ e _ _ _ => False.elim e
def mYes : DT := fun ρ Q _ => Q true ρ
theorem dts_nil {X : Cx} {B : Bd} {W : WX} : PTs X [] (rT B W mYes) := ⟨fun pins s σ H Q I ⟨F, L, ρ, Qd, Ed, S, ht, hq, hx⟩ => pts_nil.run pins s σ H Q I (hq true ρ F L H ht S (Stp.refl _ _ _))⟩
def lcGo (p : Pt) (tt : DT) (te : DE) (vs : List Nat) : List D → List D → En → (List D → En → Prop) → Prop
  | [], acc, ρ, Q => Q acc ρ
  | d :: ds, acc, ρ, Q => ptGo p d ρ fun ρ1 => tt ρ1 (fun b ρ2 => if b = true then te ρ2 (fun x ρ3 => acc.length < sizeLine ∧ lcGo p tt te vs ds (acc ++ [x]) (wipeE ρ3 vs) Q) noX else lcGo p tt te vs ds acc (wipeE ρ2 vs) Q) noX
def mLc (it : DI) (p : Pt) (tt : DT) (te : DE) (vs : List Nat) : DC := fun ρ Q E => it ρ (fun items ρ1 => noOwn ρ1 vs = true ∧ lcGo p tt te vs items [] (wipeE ρ1 vs) fun acc ρ2 => Q (.own acc) (backE ρ2 ρ1 vs)) E
theorem lc_imp {B : Bd} {W : WX} {it : DI} {p : Pt} {tt : DT} {te : DE} {vs : List Nat} (hio : (vs.all fun v => !B.ios.contains v) = true) (hp : ((ptNs p).all fun v => vs.contains v) = true) {σ : L2.St} {H : Hp} {Q : VK} (h : rC B W (mLc it p tt te vs) σ H Q) :
    tLc (rI B W it) (rP B p) (rT B WF tt) (rV B WF te) vs σ H Q := by
  obtain ⟨F, L, ρ, Qd, Ed, S, ht, hq, hx⟩ := h
  refine ⟨F, L, ρ, _, Ed, S, ht, fun items ρ1 F1 L1 H1 J ⟨kn, k⟩ S1 s1 gv D hD => ?_, hx⟩
  have hpv : ∀ i ∈ ptNs p, i ∈ vs := fun i hi => by
    have := List.all_eq_true.mp hp i hi
    exact List.contains_iff_mem.mp this
  have fD : F1 D = none := S1.sub.free hD
  have lD : ∀ i, L1 i ≠ some D := fun i e => by
    obtain ⟨_, _, _, _, q3, _⟩ := S1.own e
    rw [hD] at q3; cases q3
  have h0 : B.H0 D = none := by
    cases e : B.H0 D with
    | none => rfl
    | some o => exact absurd hD (S1.al D (by rw [e]; simp))
  obtain ⟨Lw, Sw, lw⟩ := (S1.poke (o := .lst []) fD lD h0).wipe hio
  refine ⟨fun i m H => m = items.length - i ∧ i ≤ items.length ∧ ∃ F L ρ acc av, SR B F L (L2.wipe σ vs) H ρ ∧ Stp F1 L1 H1 F L H ∧ H D = some (.lst av) ∧ F D = none ∧ (∀ i, L i ≠ some D) ∧ RpL B.K F acc av ∧
    lcGo p tt te vs (items.drop i) acc ρ fun acc ρ2 => Qd (.own acc) (backE ρ2 ρ1 vs), ⟨items.length, rfl, Nat.zero_le _, F1, Lw, _, [], [], Sw, ?_, upd_same, fD, fun i e => lD i (lw i _ e), rfl, k⟩, ?_⟩
  · exact ⟨Same.refl F1, lw, fun b o e _ => by rw [upd_ne (ne_of_none e hD)]; exact e, fun b o e => .inl e, fun b e => by rw [upd_ne (fun z => e (by rw [z]; exact hD))]; exact e⟩
  rintro i m H2 ⟨rfl, hi, F2, L2', ρ2, acc, av, S2, s2, hD2, fD2, lD2, racc, k2⟩
  by_cases hlt : i < items.length
  · rw [List.drop_eq_getElem_cons hlt] at k2
    have subF : Same F1 H2 := s2.f.trans S2.sub
    refine .inr ⟨gv.go i H2 subF hlt, fun H => items.length - (i + 1) = items.length - (i + 1) ∧ i + 1 ≤ items.length ∧ ∃ F L ρ acc av, SR B F L (L2.wipe σ vs) H ρ ∧ Stp F1 L1 H1 F L H ∧ H D = some (.lst av) ∧ F D = none ∧ (∀ i, L i ≠ some D) ∧ RpL B.K F acc av ∧
      lcGo p tt te vs (items.drop (i + 1)) acc ρ fun acc ρ2 => Qd (.own acc) (backE ρ2 ρ1 vs), fun H' h => ⟨_, by omega, h⟩, fun x H' y => ?_⟩
    obtain ⟨F3, d, g3, sb3, ed, rd⟩ := gv.yld i F2 H2 x H' s2.f S2.sub hlt y
    rw [List.getElem?_eq_getElem hlt] at ed
    cases ed
    have S3 := S2.grow g3 sb3
    refine ⟨F3, L2', ρ2, _, items[i], S3, rd, k2, fun ρ4 σ4 L4 q4 S4 l4 w4 => ⟨?_, F3, L4, ρ4, _, noX, S4, q4, fun b ρ5 F5 L5 H5 q5 S5 s5 => ?_, noX_ok⟩⟩
    · rw [w4 vs hpv, wipe_idem fun _ h => h]
    have s3 : Stp F1 L1 H1 F3 L4 H' := (s2.trans g3.stp).trans ⟨Same.refl _, l4, fun _ _ e _ => e, fun _ _ e => .inl e, fun _ e => e⟩
    have hw4 : L2.wipe σ4 vs = L2.wipe σ vs := by rw [w4 vs hpv, wipe_idem fun _ h => h]
    have hD3 : H' D = some (.lst av) := g3.h _ _ hD2
    have fD3 : F3 D = none := g3.none (by rw [hD2]; simp) fD2
    have lD4 : ∀ i, L4 i ≠ some D := fun i e => lD2 i (l4 i _ e)
    -- one step on
    have on : ∀ {F5 L5 H5}, Stp F3 L4 H' F5 L5 H5 → H5 D = some (.lst av) ∧ F5 D = none ∧ ∀ i, L5 i ≠ some D := fun {F5 L5 H5} s => by
      refine ⟨s.h _ _ hD3 lD4, ?_, fun i e => lD4 i (s.l i _ e)⟩
      cases e : F5 D with
      | none => rfl
      | some o =>
        rcases s.fn D o e with z | z | ⟨i, z⟩
        · rw [fD3] at z; cases z
        · rw [hD3] at z; cases z
        · exact absurd z (lD4 i)
    cases b with
    | false =>
      obtain ⟨d1, d2, d3⟩ := on s5
      obtain ⟨L6, S6, l6⟩ := S5.wipe hio
      rw [hw4] at S6
      exact ⟨rfl, hlt, F5, L6, _, acc, av, S6, (s3.trans s5).trans ⟨Same.refl _, l6, fun _ _ e _ => e, fun _ _ e => .inl e, fun _ e => e⟩, d1, d2, fun i e => d3 i (l6 i _ e), racc.mono (g3.f.trans s5.f), q5⟩
    | true =>
      refine ⟨F5, L5, ρ5, _, noX, S5, q5, fun x ρ6 xv F6 L6 H6 ⟨hz, q6⟩ S6 s6 rx => ?_, noX_ok⟩
      obtain ⟨d1, d2, d3⟩ := on (s5.trans s6)
      have r6 := racc.mono (g3.f.trans (s5.f.trans s6.f))
      refine ⟨av, d1, by rw [← racc.length]; exact hz, rfl, hlt, ?_⟩
      obtain ⟨L7, S7, l7⟩ := (S6.poke (o := .lst (av ++ [xv])) d2 d3 h0).wipe hio
      rw [hw4] at S7
      refine ⟨F6, L7, _, acc ++ [x], av ++ [xv], S7, ?_, upd_same, d2, fun i e => d3 i (l7 i _ e), r6.append (RpL.one rx), q6⟩
      have st := (s3.trans s5).trans s6
      exact ⟨st.f, fun i a h => st.l i a (l7 i a h), fun b o e n => by rw [upd_ne (ne_of_none e hD)]; exact st.h b o e n, st.fn, fun b e => by rw [upd_ne (fun z => e (by rw [z]; exact hD))]; exact st.al b e⟩
  · have e : i = items.length := by omega
    subst e
    rw [List.drop_length] at k2
    refine .inl ⟨gv.stop H2 (s2.f.trans S2.sub), hq (.own acc) _ _ F2 L2' H2 k2 (S1.back kn S2 s2.f) (s1.trans s2) ⟨D, av, rfl, hD2, fD2, lD2, h0, racc, .inl ?_⟩⟩
    cases e : H D with
    | none => rfl
    | some o => exact absurd hD (s1.al D (by rw [e]; simp))
section
variable {X : Cx} {B : Bd} {W : WX} {pos : Pos}
theorem dc_lc {elt tg iter : Expr} {ifs : List Expr} {scope : Scope} (own : List (Str × Nat)) {it : DI} {p : Pt} {tt : DT} {te : DE} (hc : X.calm = true) (hN : X.N.Nodup) (hi : PI X tg iter (rI B W it)) 
    (hg : ∀ (s : Shared) (H : Hp) (C : Addr) (cl : List (Str × Addr)) (fp : List Addr), PG (X.blk s H scope (compEnvC scope cl C X.env) fp) tg (rP B p)) (ht : ∀ (s : Shared) (H : Hp) (C : Addr) (cl : List (Str × Addr)) (fp : List Addr), PTs (X.blk s H scope (compEnvC scope cl C X.env) fp) ifs (rT B WF tt))
    (he : ∀ (s : Shared) (H : Hp) (C : Addr) (cl : List (Str × Addr)) (fp : List Addr), PE (X.blk s H scope (compEnvC scope cl C X.env) fp) elt (rV B WF te)) (ok : blkC X.N X.env.scope scope own = true := by rfl) (hio : ((own.map (·.2)).all fun v => !B.ios.contains v) = true := by rfl) (hp : ((ptNs p).all fun v => (own.map (·.2)).contains v) = true := by rfl)
    (hs : ∀ x, foldedSetIterable iter X.env x = pure x := by intro _; rfl) : PE X (.ListComp elt [⟨tg, iter, ifs, 0⟩] scope pos) (rC B W (mLc it p tt te (own.map (·.2)))) :=
  pe_imp (pe_lc hc hN hi (blkOk_by ok) hg ht he hs) fun _ _ _ h => lc_imp hio hp h
/-- name = [..] on one line -/
theorem ds_setLc (i : Nat) {y : Str} {py : Pos} {elt tg iter : Expr} {ifs : List Expr} {scope : Scope} {spos : Pos} (own : List (Str × Nat)) {it : DI} {p : Pt} {tt : DT} {te : DE} (hc : X.calm = true) (hN : X.N.Nodup) (hi : PI X tg iter (rI B W it)) 
    (hg : ∀ (s : Shared) (H : Hp) (C : Addr) (cl : List (Str × Addr)) (fp : List Addr), PG (X.blk s H scope (compEnvC scope cl C X.env) fp) tg (rP B p)) (ht : ∀ (s : Shared) (H : Hp) (C : Addr) (cl : List (Str × Addr)) (fp : List Addr), PTs (X.blk s H scope (compEnvC scope cl C X.env) fp) ifs (rT B WF tt))
    (he : ∀ (s : Shared) (H : Hp) (C : Addr) (cl : List (Str × Addr)) (fp : List Addr), PE (X.blk s H scope (compEnvC scope cl C X.env) fp) elt (rV B WF te)) (hsw : swapsWith (.ListComp elt [⟨tg, iter, ifs, 0⟩] scope pos) (some (.Name y py)) spos.line X.env = pure true := by exact sw_true rfl rfl rfl rfl)
    (hy : X.N[i]? = some y := by rfl) (hyl : X.env.scope.names.lookup y = some .local := by rfl) (hioi : B.ios.contains i = false := by rfl) (ok : blkC X.N X.env.scope scope own = true := by rfl) (hio : ((own.map (·.2)).all fun v => !B.ios.contains v) = true := by rfl) (hp : ((ptNs p).all fun v => (own.map (·.2)).contains v) = true := by rfl)
    (hs : ∀ x, foldedSetIterable iter X.env x = pure x := by intro _; rfl) : PS X (.Assign [.Name y py] (.ListComp elt [⟨tg, iter, ifs, 0⟩] scope pos) spos) (rS B W (mAsg (.nm i) (mLc it p tt te (own.map (·.2))))) := by
  refine ps_impL (ps_setLc hc hN hy hyl hsw hi (blkOk_by ok) hg ht he hs) fun D σ H hl h => ?_
  obtain ⟨F, L, ρ, Dd, S, q, o⟩ := h
  have hlt : i < σ.length := by rw [hl]; exact (List.getElem?_eq_some_iff.mp hy).1
  refine lc_imp hio hp ⟨F, L, ρ, _, Dd.ex, S, q, fun c ρ1 v F1 L1 H1 k S1 s1 r1 => ?_, o.ex⟩
  have k' : Dd.nx (ρ1.set i (some c)) := k
  cases c with
  | val d => exact o.nx _ _ _ _ _ k' (S1.put hioi hlt r1) s1.f
  | own ds =>
    obtain ⟨a, vs, e, h1, h2, h3, h4, h5, _⟩ := r1
    subst e
    exact o.nx _ _ _ _ _ k' (S1.putO hioi hlt h1 h2 h3 h4 h5) s1.f
theorem dts_one {c : Expr} {t : DT} (h : PT X c (rT B W t)) : PTs X [c] (rT B W t) := pts_one h
end
end DL
/-! The data layer: built-in calls, displays, chains, membership. -/
namespace DL
open PySem PySem.Spec PyProof.Rows L2
theorem RpVs.one {K : PySem.W.Frag} {F H : Hp} {d : D} {vs : List V} (h : RpVs K F H [d] vs) : ∃ v, vs = [v] ∧ RpV K F H d v := by
  obtain ⟨v, r, e, h1, h2⟩ := h
  cases (show r = [] from h2)
  exact ⟨v, e, h1⟩
theorem RpVs.two {K : PySem.W.Frag} {F H : Hp} {d e : D} {vs : List V} (h : RpVs K F H [d, e] vs) : ∃ v u, vs = [v, u] ∧ RpV K F H d v ∧ RpV K F H e u := by
  obtain ⟨v, r, ev, h1, h2⟩ := h
  obtain ⟨u, e, h3⟩ := h2.one
  subst e
  exact ⟨v, u, ev, h1, h3⟩
/-- a function of one datum, of two -/
def n1 (f : D → Option Cell) : DOpN
  | [d] => f d
  | _ => none
def n2 (f : D → D → Option Cell) : DOpN
  | [d, e] => f d e
  | _ => none
theorem n1_ok {K : PySem.W.Frag} {r : List V → Hp → VK → Prop} {f : D → Option Cell} (h : ∀ (F H : Hp) (d : D) (v : V) (c : Cell) (Q : VK), Same F H → RpV K F H d v → f d = some c → (∀ w F' H', Grow F H F' H' → Same F' H' → NewR K H c w F' H' → Q w H') → r [v] H Q) : OpN K r (n1 f) := by
  intro F H ds vs c Q sb rs e q
  match ds, rs, e with
  | [d], rs, e =>
    obtain ⟨v, ev, rv⟩ := rs.one
    subst ev
    exact h F H d v c Q sb rv e q
theorem n2_ok {K : PySem.W.Frag} {r : List V → Hp → VK → Prop} {f : D → D → Option Cell} (h : ∀ (F H : Hp) (d d2 : D) (v v2 : V) (c : Cell) (Q : VK), Same F H → RpV K F H d v → RpV K F H d2 v2 → f d d2 = some c → (∀ w F' H', Grow F H F' H' → Same F' H' → NewR K H c w F' H' → Q w H') → r [v, v2] H Q) : OpN K r (n2 f) := by
  intro F H ds vs c Q sb rs e q
  match ds, rs, e with
  | [d, d2], rs, e =>
    obtain ⟨v, u, ev, rv, ru⟩ := rs.two
    subst ev
    exact h F H d d2 v u c Q sb rv ru e q
/-! ### len, tuple, list, int, abs -/
def gLen : D → Option Cell
  | .str x => if x.length ≤ sizeLine then some (.val (.int (x.length : Nat))) else none
  | .tup ds => some (.val (.int (ds.length : Nat)))
  | .lst ds => some (.val (.int (ds.length : Nat)))
  | .fix ds => some (.val (.int (ds.length : Nat)))
  | _ => none
abbrev fLen : DOpN := n1 gLen
def rLen (K : PySem.W.Frag) : List V → Hp → VK → Prop := fun xs H Q => ∃ x n, xs = [x] ∧ LenV K x H n ∧ Q (.int n) H
theorem fLen_ok {K : PySem.W.Frag} : OpN K (rLen K) fLen := by
  refine n1_ok fun F H d v c Q sb h e q => ?_
  cases d <;> first | (cases e; done) | skip
  · rename_i x
    cases (show v = V.str _ from h)
    have e' : (if x.length ≤ sizeLine then some (Cell.val (.int (x.length : Nat))) else none) = some c := e
    split at e'
    · rename_i hl
      cases e'
      exact ⟨_, _, rfl, ⟨hl, rfl⟩, fin_val sb q rfl⟩
    · cases e'
  · obtain ⟨a, vs, rfl, q1, r1⟩ := RpV.tup_ sb h
    cases e
    exact ⟨_, _, rfl, .inr ⟨vs, q1, rfl⟩, fin_val sb q (by rw [r1.length]; rfl)⟩
  · obtain ⟨a, vs, rfl, q1, r1⟩ := h
    cases e
    exact ⟨_, _, rfl, .inl ⟨vs, SqL.of q1, rfl⟩, fin_val sb q (by rw [r1.length]; rfl)⟩
  · obtain ⟨a, vs, rfl, q1, r1⟩ := h
    cases e
    exact ⟨_, _, rfl, .inl ⟨vs, sb.seq q1, rfl⟩, fin_val sb q (by rw [r1.length]; rfl)⟩
def gTuple : D → Option Cell
  | .tup ds => some (.val (.tup ds))
  | .lst ds => some (.val (.tup ds))
  | .fix ds => some (.val (.tup ds))
  | _ => none
abbrev fTuple : DOpN := n1 gTuple
def rTuple (K : PySem.W.Frag) : List V → Hp → VK → Prop := fun xs H Q => ∃ p ys, xs = [.ref p] ∧ ((SqL K H p ys ∧ ∀ l, H l = none → Q (.ref l) (upd H l (.tup ys))) ∨ (SqT K H p ys ∧ Q (.ref p) H))
theorem fTuple_ok {K : PySem.W.Frag} : OpN K (rTuple K) fTuple := by
  refine n1_ok fun F H d v c Q sb h e q => ?_
  cases d <;> first | (cases e; done) | skip
  · rename_i ds
    cases e
    have h' := h
    obtain ⟨a, vs, rfl, q1, r1⟩ := RpV.tup_ sb h
    exact ⟨a, vs, rfl, .inr ⟨q1, fin_val sb q h'⟩⟩
  · obtain ⟨a, vs, rfl, q1, r1⟩ := h
    cases e
    exact ⟨a, vs, rfl, .inl ⟨SqL.of q1, fun l hl => fin_tup sb q hl r1⟩⟩
  · obtain ⟨a, vs, rfl, q1, r1⟩ := h
    cases e
    exact ⟨a, vs, rfl, .inl ⟨sb.seq q1, fun l hl => fin_tup sb q hl r1⟩⟩
def gList : D → Option Cell
  | .tup ds => some (.own ds)
  | .lst ds => some (.own ds)
  | .fix ds => some (.own ds)
  | _ => none
abbrev fList : DOpN := n1 gList
def rList (K : PySem.W.Frag) : List V → Hp → VK → Prop := fun xs H Q => ∃ p ys, xs = [.ref p] ∧ (SqL K H p ys ∨ SqT K H p ys) ∧ ∀ l, H l = none → Q (.ref l) (upd H l (.lst ys))
theorem fList_ok {K : PySem.W.Frag} : OpN K (rList K) fList := by
  refine n1_ok fun F H d v c Q sb h e q => ?_
  cases d <;> first | (cases e; done) | skip
  · cases e
    obtain ⟨a, vs, rfl, q1, r1⟩ := RpV.tup_ sb h
    exact ⟨a, vs, rfl, .inr q1, fun l hl => fin_lst sb q hl r1⟩
  · obtain ⟨a, vs, rfl, q1, r1⟩ := h
    cases e
    exact ⟨a, vs, rfl, .inl (SqL.of q1), fun l hl => fin_lst sb q hl r1⟩
  · obtain ⟨a, vs, rfl, q1, r1⟩ := h
    cases e
    exact ⟨a, vs, rfl, .inl (sb.seq q1), fun l hl => fin_lst sb q hl r1⟩
def gInt : D → Option Cell
  | .int i => some (.val (.int i))
  | .bl b => some (.val (.int (if b then 1 else 0)))
  | _ => none
abbrev fInt : DOpN := n1 gInt
def rInt1 : List V → Hp → VK → Prop := fun xs H Q => (∃ i, xs = [.int i] ∧ Q (.int i) H) ∨ ∃ k, xs = [.bl k] ∧ Q (.int (if k then 1 else 0)) H
theorem fInt_ok {K : PySem.W.Frag} : OpN K rInt1 fInt := by
  refine n1_ok fun F H d v c Q sb h e q => ?_
  cases d <;> first | (cases e; done) | skip
  · cases (show v = V.bl _ from h)
    cases e
    exact .inr ⟨_, rfl, fin_val sb q rfl⟩
  · cases (show v = V.int _ from h)
    cases e
    exact .inl ⟨_, rfl, fin_val sb q rfl⟩
def gAbs : D → Option Cell
  | .int i => some (.val (.int (if i < 0 then -i else i)))
  | _ => none
abbrev fAbs : DOpN := n1 gAbs
def rAbs : List V → Hp → VK → Prop := fun xs H Q => ∃ i, xs = [.int i] ∧ Q (.int (if i < 0 then -i else i)) H
theorem fAbs_ok {K : PySem.W.Frag} : OpN K rAbs fAbs := by
  refine n1_ok fun F H d v c Q sb h e q => ?_
  cases d <;> first | (cases e; done) | skip
  cases (show v = V.int _ from h)
  cases e
  exact ⟨_, rfl, fin_val sb q rfl⟩
/-! ### lists of whole numbers, of truths -/
def numsD : List D → Option (List Int)
  | [] => some []
  | .int i :: ds => (numsD ds).map (i :: ·)
  | _ :: _ => none
theorem ints_eq : ∀ {ds : List D} {ns : List Int}, numsD ds = some ns → ds = ns.map D.int
  | [], _, e => by cases e; rfl
  | .int i :: ds, ns, e => by
    cases h : numsD ds with
    | none => simp [numsD, h] at e
    | some ms =>
      simp [numsD, h] at e
      subst e
      rw [ints_eq h]
      rfl
theorem ints_map : ∀ ns : List Int, numsD (ns.map D.int) = some ns
  | [] => rfl
  | n :: ns => by simp [numsD, ints_map ns]
def bls : List D → Option (List Bool)
  | [] => some []
  | .bl b :: ds => (bls ds).map (b :: ·)
  | _ :: _ => none
theorem bls_eq : ∀ {ds : List D} {ns : List Bool}, bls ds = some ns → ds = ns.map D.bl
  | [], _, e => by cases e; rfl
  | .bl i :: ds, ns, e => by
    cases h : bls ds with
    | none => simp [bls, h] at e
    | some ms =>
      simp [bls, h] at e
      subst e
      rw [bls_eq h]
      rfl
theorem bls_map : ∀ ns : List Bool, bls (ns.map D.bl) = some ns
  | [] => rfl
  | n :: ns => by simp [bls, bls_map ns]
theorem RpL.to_bls {K : PySem.W.Frag} {F : Hp} : ∀ {ns : List Bool} {vs : List V}, RpL K F (ns.map D.bl) vs → vs = ns.map V.bl
  | [], _, h => h
  | n :: ns, _, h => by
    obtain ⟨v, r, rfl, h1, h2⟩ := h
    have e1 : v = .bl n := h1
    rw [e1, RpL.to_bls h2]
    rfl
def lstOf : D → Option (List D)
  | .lst ds => some ds
  | .fix ds => some ds
  | _ => none
theorem lstOf_ok {K : PySem.W.Frag} {F H : Hp} (sb : Same F H) : ∀ {d : D} {v : V} {ds : List D}, RpV K F H d v → lstOf d = some ds → ∃ a vs, v = .ref a ∧ SqL K H a vs ∧ RpL K F ds vs
  | .lst _, _, _, ⟨a, vs, e, q, r⟩, z => by cases z; exact ⟨a, vs, e, SqL.of q, r⟩
  | .fix _, _, _, ⟨a, vs, e, q, r⟩, z => by cases z; exact ⟨a, vs, e, sb.seq q, r⟩
  | .tup _, _, _, _, z => by cases z
  | .non, _, _, _, z => by cases z
  | .bl _, _, _, _, z => by cases z
  | .int _, _, _, _, z => by cases z
  | .str _, _, _, _, z => by cases z
  | .dic _ _, _, _, _, z => by cases z
  | .obj _ _ _, _, _, _, z => by cases z
  | .adr _, _, _, _, z => by cases z
  | .rng _ _, _, _, _, z => by cases z
  | .ty _, _, _, _, z => by cases z
def gSum (d : D) : Option Cell := match lstOf d with
  | some ds => (numsD ds).map fun ns => .val (.int ns.sum)
  | none => none
abbrev fSum : DOpN := n1 gSum
theorem intl {K : PySem.W.Frag} {F H : Hp} {d : D} {v : V} {α : Type} {g : List Int → α} {c : α} (sb : Same F H) (h : RpV K F H d v) (e : (match lstOf d with | some ds => (numsD ds).map g | none => none) = some c) : ∃ a ns, v = .ref a ∧ SqL K H a (ns.map V.int) ∧ c = g ns ∧ lstOf d = some (ns.map D.int) := by
  cases ed : lstOf d with
  | none => rw [ed] at e; cases e
  | some ds =>
    rw [ed] at e
    obtain ⟨a, vs, ev, q, r⟩ := lstOf_ok sb h ed
    cases en : numsD ds with
    | none => simp only [en] at e; cases e
    | some ns =>
      simp only [en] at e
      cases e
      have := ints_eq en
      subst this
      rw [r.to_ints] at q
      exact ⟨a, ns, ev, q, rfl, rfl⟩
theorem fSum_ok {K : PySem.W.Frag} : OpN K (rSum K) fSum := by
  refine n1_ok fun F H d v c Q sb h e q => ?_
  obtain ⟨a, ns, ev, hq, ec, _⟩ := intl sb h e
  subst ec
  exact ⟨a, ns, by rw [ev], hq, fin_val sb q rfl⟩
def maxI : List Int → Option Int
  | [] => none
  | [n] => some n
  | n :: ns => (maxI ns).map fun m => if m > n then m else n
def minI : List Int → Option Int
  | [] => none
  | [n] => some n
  | n :: ns => (minI ns).map fun m => if m < n then m else n
theorem maxI_eq : ∀ {ns : List Int} {m : Int}, m ∈ ns → (∀ y, y ∈ ns → y ≤ m) → maxI ns = some m
  | [], _, h, _ => by cases h
  | [n], m, h, _ => by
    have : m = n := by simpa using h
    rw [this]; rfl
  | n :: k :: ns, m, h, g => by
    have hm : ∀ y, y ∈ k :: ns → y ≤ m := fun y hy => g y (List.mem_cons_of_mem _ hy)
    have gn := g n List.mem_cons_self
    show (maxI (k :: ns)).map _ = _
    by_cases hk : m ∈ k :: ns
    · rw [maxI_eq hk hm]
      simp only [Option.map_some]
      split <;> congr 1 <;> omega
    · have e : m = n := (List.mem_cons.mp h).elim id fun z => absurd z hk
      subst e
      -- the greatest of the rest is less
      have : ∀ {xs : List Int}, xs ≠ [] → ∃ k, maxI xs = some k ∧ k ∈ xs := by
        intro xs
        induction xs with
        | nil => intro z; exact absurd rfl z
        | cons x xs ih =>
          intro _
          cases xs with
          | nil => exact ⟨x, rfl, List.mem_cons_self⟩
          | cons y ys =>
            obtain ⟨w, e1, e2⟩ := ih (by simp)
            refine ⟨if w > x then w else x, ?_, ?_⟩
            · show (maxI (y :: ys)).map _ = _
              rw [e1]; rfl
            · split
              · exact List.mem_cons_of_mem _ e2
              · exact List.mem_cons_self
      obtain ⟨w, e1, e2⟩ := this (xs := k :: ns) (by simp)
      rw [e1]
      have := hm w e2
      simp only [Option.map_some]
      rw [if_neg (by omega)]
theorem minI_eq : ∀ {ns : List Int} {m : Int}, m ∈ ns → (∀ y, y ∈ ns → m ≤ y) → minI ns = some m
  | [], _, h, _ => by cases h
  | [n], m, h, _ => by
    have : m = n := by simpa using h
    rw [this]; rfl
  | n :: k :: ns, m, h, g => by
    have hm : ∀ y, y ∈ k :: ns → m ≤ y := fun y hy => g y (List.mem_cons_of_mem _ hy)
    have gn := g n List.mem_cons_self
    show (minI (k :: ns)).map _ = _
    by_cases hk : m ∈ k :: ns
    · rw [minI_eq hk hm]
      simp only [Option.map_some]
      split <;> congr 1 <;> omega
    · have e : m = n := (List.mem_cons.mp h).elim id fun z => absurd z hk
      subst e
      have : ∀ {xs : List Int}, xs ≠ [] → ∃ k, minI xs = some k ∧ k ∈ xs := by
        intro xs
        induction xs with
        | nil => intro z; exact absurd rfl z
        | cons x xs ih =>
          intro _
          cases xs with
          | nil => exact ⟨x, rfl, List.mem_cons_self⟩
          | cons y ys =>
            obtain ⟨w, e1, e2⟩ := ih (by simp)
            refine ⟨if w < x then w else x, ?_, ?_⟩
            · show (minI (y :: ys)).map _ = _
              rw [e1]; rfl
            · split
              · exact List.mem_cons_of_mem _ e2
              · exact List.mem_cons_self
      obtain ⟨w, e1, e2⟩ := this (xs := k :: ns) (by simp)
      rw [e1]
      have := hm w e2
      simp only [Option.map_some]
      rw [if_neg (by omega)]
/-- max of two whole numbers, or of a list of them -/
def fMax : DOpN
  | [.int i, .int j] => some (.val (.int (if j > i then j else i)))
  | [d] => (match lstOf d with
    | some ds => (numsD ds).bind fun ns => (maxI ns).map fun m => .val (.int m)
    | none => none)
  | _ => none
def fMin : DOpN
  | [.int i, .int j] => some (.val (.int (if j < i then j else i)))
  | [d] => (match lstOf d with
    | some ds => (numsD ds).bind fun ns => (minI ns).map fun m => .val (.int m)
    | none => none)
  | _ => none
def rMaxD (K : PySem.W.Frag) : List V → Hp → VK → Prop := fun xs H Q => (∃ i j, xs = [.int i, .int j] ∧ Q (.int (if j > i then j else i)) H) ∨ rMax K xs H Q
def rMinD (K : PySem.W.Frag) : List V → Hp → VK → Prop := fun xs H Q => (∃ i j, xs = [.int i, .int j] ∧ Q (.int (if j < i then j else i)) H) ∨ rMin K xs H Q
theorem intl2 {K : PySem.W.Frag} {F H : Hp} {d : D} {v : V} {α : Type} {g : List Int → Option α} {c : α} (sb : Same F H) (h : RpV K F H d v) (e : (match lstOf d with | some ds => (numsD ds).bind g | none => none) = some c) : ∃ a ns, v = .ref a ∧ SqL K H a (ns.map V.int) ∧ g ns = some c := by
  cases ed : lstOf d with
  | none => rw [ed] at e; cases e
  | some ds =>
    rw [ed] at e
    obtain ⟨a, vs, ev, q, r⟩ := lstOf_ok sb h ed
    cases en : numsD ds with
    | none => simp only [en] at e; cases e
    | some ns =>
      simp only [en] at e
      have := ints_eq en
      subst this
      rw [r.to_ints] at q
      exact ⟨a, ns, ev, q, e⟩
theorem fMax_ok {K : PySem.W.Frag} : OpN K (rMaxD K) fMax := by
  intro F H ds vs c Q sb rs e q
  unfold fMax at e
  split at e
  · cases e
    obtain ⟨v, u, ev, rv, ru⟩ := rs.two
    subst ev
    cases (show v = V.int _ from rv)
    cases (show u = V.int _ from ru)
    exact .inl ⟨_, _, rfl, fin_val sb q rfl⟩
  · obtain ⟨v, ev, rv⟩ := rs.one
    subst ev
    obtain ⟨a, ns, ev, hq, ec⟩ := intl2 sb rv e
    subst ev
    refine .inr ⟨a, ns, rfl, hq, ?_, fun m h1 h2 => ?_⟩
    · cases ns with
      | nil => cases ec
      | cons n ns => exact Nat.succ_pos _
    · rw [maxI_eq h1 h2] at ec
      cases ec
      exact fin_val sb q rfl
  · cases e
theorem fMin_ok {K : PySem.W.Frag} : OpN K (rMinD K) fMin := by
  intro F H ds vs c Q sb rs e q
  unfold fMin at e
  split at e
  · cases e
    obtain ⟨v, u, ev, rv, ru⟩ := rs.two
    subst ev
    cases (show v = V.int _ from rv)
    cases (show u = V.int _ from ru)
    exact .inl ⟨_, _, rfl, fin_val sb q rfl⟩
  · obtain ⟨v, ev, rv⟩ := rs.one
    subst ev
    obtain ⟨a, ns, ev, hq, ec⟩ := intl2 sb rv e
    subst ev
    refine .inr ⟨a, ns, rfl, hq, ?_, fun m h1 h2 => ?_⟩
    · cases ns with
      | nil => cases ec
      | cons n ns => exact Nat.succ_pos _
    · rw [minI_eq h1 h2] at ec
      cases ec
      exact fin_val sb q rfl
  · cases e
section
variable {X : Cx}
theorem cr_maxD (hc : X.calm = true) : CallR X (.builtin "max") (rMaxD X.K) := (call_max2 hc).or (cr_max hc)
theorem cr_minD (hc : X.calm = true) : CallR X (.builtin "min") (rMinD X.K) := (call_min2 hc).or (cr_min hc)
end
theorem bll {K : PySem.W.Frag} {F H : Hp} {d : D} {v : V} {α : Type} {g : List Bool → α} {c : α} (sb : Same F H) (h : RpV K F H d v) (e : (match lstOf d with | some ds => (bls ds).map g | none => none) = some c) : ∃ a ns, v = .ref a ∧ SqL K H a (ns.map V.bl) ∧ c = g ns := by
  cases ed : lstOf d with
  | none => rw [ed] at e; cases e
  | some ds =>
    rw [ed] at e
    obtain ⟨a, vs, ev, q, r⟩ := lstOf_ok sb h ed
    cases en : bls ds with
    | none => simp only [en] at e; cases e
    | some ns =>
      simp only [en] at e
      cases e
      have := bls_eq en
      subst this
      rw [r.to_bls] at q
      exact ⟨a, ns, ev, q, rfl⟩
def gAll (d : D) : Option Cell := match lstOf d with
  | some ds => (bls ds).map fun ns => .val (.bl (ns.all id))
  | none => none
def gAny (d : D) : Option Cell := match lstOf d with
  | some ds => (bls ds).map fun ns => .val (.bl (ns.any id))
  | none => none
abbrev fAll : DOpN := n1 gAll
abbrev fAny : DOpN := n1 gAny
theorem fAll_ok {K : PySem.W.Frag} : OpN K (rAll K) fAll := by
  refine n1_ok fun F H d v c Q sb h e q => ?_
  obtain ⟨a, ns, ev, hq, ec⟩ := bll sb h e
  subst ec
  exact ⟨a, ns, by rw [ev], hq, fin_val sb q rfl⟩
theorem fAny_ok {K : PySem.W.Frag} : OpN K (rAny K) fAny := by
  refine n1_ok fun F H d v c Q sb h e q => ?_
  obtain ⟨a, ns, ev, hq, ec⟩ := bll sb h e
  subst ec
  exact ⟨a, ns, by rw [ev], hq, fin_val sb q rfl⟩
def gGcd : D → D → Option Cell
  | .int a, .int b => some (.val (.int ((Nat.gcd a.natAbs b.natAbs : Nat) : Int)))
  | _, _ => none
abbrev fGcd : DOpN := n2 gGcd
theorem fGcd_ok {K : PySem.W.Frag} : OpN K rGcd fGcd := by
  refine n2_ok fun F H d d2 v v2 c Q sb h h2 e q => ?_
  cases d <;> cases d2 <;> first | (cases e; done) | skip
  cases (show v = V.int _ from h)
  cases (show v2 = V.int _ from h2)
  cases e
  exact ⟨_, _, rfl, fin_val sb q rfl⟩
def gDivmod : D → D → Option Cell
  | .int i, .int j => if 0 < j ∧ Builtin.divisionGoesByPylong i j = false then some (.val (.tup [.int (i / j), .int (i % j)])) else none
  | _, _ => none
abbrev fDivmod : DOpN := n2 gDivmod
def rDivmod : List V → Hp → VK → Prop := fun xs H Q => ∃ i j, xs = [.int i, .int j] ∧ CDivP i j ∧ ∀ p, H p = none → Q (.ref p) (upd H p (.tup [.int (i / j), .int (i % j)]))
theorem fDivmod_ok {K : PySem.W.Frag} : OpN K rDivmod fDivmod := by
  refine n2_ok fun F H d d2 v v2 c Q sb h h2 e q => ?_
  cases d <;> cases d2 <;> first | (cases e; done) | skip
  rename_i i j
  cases (show v = V.int _ from h)
  cases (show v2 = V.int _ from h2)
  have e' : (if 0 < j ∧ Builtin.divisionGoesByPylong i j = false then some (Cell.val (.tup [.int (i / j), .int (i % j)])) else none) = some c := e
  split at e'
  · rename_i hc
    cases e'
    exact ⟨_, _, rfl, hc, fun p hp => fin_tup sb q hp ⟨_, _, rfl, rfl, _, _, rfl, rfl, rfl⟩⟩
  · cases e'
/-- the numbers in order -/
def sortI (ns : List Int) : List Int := ns.mergeSort (fun a b => decide (a ≤ b))
theorem sortI_eq {ns ms : List Int} (h : ms.Perm ns) (s : ms.Pairwise (· ≤ ·)) : ms = sortI ns := by
  have h2 : (sortI ns).Pairwise (· ≤ ·) := by
    have := List.pairwise_mergeSort (le := fun a b : Int => decide (a ≤ b)) (fun a b c => by simp only [decide_eq_true_eq]; omega) (fun a b => by simp only [Bool.or_eq_true, decide_eq_true_eq]; omega) ns
    exact this.imp fun h => of_decide_eq_true h
  exact List.Perm.eq_of_pairwise (le := fun a b : Int => a ≤ b) (fun a b _ _ h1 h2 => by omega) s h2 (h.trans (List.mergeSort_perm ns _).symm)
def gSort (d : D) : Option Cell := match lstOf d with
  | some ds => (numsD ds).map fun ns => .own ((sortI ns).map D.int)
  | none => none
abbrev fSort : DOpN := n1 gSort
theorem fSort_ok {K : PySem.W.Frag} : OpN K (rSortedI K) fSort := by
  refine n1_ok fun F H d v c Q sb h e q => ?_
  obtain ⟨a, ns, ev, hq, ec, _⟩ := intl sb h e
  subst ec
  refine ⟨a, ns, by rw [ev], hq, fun ns' p h1 h2 hp => ?_⟩
  rw [sortI_eq h1 h2]
  exact fin_lst sb q hp (RpL.ints _)
/-! ### isinstance -/
def tyD : D → Option String
  | .non => some "NoneType"
  | .bl _ => some "bool"
  | .int _ => some "int"
  | .str _ => some "str"
  | .tup _ => some "tuple"
  | .lst _ => some "list"
  | .fix _ => some "list"
  | .dic _ _ => some "dict"
  | .obj _ _ _ => none
  | .adr _ => none
  | .rng _ _ => none
  | .ty _ => none
theorem tyD_lst {K : PySem.W.Frag} {H : Hp} {a : Addr} {xs : List V} (h : SqL K H a xs) : TyX K H (.ref a) (.type "list") := by
  rcases h with (h | ⟨o, h⟩) | ⟨o, its, n, e, c, _⟩
  · exact .base (.lst h)
  · exact .base (.frz h)
  · exact .kList e c
theorem tyD_tup {K : PySem.W.Frag} {H : Hp} {a : Addr} {xs : List V} (h : SqT K H a xs) : TyX K H (.ref a) (.type "tuple") := by
  rcases h with (h | ⟨o, h⟩) | ⟨o, its, n, e, c, _⟩
  · exact .base (.tup h)
  · exact .fTuple h
  · exact .kTuple e c
theorem tyD_ok {K : PySem.W.Frag} {F H : Hp} (sb : Same F H) : ∀ {d : D} {v : V} {t : String}, RpV K F H d v → tyD d = some t → TyX K H v (.type t)
  | .non, _, _, h, e => by cases (show _ = V.non from h); cases e; exact .base .non
  | .bl _, _, _, h, e => by cases (show _ = V.bl _ from h); cases e; exact .base (.bl _)
  | .int _, _, _, h, e => by cases (show _ = V.int _ from h); cases e; exact .base (.int _)
  | .str _, _, _, h, e => by cases (show _ = V.str _ from h); cases e; exact .base (.str _)
  | .tup _, _, _, h, e => by
    obtain ⟨a, vs, rfl, q, r⟩ := RpV.tup_ sb h
    cases e
    exact tyD_tup q
  | .lst _, _, _, h, e => by
    obtain ⟨a, vs, rfl, q, r⟩ := h
    cases e
    exact tyD_lst (SqL.of q)
  | .fix _, _, _, h, e => by
    obtain ⟨a, vs, rfl, q, r⟩ := h
    cases e
    exact tyD_lst (sb.seq q)
  | .dic _ _, _, _, h, e => by
    obtain ⟨a, vs, rfl, q, _, r⟩ := h
    cases e
    exact .base (.dK (sb _ _ q))
  | .ty _, _, _, _, e => by cases e
  | .obj _ _ _, _, _, _, e => by cases e
  | .adr _, _, _, _, e => by cases e
  | .rng _ _, _, _, _, e => by cases e
/-- of the built-in types told here: is the first one the second, or under it -/
def isB (a b : String) : Option Bool :=
  if b = "int" then some (a == "int" || a == "bool") else if b = "bool" || b = "str" || b = "tuple" || b = "list" || b = "dict" then some (a == b) else none
theorem isB_ok : ∀ {d : D} {a b : String} {r : Bool}, tyD d = some a → isB a b = some r → kitB a b = some r := by
  intro d a b r ha hb
  have h1 : a = "NoneType" ∨ a = "bool" ∨ a = "int" ∨ a = "str" ∨ a = "tuple" ∨ a = "list" ∨ a = "dict" := by
    cases d <;> cases ha <;> simp
  have h2 : b = "int" ∨ b = "bool" ∨ b = "str" ∨ b = "tuple" ∨ b = "list" ∨ b = "dict" := by
    unfold isB at hb
    split at hb
    · exact .inl ‹_›
    · split at hb
      · rename_i z
        simp only [Bool.or_eq_true, decide_eq_true_eq] at z
        rcases z with (((z | z) | z) | z) | z <;> simp [z]
      · cases hb
  rcases h1 with rfl | rfl | rfl | rfl | rfl | rfl | rfl <;> rcases h2 with rfl | rfl | rfl | rfl | rfl | rfl <;> (rw [← hb]; decide +kernel)
def isBs (a : String) : List D → Option Bool
  | [] => some false
  | .ty b :: cs => (match isB a b, isBs a cs with
    | some x, some y => some (x || y)
    | _, _ => none)
  | _ :: _ => none
/-- isinstance: of a built-in type, of one of several -/
def gIsi : D → D → Option Cell
  | d, .ty b => (tyD d).bind fun a => (isB a b).map fun r => .val (.bl r)
  | d, .tup cs => (tyD d).bind fun a => (isBs a cs).map fun r => .val (.bl r)
  | _, _ => none
abbrev fIsi : DOpN := n2 gIsi
/-- isinstance(x, (c, ..)) of a tuple that is read -/
def rIsiS (K : PySem.W.Frag) : List V → Hp → VK → Prop := fun xs H Q => ∃ (x : V) (tp : Addr) (cs : List V) (t : Value) (us : List Value) (b : Bool), xs = [x, .ref tp] ∧ SqT K H tp cs ∧ Paired ClsV cs us ∧ TyX K H x t ∧ PySem.W.kitAny K t us = some b ∧ Q (.bl b) H
theorem call_isiS {X : Cx} : CallR X (.builtin "isinstance") (rIsiS X.K) := by
  intro pins s σ H xs us Q I r h
  obtain ⟨x, tp, cs, t, ws, b, rfl, hT, k, ty, e, q⟩ := h
  obtain ⟨u1, u2, rfl, r1, r2⟩ := vals2 r
  cases (show u2 = Value.ref tp from r2)
  obtain ⟨P, Z, p, hx⟩ := kit_of I r1 ty
  obtain ⟨its, rv, ⟨o, h1, h2, n, h3⟩, hz⟩ := I.tuple hT
  have e3 := ClsV.all k rv
  subst e3
  obtain ⟨oc, od, dt, sl⟩ := o
  simp only at h2 h3
  subst h2 h3
  exact PySem.W.kia_tup Z I.kIn p h1 e hx fun tk => ⟨.bl b, H, I.tok tk, rfl, q⟩
def rIsiD (K : PySem.W.Frag) : List V → Hp → VK → Prop := fun xs H Q => rIsi K xs H Q ∨ rIsiS K xs H Q
theorem cr_isi {X : Cx} : CallR X (.builtin "isinstance") (rIsiD X.K) := call_isi.or call_isiS
theorem isBs_ok {K : PySem.W.Frag} {F : Hp} {d : D} {a : String} (ha : tyD d = some a) : ∀ {cs : List D} {vs : List V} {r : Bool}, RpL K F cs vs → isBs a cs = some r → ∃ us, Paired ClsV vs us ∧ PySem.W.kitAny K (.type a) us = some r
  | [], vs, r, h, e => by
    cases (show vs = [] from h)
    cases e
    exact ⟨[], .nil, rfl⟩
  | c :: cs, vs, r, ⟨v, rest, ev, h1, h2⟩, e => by
    subst ev
    cases c <;> first | (cases e; done) | skip
    rename_i b
    cases (show v = V.ty b from h1)
    have e' : (match isB a b, isBs a cs with | some x, some y => some (x || y) | _, _ => none) = some r := e
    split at e'
    · rename_i x y e1 e2
      cases e'
      obtain ⟨us, p, k⟩ := isBs_ok ha h2 e2
      refine ⟨_, .cons (.ty b) p, kitAny_cons (kit_ty (isB_ok ha e1)) (fun z => ?_) (fun z => ?_)⟩
      · subst z; exact k
      · subst z; rfl
    · cases e'
theorem fIsi_ok {K : PySem.W.Frag} : OpN K (rIsiD K) fIsi := by
  refine n2_ok fun F H d d2 v v2 c Q sb h h2 e q => ?_
  cases d2 <;> first | (cases d <;> cases e; done) | skip
  · rename_i cs
    have e' : ((tyD d).bind fun a => (isBs a cs).map fun r => Cell.val (.bl r)) = some c := by cases d <;> exact e
    cases ea : tyD d with
    | none => rw [ea] at e'; cases e'
    | some a =>
      rw [ea] at e'
      simp only [Option.bind_some] at e'
      cases eb : isBs a cs with
      | none => rw [eb] at e'; cases e'
      | some r =>
        rw [eb] at e'
        cases e'
        obtain ⟨p, us, rfl, q1, r1⟩ := RpV.tup_ sb h2
        obtain ⟨ws, k1, k2⟩ := isBs_ok ea r1 eb
        exact .inr ⟨v, p, us, _, ws, r, rfl, q1, k1, tyD_ok sb h ea, k2, fin_val sb q rfl⟩
  · rename_i b
    have e' : ((tyD d).bind fun a => (isB a b).map fun r => Cell.val (.bl r)) = some c := by cases d <;> exact e
    cases ea : tyD d with
    | none => rw [ea] at e'; cases e'
    | some a =>
      rw [ea] at e'
      simp only [Option.bind_some] at e'
      cases eb : isB a b with
      | none => rw [eb] at e'; cases e'
      | some r =>
        rw [eb] at e'
        cases e'
        cases (show v2 = V.ty b from h2)
        exact .inl ⟨v, _, _, _, r, rfl, .ty b, tyD_ok sb h ea, kit_ty (isB_ok ea eb), fin_val sb q rfl⟩
/-! ### displays -/
def mDs : List DE → En → (List D → En → Prop) → DX → Prop
  | [], ρ, Q, _ => Q [] ρ
  | t :: ts, ρ, Q, E => t ρ (fun d ρ1 => mDs ts ρ1 (fun ds => Q (d :: ds)) E) E
def rDs (B : Bd) (W : WX) (ts : List DE) : TA := fun σ H Q => ∃ F L ρ Qd Ed, SR B F L σ H ρ ∧ mDs ts ρ Qd Ed ∧
  (∀ ds ρ' vs F' L' H', Qd ds ρ' → SR B F' L' σ H' ρ' → Stp F L H F' L' H' → RpL B.K F' ds vs → Q vs H') ∧ XOk B W F Ed
section
variable {X : Cx} {B : Bd} {W : WX} {pos : Pos} {e : Expr} {es : List Expr} {t : DE} {ts : List DE}
theorem ddn : PA X [] (rDs B W []) := pa_imp pa_nil fun σ H Q ⟨F, L, ρ, Qd, Ed, S, ht, hq, hx⟩ => hq [] ρ [] F L H ht S (Stp.refl _ _ _) rfl
theorem ddc (ha : PE X e (rV B W t)) (hr : PA X es (rDs B W ts)) (hs : starEach (e :: es) X.env = (false, eval e X.env) :: starEach es X.env := by rfl) : PA X (e :: es) (rDs B W (t :: ts)) :=
  pa_imp (pa_cons ha hr hs) fun σ H Q ⟨F, L, ρ, Qd, Ed, S, ht, hq, hx⟩ =>
    ⟨F, L, ρ, _, Ed, S, ht, fun d ρ1 v F1 L1 H1 q1 S1 s1 r1 => ⟨F1, L1, ρ1, _, Ed, S1, q1, fun ds ρ2 vs F2 L2 H2 q2 S2 s2 r2 => hq (d :: ds) ρ2 (v :: vs) F2 L2 H2 q2 S2 (s1.trans s2) ⟨v, vs, rfl, r1.mono s2.f, r2⟩, hx.mono s1.f⟩, hx⟩
def mTup (ts : List DE) : DE := fun ρ Q E => mDs ts ρ (fun ds ρ1 => ds.length ≤ sizeLine ∧ Q (.tup ds) ρ1) E
def mLst (ts : List DE) : DC := fun ρ Q E => mDs ts ρ (fun ds ρ1 => ds.length ≤ sizeLine ∧ Q (.own ds) ρ1) E
theorem de_tup {j : Nat} (h : PA X es (rDs B W ts)) : PE X (.Tuple es j pos) (rV B W (mTup ts)) := by
  refine pe_imp (pe_tup h) fun σ H Q ⟨F, L, ρ, Qd, Ed, S, ht, hq, hx⟩ => ⟨F, L, ρ, _, Ed, S, ht, fun ds ρ1 vs F1 L1 H1 ⟨hl, k⟩ S1 s1 r1 => ⟨by rw [← r1.length]; exact hl, fun p hp => ?_⟩, hx⟩
  obtain ⟨g, s⟩ := grow_upd (o := .tup vs) S1.sub hp
  exact hq (.tup ds) ρ1 _ _ L1 _ k (S1.grow g s) (s1.trans g.stp) ⟨p, vs, rfl, SqT.of upd_same, r1.mono g.f⟩
theorem dc_lst (h : PA X es (rDs B W ts)) : PE X (.List es pos) (rC B W (mLst ts)) := by
  refine pe_imp (pe_lst h) fun σ H Q ⟨F, L, ρ, Qd, Ed, S, ht, hq, hx⟩ => ⟨F, L, ρ, _, Ed, S, ht, fun ds ρ1 vs F1 L1 H1 ⟨hl, k⟩ S1 s1 r1 => ⟨by rw [← r1.length]; exact hl, fun p hp => ?_⟩, hx⟩
  have g : Grow F1 H1 F1 (upd H1 p (.lst vs)) := ⟨Same.refl F1, same_upd hp, fun _ _ e => .inl e⟩
  have n : NewR B.K H1 (.own ds) (.ref p) F1 (upd H1 p (.lst vs)) := ⟨p, vs, rfl, hp, upd_same, S1.sub.free hp, r1⟩
  exact hq (.own ds) ρ1 _ _ L1 _ k (S1.grow g (S1.sub.trans (same_upd hp))) (s1.trans g.stp) ((n.res S1).back s1)
/-! ### a op b op c -/
def mChain (f g : DOp2) (a b c : AX) : DC := fun ρ Q E => mAX a ρ (fun x ρ1 => mAX b ρ1 (fun y ρ2 => app2 f ρ2 x y fun r ρ3 => match r with
  | .val (.bl true) => mAX c ρ3 (fun z ρ4 => app2 g ρ4 y z Q) E
  | .val (.bl false) => Q (.val (.bl false)) ρ3
  | _ => False) E) E
theorem chain_ok {a b c : Expr} {ax bx cx : AX} {r r' : R2} {f g : DOp2} (hf : Op2 B.K r f) (hg : Op2 B.K r' g) {σ : L2.St} {H : Hp} {Q : VK} (h : rC B W (mChain f g ax bx cx) σ H Q) : tChain r r' (rX B W ax) (rX B W bx) (rX B W cx) σ H Q := by
  obtain ⟨F, L, ρ, Qd, Ed, S, ht, hq, hx⟩ := h
  refine two_X S ht hx fun x y ρ' v u F' L' H' k S' s r1 r2 => ?_
  refine app2_ok hf S' k r1 r2 fun c w F2 H2 q S2 s2 rs => ?_
  split at q
  · cases (show w = V.bl true from rs)
    refine ⟨true, rfl, ?_⟩
    rw [if_pos rfl]
    refine ⟨F2, L', ρ', _, Ed, S2, q, fun z ρ3 zv F3 L3 H3 q3 S3 s3 r3 => ?_, hx.mono (s.f.trans s2.f)⟩
    have st := (s.trans s2).trans s3
    exact app2_ok hg S3 q3 ((r2.step s2).step s3) r3 fun c w F4 H4 q4 S4 s4 rs4 => hq c ρ3 w F4 L3 H4 q4 S4 (st.trans s4) (rs4.back st)
  · cases (show w = V.bl false from rs)
    exact ⟨false, rfl, by rw [if_neg (by decide)]; exact hq _ ρ' _ F2 L' H2 q S2 (s.trans s2) rfl⟩
  · exact q.elim
theorem dc_chain {a b c : Expr} {ax bx cx : AX} {op op' : CmpOp} {r r' : R2} {f g : DOp2} (ho : OpR X (compareOp op) r) (ho' : OpR X (compareOp op') r') (hf : Op2 B.K r f) (hg : Op2 B.K r' g) (ha : PE X a (rX B W ax)) (hb : PE X b (rX B W bx)) (hc : PE X c (rX B W cx))
    (hm : lastMarks [op, op'] [b, c] = false := by with_unfolding_all rfl) : PE X (.Compare a [op, op'] [b, c] pos) (rC B W (mChain f g ax bx cx)) := pe_imp (pe_chain ho ho' ha hb hc hm) fun _ _ _ h => chain_ok (a := a) (b := b) (c := c) hf hg h
theorem dt_chain {a b c : Expr} {ax bx cx : AX} {op op' : CmpOp} {r r' : R2} {f g : DOp2} (ho : OpR X (compareOp op) r) (ho' : OpR X (compareOp op') r') (hf : Op2 B.K r f) (hg : Op2 B.K r' g) (ha : PE X a (rX B W ax)) (hb : PE X b (rX B W bx)) (hc : PE X c (rX B W cx))
    (hm : lastMarks [op, op'] [b, c] = false := by with_unfolding_all rfl) : PT X (.Compare a [op, op'] [b, c] pos) (rT B W (asT (mChain f g ax bx cx))) := by
  refine pt_imp (pt_chain ho ho' ha hb hc hm) fun σ H Q ⟨F, L, ρ, Qd, Ed, S, ht, hq, hx⟩ => ?_
  refine chain_ok (a := a) (b := b) (c := c) hf hg ⟨F, L, ρ, _, Ed, S, ht, fun c ρ' v F' L' H' q S' s r => ?_, hx⟩
  cases c with
  | own _ => exact False.elim q
  | val d =>
    cases d with
    | bl b =>
      have e : v = .bl b := r
      exact ⟨b, e, hq b ρ' F' L' H' q S' s⟩
    | _ => exact False.elim q
end
end DL
/-! The data layer: defs and their calls. -/
namespace DL
open PySem PySem.Spec PyProof.Rows L2
/-- lists handed over, by the parameter's place -/
abbrev Outs := Nat → List D
def outsOf (ρ : En) : Outs := fun i => match ρ.getD i none with
  | some (.own ds) => ds
  | _ => []
/-- what a def does: cells in, a result and the handed lists out, or an exception -/
abbrev DSp := List Cell → (Cell → Outs → Prop) → (Str → List (Str × D) → Outs → Prop) → Prop
/-- behind a def -/
structure Post (B : Bd) (F' H' : Hp) (o : Outs) : Prop where
  f : Same B.F0 F'
  sub : Same F' H'
  h : ∀ b u, B.H0 b = some u → (∀ j ∈ B.ios, B.ad j ≠ b) → H' b = some u
  fn : ∀ b u, F' b = some u → B.F0 b = some u ∨ B.H0 b = none
  al : ∀ b, B.H0 b ≠ none → H' b ≠ none
  io : ∀ j ∈ B.ios, ∃ us, H' (B.ad j) = some (.lst us) ∧ F' (B.ad j) = none ∧ RpL B.K F' (o j) us
def ResD (B : Bd) (F' H' : Hp) : Cell → V → Prop
  | .val d, v => Rp B.K F' d v
  | .own ds, v => ∃ a vs, v = .ref a ∧ H' a = some (.lst vs) ∧ F' a = none ∧ B.H0 a = none ∧ RpL B.K F' ds vs
/-- the def's promise in the kit's terms: n parameters, those at ios are lists handed over -/
def spD (K : PySem.W.Frag) (n : Nat) (ios : List Nat) (w : DSp) : Sp := fun vs H Q E => ∃ F L cs ad Qd Ed, vs.length = n ∧ SR ⟨K, H, F, ios, ad⟩ F L (vs.map some) H (cs.map some) ∧ w cs Qd Ed ∧
  (∀ c o v F' H', Qd c o → Post ⟨K, H, F, ios, ad⟩ F' H' o → ResD ⟨K, H, F, ios, ad⟩ F' H' c v → Q v H') ∧
  (∀ c fs o cls dd F' H', Ed c fs o → Post ⟨K, H, F, ios, ad⟩ F' H' o → ExcR K F' H' c fs cls dd → E cls dd H')
theorem spD_len {K : PySem.W.Frag} {n : Nat} {ios : List Nat} {w : DSp} : ∀ vs H Q E, spD K n ios w vs H Q E → vs.length = n := fun _ _ _ _ ⟨_, _, _, _, _, _, h, _⟩ => h
/-- a body, as what a def does; k: how many names stand behind the parameters -/
def wDef (k : Nat) (t : DS) : DSp := fun cs Qd Ed => t ⟨fun ρ => Qd (.val .non) (outsOf ρ), fun c ρ => Qd c (outsOf ρ), fun _ => False, fun _ => False, fun c fs ρ => Ed c fs (outsOf ρ)⟩ (cs.map some ++ List.replicate k none)
theorem getD_pad {α : Type} {l : List (Option α)} {k i : Nat} : (l ++ List.replicate k none).getD i none = l.getD i none := by
  rw [List.getD_eq_getElem?_getD, List.getD_eq_getElem?_getD]
  by_cases h : i < l.length
  · rw [List.getElem?_append_left h]
  · rw [List.getElem?_append_right (by omega), List.getElem?_eq_none (l := l) (by omega)]
    by_cases h2 : i - l.length < k
    · rw [List.getElem?_replicate, if_pos h2]; rfl
    · rw [List.getElem?_replicate, if_neg h2]
theorem SR.pad {B : Bd} {F H : Hp} {L : La} {σ : L2.St} {ρ : En} (S : SR B F L σ H ρ) (k : Nat) : SR B F L (σ ++ List.replicate k none) H (ρ ++ List.replicate k none) where
  len := by rw [List.length_append, List.length_append, S.len]; simp
  sub := S.sub
  slot := fun i => by
    rw [getD_pad, getD_pad]
    exact S.slot i
  inj := S.inj
  f0 := S.f0
  fn := S.fn
  keep := S.keep
  io := S.io
  al := S.al
theorem SR.post {B : Bd} {F H : Hp} {L : La} {σ : L2.St} {ρ : En} (S : SR B F L σ H ρ) : Post B F H (outsOf ρ) where
  f := S.f0
  sub := S.sub
  h := S.keep
  fn := S.fn
  al := S.al
  io := fun j hj => by
    obtain ⟨ds, vs, e1, e2, e3, e4, e5, _⟩ := S.own (S.io j hj)
    refine ⟨vs, e3, e4, ?_⟩
    unfold outsOf
    rw [e1]
    exact e5
theorem CellR.resD {B : Bd} {F H : Hp} {L : La} : ∀ {c : Cell} {v : V}, CellR B F L H c v → ResD B F H c v
  | .val _, _, h => h
  | .own _, _, ⟨a, vs, e, h1, h2, _, h4, h5⟩ => ⟨a, vs, e, h1, h2, h4, h5⟩
/-- THE RULE for a def -/
theorem def_ok {K : PySem.W.Frag} {P : Program} {w : World} {mg : Str → Option Value} {base : Heap} {x qual : Str} {params : Arguments} {body : List Stmt} {scope : Scope} {dvs : List V} {kws : List (Str × V)} {f : Addr} {fd : FuncData} {N ps : List Str} {k : Nat} (n : Nat) (ios : List Nat) {tb : DS}
    (Fd : FunD K x qual params body scope dvs kws f fd) (S : FnScope N ps scope) (hn : ps.length = n)
    (hb : ∀ (cdv : Value) (A : Around) (outer : List Env) (s : Shared) (H F : Hp) (E : XK) (ad : Nat → Addr), Room k (A.deeper (envOfC qual scope s.heap.objs.size f cdv)) → Takes (cxOf (L2.CX P w) P w K mg base N qual scope f cdv A outer s H E) (fun cls d _ H' => E cls d H') →
      PSs (cxOf (L2.CX P w) P w K mg base N qual scope f cdv A outer s H E) body (rS ⟨K, H, F, ios, ad⟩ (fun cls d _ H' => E cls d H') tb)) : FnOk P w K mg base (L2.CX P w) (k + 1) f fd ps (spD K n ios (wDef (N.length - n) tb)) := by
  refine Fd.ok S (fun vs H Q E h => by rw [spD_len _ _ _ _ h, hn]) fun cdv A outer s H vs Q E hr ⟨F, L, cs, ad, Qd, Ed, hl, hS, hw, hq, hx⟩ => ?_
  refine ⟨_, hb cdv A outer s H F E ad hr (takes_of rfl rfl rfl rfl), F, L, _, _, ?_, hw, ⟨fun ρ' σ' F' L' H' q S' _ => ?_, fun r ρ' v σ' F' L' H' q S' _ c => ?_, fun ρ' σ' F' L' H' q S' _ => ?_, fun ρ' σ' F' L' H' q S' _ => ?_, fun c fs ρ' cls dd σ' F' L' H' q S' _ ex => ?_⟩⟩
  · have := hS.pad (N.length - n)
    unfold L2.start
    rw [hl]
    exact this
  · exact hq (.val .non) _ .non F' H' q S'.post rfl
  · exact hq r _ v F' H' q S'.post c.resD
  · exact q.elim
  · exact q.elim
  · exact hx c fs _ cls dd F' H' q S'.post ex
/-! ### arguments of a call -/
/-- data; a name's own list, handed over; a list that no name holds, handed over -/
inductive KX where
  | e (t : DE) | s (i : Nat) | t (t : DC)
inductive KV where
  | d (d : D) | s (i : Nat) | t (ds : List D)
inductive KS where
  | d | s (i : Nat) | t
def KX.sh : KX → KS
  | .e _ => .d
  | .s i => .s i
  | .t _ => .t
def KV.sh : KV → KS
  | .d _ => .d
  | .s i => .s i
  | .t _ => .t
def mKX : KX → En → (KV → En → Prop) → DX → Prop
  | .e t, ρ, Q, E => t ρ (fun d => Q (.d d)) E
  | .s i, ρ, Q, _ => match ρ.getD i none with
    | some (.own _) => Q (.s i) ρ
    | _ => False
  | .t t, ρ, Q, E => t ρ (fun c ρ1 => match c with
    | .own ds => Q (.t ds) ρ1
    | .val _ => False) E
def mKXs : List KX → En → (List KV → En → Prop) → DX → Prop
  | [], ρ, Q, _ => Q [] ρ
  | a :: as, ρ, Q, E => mKX a ρ (fun x ρ1 => mKXs as ρ1 (fun xs => Q (x :: xs)) E) E
def KR (B : Bd) (F : Hp) (L : La) (H : Hp) : KV → V → Prop
  | .d d, v => Rp B.K F d v
  | .s i, v => ∃ a, v = .ref a ∧ ∀ b, L i = some b → b = a
  | .t ds, v => CellR B F L H (.own ds) v
def KRs (B : Bd) (F : Hp) (L : La) (H : Hp) : List KV → List V → Prop
  | [], vs => vs = []
  | x :: xs, vs => ∃ v r, vs = v :: r ∧ KR B F L H x v ∧ KRs B F L H xs r
theorem KR.step {B : Bd} {F H F' H' : Hp} {L L' : La} (s : Stp F L H F' L' H') : ∀ {x : KV} {v : V}, KR B F L H x v → KR B F' L' H' x v
  | .d _, _, h => Rp.mono s.f h
  | .s i, _, ⟨a, e, h⟩ => ⟨a, e, fun b q => h b (s.l i b q)⟩
  | .t ds, _, h => CellR.stp (c := .own ds) s h
theorem KRs.get {B : Bd} {F H : Hp} {L : La} : ∀ {xs : List KV} {vs : List V} {i : Nat} {x : KV}, KRs B F L H xs vs → xs[i]? = some x → ∃ v, vs[i]? = some v ∧ KR B F L H x v
  | [], _, _, _, _, e => by simp at e
  | x :: xs, _, 0, y, ⟨v, r, ev, h1, h2⟩, e => by
    subst ev
    simp at e
    subst e
    exact ⟨v, rfl, h1⟩
  | x :: xs, _, i + 1, y, ⟨v, r, ev, h1, h2⟩, e => by
    subst ev
    obtain ⟨u, e2, h3⟩ := KRs.get h2 (i := i) (x := y) (by simpa using e)
    exact ⟨u, by simpa using e2, h3⟩
theorem KRs.length {B : Bd} {F H : Hp} {L : La} : ∀ {xs : List KV} {vs : List V}, KRs B F L H xs vs → vs.length = xs.length
  | [], _, h => by
    cases (show _ = [] from h)
    rfl
  | x :: xs, _, ⟨v, r, ev, h1, h2⟩ => by
    subst ev
    rw [List.length_cons, List.length_cons, KRs.length h2]
/-- where the lists no name holds come from -/
def KNew (H : Hp) (L : La) (xs : List KV) (vs : List V) : Prop := ∀ (i : Nat) (ds : List D) (a : Addr), xs[i]? = some (KV.t ds) → vs[i]? = some (V.ref a) → H a = none ∨ ∃ j, L j = some a
def rK (B : Bd) (W : WX) (as : List KX) : TA := fun σ H Q => ∃ F L ρ Qd Ed, SR B F L σ H ρ ∧ mKXs as ρ Qd Ed ∧
  (∀ xs ρ' vs F' L' H', Qd xs ρ' → SR B F' L' σ H' ρ' → Stp F L H F' L' H' → KRs B F' L' H' xs vs → xs.map KV.sh = as.map KX.sh → KNew H L xs vs → Q vs H') ∧ XOk B W F Ed
section
variable {X : Cx} {B : Bd} {W : WX} {pos : Pos} {e : Expr} {es : List Expr}
/-- one argument -/
def rK1 (B : Bd) (W : WX) (a : KX) : TE := fun σ H Q => ∃ F L ρ Qd Ed, SR B F L σ H ρ ∧ mKX a ρ Qd Ed ∧
  (∀ x ρ' v F' L' H', Qd x ρ' → SR B F' L' σ H' ρ' → Stp F L H F' L' H' → KR B F' L' H' x v → x.sh = a.sh → (∀ ds a, x = .t ds → v = .ref a → H a = none ∨ ∃ j, L j = some a) → Q v H') ∧ XOk B W F Ed
theorem dk_e {t : DE} (h : PE X e (rV B W t)) : PE X e (rK1 B W (.e t)) :=
  pe_imp h fun σ H Q ⟨F, L, ρ, Qd, Ed, S, ht, hq, hx⟩ => ⟨F, L, ρ, fun d => Qd (.d d), Ed, S, ht, fun d ρ' v F' L' H' q S' s r => hq (.d d) ρ' v F' L' H' q S' s r rfl (fun _ _ z => by cases z), hx⟩
theorem dk_t {t : DC} (h : PE X e (rC B W t)) : PE X e (rK1 B W (.t t)) := by
  refine pe_imp h fun σ H Q ⟨F, L, ρ, Qd, Ed, S, ht, hq, hx⟩ => ⟨F, L, ρ, _, Ed, S, ht, fun c ρ' v F' L' H' q S' s r => ?_, hx⟩
  cases c with
  | val d => exact False.elim q
  | own ds =>
    refine hq (.t ds) ρ' v F' L' H' q S' s r.cell rfl fun ds' a z ev => ?_
    obtain ⟨b, vs, eb, h1, h2, h3, h4, h5, h6⟩ := r
    rw [ev] at eb
    cases eb
    exact h6
theorem dk_s (i : Nat) {x : Str} (hN : X.N[i]? = some x := by rfl) (hv : Vis X.env.scope x := by first | exact Or.inl rfl | exact Or.inr (Or.inl rfl) | exact Or.inr (Or.inr rfl)) (hd : (x == ("__debug__" : Str)) = false := by decide)
    (hcd : (x == ("__classdict__" : Str)) = false := by decide) : PE X (.Name x pos) (rK1 B W (.s i)) := by
  refine pe_imp (pe_var (i := i) hN hv hd hcd) fun σ H Q ⟨F, L, ρ, Qd, Ed, S, ht, hq, hx⟩ => ?_
  have ht' : (match ρ.getD i none with | some (.own _) => Qd (.s i) ρ | _ => False) := ht
  split at ht'
  · rename_i ds e
    obtain ⟨a, vs, h1, h2, h3, h4, h5, h6⟩ := S.ow e
    exact ⟨_, h1, hq (.s i) ρ _ F L H ht' S (Stp.refl _ _ _) ⟨a, rfl, fun b q => by rw [h2] at q; cases q; rfl⟩ rfl (fun _ _ z => by cases z)⟩
  · exact ht'.elim
theorem KNew.cons {H : Hp} {L : La} {x : KV} {xs : List KV} {v : V} {vs : List V} (h1 : ∀ ds a, x = .t ds → v = .ref a → H a = none ∨ ∃ j, L j = some a) (h2 : KNew H L xs vs) : KNew H L (x :: xs) (v :: vs) := fun i ds a e1 e2 => by
  cases i with
  | zero => exact h1 ds a (by simpa using e1) (by simpa using e2)
  | succ i => exact h2 i ds a (by simpa using e1) (by simpa using e2)
theorem KNew.back {F H F1 H1 : Hp} {L L1 : La} {xs : List KV} {vs : List V} (s : Stp F L H F1 L1 H1) (h : KNew H1 L1 xs vs) : KNew H L xs vs := fun i ds a e1 e2 => by
  rcases h i ds a e1 e2 with q | ⟨j, q⟩
  · refine .inl ?_
    cases e0 : H a with
    | none => rfl
    | some o => exact absurd q (s.al a (by rw [e0]; simp))
  · exact .inr ⟨j, s.l j a q⟩
theorem dkn : PA X [] (rK B W []) := pa_imp pa_nil fun σ H Q ⟨F, L, ρ, Qd, Ed, S, ht, hq, hx⟩ => hq [] ρ [] F L H ht S (Stp.refl _ _ _) rfl rfl (fun i ds a e => by simp at e)
theorem rK_cons {a : KX} {as : List KX} {σ : L2.St} {H : Hp} {Q : List V → Hp → Prop} (h : rK B W (a :: as) σ H Q) : rK1 B W a σ H fun v H1 => rK B W as σ H1 fun vs H2 => Q (v :: vs) H2 := by
  obtain ⟨F, L, ρ, Qd, Ed, S, ht, hq, hx⟩ := h
  refine ⟨F, L, ρ, _, Ed, S, ht, fun x ρ1 v F1 L1 H1 q1 S1 s1 r1 e1 n1 => ⟨F1, L1, ρ1, _, Ed, S1, q1, fun xs ρ2 vs F2 L2 H2 q2 S2 s2 r2 e2 n2 => ?_, hx.mono s1.f⟩, hx⟩
  exact hq (x :: xs) ρ2 (v :: vs) F2 L2 H2 q2 S2 (s1.trans s2) ⟨v, vs, rfl, r1.step s2, r2⟩ (by simp [e1, e2]) (KNew.cons n1 (n2.back s1))
theorem dkc {a : KX} {as : List KX} (ha : PE X e (rK1 B W a)) (hr : PA X es (rK B W as)) (hs : starEach (e :: es) X.env = (false, eval e X.env) :: starEach es X.env := by rfl) : PA X (e :: es) (rK B W (a :: as)) :=
  pa_imp (pa_cons ha hr hs) fun σ H Q h => rK_cons h
end
/-- the cells the callee gets -/
def rsv (ρ : En) : KV → Option Cell
  | .d d => some (.val d)
  | .s i => match ρ.getD i none with
    | some (.own ds) => some (.own ds)
    | _ => none
  | .t ds => some (.own ds)
def rsvs (ρ : En) : List KV → Option (List Cell)
  | [] => some []
  | x :: xs => match rsv ρ x, rsvs ρ xs with
    | some c, some cs => some (c :: cs)
    | _, _ => none
/-- the handed lists come back -/
def putO (ρ : En) : Nat → List KV → Outs → En
  | _, [], _ => ρ
  | k, x :: xs, o => match x with
    | .s p => putO (ρ.set p (some (.own (o k)))) (k + 1) xs o
    | _ => putO ρ (k + 1) xs o
def mCall (as : List KX) (w : DSp) : DC := fun ρ Q E => mKXs as ρ (fun ks ρ1 => match rsvs ρ1 ks with
  | some cs => w cs (fun c o => Q c (putO ρ1 0 ks o)) (fun c fs o => E c fs (putO ρ1 0 ks o))
  | none => False) E
theorem rsvs_get {ρ : En} : ∀ {ks : List KV} {cs : List Cell}, rsvs ρ ks = some cs → cs.length = ks.length ∧ ∀ (i : Nat) (k : KV), ks[i]? = some k → ∃ c, cs[i]? = some c ∧ rsv ρ k = some c
  | [], cs, e => by
    cases e
    exact ⟨rfl, fun i k h => by simp at h⟩
  | x :: xs, cs, e => by
    have e' : (match rsv ρ x, rsvs ρ xs with | some c, some cs => some (c :: cs) | _, _ => none) = some cs := e
    split at e'
    · rename_i c cs' e1 e2
      cases e'
      obtain ⟨l, g⟩ := rsvs_get e2
      refine ⟨by simp [l], fun i k h => ?_⟩
      cases i with
      | zero =>
        simp at h
        subst h
        exact ⟨c, rfl, e1⟩
      | succ i =>
        obtain ⟨d, h1, h2⟩ := g i k (by simpa using h)
        exact ⟨d, by simpa using h1, h2⟩
    · cases e'
/-- no name twice among the handed ones, at most one list that no name holds -/
def slots : List KS → List Nat
  | [] => []
  | .s i :: l => i :: slots l
  | _ :: l => slots l
def tmps : List KS → Nat
  | [] => 0
  | .t :: l => tmps l + 1
  | _ :: l => tmps l
def nodupB : List Nat → Bool
  | [] => true
  | x :: xs => !xs.contains x && nodupB xs
def goodS (l : List KS) : Bool := nodupB (slots l) && decide (tmps l ≤ 1)
def iosS : Nat → List KS → List Nat
  | _, [] => []
  | k, .d :: l => iosS (k + 1) l
  | k, _ :: l => k :: iosS (k + 1) l
theorem mem_slots : ∀ {l : List KS} {i p : Nat}, l[i]? = some (.s p) → p ∈ slots l
  | [], i, p, h => by simp at h
  | x :: l, 0, p, h => by
    simp at h
    subst h
    exact List.mem_cons_self
  | x :: l, i + 1, p, h => by
    have := mem_slots (l := l) (i := i) (p := p) (by simpa using h)
    cases x with
    | d => exact this
    | s q => exact List.mem_cons_of_mem _ this
    | t => exact this
theorem slots_inj : ∀ {l : List KS} {i j p : Nat}, nodupB (slots l) = true → l[i]? = some (.s p) → l[j]? = some (.s p) → i = j
  | [], i, j, p, _, h, _ => by simp at h
  | x :: l, i, j, p, n, h1, h2 => by
    have nl : nodupB (slots l) = true := by
      cases x with
      | d => exact n
      | t => exact n
      | s q =>
        have n' : (!(slots l).contains q && nodupB (slots l)) = true := n
        rw [Bool.and_eq_true] at n'
        exact n'.2
    cases i with
    | zero =>
      cases j with
      | zero => rfl
      | succ j =>
        simp at h1
        subst h1
        have m := mem_slots (l := l) (i := j) (p := p) (by simpa using h2)
        have n' : (!(slots l).contains p && nodupB (slots l)) = true := n
        rw [Bool.and_eq_true] at n'
        rw [List.contains_iff_mem.mpr m] at n'
        cases n'.1
    | succ i =>
      cases j with
      | zero =>
        simp at h2
        subst h2
        have m := mem_slots (l := l) (i := i) (p := p) (by simpa using h1)
        have n' : (!(slots l).contains p && nodupB (slots l)) = true := n
        rw [Bool.and_eq_true] at n'
        rw [List.contains_iff_mem.mpr m] at n'
        cases n'.1
      | succ j => rw [slots_inj nl (i := i) (j := j) (p := p) (by simpa using h1) (by simpa using h2)]
theorem tmps_pos : ∀ {l : List KS} {i : Nat}, l[i]? = some .t → 0 < tmps l
  | [], i, h => by simp at h
  | x :: l, 0, h => by
    simp at h
    subst h
    exact Nat.succ_pos _
  | x :: l, i + 1, h => by
    have := tmps_pos (l := l) (i := i) (by simpa using h)
    cases x with
    | d => exact this
    | s q => exact this
    | t => exact Nat.succ_pos _
theorem tmps_inj : ∀ {l : List KS} {i j : Nat}, tmps l ≤ 1 → l[i]? = some .t → l[j]? = some .t → i = j
  | [], i, j, _, h, _ => by simp at h
  | x :: l, i, j, n, h1, h2 => by
    have nl : tmps l ≤ 1 := by
      cases x with
      | d => exact n
      | s q => exact n
      | t => exact Nat.le_of_succ_le n
    cases i with
    | zero =>
      cases j with
      | zero => rfl
      | succ j =>
        simp at h1
        subst h1
        have := tmps_pos (l := l) (i := j) (by simpa using h2)
        have n' : tmps l + 1 ≤ 1 := n
        omega
    | succ i =>
      cases j with
      | zero =>
        simp at h2
        subst h2
        have := tmps_pos (l := l) (i := i) (by simpa using h1)
        have n' : tmps l + 1 ≤ 1 := n
        omega
      | succ j => rw [tmps_inj nl (i := i) (j := j) (by simpa using h1) (by simpa using h2)]
theorem iosS_mem : ∀ {l : List KS} {k j : Nat}, j ∈ iosS k l ↔ ∃ i x, l[i]? = some x ∧ x ≠ .d ∧ j = k + i
  | [], k, j => by simp [iosS]
  | x :: l, k, j => by
    have step : (∃ i y, (x :: l)[i]? = some y ∧ y ≠ .d ∧ j = k + i) ↔ (x ≠ .d ∧ j = k) ∨ ∃ i y, l[i]? = some y ∧ y ≠ .d ∧ j = k + 1 + i := by
      constructor
      · rintro ⟨i, y, h1, h2, h3⟩
        cases i with
        | zero =>
          simp at h1
          subst h1
          exact .inl ⟨h2, h3⟩
        | succ i => exact .inr ⟨i, y, by simpa using h1, h2, by omega⟩
      · rintro (⟨h1, h2⟩ | ⟨i, y, h1, h2, h3⟩)
        · exact ⟨0, x, rfl, h1, h2⟩
        · exact ⟨i + 1, y, by simpa using h1, h2, by omega⟩
    rw [step, ← iosS_mem (l := l) (k := k + 1)]
    cases x with
    | d => simp [iosS]
    | s q => simp [iosS]
    | t => simp [iosS]
theorem putO_len (o : Outs) : ∀ (xs : List KV) (ρ : En) (k : Nat), (putO ρ k xs o).length = ρ.length
  | [], _, _ => rfl
  | .d _ :: xs, ρ, k => putO_len o xs ρ (k + 1)
  | .t _ :: xs, ρ, k => putO_len o xs ρ (k + 1)
  | .s p :: xs, ρ, k => by
    show (putO (ρ.set p _) (k + 1) xs o).length = _
    rw [putO_len o xs, List.length_set]
theorem putO_out (o : Outs) : ∀ (xs : List KV) (ρ : En) (k p : Nat), p ∉ slots (xs.map KV.sh) → (putO ρ k xs o).getD p none = ρ.getD p none
  | [], _, _, _, _ => rfl
  | .d _ :: xs, ρ, k, p, h => putO_out o xs ρ (k + 1) p h
  | .t _ :: xs, ρ, k, p, h => putO_out o xs ρ (k + 1) p h
  | .s q :: xs, ρ, k, p, h => by
    show (putO (ρ.set q _) (k + 1) xs o).getD p none = _
    have h' : p ∉ q :: slots (xs.map KV.sh) := h
    rw [putO_out o xs _ _ p fun m => h' (List.mem_cons_of_mem _ m), getD_set_ne fun e => h' (by rw [e]; exact List.mem_cons_self)]
theorem putO_in (o : Outs) : ∀ (xs : List KV) (ρ : En) (k p i : Nat), nodupB (slots (xs.map KV.sh)) = true → xs[i]? = some (.s p) → p < ρ.length → (putO ρ k xs o).getD p none = some (.own (o (k + i)))
  | [], _, _, _, _, _, h, _ => by simp at h
  | x :: xs, ρ, k, p, 0, n, h, hl => by
    simp at h
    subst h
    have n' : (!(slots (xs.map KV.sh)).contains p && nodupB (slots (xs.map KV.sh))) = true := n
    rw [Bool.and_eq_true] at n'
    show (putO (ρ.set p _) (k + 1) xs o).getD p none = _
    have m : p ∉ slots (xs.map KV.sh) := fun m => by
      rw [List.contains_iff_mem.mpr m] at n'
      cases n'.1
    rw [putO_out o xs _ _ p m, getD_set_self hl]
    rfl
  | x :: xs, ρ, k, p, i + 1, n, h, hl => by
    have e : k + (i + 1) = k + 1 + i := by omega
    rw [e]
    cases x with
    | d d => exact putO_in o xs ρ (k + 1) p i n (by simpa using h) hl
    | t d => exact putO_in o xs ρ (k + 1) p i n (by simpa using h) hl
    | s q =>
      have n' : (!(slots (xs.map KV.sh)).contains q && nodupB (slots (xs.map KV.sh))) = true := n
      rw [Bool.and_eq_true] at n'
      exact putO_in o xs (ρ.set q _) (k + 1) p i n'.2 (by simpa using h) (by rw [List.length_set]; exact hl)
/-- where an argument lies -/
def adOf (vs : List V) : Nat → Addr := fun i => match vs[i]? with
  | some (.ref a) => a
  | _ => 0
def lac : Cell → Addr → Option Addr
  | .own _, a => some a
  | _, _ => none
def laOf (cs : List Cell) (vs : List V) : La := fun i => match cs[i]? with
  | some (.own _) => some (adOf vs i)
  | _ => none
theorem sh_get {ks : List KV} {as : List KS} (h : ks.map KV.sh = as) {i : Nat} {k : KV} (e : ks[i]? = some k) : as[i]? = some k.sh := by
  rw [← h, List.getElem?_map, e]
  rfl
theorem getD_map_some {α : Type} {l : List α} {i : Nat} : (l.map some).getD i none = l[i]? := by
  rw [List.getD_eq_getElem?_getD, List.getElem?_map]
  cases l[i]? <;> rfl
section
variable {B : Bd} {F H F1 H1 : Hp} {L L1 : La} {σ : L2.St} {ρ1 : En} {ks : List KV} {vs : List V} {cs : List Cell} {as : List KS}
/-- an argument that is a list handed over: where it lies -/
def ArgAt (B : Bd) (F1 : Hp) (L1 : La) (H1 : Hp) (ρ1 : En) (a : Addr) : KV → Cell → V → Prop
  | .d d, c, v => c = .val d ∧ Rp B.K F1 d v
  | .s p, c, v => ∃ ds us, c = .own ds ∧ v = .ref a ∧ L1 p = some a ∧ ρ1.getD p none = some (.own ds) ∧ H1 a = some (.lst us) ∧ F1 a = none ∧ RpL B.K F1 ds us
  | .t ds, c, v => ∃ us, c = .own ds ∧ v = .ref a ∧ (∀ j, L1 j ≠ some a) ∧ B.H0 a = none ∧ H1 a = some (.lst us) ∧ F1 a = none ∧ RpL B.K F1 ds us
theorem arg_at (S1 : SR B F1 L1 σ H1 ρ1) (r : KRs B F1 L1 H1 ks vs) (e : rsvs ρ1 ks = some cs) {i : Nat} {k : KV} (hk : ks[i]? = some k) : ∃ c v, cs[i]? = some c ∧ vs[i]? = some v ∧ ArgAt B F1 L1 H1 ρ1 (adOf vs i) k c v := by
  obtain ⟨v, hv, rv⟩ := r.get hk
  obtain ⟨c, hc, ec⟩ := (rsvs_get e).2 i k hk
  refine ⟨c, v, hc, hv, ?_⟩
  cases k with
  | d d => cases ec; exact ⟨rfl, rv⟩
  | s p =>
    obtain ⟨a, ea, ha⟩ := rv
    subst ea
    have ead : adOf vs i = a := by unfold adOf; rw [hv]
    have ec' : (match ρ1.getD p none with | some (.own ds) => some (Cell.own ds) | _ => none) = some c := ec
    split at ec'
    · rename_i ds q
      cases ec'
      obtain ⟨b, us, h1, h2, h3, h4, h5, h6⟩ := S1.ow q
      have := ha b h2
      subst this
      rw [ead]
      exact ⟨ds, us, rfl, rfl, h2, q, h3, h4, h5⟩
    · cases ec'
  | t ds =>
    cases ec
    obtain ⟨a, us, ea, h1, h2, h3, h4, h5⟩ := rv
    subst ea
    have ead : adOf vs i = a := by unfold adOf; rw [hv]
    show ∃ us, _
    rw [ead]
    exact ⟨us, rfl, rfl, h3, h4, h1, h2, h5⟩
/-- the callee's state at its entry -/
theorem SR.enter (S1 : SR B F1 L1 σ H1 ρ1) (r : KRs B F1 L1 H1 ks vs) (e : rsvs ρ1 ks = some cs) (hs : ks.map KV.sh = as) (hg : goodS as = true) :
    SR ⟨B.K, H1, F1, iosS 0 as, adOf vs⟩ F1 (laOf cs vs) (vs.map some) H1 (cs.map some) := by
  have hlc := (rsvs_get e).1
  have hlv := r.length
  unfold goodS at hg
  rw [Bool.and_eq_true, decide_eq_true_eq] at hg
  have ofC : ∀ {i : Nat} {a : Addr}, laOf cs vs i = some a → ∃ k ds, ks[i]? = some k ∧ cs[i]? = some (.own ds) ∧ a = adOf vs i := fun {i a} h => by
    unfold laOf at h
    split at h
    · rename_i ds ec
      cases h
      have hi : i < ks.length := by rw [← hlc]; exact (List.getElem?_eq_some_iff.mp ec).1
      exact ⟨ks[i], ds, List.getElem?_eq_getElem hi, ec, rfl⟩
    · cases h
  refine ⟨by rw [List.length_map, List.length_map, hlc, hlv], S1.sub, fun i => ?_, fun i j a h1 h2 => ?_, Same.refl F1, fun a o h => .inl h, fun a o h _ => h, fun j hj => ?_, fun a h => h⟩
  · rw [getD_map_some, getD_map_some]
    by_cases hi : i < ks.length
    · obtain ⟨c, v, hc, hv, h⟩ := arg_at S1 r e (List.getElem?_eq_getElem hi)
      have hla : laOf cs vs i = lac c (adOf vs i) := by
        unfold laOf
        rw [hc]
        cases c <;> rfl
      rw [hc, hv, hla]
      have hS : as[i]? = some ks[i].sh := sh_get hs (List.getElem?_eq_getElem hi)
      generalize hkk : ks[i] = k at h hS
      cases k with
      | d d =>
        obtain ⟨rfl, h⟩ := h
        exact ⟨rfl, v, rfl, h⟩
      | s p =>
        obtain ⟨ds, us, rfl, ev, h1, h2, h3, h4, h5⟩ := h
        exact ⟨adOf vs i, us, by rw [ev], rfl, h3, h4, h5, .inl ⟨i, iosS_mem.mpr ⟨i, _, hS, by simp [KV.sh], by omega⟩, rfl⟩⟩
      | t ds =>
        obtain ⟨us, rfl, ev, h1, h2, h3, h4, h5⟩ := h
        exact ⟨adOf vs i, us, by rw [ev], rfl, h3, h4, h5, .inl ⟨i, iosS_mem.mpr ⟨i, _, hS, by simp [KV.sh], by omega⟩, rfl⟩⟩
    · have e1 : cs[i]? = none := List.getElem?_eq_none (by omega)
      have e2 : vs[i]? = none := List.getElem?_eq_none (by omega)
      rw [e1, e2]
      show laOf cs vs i = none
      unfold laOf
      rw [e1]
  · obtain ⟨k, ds, hk, hc, ea⟩ := ofC h1
    obtain ⟨k', ds', hk', hc', ea'⟩ := ofC h2
    obtain ⟨c, v, hc2, hv, h⟩ := arg_at S1 r e hk
    obtain ⟨c', v', hc2', hv', h'⟩ := arg_at S1 r e hk'
    rw [hc] at hc2
    rw [hc'] at hc2'
    cases hc2
    cases hc2'
    cases k with
    | d d => cases h.1
    | s p =>
      obtain ⟨_, _, _, _, h3, _⟩ := h
      cases k' with
      | d d => cases h'.1
      | s p' =>
        obtain ⟨_, _, _, _, h3', _⟩ := h'
        have : p = p' := S1.inj p p' a (by rw [h3, ea]) (by rw [h3', ea'])
        subst this
        exact slots_inj hg.1 (sh_get hs hk) (sh_get hs hk')
      | t ds =>
        obtain ⟨_, _, _, h3', _⟩ := h'
        exact absurd (by rw [h3, ← ea, ← ea']) (h3' p)
    | t ds =>
      obtain ⟨_, _, _, h3, _⟩ := h
      cases k' with
      | d d => cases h'.1
      | s p' =>
        obtain ⟨_, _, _, _, h3', _⟩ := h'
        exact absurd (by rw [h3', ← ea', ← ea]) (h3 p')
      | t ds' => exact tmps_inj hg.2 (sh_get hs hk) (sh_get hs hk')
  · obtain ⟨i, x, hx, hne, ej⟩ := iosS_mem.mp hj
    have ej' : j = i := by omega
    subst ej'
    have hi : j < ks.length := by
      have := (List.getElem?_eq_some_iff.mp hx).1
      rw [← hs, List.length_map] at this
      exact this
    obtain ⟨c, v, hc, hv, h⟩ := arg_at S1 r e (List.getElem?_eq_getElem hi)
    have hS := sh_get hs (List.getElem?_eq_getElem hi)
    rw [hx] at hS
    generalize hkk : ks[j] = k at h hS
    have : ∃ ds, c = .own ds := by
      cases k with
      | d d => cases hS; exact absurd rfl hne
      | s p => obtain ⟨ds, _, h1, _⟩ := h; exact ⟨ds, h1⟩
      | t ds => obtain ⟨_, h1, _⟩ := h; exact ⟨ds, h1⟩
    obtain ⟨ds, rfl⟩ := this
    unfold laOf
    rw [hc]
/-- the caller's state behind it -/
theorem SR.exit {F' H' : Hp} {o : Outs} (S1 : SR B F1 L1 σ H1 ρ1) (r : KRs B F1 L1 H1 ks vs) (e : rsvs ρ1 ks = some cs) (hs : ks.map KV.sh = as) (hg : goodS as = true) (p : Post ⟨B.K, H1, F1, iosS 0 as, adOf vs⟩ F' H' o) :
    SR B F' L1 σ H' (DL.putO ρ1 0 ks o) := by
  unfold goodS at hg
  rw [Bool.and_eq_true, decide_eq_true_eq] at hg
  -- a handed list: whose it is
  have who : ∀ j ∈ iosS 0 as, (∃ q, ks[j]? = some (.s q) ∧ L1 q = some (adOf vs j)) ∨ ((∀ i, L1 i ≠ some (adOf vs j)) ∧ B.H0 (adOf vs j) = none) := fun j hj => by
    obtain ⟨i, x, hx, hne, ej⟩ := iosS_mem.mp hj
    have ej' : j = i := by omega
    subst ej'
    have hi : j < ks.length := by
      have := (List.getElem?_eq_some_iff.mp hx).1
      rw [← hs, List.length_map] at this
      exact this
    obtain ⟨c, v, hc, hv, h⟩ := arg_at S1 r e (List.getElem?_eq_getElem hi)
    have hS := sh_get hs (List.getElem?_eq_getElem hi)
    rw [hx] at hS
    have hkk : ks[j]? = some ks[j] := List.getElem?_eq_getElem hi
    generalize ks[j] = k at h hS hkk
    cases k with
    | d d => cases hS; exact absurd rfl hne
    | s q => obtain ⟨_, _, _, _, h3, _⟩ := h; exact .inl ⟨q, hkk, h3⟩
    | t ds => obtain ⟨_, _, _, h3, h4, _⟩ := h; exact .inr ⟨h3, h4⟩
  have S0 := S1.slot
  refine ⟨by rw [putO_len]; exact S1.len, p.sub, fun i => ?_, S1.inj, S1.f0.trans p.f, fun a u h => ?_, fun a u h n => ?_, S1.io, fun a h => p.al a (S1.al a h)⟩
  · by_cases hi : ∃ j : Nat, ks[j]? = some (KV.s i)
    · obtain ⟨j, hj⟩ := hi
      obtain ⟨c, v, hc, hv, ds, us, rfl, ev, h3, h4, h5, h6, h7⟩ := arg_at S1 r e hj
      have hm : j ∈ iosS 0 as := iosS_mem.mpr ⟨j, _, sh_get hs hj, by simp [KV.sh], by omega⟩
      have hl := getD_lt h4
      rw [putO_in o ks ρ1 0 i j (by rw [hs]; exact hg.1) hj hl, Nat.zero_add]
      obtain ⟨us', g1, g2, g3⟩ := p.io j hm
      obtain ⟨_, _, f1, f2, f3, f4, f5, f6⟩ := S1.own h3
      exact ⟨_, us', f2, h3, g1, g2, g3, f6⟩
    · have nm : i ∉ slots (ks.map KV.sh) := fun hm => by
        have key : ∀ (l : List KV), i ∈ slots (l.map KV.sh) → ∃ j : Nat, l[j]? = some (KV.s i) := by
          intro l
          induction l with
          | nil => intro h; cases h
          | cons x l ih =>
            intro h
            cases x with
            | d d => obtain ⟨j, q⟩ := ih h; exact ⟨j + 1, by simpa using q⟩
            | t d => obtain ⟨j, q⟩ := ih h; exact ⟨j + 1, by simpa using q⟩
            | s q =>
              rcases List.mem_cons.mp (show i ∈ q :: slots (l.map KV.sh) from h) with e | e
              · subst e; exact ⟨0, rfl⟩
              · obtain ⟨j, q⟩ := ih e; exact ⟨j + 1, by simpa using q⟩
        exact hi (key ks hm)
      rw [putO_out o ks ρ1 0 i nm]
      have q := S0 i
      revert q
      cases ρ1.getD i none with
      | none => exact id
      | some c =>
        cases c with
        | val d => exact fun ⟨h1, v, h2, h3⟩ => ⟨h1, v, h2, h3.mono p.f⟩
        | own ds =>
          intro ⟨a, us, h1, h2, h3, h4, h5, h6⟩
          have na : ∀ j ∈ iosS 0 as, adOf vs j ≠ a := fun j hj z => by
            rcases who j hj with ⟨q, hq, hL⟩ | ⟨hL, _⟩
            · rw [z] at hL
              have := S1.inj q i a hL h2
              subst this
              exact hi ⟨j, hq⟩
            · exact hL i (by rw [h2, z])
          refine ⟨a, us, h1, h2, p.h a _ h3 na, ?_, h5.mono p.f, h6⟩
          cases e2 : F' a with
          | none => rfl
          | some u =>
            rcases p.fn a u e2 with z | z
            · rw [show F1 a = some u from z] at h4; cases h4
            · rw [show H1 a = none from z] at h3; cases h3
  · rcases p.fn a u h with z | z
    · exact S1.fn a u z
    · refine .inr ?_
      cases e0 : B.H0 a with
      | none => rfl
      | some w => exact absurd z (S1.al a (by rw [e0]; simp))
  · refine p.h a u (S1.keep a u h n) fun j hj z => ?_
    rcases who j hj with ⟨q, hq, hL⟩ | ⟨_, h0⟩
    · have hL' : L1 q = some a := by rw [hL]; exact congrArg some z
      obtain ⟨_, _, _, _, _, _, _, f6⟩ := S1.own hL'
      rcases f6 with ⟨j', hj', e'⟩ | f6
      · exact n j' hj' e'
      · rw [h] at f6; cases f6
    · have z' : adOf vs j = a := z
      rw [z', h] at h0; cases h0
theorem Stp.call {F' H' : Hp} {o : Outs} (S1 : SR B F1 L1 σ H1 ρ1) (s1 : Stp F L H F1 L1 H1) (r : KRs B F1 L1 H1 ks vs) (e : rsvs ρ1 ks = some cs) (hs : ks.map KV.sh = as) (nw : KNew H L ks vs) (p : Post ⟨B.K, H1, F1, iosS 0 as, adOf vs⟩ F' H' o) :
    Stp F L H F' L1 H' where
  f := s1.f.trans p.f
  l := s1.l
  h := fun b u hb n => p.h b u (s1.h b u hb n) fun j hj z => by
    obtain ⟨i, x, hx, hne, ej⟩ := iosS_mem.mp hj
    have ej' : j = i := by omega
    subst ej'
    have hi : j < ks.length := by
      have := (List.getElem?_eq_some_iff.mp hx).1
      rw [← hs, List.length_map] at this
      exact this
    obtain ⟨c, v, hc, hv, h⟩ := arg_at S1 r e (List.getElem?_eq_getElem hi)
    have hS := sh_get hs (List.getElem?_eq_getElem hi)
    rw [hx] at hS
    have hkk : ks[j]? = some ks[j] := List.getElem?_eq_getElem hi
    generalize ks[j] = k at h hS hkk
    have z' : adOf vs j = b := z
    cases k with
    | d d => cases hS; exact absurd rfl hne
    | s q =>
      obtain ⟨_, _, _, _, h3, _⟩ := h
      exact n q (s1.l q b (by rw [h3, z']))
    | t ds =>
      obtain ⟨_, _, ev, _⟩ := h
      rcases nw j ds b hkk (by rw [hv, ev, z']) with q | ⟨i, q⟩
      · rw [hb] at q; cases q
      · exact n i q
  fn := fun b u h => by
    rcases p.fn b u h with q | q
    · exact s1.fn b u q
    · refine .inr (.inl ?_)
      cases e0 : H b with
      | none => rfl
      | some w => exact absurd q (s1.al b (by rw [e0]; simp))
  al := fun b h => p.al b (s1.al b h)
theorem ResD.res {F' H' : Hp} (S1 : SR B F1 L1 σ H1 ρ1) (s1 : Stp F L H F1 L1 H1) {ios : List Nat} {ad : Nat → Addr} : ∀ {c : Cell} {v : V}, ResD ⟨B.K, H1, F1, ios, ad⟩ F' H' c v → ResC B F L H F' L1 H' c v
  | .val _, _, h => h
  | .own ds, _, ⟨a, us, e, h1, h2, h3, h4⟩ => by
    have h3 : H1 a = none := h3
    refine ⟨a, us, e, h1, h2, fun i q => ?_, ?_, h4, .inl ?_⟩
    · obtain ⟨_, _, _, _, f3, _⟩ := S1.own q
      rw [h3] at f3; cases f3
    · cases e0 : B.H0 a with
      | none => rfl
      | some w => exact absurd h3 (S1.al a (by rw [e0]; simp))
    · cases e0 : H a with
      | none => rfl
      | some w => exact absurd h3 (s1.al a (by rw [e0]; simp))
end
section
variable {X : Cx} {B : Bd} {W : WX} {pos : Pos} {e : Expr} {es : List Expr}
theorem call_imp {ss : List KS} {n : Nat} {ios : List Nat} {w : DSp} {ks : List KV} {vs : List V} {ρ1 : En} {F H F1 H1 : Hp} {L L1 : La} {σ : L2.St} {Qd : CQ} {Ed : DX} {Q : VK} (S1 : SR B F1 L1 σ H1 ρ1) (s1 : Stp F L H F1 L1 H1) (r : KRs B F1 L1 H1 ks vs) (hsh : ks.map KV.sh = ss) (nw : KNew H L ks vs)
    (hn : ss.length = n) (hio : iosS 0 ss = ios) (hg : goodS ss = true) (k : match rsvs ρ1 ks with | some cs => w cs (fun c o => Qd c (putO ρ1 0 ks o)) (fun c fs o => Ed c fs (putO ρ1 0 ks o)) | none => False)
    (hq : ∀ c ρ' v F' L' H', Qd c ρ' → SR B F' L' σ H' ρ' → Stp F L H F' L' H' → ResC B F L H F' L' H' c v → Q v H') (hx : XOk B W F Ed) : spD B.K n ios w vs H1 Q (WE W σ) := by
  split at k
  · rename_i cs ec
    subst hio
    refine ⟨F1, laOf cs vs, cs, adOf vs, _, _, ?_, S1.enter r ec hsh hg, k, fun c o v F' H' q p rd => ?_, fun c fs o cls dd F' H' q p ex => ?_⟩
    · rw [r.length, ← hn, ← hsh, List.length_map]
    · exact hq c _ v F' L1 H' q (S1.exit r ec hsh hg p) (Stp.call S1 s1 r ec hsh nw p) (rd.res S1 s1)
    · exact hx c fs _ cls dd σ F' L1 H' q (S1.exit r ec hsh hg p) (s1.f.trans p.f) ex
  · exact k.elim
/-- f(e, ..), f a def of the text -/
theorem dc_call {as : List KX} {n k : Nat} {ios : List Nat} {w : DSp} {f : Addr} {fd : FuncData} {ps : List Str} {x : Str} {p : Pos} (F : FnOk X.prog X.w X.K X.mg X.base (L2.CX X.prog X.w) k f fd ps (spD B.K n ios w)) (hr : Room k X.A) (tk : Takes X W) (hm : X.mg x = some (.ref f)) (hk : PySem.W.keepIn X.K (.ref f) = true)
    (hb : Binds X.K fd ps []) (ha : PA X (e :: es) (rK B W as)) (hn : (as.map KX.sh).length = n := by rfl) (hio : iosS 0 (as.map KX.sh) = ios := by rfl) (hgs : goodS (as.map KX.sh) = true := by rfl) (hg : Gl X x := by rfl) (hdb : (x == ("__debug__" : Str)) = false := by decide)
    (he : starEach (e :: es) X.env = (false, eval e X.env) :: starEach es X.env := by rfl) (hpl : (backTo pos (starEach es X.env)).any (·.1) = false := by rfl) : PE X (.Call (.Name x p) (e :: es) [] pos) (rC B W (mCall as w)) := by
  refine pe_imp (pe_callS (E := WE W) F hr hg hm hk hb (passAt tk) ha hdb he hpl) fun σ H Q ⟨F0, L, ρ, Qd, Ed, S, ht, hq, hx⟩ => ?_
  exact ⟨F0, L, ρ, _, Ed, S, ht, fun ks ρ1 vs F1 L1 H1 kk S1 s1 r hsh nw => call_imp S1 s1 r hsh nw hn hio hgs kk hq hx, hx⟩
/-- f() -/
theorem pe_call0S {CX : CXT} {k : Nat} {f : Addr} {fd : FuncData} {ps : List Str} {sp : Sp} {E : L2.St → XK} {x : Str} {p : Pos} (F : FnOk X.prog X.w X.K X.mg X.base CX k f fd ps sp) (hr : Room k X.A) (hg : Gl X x) (hm : X.mg x = some (.ref f)) (hk : PySem.W.keepIn X.K (.ref f) = true) (hb : Binds X.K fd ps []) (hx : ∀ σ, PassesAt CX X σ (E σ))
    (hdb : (x == ("__debug__" : Str)) = false := by decide) : PE X (.Call (.Name x p) [] [] pos) (fun σ H Q => sp [] H Q (E σ)) := by
  refine ⟨fun pins s σ H Q I h => ?_⟩
  refine wpAny_Call_Name_kw (ld_glob I hg hm ?_ hdb)
  exact PySem.W.callWith_K0 I.kIn hk (run_fnS (us := []) F hr hb (hx σ) I .nil h)
theorem dc_call0 {k : Nat} {w : DSp} {f : Addr} {fd : FuncData} {ps : List Str} {x : Str} {p : Pos} (F : FnOk X.prog X.w X.K X.mg X.base (L2.CX X.prog X.w) k f fd ps (spD B.K 0 [] w)) (hr : Room k X.A) (tk : Takes X W) (hm : X.mg x = some (.ref f)) (hk : PySem.W.keepIn X.K (.ref f) = true)
    (hb : Binds X.K fd ps []) (hg : Gl X x := by rfl) (hdb : (x == ("__debug__" : Str)) = false := by decide) : PE X (.Call (.Name x p) [] [] pos) (rC B W (mCall [] w)) := by
  refine pe_imp (pe_call0S (E := WE W) F hr hg hm hk hb (passAt tk) hdb) fun σ H Q ⟨F0, L, ρ, Qd, Ed, S, ht, hq, hx⟩ => ?_
  exact call_imp (ss := []) (ks := []) S (Stp.refl _ _ _) rfl rfl (fun i ds a e => by simp at e) rfl rfl rfl ht hq hx
/-! keywords alone, one for each parameter -/
def pm {α : Type} : List Nat → List α → List α
  | [], _ => []
  | j :: js, l => match l[j]? with
    | some x => x :: pm js l
    | none => pm js l
def mCallK (as : List KX) (js : List Nat) (w : DSp) : DC := fun ρ Q E => mKXs as ρ (fun ks ρ1 => match rsvs ρ1 (pm js ks) with
  | some cs => w cs (fun c o => Q c (putO ρ1 0 (pm js ks) o)) (fun c fs o => E c fs (putO ρ1 0 (pm js ks) o))
  | none => False) E
theorem pm_map {α β : Type} {f : α → β} : ∀ {js : List Nat} {l : List α}, (pm js l).map f = pm js (l.map f)
  | [], _ => rfl
  | j :: js, l => by
    unfold pm
    rw [List.getElem?_map]
    cases e : l[j]? with
    | none => exact pm_map (js := js)
    | some x =>
      show f x :: (pm js l).map f = f x :: pm js (l.map f)
      rw [pm_map (js := js)]
theorem pm_vals : ∀ {js : List Nat} {vs : List V} {us : List Value}, Vals vs us → Vals (pm js vs) (pm js us)
  | [], _, _, _ => .nil
  | j :: js, vs, us, r => by
    unfold pm
    cases e : vs[j]? with
    | none =>
      have e2 : us[j]? = none := by
        rw [List.getElem?_eq_none_iff] at e ⊢
        rw [← r.length]; exact e
      rw [e2]
      exact pm_vals r
    | some v =>
      obtain ⟨u, hu, rv⟩ := r.get e
      rw [hu]
      exact .cons rv (pm_vals r)
theorem pm_krs {F H : Hp} {L : La} : ∀ {js : List Nat} {ks : List KV} {vs : List V}, KRs B F L H ks vs → KRs B F L H (pm js ks) (pm js vs)
  | [], _, _, _ => rfl
  | j :: js, ks, vs, r => by
    unfold pm
    cases e : ks[j]? with
    | none =>
      have e2 : vs[j]? = none := by
        rw [List.getElem?_eq_none_iff] at e ⊢
        rw [r.length]; exact e
      rw [e2]
      exact pm_krs r
    | some k =>
      obtain ⟨v, hv, rv⟩ := r.get e
      rw [hv]
      exact ⟨v, _, rfl, rv, pm_krs r⟩
theorem pm_new {H : Hp} {L : La} {F H1 : Hp} {L1 : La} {ks : List KV} {vs : List V} (r : KRs B F L1 H1 ks vs) (n : KNew H L ks vs) : ∀ {js : List Nat}, KNew H L (pm js ks) (pm js vs)
  | [] => fun i ds a e => by simp [pm] at e
  | j :: js => by
    unfold pm
    cases e : ks[j]? with
    | none =>
      have e2 : vs[j]? = none := by
        rw [List.getElem?_eq_none_iff] at e ⊢
        rw [r.length]; exact e
      rw [e2]
      exact pm_new r n
    | some k =>
      obtain ⟨v, hv, rv⟩ := r.get e
      rw [hv]
      exact KNew.cons (fun ds a ek ev => n j ds a (by rw [e, ek]) (by rw [hv, ev])) (pm_new r n)
/-- how keywords alone bind -/
def BindsK (fd : FuncData) (ps ks : List Str) (js : List Nat) : Prop := ∀ (s : Shared) (ws : List Value), ws.length = ks.length → BindsTo s fd ⟨[], ks.zip ws⟩ (ps.zip (pm js ws))
theorem bindsK_of {K : PySem.W.Frag} {x qual : Str} {params : Arguments} {body : List Stmt} {scope : Scope} {kws : List (Str × V)} {f : Addr} {fd : FuncData} {ps ks : List Str} {js : List Nat} (F : FunD K x qual params body scope [] kws f fd)
    (h : ∀ (kV doc pmv : Value) (an : Option Addr) (cdv ct : Value) (ws : List Value), ws.length = ks.length → bindArgs (PySem.W.fnOf x qual params body scope .none kV doc pmv an cdv ct) ⟨[], ks.zip ws⟩ = pure (ps.zip (pm js ws))) : BindsK fd ps ks js := fun s ws hl => by
  obtain ⟨oc, od, dV, kV, doc, pmv, an, cdv, ct, osl, rfl, lk, hcd, hD, hK⟩ := F.ex
  rcases hD with ⟨_, rfl⟩ | ⟨e, _⟩
  · exact .of_eq (h kV doc pmv an cdv ct ws hl)
  · exact absurd rfl e
def rKk (B : Bd) (W : WX) (as : List KX) : TA := rK B W as
theorem dkkn : PK X [] (rK B W []) := ⟨fun pos pins s σ H Q I h => pk_nil.run pos pins s σ H Q I (by
  obtain ⟨F, L, ρ, Qd, Ed, S, ht, hq, hx⟩ := h
  exact hq [] ρ [] F L H ht S (Stp.refl _ _ _) rfl rfl (fun i ds a e => by simp at e))⟩
theorem dkkc {a : KX} {as : List KX} {kws : List Keyword} {nm : Option Str} {kpos : Pos} (ha : PE X e (rK1 B W a)) (hr : PK X kws (rK B W as)) : PK X (⟨nm, e, kpos⟩ :: kws) (rK B W (a :: as)) :=
  ⟨fun pos pins s σ H Q I h => (pk_cons ha hr).run pos pins s σ H Q I (rK_cons h)⟩
theorem dc_callK {as : List KX} {n k : Nat} {ios : List Nat} {w : DSp} {f : Addr} {fd : FuncData} {ps ks : List Str} {js : List Nat} {x : Str} {p : Pos} {kws : List Keyword} (F : FnOk X.prog X.w X.K X.mg X.base (L2.CX X.prog X.w) k f fd ps (spD B.K n ios w)) (hr : Room k X.A) (tk : Takes X W) (hm : X.mg x = some (.ref f)) (hk : PySem.W.keepIn X.K (.ref f) = true)
    (hb : BindsK fd ps ks js) (ha : PK X kws (rK B W as)) (hlk : as.length = ks.length := by rfl) (hn : (pm js (as.map KX.sh)).length = n := by rfl) (hio : iosS 0 (pm js (as.map KX.sh)) = ios := by rfl) (hgs : goodS (pm js (as.map KX.sh)) = true := by rfl) (hg : Gl X x := by rfl) (hdb : (x == ("__debug__" : Str)) = false := by decide)
    (hall : (backToKw pos (keywordEach kws X.env)).all (·.1.isSome) = true := by rfl) (hks : (backToKw pos (keywordEach kws X.env)).filterMap (·.1) = ks := by rfl)
    (hpl : ((backTo pos (starEach [] X.env)).any (·.1) || (backToKw pos (keywordEach kws X.env)).any (·.1.isNone)) = false := by rfl) : PE X (.Call (.Name x p) [] kws pos) (rC B W (mCallK as js w)) := by
  refine ⟨fun pins s σ H Q I ⟨F0, L, ρ, Qd, Ed, S, ht, hq, hx⟩ => ?_⟩
  refine wpAny_Call_Name_kw (ld_glob I hg hm ?_ hdb)
  refine PySem.W.callWith_KW0 (h₀ := X.base) I.ok.mod.kin hk hall ?_ hpl
  refine thn (ha.run pos pins s σ H (fun zs H2 => zs.length = ks.length ∧ spD B.K n ios w (pm js zs) H2 Q (WE W σ)) I ⟨F0, L, ρ, _, Ed, S, ht, fun kvs ρ1 vs F1 L1 H1 kk S1 s1 r hsh nw => ?_, hx⟩) fun ws s2 ⟨zs, H2, I2, rz, l2, q2⟩ => ⟨I2.kIn, ?_⟩
  · refine ⟨by rw [r.length, ← hlk, ← List.length_map (f := KV.sh), hsh, List.length_map], ?_⟩
    exact call_imp S1 s1 (pm_krs r) (by rw [pm_map, hsh]) (pm_new r nw) hn hio hgs kk hq hx
  · rw [hks]
    have rz2 := pm_vals (js := js) rz
    refine wpAny_call (codeAny_mono (F.run X.A X.stack s2 H2 ⟨[], ks.zip ws⟩ (pm js ws) (pm js zs) Q (WE W σ) hr I2.env0 (hb s2 ws (by rw [← rz.length, l2])) rz2 q2) fun r s' hq' => ?_)
    cases r with
    | error e => exact passAt tk σ pins H2 s2 e s' I2 hq'
    | ok fl =>
      cases fl with
      | ret u => exact I2.after hq'
      | next => exact False.elim hq'
      | brk => exact False.elim hq'
      | cont => exact False.elim hq'
end
end DL
/-! The data layer: exceptions raised; facts of the head. -/
namespace DL
open PySem PySem.Spec PyProof.Rows L2
/-! ### what the written part says of an own exception class with an own __init__ -/
def oexB (K : PySem.W.Frag) (x : Str) : Bool := (match K.lookup (He.ga K x) with
  | some ⟨.type "type", _, .cls cd, sl⟩ => (match cd.mro, sl.toList with
    | .ref C' :: bm, [_, _, _, _, some (.builtin n), _] => C' == He.ga K x && n == "ValueError.__new__" && !cd.hasDel && cd.hasDict && PySem.HandSPX.refsVE bm
    | _, _ => false)
  | _ => false) && (He.eqO (PySem.W.findIn K (.ref (He.ga K x)) "__setattr__") (some (some (.builtin "object.__setattr__"))) && (decide (PySem.W.subIn K (.ref (He.ga K x)) (.type "BaseException") = some true) && (decide (PySem.W.typeIn K (.ref (He.ga K x)) = some (.type "type")) &&
    (PySem.W.keepIn K (.ref (He.ga K x)) && (He.eqO (PySem.W.findIn K (.ref (He.ga K x)) "__init__") (some (some (.ref (He.ma K (He.ga K x) "__init__")))) && decide (PySem.W.typeIn K (.ref (He.ma K (He.ga K x) "__init__")) = some (.type "function")))))))
def noatB (K : PySem.W.Frag) (x f : Str) : Bool := He.eqO (PySem.W.findIn K (.ref (He.ga K x)) f) (some none)
/-- an own exception class, its __init__ and the field's name -/
structure Oex (K : PySem.W.Frag) (x f : Str) : Prop where
  cls : OexC K (He.ga K x)
  init : PySem.W.findIn K (.ref (He.ga K x)) "__init__" = some (some (.ref (He.ma K (He.ga K x) "__init__")))
  fn : PySem.W.typeIn K (.ref (He.ma K (He.ga K x) "__init__")) = some (.type "function")
  noat : PySem.W.findIn K (.ref (He.ga K x)) f = some none
theorem oex_ok {K : PySem.W.Frag} {x f : Str} (h : oexB K x = true) (h2 : noatB K x f = true) : Oex K x f := by
  unfold oexB at h
  simp only [Bool.and_eq_true, decide_eq_true_eq] at h
  obtain ⟨h0, hs, hsub, hty, hk, hi, hf⟩ := h
  refine ⟨⟨?_, He.eqO_ok hs, hsub, hty, hk⟩, He.eqO_ok hi, hf, He.eqO_ok h2⟩
  split at h0
  · rename_i dd cd sl ho
    split at h0
    · rename_i C' bm k0 k1 k2 k3 n k5 hm hsl
      simp only [Bool.and_eq_true, beq_iff_eq, Bool.not_eq_true'] at h0
      obtain ⟨⟨⟨⟨rfl, rfl⟩, hdel⟩, hdict⟩, hbm⟩ := h0
      obtain ⟨nm, bs, mro, ns, qn, hd, sn, sub, ab, col, del⟩ := cd
      dsimp only at hm hdel hdict
      subst hm hdel hdict
      have hsl2 : sl = #[k0, k1, k2, k3, some (.builtin "ValueError.__new__"), k5] := by
        obtain ⟨l⟩ := sl
        simp only at hsl
        rw [hsl]
      subst hsl2
      exact ⟨nm, qn, ns, bs, bm, sn, sub, ab, col, dd, k0, k1, k2, k3, k5, ho, hbm⟩
    · cases h0
  · cases h0
/-- what such an __init__ promises -/
def spIni (C : Addr) (f : Str) : Sp := fun vs H Q _ => ∃ a v, vs = [.ref a, v] ∧ H a = some (exo a C none) ∧ ∀ dx, H dx = none → dx ≠ a → Q .non (upd (upd H dx (exd dx [(f, v)])) a (exo a C (some dx)))
/-- def __init__(self, y): self.f = y -/
theorem ini_ok {K : PySem.W.Frag} {P : Program} {w : World} {mg : Str → Option Value} {base : Heap} {x qual : Str} {params : Arguments} {scope : Scope} {dvs : List V} {kws : List (Str × V)} {fa : Addr} {fd : FuncData} {f y c : Str} {p1 p2 p3 p4 : Pos}
    (Fd : FunD K x qual params [.Assign [.Attribute (.Name "self" p1) f p2] (.Name y p3) p4] scope dvs kws fa fd) (O : Oex K c f) (S : FnScope ["self", y] ["self", y] scope) (hs : scope.names.lookup ("self" : Str) = some .local) (hy : scope.names.lookup y = some .local)
    (hd : (y == ("__debug__" : Str)) = false) (hcd : (y == ("__classdict__" : Str)) = false) :
    FnOk P w K mg base (L2.CX P w) 1 fa fd ["self", y] (spIni (He.ga K c) f) := by
  refine Fd.ok S (fun vs H Q E h => ?_) fun cdv A outer s H vs Q E hr ⟨a, v, ev, ea, hq⟩ => ?_
  · obtain ⟨a, v, rfl, _⟩ := h
    rfl
  · subst ev
    refine ⟨_, pss_one (ps_ost (pe_var (i := 0) rfl (.inl hs)) (pe_var (i := 1) rfl (.inl hy) hd hcd)), ?_⟩
    exact ⟨v, rfl, .ref a, rfl, a, He.ga K c, rfl, O.cls, O.noat, .inl ⟨ea, fun dx n ne => hq dx n ne⟩⟩
/-! ### raise -/
def mRaise (c f : Str) (t : DE) : DS := fun D ρ => t ρ (fun d ρ1 => D.ex c [(f, d)] ρ1) D.ex
def mRaise0 (c : Str) : DS := fun D ρ => D.ex c [] ρ
section
variable {X : Cx} {B : Bd} {W : WX} {pos : Pos} {e : Expr}
theorem ds_raise {c f : Str} {t : DE} {fd : FuncData} {ps : List Str} {p p2 : Pos} {k : Nat} (hc : X.calm = true) (tk : Takes X W) (O : Oex X.K c f) (F : FnOk X.prog X.w X.K X.mg X.base (L2.CX X.prog X.w) k (He.ma X.K (He.ga X.K c) "__init__") fd ps (spIni (He.ga X.K c) f)) (hb : Binds X.K fd ps [])
    (hr : Room (k + 1) X.A) (hm : X.mg c = some (.ref (He.ga X.K c))) (ht : PE X e (rV B W t)) (hK : B.K = X.K := by rfl) (hg : Gl X c := by rfl) (hdb : (c == ("__debug__" : Str)) = false := by decide) (he : starEach [e] X.env = (false, eval e X.env) :: starEach [] X.env := by rfl) :
    PS X (.Raise (some (.Call (.Name c p) [e] [] p2)) none pos) (rS B W (mRaise c f t)) := by
  refine ps_imp (ps_raise hc tk (pmk_oex O.cls O.init O.fn F hr hb .nil passL hg hm (ddc ht ddn he) hdb he rfl)) fun D σ H ⟨F0, L, ρ, Dd, S, q, o⟩ => ?_
  have q' : mDs [t] ρ (fun ds ρ1 => ∃ d, ds = [d] ∧ Dd.ex c [(f, d)] ρ1) Dd.ex := by
    have e : (fun d ρ1 => Dd.ex c [(f, d)] ρ1) = fun d ρ1 => ∃ d', [d] = [d'] ∧ Dd.ex c [(f, d')] ρ1 := by
      funext d ρ1
      exact propext ⟨fun h => ⟨d, rfl, h⟩, fun ⟨d', e, h⟩ => by cases e; exact h⟩
    have q0 : t ρ (fun d ρ1 => Dd.ex c [(f, d)] ρ1) Dd.ex := q
    rw [e] at q0
    exact q0
  refine ⟨F0, L, ρ, _, Dd.ex, S, q', fun ds ρ1 vs F1 L1 H1 ⟨d, ed, k1⟩ S1 s1 r1 => ?_, o.ex⟩
  subst ed
  obtain ⟨v, r, ev, rv, rr⟩ := r1
  cases (show r = [] from rr)
  subst ev
  refine ⟨by simp, fun a ha => ⟨a, v, rfl, upd_same, fun dx hdx hne => ⟨rfl, dx, [(f, v)], upd_same, ?_, ?_, ?_⟩⟩⟩
  · rw [upd_ne hne, upd_same]
  · rw [upd_ne hne] at hdx
    exact hdx
  · have hdx1 : H1 dx = none := by
      rw [upd_ne hne] at hdx
      exact hdx
    have eH : upd (del (upd (upd (upd H1 a (exo a (He.ga X.K c) none)) dx (exd dx [(f, v)])) a (exo a (He.ga X.K c) (some dx))) a) dx (.xd [(f, v)]) = upd H1 dx (.xd [(f, v)]) := by
      funext b
      by_cases hb1 : b = dx
      · rw [hb1, upd_same, upd_same]
      · rw [upd_ne hb1, upd_ne hb1]
        by_cases hb2 : b = a
        · rw [hb2, del_same, ha]
        · rw [del_ne hb2, upd_ne hb2, upd_ne hb1, upd_ne hb2]
    rw [eH]
    have g : Grow F1 H1 F1 (upd H1 dx (.xd [(f, v)])) := ⟨Same.refl _, same_upd hdx1, fun _ _ z => .inl z⟩
    refine o.ex c [(f, d)] ρ1 _ _ σ F1 L1 _ k1 (S1.grow g (S1.sub.trans (same_upd hdx1))) s1.f ⟨by rw [hK], .inr ⟨dx, [(f, v)], rfl, upd_same, rfl, RpL.one rv⟩⟩
/-- raise C(), C without an own __init__ -/
theorem pmk_own0 {x : Str} {C : Addr} {bmB : List Value} {Bn newId initId : String} {p pos : Pos} (F : ExcBaseFacts Bn newId initId bmB) (q : PySem.W.excIn X.K C bmB newId = true) (gC : X.mg x = some (.ref C)) (kC : PySem.W.keepIn X.K (.ref C) = true) (r : Raises X (.ref C)) (hg : Gl X x)
    (hdb : (x == ("__debug__" : Str)) = false := by decide) : PMk X (.Call (.Name x p) [] [] pos) (fun _ H Q => Q (.ref C) none H) := by
  intro pins s σ H Q I h
  refine wpAny_Call_Name_kw (ld_glob I hg gC ?_ hdb)
  refine PySem.W.callWith_K0 I.kIn kC ?_
  obtain ⟨bm, N, nm, qn, bs, hdct, sn, sub, ab, col, dd, k0, k1, k2, k3, k5, mN, hC, hN, hni, T⟩ := exc_obj I.kIn q
  refine wpAny_call_exc_subT F T hC hN hni (fun h' e hm => ?_) (by show 0 ≤ sizeLine; exact Nat.zero_le _)
  exact mk_of I hm r h (I.hok.gone hm.new)
theorem ds_raise0 {c : Str} {p p2 : Pos} (hc : X.calm = true) (tk : Takes X W) (q : PySem.W.excIn X.K (He.ga X.K c) He.veBase "ValueError.__new__" = true ∧ PySem.W.keepIn X.K (.ref (He.ga X.K c)) = true ∧ PySem.W.subIn X.K (.ref (He.ga X.K c)) (.type "BaseException") = some true ∧ PySem.W.typeIn X.K (.ref (He.ga X.K c)) = some (.type "type"))
    (hm : X.mg c = some (.ref (He.ga X.K c))) (hK : B.K = X.K := by rfl) (hg : Gl X c := by rfl) (hdb : (c == ("__debug__" : Str)) = false := by decide) : PS X (.Raise (some (.Call (.Name c p) [] [] p2)) none pos) (rS B W (mRaise0 c)) := by
  refine ps_imp (ps_raise hc tk (pmk_own0 PySem.F.excBase_ValueError q.1 hm q.2.1 (raises_own q.2.2.1 q.2.2.2) hg hdb)) fun D σ H ⟨F0, L, ρ, Dd, S, k, o⟩ => ?_
  exact o.ex c [] ρ _ _ σ F0 L H k S (Same.refl _) ⟨by rw [hK], .inl ⟨rfl, rfl⟩⟩
end
/-- name = [..] on one line, the list made still at once -/
theorem ds_setLcV {X : Cx} {B : Bd} {W : WX} (i : Nat) {y : Str} {py pos : Pos} {elt tg iter : Expr} {ifs : List Expr} {scope : Scope} {spos : Pos} (own : List (Str × Nat)) {it : DI} {p : Pt} {tt : DT} {te : DE} (hc : X.calm = true) (hN : X.N.Nodup) (hi : PI X tg iter (rI B W it)) 
    (hg : ∀ (s : Shared) (H : Hp) (C : Addr) (cl : List (Str × Addr)) (fp : List Addr), PG (X.blk s H scope (compEnvC scope cl C X.env) fp) tg (rP B p)) (ht : ∀ (s : Shared) (H : Hp) (C : Addr) (cl : List (Str × Addr)) (fp : List Addr), PTs (X.blk s H scope (compEnvC scope cl C X.env) fp) ifs (rT B WF tt))
    (he : ∀ (s : Shared) (H : Hp) (C : Addr) (cl : List (Str × Addr)) (fp : List Addr), PE (X.blk s H scope (compEnvC scope cl C X.env) fp) elt (rV B WF te)) (hsw : swapsWith (.ListComp elt [⟨tg, iter, ifs, 0⟩] scope pos) (some (.Name y py)) spos.line X.env = pure true := by exact sw_true rfl rfl rfl rfl)
    (hy : X.N[i]? = some y := by rfl) (hyl : X.env.scope.names.lookup y = some .local := by rfl) (hioi : B.ios.contains i = false := by rfl) (ok : blkC X.N X.env.scope scope own = true := by rfl) (hio : ((own.map (·.2)).all fun v => !B.ios.contains v) = true := by rfl) (hp : ((ptNs p).all fun v => (own.map (·.2)).contains v) = true := by rfl)
    (hs : ∀ x, foldedSetIterable iter X.env x = pure x := by intro _; rfl) : PS X (.Assign [.Name y py] (.ListComp elt [⟨tg, iter, ifs, 0⟩] scope pos) spos) (rS B W (mAsg (.nm i) (vl (frz (mLc it p tt te (own.map (·.2))))))) := by
  refine ps_impL (ps_setLc hc hN hy hyl hsw hi (blkOk_by ok) hg ht he hs) fun D σ H hl h => ?_
  obtain ⟨F, L, ρ, Dd, S, q, o⟩ := h
  have hlt : i < σ.length := by rw [hl]; exact (List.getElem?_eq_some_iff.mp hy).1
  refine lc_imp hio hp ⟨F, L, ρ, fun c ρ1 => Dd.nx (ρ1.set i (some (.val c.toD))), Dd.ex, S, q, fun c ρ1 v F1 L1 H1 k S1 s1 r1 => ?_, o.ex⟩
  have k' : Dd.nx (ρ1.set i (some (.val c.toD))) := k
  cases c with
  | val d => exact o.nx _ _ _ _ _ k' (S1.put hioi hlt r1) s1.f
  | own ds =>
    obtain ⟨a, vs, e, h1, h2, h3, h4, h5, _⟩ := r1
    subst e
    exact o.nx _ _ _ _ _ k' ((S1.freeze h1 h2 h3 h4).put hioi hlt ⟨a, vs, rfl, upd_same, h5.mono (same_upd h2)⟩) (s1.f.trans (same_upd h2))
/-! ### names of the module: built-in types, numbers, texts -/
section
variable {X : Cx} {B : Bd} {W : WX} {pos : Pos}
theorem de_int' {x : Str} {i : Int} (h : ∃ t, X.mg x = some (.int i t)) (hg : Gl X x := by rfl) (hd : (x == ("__debug__" : Str)) = false := by decide) : PE X (.Name x pos) (rV B W (mK (.int i))) := by
  obtain ⟨t, hm⟩ := h
  exact de_glob hm (v := .int i) ⟨t, rfl⟩ (fun _ => rfl) hg hd
theorem de_str' {x z : Str} (h : ∃ t, X.mg x = some (.str z t)) (hg : Gl X x := by rfl) (hd : (x == ("__debug__" : Str)) = false := by decide) : PE X (.Name x pos) (rV B W (mK (.str z))) := by
  obtain ⟨t, hm⟩ := h
  exact de_glob hm (v := .str z) ⟨t, rfl⟩ (fun _ => rfl) hg hd
end
section
variable {X : Cx} {B : Bd} {W : WX} {pos : Pos}
theorem de_ty {x : Str} {n : String} (hm : X.mg x = none) (hv : bootBuiltins x = some (.type n) := by decide +kernel) (hg : Gl X x := by rfl) (hn : x ≠ "__name__" := by decide) (hd : (x == ("__debug__" : Str)) = false := by decide) : PE X (.Name x pos) (rV B W (mK (.ty n))) := de_K (pe_bltn hg hm hv (v := .ty n) rfl hn hd) (fun _ => rfl)
end
/-! ### the head's Hook -/
def obsM (n : Nat) (fa : List He.Fa) (fn : List He.DefD) (ex : PySem.W.Frag → Bool) (g : Addr → Option Obj) : He.AlD := ((He.obsD fa fn (He.frG g (He.asD g n))).1 && ex (He.frG g (He.asD g n)), (He.obsD fa fn (He.frG g (He.asD g n))).2)
def SaysM (fa : List He.Fa) (fn : List He.DefD) (ex : PySem.W.Frag → Bool) (K : PySem.W.Frag) : Prop := He.SaysD fa fn K ∧ ex K = true
theorem saysM_of {fa : List He.Fa} {fn : List He.DefD} {ex : PySem.W.Frag → Bool} {K : PySem.W.Frag} (e : ((He.obsD fa fn K).1 && ex K, (He.obsD fa fn K).2) = He.valD fn) : SaysM fa fn ex K := by
  have e1 : ((He.obsD fa fn K).1 && ex K) = true := by
    have z := congrArg (fun z : He.AlD => z.1) e
    exact z
  have e2 : (He.obsD fa fn K).2 = (He.valD fn).2 := by
    have z := congrArg (fun z : He.AlD => z.2) e
    exact z
  rw [Bool.and_eq_true] at e1
  exact ⟨Prod.ext e1.1 e2, e1.2⟩
def hookM (n : Nat) (fa : List He.Fa) (fn : List He.DefD) (ex : PySem.W.Frag → Bool) : PySem.W.Hook where
  α := He.AlD
  obs := fun s => obsM n fa fn ex s.heap.get?
  val := fun _ => He.valD fn
  says := fun _ h => ∃ K : PySem.W.Frag, K.In h ∧ SaysM fa fn ex K
  of := fun _ _ e => ⟨_, He.frG_in, saysM_of e⟩
  keeps := fun _ _ _ ⟨K, hK, c⟩ k => ⟨K, PySem.W.Frag.In.keeps hK k, c⟩
theorem obsM_eq {n : Nat} {fa : List He.Fa} {fn : List He.DefD} {ex : PySem.W.Frag → Bool} {g : Addr → Option Obj} {s : Shared} (h : ∀ a, g a = s.heap.get? a) : obsM n fa fn ex g = (hookM n fa fn ex).obs s := by
  have e : g = s.heap.get? := funext h
  rw [e] <;> rfl
end DL
/-! The head's Hook again, with a cheaper walk to what the globals reach. -/
namespace DL
open PySem PySem.Spec PyProof.Rows L2
/-- one address more, a number's bits told which are there -/
def addF (s : Nat × List Addr) (r : Addr) : Nat × List Addr := match Nat.testBit s.1 r with
  | true => s
  | false => (s.1 ||| (1 <<< r), r :: s.2)
def frontF (g : Addr → Option Obj) (m : Nat) (front : List Addr) : Nat × List Addr := front.foldl (fun t a => match g a with
  | some o => (He.refsD o).foldl addF t
  | none => t) (m, [])
def growF (g : Addr → Option Obj) : Nat → Nat → List Addr → List Addr → List Addr
  | 0, _, all, _ => all
  | n + 1, m, all, front => match frontF g m front with
    | (m', new) => growF g n m' (all ++ new) new
def asF (g : Addr → Option Obj) (n : Nat) : List Addr := growF g n (1 <<< mainGlobals) [mainGlobals] [mainGlobals]
def obsF (n : Nat) (fa : List He.Fa) (fn : List He.DefD) (ex : PySem.W.Frag → Bool) (g : Addr → Option Obj) : He.AlD := ((He.obsD fa fn (He.frG g (asF g n))).1 && ex (He.frG g (asF g n)), (He.obsD fa fn (He.frG g (asF g n))).2)
def hookF (n : Nat) (fa : List He.Fa) (fn : List He.DefD) (ex : PySem.W.Frag → Bool) : PySem.W.Hook where
  α := He.AlD
  obs := fun s => obsF n fa fn ex s.heap.get?
  val := fun _ => He.valD fn
  says := fun _ h => ∃ K : PySem.W.Frag, K.In h ∧ SaysM fa fn ex K
  of := fun _ _ e => ⟨_, He.frG_in, saysM_of e⟩
  keeps := fun _ _ _ ⟨K, hK, c⟩ k => ⟨K, PySem.W.Frag.In.keeps hK k, c⟩
theorem obsF_eq {n : Nat} {fa : List He.Fa} {fn : List He.DefD} {ex : PySem.W.Frag → Bool} {g : Addr → Option Obj} {s : Shared} (h : ∀ a, g a = s.heap.get? a) : obsF n fa fn ex g = (hookF n fa fn ex).obs s := by
  have e : g = s.heap.get? := funext h
  rw [e] <;> rfl
end DL
/-! The data layer: a def and its calls as one; the law's end. -/
namespace DL
open PySem PySem.Spec PyProof.Rows L2
/-- a def of the text that keeps its promise: lv how deep it calls, w what it does -/
structure DefOk (P : Program) (w : World) (K : PySem.W.Frag) (mg : Str → Option Value) (base : Heap) (lv : Nat) (x : Str) (st : Stmt) (fd : FuncData) (ps : List Str) (n : Nat) (ios : List Nat) (sp : DSp) : Prop where
  fun_ : FunD K x x (defArgs st) (defBody st) (defScope st) [] [] (He.ga K x) fd
  ok : FnOk P w K mg base (L2.CX P w) lv (He.ga K x) fd ps (spD K n ios sp)
  glo : mg x = some (.ref (He.ga K x))
  binds : Binds K fd ps []
section
variable {X : Cx} {B : Bd} {W : WX} {pos : Pos} {e : Expr} {es : List Expr}
theorem dc_callD {as : List KX} {n lv k : Nat} {ios : List Nat} {w : DSp} {fd : FuncData} {ps : List Str} {x : Str} {st : Stmt} {p : Pos} (D : DefOk X.prog X.w X.K X.mg X.base lv x st fd ps n ios w) (hr : Room k X.A) (hle : lv ≤ k) (tk : Takes X W) (ha : PA X (e :: es) (rK B W as)) (hK : B.K = X.K := by rfl)
    (hn : (as.map KX.sh).length = n := by rfl) (hio : iosS 0 (as.map KX.sh) = ios := by rfl) (hgs : goodS (as.map KX.sh) = true := by rfl) (hg : Gl X x := by rfl) (hdb : (x == ("__debug__" : Str)) = false := by decide)
    (he : starEach (e :: es) X.env = (false, eval e X.env) :: starEach es X.env := by rfl) (hpl : (backTo pos (starEach es X.env)).any (·.1) = false := by rfl) : PE X (.Call (.Name x p) (e :: es) [] pos) (rC B W (mCall as w)) :=
  dc_call (n := n) (ios := ios) (k := k) (by rw [hK]; exact D.ok.mono hle) hr tk D.glo D.fun_.kp D.binds ha hn hio hgs hg hdb he hpl
theorem dc_call0D {lv k : Nat} {w : DSp} {fd : FuncData} {ps : List Str} {x : Str} {st : Stmt} {p : Pos} (D : DefOk X.prog X.w X.K X.mg X.base lv x st fd ps 0 [] w) (hr : Room k X.A) (hle : lv ≤ k) (tk : Takes X W) (hK : B.K = X.K := by rfl)
    (hg : Gl X x := by rfl) (hdb : (x == ("__debug__" : Str)) = false := by decide) : PE X (.Call (.Name x p) [] [] pos) (rC B W (mCall [] w)) :=
  dc_call0 (k := k) (by rw [hK]; exact D.ok.mono hle) hr tk D.glo D.fun_.kp D.binds hg hdb
theorem dc_callKD {as : List KX} {n lv k : Nat} {ios : List Nat} {w : DSp} {fd : FuncData} {ps ks : List Str} {js : List Nat} {x : Str} {st : Stmt} {p : Pos} {kws : List Keyword} (D : DefOk X.prog X.w X.K X.mg X.base lv x st fd ps n ios w) (hb : BindsK fd ps ks js) (hr : Room k X.A) (hle : lv ≤ k) (tk : Takes X W) (ha : PK X kws (rK B W as)) (hK : B.K = X.K := by rfl)
    (hlk : as.length = ks.length := by rfl) (hn : (pm js (as.map KX.sh)).length = n := by rfl) (hio : iosS 0 (pm js (as.map KX.sh)) = ios := by rfl) (hgs : goodS (pm js (as.map KX.sh)) = true := by rfl) (hg : Gl X x := by rfl) (hdb : (x == ("__debug__" : Str)) = false := by decide)
    (hall : (backToKw pos (keywordEach kws X.env)).all (·.1.isSome) = true := by rfl) (hks : (backToKw pos (keywordEach kws X.env)).filterMap (·.1) = ks := by rfl)
    (hpl : ((backTo pos (starEach [] X.env)).any (·.1) || (backToKw pos (keywordEach kws X.env)).any (·.1.isNone)) = false := by rfl) : PE X (.Call (.Name x p) [] kws pos) (rC B W (mCallK as js w)) :=
  dc_callK (n := n) (ios := ios) (k := k) (by rw [hK]; exact D.ok.mono hle) hr tk D.glo D.fun_.kp hb ha hlk hn hio hgs hg hdb hall hks hpl
/-! x.append(e), x.extend(e) with their walk -/
theorem he_app (i : Nat) {x : Str} {t : DE} {p apos cpos : Pos} (he : PE X e (rV B W t)) (hN : X.N[i]? = some x := by rfl) (hv : Vis X.env.scope x := by first | exact Or.inl rfl | exact Or.inr (Or.inl rfl) | exact Or.inr (Or.inr rfl)) (hd : (x == ("__debug__" : Str)) = false := by decide)
    (hcd : (x == ("__classdict__" : Str)) = false := by decide) (hbase : attributeBase (.Name x p) "append" X.env (eval (.Name x p) X.env) = eval (.Name x p) X.env := by rfl)
    (hfew : ((backTo cpos (starEach [e] X.env)).all (fun x => !x.1) && (backToKw cpos (keywordEach [] X.env)).all (fun x => x.1.isSome)
      && decide ([e].length + ([] : List Keyword).length + (if ([] : List Keyword).isEmpty then 0 else 1) < 30)) = true := by rfl)
    (hline : (apos.endLine == cpos.line) = true := by rfl) (hs : starEach [e] X.env = (false, eval e X.env) :: starEach [] X.env := by rfl) (hplain : (backTo cpos (starEach [] X.env)).any (·.1) = false := by rfl) :
    PE X (.Call (.Attribute (.Name x p) "append" apos) [e] [] cpos) (tBM X.K "list" rAppend (tVar i) (tCons (rV B W t) tNil)) :=
  pe_bm PySem.F.plainAttrs_list PySem.F.slot_list_append PySem.F.type_list_append mt_append (pe_var (i := i) hN hv hd hcd) (pa_cons he pa_nil hs) hbase hfew hline hs hplain
theorem he_ext (i : Nat) {x : Str} {t : DE} {p apos cpos : Pos} (he : PE X e (rV B W t)) (hN : X.N[i]? = some x := by rfl) (hv : Vis X.env.scope x := by first | exact Or.inl rfl | exact Or.inr (Or.inl rfl) | exact Or.inr (Or.inr rfl)) (hd : (x == ("__debug__" : Str)) = false := by decide)
    (hcd : (x == ("__classdict__" : Str)) = false := by decide) (hbase : attributeBase (.Name x p) "extend" X.env (eval (.Name x p) X.env) = eval (.Name x p) X.env := by rfl)
    (hfew : ((backTo cpos (starEach [e] X.env)).all (fun x => !x.1) && (backToKw cpos (keywordEach [] X.env)).all (fun x => x.1.isSome)
      && decide ([e].length + ([] : List Keyword).length + (if ([] : List Keyword).isEmpty then 0 else 1) < 30)) = true := by rfl)
    (hline : (apos.endLine == cpos.line) = true := by rfl) (hs : starEach [e] X.env = (false, eval e X.env) :: starEach [] X.env := by rfl) (hplain : (backTo cpos (starEach [] X.env)).any (·.1) = false := by rfl) :
    PE X (.Call (.Attribute (.Name x p) "extend" apos) [e] [] cpos) (tBM X.K "list" rExtend (tVar i) (tCons (rV B W t) tNil)) :=
  pe_bm PySem.F.plainAttrs_list PySem.F.slot_list_extend PySem.F.type_list_extend mt_extend (pe_var (i := i) hN hv hd hcd) (pa_cons he pa_nil hs) hbase hfew hline hs hplain
theorem ds_appB (i : Nat) {x : Str} {t : DE} {p apos cpos : Pos} (he : PE X e (rV B W t)) (hN : X.N[i]? = some x := by rfl) (hv : Vis X.env.scope x := by first | exact Or.inl rfl | exact Or.inr (Or.inl rfl) | exact Or.inr (Or.inr rfl)) (hd : (x == ("__debug__" : Str)) = false := by decide)
    (hcd : (x == ("__classdict__" : Str)) = false := by decide) (hbase : attributeBase (.Name x p) "append" X.env (eval (.Name x p) X.env) = eval (.Name x p) X.env := by rfl)
    (hfew : ((backTo cpos (starEach [e] X.env)).all (fun x => !x.1) && (backToKw cpos (keywordEach [] X.env)).all (fun x => x.1.isSome)
      && decide ([e].length + ([] : List Keyword).length + (if ([] : List Keyword).isEmpty then 0 else 1) < 30)) = true := by rfl)
    (hline : (apos.endLine == cpos.line) = true := by rfl) (hs : starEach [e] X.env = (false, eval e X.env) :: starEach [] X.env := by rfl) (hplain : (backTo cpos (starEach [] X.env)).any (·.1) = false := by rfl)
    (hsw : swapsWith (.Call (.Attribute (.Name x p) "append" apos) [e] [] cpos) none pos.line X.env = pure false := by rfl) : PS X (.Expr (.Call (.Attribute (.Name x p) "append" apos) [e] [] cpos) pos) (rS B W (mApp i t)) :=
  ds_app i he hN hv hd hcd (he_app i he hN hv hd hcd hbase hfew hline hs hplain) hsw
theorem ds_extB (i : Nat) {x : Str} {t : DE} {p apos cpos : Pos} (he : PE X e (rV B W t)) (hN : X.N[i]? = some x := by rfl) (hv : Vis X.env.scope x := by first | exact Or.inl rfl | exact Or.inr (Or.inl rfl) | exact Or.inr (Or.inr rfl)) (hd : (x == ("__debug__" : Str)) = false := by decide)
    (hcd : (x == ("__classdict__" : Str)) = false := by decide) (hbase : attributeBase (.Name x p) "extend" X.env (eval (.Name x p) X.env) = eval (.Name x p) X.env := by rfl)
    (hfew : ((backTo cpos (starEach [e] X.env)).all (fun x => !x.1) && (backToKw cpos (keywordEach [] X.env)).all (fun x => x.1.isSome)
      && decide ([e].length + ([] : List Keyword).length + (if ([] : List Keyword).isEmpty then 0 else 1) < 30)) = true := by rfl)
    (hline : (apos.endLine == cpos.line) = true := by rfl) (hs : starEach [e] X.env = (false, eval e X.env) :: starEach [] X.env := by rfl) (hplain : (backTo cpos (starEach [] X.env)).any (·.1) = false := by rfl)
    (hsw : swapsWith (.Call (.Attribute (.Name x p) "extend" apos) [e] [] cpos) none pos.line X.env = pure false := by rfl) : PS X (.Expr (.Call (.Attribute (.Name x p) "extend" apos) [e] [] cpos) pos) (rS B W (mExt i t)) :=
  ds_ext i he hN hv hd hcd (he_ext i he hN hv hd hcd hbase hfew hline hs hplain) hsw
end
theorem pss_eq {X : Cx} {B : Bd} {W : WX} {st : List Stmt} {t u : DS} (e : u = t) (h : PSs X st (rS B W t)) : PSs X st (rS B W u) := by
  rw [e]
  exact h
/-! ### what the head tells -/
structure Zx (fa : List He.Fa) (fn : List He.DefD) (ex : PySem.W.Frag → Bool) (K : PySem.W.Frag) (mg : Str → Option Value) (base : Heap) : Prop where
  x : K.In base
  g : base.Ns mainGlobals mg
  c : SaysM fa fn ex K
section
variable {fa : List He.Fa} {fn : List He.DefD} {ex : PySem.W.Frag → Bool} {K : PySem.W.Frag} {mg : Str → Option Value} {base : Heap}
theorem Zx.free (Z : Zx fa fn ex K mg base) (i : Nat) {x : Str} (h : fa[i]? = some (.free x) := by rfl) : mg x = none := He.free_ok Z.x Z.g (Z.c.1.fact i h)
theorem Zx.glo (Z : Zx fa fn ex K mg base) (i : Nat) {x : Str} (h : fa[i]? = some (.glo x) := by rfl) : mg x = some (.ref (He.ga K x)) := He.glo_ok Z.x Z.g (Z.c.1.fact i h)
theorem Zx.int (Z : Zx fa fn ex K mg base) (i : Nat) {x : Str} {j : Int} (h : fa[i]? = some (.int x j) := by rfl) : ∃ t, mg x = some (.int j t) := He.int_ok Z.x Z.g (Z.c.1.fact i h)
theorem Zx.str (Z : Zx fa fn ex K mg base) (i : Nat) {x z : Str} (h : fa[i]? = some (.str x z) := by rfl) : ∃ t, mg x = some (.str z t) := He.str_ok Z.x Z.g (Z.c.1.fact i h)
theorem Zx.exc (Z : Zx fa fn ex K mg base) (i : Nat) {x : Str} (h : fa[i]? = some (.exc x) := by rfl) : PySem.W.excIn K (He.ga K x) He.veBase "ValueError.__new__" = true ∧ PySem.W.keepIn K (.ref (He.ga K x)) = true ∧ PySem.W.subIn K (.ref (He.ga K x)) (.type "BaseException") = some true ∧ PySem.W.typeIn K (.ref (He.ga K x)) = some (.type "type") := He.exc_ok (Z.c.1.fact i h)
theorem Zx.def_ (Z : Zx fa fn ex K mg base) (i : Nat) {d : He.DefD} (h : fn[i]? = some d := by rfl) : ∃ fd, FunD K d.name d.qual d.params d.body d.scope (d.dvs K) (d.kws K) (He.fAd K d.at_) fd := Z.c.1.def_ i h
end
/-- a fact of K among the extra ones -/
def exAll (es : List (PySem.W.Frag → Bool)) (K : PySem.W.Frag) : Bool := es.all fun e => e K
theorem exAll_at {es : List (PySem.W.Frag → Bool)} {K : PySem.W.Frag} (h : exAll es K = true) (i : Nat) {e : PySem.W.Frag → Bool} (he : es[i]? = some e) : e K = true := List.all_eq_true.mp h e (List.mem_of_getElem? he)
/-- the module's name x stands for a built-in function -/
def bltB (x : Str) (id : String) (K : PySem.W.Frag) : Bool := match PySem.W.nsIn K mainGlobals x with
  | some (some (.builtin j)) => decide (j = id)
  | _ => false
theorem bltB_ok {K : PySem.W.Frag} {h : Heap} {mg : Str → Option Value} {x : Str} {id : String} (X : K.In h) (G : h.Ns mainGlobals mg) (c : bltB x id K = true) : mg x = some (.builtin id) := by
  unfold bltB at c
  split at c
  · rename_i j e
    have := of_decide_eq_true c
    subst this
    exact PySem.W.mg_of X G e
  · cases c
/-- a tuple of numbers and texts that the module names -/
inductive Flat where
  | i (n : Int) | s (x : Str)
def Flat.d : Flat → D
  | .i n => .int n
  | .s x => .str x
def Flat.v : Flat → He.Dv
  | .i n => .int n
  | .s x => .str x
theorem flat_rp {K : PySem.W.Frag} {F : Hp} : ∀ fs : List Flat, RpL K F (fs.map Flat.d) ((fs.map Flat.v).map (He.Dv.v K))
  | [] => rfl
  | .i n :: fs => ⟨.int n, _, rfl, rfl, flat_rp fs⟩
  | .s x :: fs => ⟨.str x, _, rfl, rfl, flat_rp fs⟩
theorem tup_rp {K : PySem.W.Frag} {x : Str} {fs : List Flat} (h : He.tupB K x (fs.map Flat.v) = true) : ∀ F, Rp K F (.tup (fs.map Flat.d)) (.ref (He.ga K x)) := fun F => ⟨_, _, rfl, He.tupB_ok h F, flat_rp fs⟩
theorem funD_inj {K : PySem.W.Frag} {x x' q q' : Str} {pa pa' : Arguments} {b b' : List Stmt} {sc sc' : Scope} {dv dv' : List V} {kw kw' : List (Str × V)} {f : Addr} {fd fd' : FuncData} (F : FunD K x q pa b sc dv kw f fd) (F' : FunD K x' q' pa' b' sc' dv' kw' f fd') : fd = fd' := by
  obtain ⟨oc, od, _, _, _, _, _, _, _, osl, _, lk, _⟩ := F.ex
  obtain ⟨oc', od', _, _, _, _, _, _, _, osl', _, lk', _⟩ := F'.ex
  rw [lk] at lk'
  injection lk' with z
  injection z with z1 z2 z3 z4
  injection z3
/-- the law's def, over every base -/
theorem law_def_of {fa : List He.Fa} {fn : List He.DefD} {ex : PySem.W.Frag → Bool} {P : Program} {w : World} {K : PySem.W.Frag} {mg : Str → Option Value} {h : Heap} {lv : Nat} {x a : Str} {st : Stmt} {sp : DSp}
    (H : ∀ base : Heap, Zx fa fn ex K mg base → ∃ fd, DefOk P w K mg base lv x st fd [a] 1 [] sp) (X : K.In h) (G : h.Ns mainGlobals mg) (c : SaysM fa fn ex K)
    (hb : ∀ (kV doc pm : Value) (an : Option Addr) (cdv ct : Value) (us : List Value), us.length = [a].length → bindArgs (PySem.W.fnOf x x (defArgs st) (defBody st) (defScope st) .none kV doc pm an cdv ct) ⟨us, []⟩ = pure ([a].zip us)) :
    ∃ fd, mg x = some (.ref (He.ga K x)) ∧ (∀ (s : Shared) (u : Value), BindsTo s fd ⟨[u], []⟩ [(a, u)]) ∧ ∀ base : Heap, K.In base → base.Ns mainGlobals mg → FnOk P w K mg base (L2.CX P w) lv (He.ga K x) fd [a] (spD K 1 [] sp) := by
  obtain ⟨fd, D⟩ := H h ⟨X, G, c⟩
  refine ⟨fd, D.glo, fun s u => D.fun_.bindsA (ps := [a]) hb s [u] rfl, fun base X' G' => ?_⟩
  obtain ⟨fd', D'⟩ := H base ⟨X', G', c⟩
  have e := funD_inj D.fun_ D'.fun_
  subst e
  exact D'.ok
/-! ### the law's end -/
def lawD (ns : List Int) : List Cell := [.val (.fix (ns.map D.int))]
theorem law_sp {K : PySem.W.Frag} {w : DSp} {H : Hp} {a : Addr} {ns : List Int} (hS : SqL K H a (ns.map V.int)) (h : w (lawD ns) (fun c _ => c = .val (.bl true)) (fun _ _ _ => False)) : spD K 1 [] w [.ref a] H (fun v _ => v = .bl true) fun _ _ _ => False := by
  refine ⟨H, fun _ => none, lawD ns, fun _ => 0, _, _, rfl, ⟨rfl, Same.refl H, fun i => ?_, fun i j a h => (by cases h), Same.refl H, fun a o h => .inl h, fun a o h _ => h, fun j hj => (by cases hj), fun a h => h⟩, h, fun c o v F' H' q _ r => ?_, fun _ _ _ _ _ _ _ q _ _ => q⟩
  · match i with
    | 0 => exact ⟨rfl, _, rfl, a, ns.map V.int, rfl, hS, RpL.ints ns⟩
    | i + 1 =>
      show SlotR _ _ _ (([] : En).getD i none) (([] : L2.St).getD i none) _
      simp only [List.getD_nil]
      exact rfl
  · subst q
    exact r
/-- a law's end: what may be let out told at each world, the script's bits told -/
theorem walk_ofM {l : PySem.W.OpenLaw} {n k : Nat} {q : Program} {loose : List Str} {XP : (Str → Option Value) → Heap → Prop} {YP : World → Heap → Prop} {d : DefRec} {CX : World → CXT} {x : Str}
    (hn : l.most = some n) (hn2 : n ≤ sizeLine) (hdf : d.params.defaults = []) (hr : Room k callerA)
    (F : ∀ (w : World) (mg : Str → Option Value) (fa : Addr) (h : Heap), YP w h → h.Ns mainGlobals mg → mg d.name = some (.ref fa) →
      ∃ (K : PySem.W.Frag) (fd : FuncData) (sp : Sp), K.In h ∧ (∀ (s : Shared) (u : Value), BindsTo s fd ⟨[u], []⟩ [(x, u)]) ∧
        (∀ (H : Hp) (a : Addr) (ns : List Int), ns.length ≤ n → (∀ i ∈ ns, Builtin.Int.intBits i ≤ 1048576) → SqL K H a (ns.map V.int) → sp [.ref a] H (fun v _ => v = .bl true) fun _ _ _ => False) ∧
        ∀ base : Heap, K.In base → base.Ns mainGlobals mg → FnOk l.prog w K mg base (CX w) k fa fd [x] sp)
    (hCX : ∀ (w : World) (H : Hp) (s : Shared) (e : Value) (s' : Shared), CX w [] H s (fun _ _ _ => False) e s' → False) :
    PySem.W.WalkO q loose XP YP l.row.toRowW d [] (fun f vs => PySem.call f vs) := by
  refine Att.attach_callB hn hdf fun w s₀ s₁ mg mb fa o pm cd doc a vs ns G Y ho hd hcd hmg hobj hints hlen hbits hg => ?_
  obtain ⟨K, fd, sp, KX, hb, hsp, hF⟩ := F w mg fa _ Y G.T.g hmg
  exact law_call KX G.T.g G.T.b G.T.builtins G.T.nolimit hg hobj hints (Nat.le_trans hlen hn2) hr hF hb (fun H _ hS => hsp H a ns hlen hbits hS) fun H e s' => hCX w H s₁ e s'
end DL
/-! The data layer: membership. -/
namespace DL
open PySem PySem.Spec PyProof.Rows L2
/-- flat data as a value -/
def flatD : D → Option V
  | .non => some .non
  | .bl b => some (.bl b)
  | .int i => some (.int i)
  | .str x => some (.str x)
  | _ => none
def flatsD : List D → Option (List V)
  | [] => some []
  | d :: ds => match flatD d, flatsD ds with
    | some v, some vs => some (v :: vs)
    | _, _ => none
theorem flatD_ok {K : PySem.W.Frag} {F : Hp} : ∀ {d : D} {u v : V}, Rp K F d u → flatD d = some v → u = v ∧ flatV v = true
  | .non, _, _, h, e => by cases (show _ = V.non from h); cases e; exact ⟨rfl, rfl⟩
  | .bl _, _, _, h, e => by cases (show _ = V.bl _ from h); cases e; exact ⟨rfl, rfl⟩
  | .int _, _, _, h, e => by cases (show _ = V.int _ from h); cases e; exact ⟨rfl, rfl⟩
  | .str _, _, _, h, e => by cases (show _ = V.str _ from h); cases e; exact ⟨rfl, rfl⟩
  | .tup _, _, _, _, e => by cases e
  | .lst _, _, _, _, e => by cases e
  | .fix _, _, _, _, e => by cases e
  | .dic _ _, _, _, _, e => by cases e
  | .obj _ _ _, _, _, _, e => by cases e
  | .adr _, _, _, _, e => by cases e
  | .rng _ _, _, _, _, e => by cases e
  | .ty _, _, _, _, e => by cases e
theorem flatV_ok {K : PySem.W.Frag} {F H : Hp} : ∀ {d : D} {u v : V}, RpV K F H d u → flatD d = some v → u = v ∧ flatV v = true
  | .non, _, _, h, e => flatD_ok (F := F) (K := K) (d := .non) h e
  | .bl _, _, _, h, e => flatD_ok (F := F) (K := K) (d := .bl _) h e
  | .int _, _, _, h, e => flatD_ok (F := F) (K := K) (d := .int _) h e
  | .str _, _, _, h, e => flatD_ok (F := F) (K := K) (d := .str _) h e
  | .tup _, _, _, _, e => by cases e
  | .lst _, _, _, _, e => by cases e
  | .fix _, _, _, _, e => by cases e
  | .dic _ _, _, _, _, e => by cases e
  | .obj _ _ _, _, _, _, e => by cases e
  | .adr _, _, _, _, e => by cases e
  | .rng _ _, _, _, _, e => by cases e
  | .ty _, _, _, _, e => by cases e
theorem flatsD_ok {K : PySem.W.Frag} {F : Hp} : ∀ {ds : List D} {us vs : List V}, RpL K F ds us → flatsD ds = some vs → us = vs ∧ vs.all flatV = true
  | [], us, vs, h, e => by
    cases (show us = [] from h)
    cases e
    exact ⟨rfl, rfl⟩
  | d :: ds, us, vs, ⟨u, r, eu, h1, h2⟩, e => by
    subst eu
    have e' : (match flatD d, flatsD ds with | some v, some vs => some (v :: vs) | _, _ => none) = some vs := e
    split at e'
    · rename_i v ws e1 e2
      cases e'
      obtain ⟨rfl, q1⟩ := flatD_ok h1 e1
      obtain ⟨rfl, q2⟩ := flatsD_ok h2 e2
      exact ⟨rfl, by rw [List.all_cons, q1, q2]; rfl⟩
    · cases e'
/-- x in y: y a tuple of flat data; a list of whatever may be compared -/
def fInN (neg : Bool) : DOp2
  | x, .tup ds => match flatD x, flatsD ds with
    | some v, some vs => some (.val (.bl (if neg then !inV v vs else inV v vs)))
    | _, _ => none
  | x, .lst ds => if eqOk x = true ∧ eqOk (.lst ds) = true then some (.val (.bl (if neg then !((toPyL ds).any fun z => PyData.eqv z (toPy x)) else ((toPyL ds).any fun z => PyData.eqv z (toPy x))))) else none
  | _, _ => none
abbrev fIn : DOp2 := fInN false
abbrev fNin : DOp2 := fInN true
def rInA (K : PySem.W.Frag) : R2 := fun x y H Q => rIn K false x y H Q ∨ rInD K x y H Q
def rNinA (K : PySem.W.Frag) : R2 := fun x y H Q => rIn K true x y H Q ∨ rNotInD K x y H Q
theorem units65 {k : Nat} {A : Around} (r : Room k A) : A.units + 65 < cLine := by
  have := r.un
  omega
theorem op_inA {X : Cx} (hu : X.A.units + 65 < cLine) : OpR X (compareOp .In) (rInA X.K) := OpR.or op_in_seq (op_inD hu)
theorem op_ninA {X : Cx} (hu : X.A.units + 65 < cLine) : OpR X (compareOp .NotIn) (rNinA X.K) := OpR.or op_notIn_seq (op_notInD hu)
theorem inN_tup {K : PySem.W.Frag} {F H : Hp} {x : D} {ds : List D} {v1 v2 : V} {neg : Bool} {c : Cell} {Q : VK} (sb : Same F H) (h1 : RpV K F H x v1) (h2 : RpV K F H (.tup ds) v2) (e : fInN neg x (.tup ds) = some c)
    (q : ∀ v F' H', Grow F H F' H' → Same F' H' → NewR K H c v F' H' → Q v H') : rIn K neg v1 v2 H Q := by
  have e' : (match flatD x, flatsD ds with | some v, some vs => some (Cell.val (.bl (if neg then !inV v vs else inV v vs))) | _, _ => none) = some c := by cases x <;> exact e
  split at e'
  · rename_i v vs a1 a2
    cases e'
    obtain ⟨a, us, rfl, q1, r1⟩ := RpV.tup_ sb h2
    obtain ⟨rfl, f1⟩ := flatV_ok h1 a1
    obtain ⟨rfl, f2⟩ := flatsD_ok r1 a2
    exact ⟨a, _, rfl, .inr q1, f1, f2, fin_val sb q rfl⟩
  · cases e'
theorem fIn_ok {K : PySem.W.Frag} : Op2 K (rInA K) fIn := by
  intro F H d1 d2 v1 v2 c Q sb h1 h2 e q
  cases d2 <;> first | (cases d1 <;> cases e; done) | skip
  · exact .inl (inN_tup sb h1 h2 e q)
  · rename_i ds
    have e' : (if eqOk d1 = true ∧ eqOk (.lst ds) = true then some (Cell.val (.bl ((toPyL ds).any fun z => PyData.eqv z (toPy d1)))) else none) = some c := by cases d1 <;> exact e
    split at e'
    · rename_i hc
      cases e'
      exact .inr ⟨toPy d1, toPyL ds, RpV.dp sb (shaped_ hc.1) h1, RpV.dp (d := .lst ds) sb (shaped_ hc.2) h2, hc.1, hc.2, fin_val sb q rfl⟩
    · cases e'
theorem fNin_ok {K : PySem.W.Frag} : Op2 K (rNinA K) fNin := by
  intro F H d1 d2 v1 v2 c Q sb h1 h2 e q
  cases d2 <;> first | (cases d1 <;> cases e; done) | skip
  · exact .inl (inN_tup sb h1 h2 e q)
  · rename_i ds
    have e' : (if eqOk d1 = true ∧ eqOk (.lst ds) = true then some (Cell.val (.bl (!((toPyL ds).any fun z => PyData.eqv z (toPy d1))))) else none) = some c := by cases d1 <;> exact e
    split at e'
    · rename_i hc
      cases e'
      exact .inr ⟨toPy d1, toPyL ds, RpV.dp sb (shaped_ hc.1) h1, RpV.dp (d := .lst ds) sb (shaped_ hc.2) h2, hc.1, hc.2, fin_val sb q rfl⟩
    · cases e'
end DL
/-! The data layer: dict displays of constants, str of an int. -/
namespace DL
open PySem PySem.Spec PyProof.Rows L2
section
variable {X : Cx} {B : Bd} {W : WX} {pos p1 p2 : Pos}
theorem de_dic0 : PE X (.Dict [] [] pos) (rV B W (mK (.dic [] []))) := by
  refine pe_imp pe_dnewK fun σ H Q ⟨F, L, ρ, Qd, Ed, S, ht, hq, hx⟩ p hp => ?_
  obtain ⟨g, s⟩ := grow_upd (o := .dK []) S.sub hp
  exact hq (.dic [] []) ρ _ _ L _ ht (S.grow g s) g.stp ⟨p, [], rfl, upd_same, rfl, rfl⟩
theorem de_dic1 {k : Str} {i : Int} {j1 j2 : Nat} : PE X (.Dict [some (.Constant (.str k) j1 p1)] [.Constant (.int i) j2 p2] pos) (rV B W (mK (.dic [.inr k] [.int i]))) := by
  refine pe_imp (pe_disp (pps_cons pe_str pe_int pps_nil) rfl rfl (by simp) (Nat.le_of_ble_eq_true rfl)) fun σ H Q ⟨F, L, ρ, Qd, Ed, S, ht, hq, hx⟩ p hp => ?_
  refine ⟨upd_same, [(.inr k, .int i)], rfl, Nat.le_of_ble_eq_true rfl, ?_⟩
  have e : upd (upd H p (.dK [])) p (.dK (mergeK [] [(.inr k, .int i)])) = upd H p (.dK [(.inr k, .int i)]) := by
    funext b
    unfold upd
    split <;> rfl
  rw [e]
  obtain ⟨g, s⟩ := grow_upd (o := .dK [(.inr k, .int i)]) S.sub hp
  exact hq (.dic [.inr k] [.int i]) ρ _ _ L _ ht (S.grow g s) g.stp ⟨p, [.int i], rfl, upd_same, rfl, _, _, rfl, rfl, rfl⟩
end
/-! ### a display under a name -/
section
variable {X : Cx} {B : Bd} {W : WX} {e : Expr}
theorem de_eq {t u : DE} (h : u = t) (k : PE X e (rV B W t)) : PE X e (rV B W u) := by rw [h]; exact k
theorem dc_eq {t u : DC} (h : u = t) (k : PE X e (rC B W t)) : PE X e (rC B W u) := by rw [h]; exact k
end
/-! ### str -/
def gStr : D → Option Cell
  | .int i => if i.natAbs.log2 < 1920 then some (.val (.str (toString i))) else none
  | .str x => some (.val (.str x))
  | _ => none
abbrev fStr : DOpN := n1 gStr
def rStr : List V → Hp → VK → Prop := fun xs H Q => (∃ i : Int, xs = [.int i] ∧ i.natAbs.log2 < 1920 ∧ Q (.str (toString i)) H) ∨ ∃ a, xs = [.str a] ∧ Q (.str a) H
theorem fStr_ok {K : PySem.W.Frag} : OpN K rStr fStr := by
  refine n1_ok fun F H d v c Q sb h e q => ?_
  cases d <;> first | (cases e; done) | skip
  · rename_i i
    cases (show v = V.int i from h)
    simp only [gStr] at e
    split at e
    · cases e
      exact .inl ⟨i, rfl, by assumption, fin_val sb q rfl⟩
    · cases e
  · rename_i x
    cases (show v = V.str x from h)
    cases e
    exact .inr ⟨x, rfl, fin_val sb q rfl⟩
theorem call_str {X : Cx} : CallR X (.type "str") rStr := call_str_int.or SkE.call_str_str
end DL
/-! The data layer: t[::-1]. -/
namespace HT
open PySem PySem.Spec PySem.W PySem.Calls PyProof.Rows
theorem adjust_rev (n : Nat) : Builtin.Slice.sliceAdjust none none (-1) (n : Int) = ((n : Int) - 1, -1) := by
  unfold Builtin.Slice.sliceAdjust
  simp
theorem places_rev (n : Nat) : Builtin.Slice.slicePlaces ((n : Int) - 1) (-1) (-1) = n := by
  unfold Builtin.Slice.slicePlaces
  have h1 : ¬ ((-1 : Int) > 0) := by omega
  simp only [h1, if_false]
  rw [show (- -1 : Int) = 1 by decide, Int.ediv_one]
  split <;> omega
theorem pick_rev (xs : Array Value) : ((List.range xs.size).filterMap fun (m : Nat) => xs[((((xs.size : Nat) : Int) - 1) + (m : Int) * (-1)).toNat]?).toArray = xs.toList.reverse.toArray := by
  have e : (List.range xs.size).filterMap (fun (m : Nat) => xs[((((xs.size : Nat) : Int) - 1) + (m : Int) * (-1)).toNat]?) = ((List.range xs.size).map fun m => xs.size - 1 - m).filterMap (xs[·]?) := by
    rw [List.filterMap_map]
    refine congrFun (congrArg _ (funext fun m => ?_)) _
    show xs[((((xs.size : Nat) : Int) - 1) + (m : Int) * (-1)).toNat]? = xs[xs.size - 1 - m]?
    by_cases h : 0 < xs.size
    · congr 1
      omega
    · have h0 : xs.size = 0 := by omega
      rw [Array.getElem?_eq_none (by omega), Array.getElem?_eq_none (by omega)]
  rw [e]
  have e2 : (List.range xs.size).map (fun m => xs.size - 1 - m) = (List.range xs.size).reverse := by
    apply List.ext_getElem
    · simp
    · intro i h1 h2
      simp
  rw [e2, List.filterMap_reverse]
  have e3 : (List.range xs.size).filterMap (xs[·]?) = xs.toList := by
    apply List.ext_getElem?
    intro i
    have := pick_run xs 0 xs.size
    have e4 : (List.range xs.size).map (0 + ·) = List.range xs.size := by
      rw [show ((0 + ·) : Nat → Nat) = id from funext fun k => Nat.zero_add k, List.map_id]
    rw [e4, List.drop_zero, List.take_of_length_le (by rw [Array.length_toList]; exact Nat.le_refl _)] at this
    rw [this]
  rw [e3]
section
variable {prog : Program} {w : World} {A : Around} {E : Value → Shared → Prop} {s : Shared}
theorem sliceApplied_rev {sl : Addr} {n : Nat} {u : Tok} {Q : Int × Int × Nat → Shared → Prop} (hs : s.heap.IsSliceOf sl .none .none (.int (-1) u))
    (h : Q ((n : Int) - 1, -1, n) s) : wpAny (model prog w) A (Builtin.Slice.sliceApplied (.ref sl) (pure (n : Int))) Q E s := by
  obtain ⟨os, hos, hcs, hds⟩ := id hs
  unfold Builtin.Slice.sliceApplied Builtin.Slice.sliceFields
  refine wpAny_bind (wpAny_bind (wpAny_field hos hds (x := .none) rfl (wpAny_bind (wpAny_field hos hds (x := .none) rfl (wpAny_bind (wpAny_field hos hds (x := .int (-1) u) rfl (wpAny_pure ?_)))))))
  refine wpAny_bind (slicePart_int ?_)
  show wpAny _ _ (if ((-1 : Int) == 0) = true then _ else _) _ _ s
  rw [if_neg (by decide)]
  refine wpAny_bind (slicePart_none (wpAny_bind (slicePart_none (wpAny_bind (wpAny_pure ?_)))))
  show wpAny _ _ (match Builtin.Slice.sliceAdjust none none (-1) (n : Int) with | (lo, hi) => pure (lo, (-1 : Int), Builtin.Slice.slicePlaces lo hi (-1))) _ _ s
  rw [adjust_rev n]
  show wpAny _ _ (pure ((n : Int) - 1, (-1 : Int), Builtin.Slice.slicePlaces ((n : Int) - 1) (-1) (-1))) _ _ s
  rw [places_rev]
  exact wpAny_pure h
theorem getItem_tuple_rev {t sl : Addr} {items : Array Value} {u : Tok} {Q : Value → Shared → Prop} (ht : IsTup s.heap t items) (hs : s.heap.IsSliceOf sl .none .none (.int (-1) u))
    (h : Q (.ref s.heap.objs.size) { s with heap := s.heap.push { cls := .type "tuple", data := .seq items.toList.reverse.toArray } })
    (hsz : items.size ≤ sizeLine) : wpAny (model prog w) A (getItem (.ref t) (.ref sl)) Q E s := by
  have htake : sizeOk (.seq items.toList.reverse.toArray) := by
    show items.toList.reverse.toArray.size ≤ sizeLine
    rw [List.size_toArray, List.length_reverse, Array.length_toList]
    exact hsz
  obtain ⟨os, hos, hcs, hds⟩ := id hs
  have hTs : s.TypeIs (.ref sl) "slice" := ⟨os, hos, hcs⟩
  unfold getItem
  try with_reducible refine wpAny_holding ?_
  first | refine wpAny_bind (wpAny_pure ?_) | skip
  refine wpAny_bind (wpAny_sequenceKey ht.typeIs (by decide) ?_)
  refine wpAny_bind (wpAny_callSpecial?_slot (name := Str.ofString "__getitem__") ht.typeIs PyProof.Rows.slot_tuple_getitem
    (wpAny_call_entry PyProof.Rows.slot_tuple_getitem ht.typeIs entry_tuple_getitem ?_ (args_tuple_getitem _ _)))
  show wpAny _ _ (Builtin.Tuple.tupleItemsOf (.ref t) >>= _) _ _ s
  refine wpAny_bind (tupleItemsOf_ ht ?_)
  refine wpAny_bind (wpAny_typeOf hTs ?_)
  rw [if_pos (by decide)]
  refine wpAny_bind (sliceApplied_rev hs ?_)
  have hno : ¬ (((((items.size : Nat) : Int) - 1 == 0 && (-1 : Int) == 1 && items.size == items.size)) = true) := by
    intro q
    rw [Bool.and_eq_true, Bool.and_eq_true] at q
    exact absurd q.1.2 (by decide)
  show wpAny _ _ (if (((items.size : Nat) : Int) - 1 == 0 && (-1 : Int) == 1 && items.size == items.size) = true then _ else _) _ _ s
  rw [if_neg hno, pick_rev]
  first
    | exact wpAny_bind (m := Builtin.Tuple.tupleExact _) (wpAny_newObj_type (wpAny_pure ⟨_, rfl, wpAny_pure h⟩) htake)
    | exact wpAny_bind (m := Builtin.Tuple.tupleExact _) (wpAny_newObj_type (wpAny_bind (wpAny_pure (wpAny_pure ⟨_, rfl, wpAny_pure h⟩))) htake)
    | exact wpAny_bind (wpAny_bind (m := Builtin.Tuple.tupleExact _) (wpAny_newObj_type (wpAny_pure (wpAny_pure ⟨_, rfl, wpAny_pure h⟩)) htake))
    | exact wpAny_bind (wpAny_bind (m := Builtin.Tuple.tupleExact _) (wpAny_newObj_type (wpAny_pure ⟨_, rfl, wpAny_pure h⟩) htake))
end
end HT
namespace DL
open PySem PySem.Spec PyProof.Rows L2
def tRevT (K : PySem.W.Frag) (te : TE) : TE := fun σ H Q => te σ H fun x H1 => ∃ a xs, x = .ref a ∧ SqT K H1 a xs ∧ ∀ p, H1 p = none → Q (.ref p) (upd H1 p (.tup xs.reverse))
section
variable {X : Cx} {B : Bd} {W : WX} {e : Expr} {te : TE} {p1 p2 p3 pos : Pos} {j : Nat}
theorem pe_rev (he : PE X e te) : PE X (.Subscript e (.Slice none none (some (.UnaryOp .USub (.Constant (.int 1) j p1) p2)) p3) pos) (tRevT X.K te) := by
  refine ⟨fun pins s σ H Q I h => ?_⟩
  refine Subscript_ (thn (he.run pins s σ H _ I h) fun v s1 ⟨x, H1, I1, r1, q1⟩ => ?_)
  obtain ⟨a, xs, ex, hx, q⟩ := q1
  subst ex
  cases r1
  have hst : PO X (some (.UnaryOp .USub (.Constant (.int 1) j p1) p2)) (tPart (tUn (rU fun i => .int (-i)) (tC (.int 1)))) := po_some (pe_un un_neg pe_int)
  refine wpAny_Slice (thn (po_none.run pins s1 σ H1 (fun o H2 => o = none ∧ H2 = H1) I1 ⟨rfl, rfl⟩) fun vl s2 ⟨l, H2, I2, pl, el, e2⟩ => ?_)
  subst el e2
  refine thn (po_none.run pins s2 σ H2 (fun o H3 => o = none ∧ H3 = H2) I2 ⟨rfl, rfl⟩) fun vu s3 ⟨u, H3, I3, pu, eu, e3⟩ => ?_
  subst eu e3
  refine thn (hst.run pins s3 σ H3 (fun o H4 => o = some (-1) ∧ H4 = H3) I3 ⟨1, rfl, -1, rfl, rfl, rfl⟩) fun vs s4 ⟨o, H4, I4, ps, eo, e4⟩ => ?_
  subst eo e4
  cases pl
  cases pu
  obtain ⟨tk, rfl⟩ : ∃ tk, vs = Value.int (-1) tk := by
    cases ps
    exact ⟨_, rfl⟩
  have I5 : Inv X pins σ H4 { s4 with heap := s4.heap.push { cls := .type "slice", data := .fields #[.none, .none, .int (-1) tk] } } := I4.kept (t' := s4.toks) fun b ob q => Heap.get?_push_of_some _ q
  obtain ⟨its, r, ht, hz⟩ := I5.tuple hx
  have hlen := r.length
  show wpAny (model X.prog X.w) X.A (subscriptTail e (.Slice none none (some (.UnaryOp .USub (.Constant (.int 1) j p1) p2)) p3) (.ref a) (.ref s4.heap.objs.size)) (EP X pins σ Q) X.xe { s4 with heap := s4.heap.push { cls := .type "slice", data := .fields #[.none, .none, .int (-1) tk] } }
  refine tail_any (ops := [.ref a, .ref s4.heap.objs.size]) ht.typeIs (PyProof.Rows.slot_tuple_getitem.lookup) ?_ (by with_unfolding_all rfl)
  refine HT.getItem_tuple_rev ht (Heap.IsSliceOf.new _ .none .none (.int (-1) tk)) ?_ (by rw [List.size_toArray]; omega)
  refine ⟨.ref _, _, I5.laid (t' := s4.toks) (o := .tup xs.reverse) (fun b ob q => Heap.get?_push_of_some _ q) (Nat.le_refl _) ?_, rfl, q _ (I5.hok.fresh (Nat.le_refl _))⟩
  exact ⟨by rw [List.length_reverse]; exact hz, _, r.reverse, IsTup.new _ _⟩
/-! in data -/
theorem rpl_rev {K : PySem.W.Frag} {F : Hp} : ∀ {ds : List D} {vs : List V}, RpL K F ds vs → RpL K F ds.reverse vs.reverse
  | [], _, h => by
    have e : _ = [] := h
    subst e
    rfl
  | d :: ds, _, h => by
    obtain ⟨v, r, rfl, h1, h2⟩ := h
    rw [List.reverse_cons, List.reverse_cons]
    exact (rpl_rev h2).append ⟨v, [], rfl, h1, rfl⟩
def mRev (t : DE) : DE := fun ρ Q E => t ρ (fun d ρ1 => match d with
  | .tup xs => Q (.tup xs.reverse) ρ1
  | _ => False) E
theorem de_rev {t : DE} (he : PE X e (rV B W t)) (hK : B.K = X.K := by rfl) : PE X (.Subscript e (.Slice none none (some (.UnaryOp .USub (.Constant (.int 1) j p1) p2)) p3) pos) (rV B W (mRev t)) := by
  refine pe_imp (pe_rev he) fun σ H Q ⟨F, L, ρ, Qd, Ed, S, ht, hq, hx⟩ => ⟨F, L, ρ, _, Ed, S, ht, fun d ρ' v F' L' H' k S' s r => ?_, hx⟩
  cases d <;> first | (exact False.elim k) | skip
  rename_i ds
  obtain ⟨a, vs, ev, hv, hr⟩ := r
  refine ⟨a, vs, ev, by rw [← hK]; exact Same.tseq S'.sub hv, fun p hp => ?_⟩
  obtain ⟨g, sm⟩ := grow_upd (o := .tup vs.reverse) S'.sub hp
  exact hq (.tup ds.reverse) ρ' _ _ L' _ k (S'.grow g sm) (s.trans g.stp) ⟨p, _, rfl, SqT.of upd_same, (rpl_rev hr).mono g.f⟩
end
end DL
/-! The data layer: any(..) of a tuple of whole numbers. -/
namespace DL
open PySem PySem.Spec PyProof.Rows L2
theorem truth_ints {prog : Program} {w : World} {A : Around} {ns : List Int} {its : List Value} (e : IntsAre its ns) :
    TruthOf prog w A (fun i v => its.toArray[i]? = some v) (fun i => (ns.map fun x => x != 0).getD i false) := fun i v s Q E hv hq => by
  have hv' : its[i]? = some v := by simpa using hv
  obtain ⟨n, t, rfl, hn⟩ : ∃ n t, v = Value.int n t ∧ ns[i]? = some n := by
    clear hq hv
    induction e generalizing i with
    | nil => simp at hv'
    | cons n t _ ih =>
      cases i with
      | zero =>
        simp at hv'
        exact ⟨_, _, hv'.symm, rfl⟩
      | succ i => exact ih _ (by simpa using hv')
  have hg : (ns.map fun x => x != 0).getD i false = (n != 0) := by
    rw [List.getD_eq_getElem?_getD, List.getElem?_map, hn]
    rfl
  have hq' : Q ((ns.map fun x => x != 0).getD i false) s := hq
  rw [hg] at hq'
  exact PyProof.Rows.truthy_int hq'
def rAnyT (K : PySem.W.Frag) : List V → Hp → VK → Prop := fun vs H Q => ∃ (a : Addr) (ns : List Int), vs = [V.ref a] ∧ SqT K H a (ns.map V.int) ∧ Q (.bl (ns.any fun x => x != 0)) H
theorem cr_anyT {X : Cx} (hc : X.calm = true) : CallR X (.builtin "any") (rAnyT X.K) := by
  intro pins s σ H vs us Q I r h
  obtain ⟨a, ns, rfl, hs, q⟩ := h
  obtain ⟨its, rv, ht, _⟩ := I.tuple hs
  rw [Vals.ref1 r]
  have hi := intsAre_of rv
  have hl : s.heap.IsTuple a its.toArray := ht
  have hlt : a < s.heap.objs.size := by obtain ⟨_, e, _⟩ := hl; exact Heap.lt_size e
  refine call_any_walk (wpAny_pyIter_tuple hl ?_)
  refine ⟨_, _, _, _, _, _, _, rfl, Walks.tuple (A := X.A.in1) (I.ok.hd hc) _ a (Nat.ne_of_lt hlt) its.toArray, ⟨⟨_, Heap.get?_push_size _ rfl, rfl, rfl⟩, hl.push _⟩, truth_ints hi, fun h' tk hk => ?_⟩
  refine ⟨.bl _, H, I.kept fun b o eo => hk b o (fun hmem => ?_) (Heap.get?_push_of_some _ eo), ?_, q⟩
  · rcases List.mem_cons.mp hmem with e1 | hmem
    · exact absurd (e1 ▸ Heap.lt_size eo) (Nat.lt_irrefl _)
    · cases hmem
  · show Value.bool _ = Value.bool _
    have e1 : its.toArray.size = (ns.map fun x => x != 0).length := by
      rw [List.size_toArray, List.length_map]
      have := rv.length
      rw [List.length_map] at this
      omega
    rw [e1, L2.any_range, List.any_map]
    rfl
def gAnyI : D → Option Cell
  | .tup ds => (numsD ds).map fun ns => .val (.bl (ns.any fun x => x != 0))
  | _ => none
abbrev fAnyI : DOpN := n1 gAnyI
theorem fAnyI_ok {K : PySem.W.Frag} : OpN K (rAnyT K) fAnyI := by
  refine n1_ok fun F H d v c Q sb h e q => ?_
  cases d <;> first | (cases e; done) | skip
  rename_i ds
  obtain ⟨a, vs, ev, hq, hr⟩ := RpV.tup_ sb h
  have e2 : (numsD ds).map (fun ns => Cell.val (.bl (ns.any fun x => x != 0))) = some c := e
  cases en : numsD ds with
  | none => rw [en] at e2; cases e2
  | some ns =>
    rw [en] at e2
    cases e2
    have := ints_eq en
    subst this
    have e3 := hr.to_ints
    subst e3
    exact ⟨a, ns, by rw [ev], hq, fin_val sb q rfl⟩
end DL
/-! Several except clauses, with and without a name (the steps of the library's two theorems of one kind each, joined). -/
namespace L2
open PySem PySem.Spec PyProof.Rows
abbrev ClT := Addr → Value → Option Addr → TS
/-- the ends behind a clause whose name is gone -/
def goneD (D : Ends) (i : Nat) : Ends where
  nx := fun τ G => D.nx (τ.set i none) G
  rt := D.rt
  bk := fun τ G => D.bk (τ.set i none) G
  ct := fun τ G => D.ct (τ.set i none) G
/-- what a clause's suite is told -/
def hA : Option Nat → TS → Addr → Ends → St → Hp → Prop
  | none, t, _, D, τ, G => t D τ G
  | some i, t, x, D, τ, G => t (goneD D i) (τ.set i (some (.ref x))) G
/-- what the clauses wish of an exception, one behind the other -/
def wA (K : PySem.W.Frag) (W0 : WX) (D : Ends) : List (Value × Option Nat × ClT) → WX
  | [] => W0
  | (c, oi, t) :: rest => fun k dd τ G => ∃ yes, PySem.W.exmOne K k c = some yes ∧ (yes = true → ∀ x, G x = none → hA oi (t x k dd) x D τ G) ∧ (yes = false → wA K W0 D rest k dd τ G)
/-- a suite's proof, for each exception that may come -/
def SuiteOk (X : Cx) (sts : List Stmt) (t : ClT) : Prop :=
  ∀ (x : Addr) (ob : Obj) (k : Value) (dd : Option Addr) (more : List (Addr × Obj)), Zc k dd ob → (∃ fv, ob.data = .fields fv) → PSs (X.suite x ((x, ob) :: more)) sts (t x k dd)
inductive HdsA (X : Cx) : List ExceptHandler → List (Value × Option Nat × ClT) → Prop
  | nil : HdsA X [] []
  | only {y : Str} {c : Value} {t : ClT} {st : Stmt} {sts : List Stmt} {q1 q2 : Pos} {hs : List ExceptHandler} {cl : List (Value × Option Nat × ClT)} (hc : Names X y c) (ok : SuiteOk X (st :: sts) t) (rest : HdsA X hs cl) :
      HdsA X (.ExceptHandler (some (.Name y q1)) none (st :: sts) q2 :: hs) ((c, none, t) :: cl)
  | named {y z : Str} {c : Value} {i : Nat} {t : ClT} {st : Stmt} {sts : List Stmt} {q1 q2 : Pos} {hs : List ExceptHandler} {cl : List (Value × Option Nat × ClT)} (hc : Names X y c) (hi : X.N[i]? = some z) (hz : X.env.kindOf z = some .local) (ok : SuiteOk X (st :: sts) t) (rest : HdsA X hs cl) :
      HdsA X (.ExceptHandler (some (.Name y q1)) (some z) (st :: sts) q2 :: hs) ((c, some i, t) :: cl)
section
variable {X : Cx} {bd : List Stmt} {h0 : ExceptHandler} {hs : List ExceptHandler} {cl : List (Value × Option Nat × ClT)} {pos : Pos} {tb : WX → TS} {W0 : WX}
/-- a flow out of a context of the same slots -/
theorem sp_map {Y : Cx} {p1 p2 : List (Addr × Obj)} {D : Ends} {s : Shared} (m : ∀ τ G, Inv Y p1 τ G s → Inv X p2 τ G s) : ∀ {f : Flow}, SP Y p1 D f s → SP X p2 D f s
  | .next, ⟨τ, G, J, q⟩ => ⟨τ, G, m τ G J, q⟩
  | .brk, ⟨τ, G, J, q⟩ => ⟨τ, G, m τ G J, q⟩
  | .cont, ⟨τ, G, J, q⟩ => ⟨τ, G, m τ G J, q⟩
  | .ret _, ⟨u, τ, G, J, r, q⟩ => ⟨u, τ, G, m τ G J, r, q⟩
/-- the same, out of a clause with a name -/
theorem sp_gone {Y : Cx} {p1 p2 : List (Addr × Obj)} {D : Ends} {i : Nat} {s : Shared} {z : Str} {q2 : Pos} (m : ∀ τ G, Inv Y p1 τ G s → Inv X p2 τ G s) (hN : X.N.Nodup) (hi : X.N[i]? = some z) (hz : X.env.kindOf z = some .local) :
    ∀ {f : Flow}, SP Y p1 (goneD D i) f s → wpAny (model X.prog X.w) X.A (do bindName X.env z .none; unbindBehindTheSuite X.env z q2) (fun _ s2 => SP X p2 D f s2) X.xe s
  | .next, ⟨τ, G, J, q⟩ => gone_ok (m τ G J) hN hi hz fun _ J2 => ⟨_, G, J2, q⟩
  | .brk, ⟨τ, G, J, q⟩ => gone_ok (m τ G J) hN hi hz fun _ J2 => ⟨_, G, J2, q⟩
  | .cont, ⟨τ, G, J, q⟩ => gone_ok (m τ G J) hN hi hz fun _ J2 => ⟨_, G, J2, q⟩
  | .ret _, ⟨u, τ, G, J, r, q⟩ => gone_ok (m τ G J) hN hi hz fun _ J2 => ⟨u, _, G, J2, r, q⟩
theorem ps_try_manyA (e1 : X.stack = X.env :: X.outer) (e2 : X.env.frame = some X.env.locals) (hN : X.N.Nodup) (tk : Takes X W0)
    (hb : ∀ (W : WX) (more : List (Addr × Obj)) (xe : Value → Shared → Prop), Takes (X.tr more xe) W → PassesOwn (model X.prog X.w) X.A X.env xe → PSs (X.tr more xe) bd (tb W))
    (hh : HdsA X (h0 :: hs) cl) : PS X (.Try bd (h0 :: hs) [] [] pos) (fun D τ G => tb (wA X.K W0 D cl) D τ G) := by
  constructor
  intro K0 s τ G D I given
  have ok := I.ok
  have frs0 : X.A.frames = some (X.env :: X.outer) := ok.frames.trans (congrArg some e1)
  let XE : Value → Shared → Prop := fun v u1 => wpAny (model X.prog X.w) X.A (noteFrame v X.env) (fun _ u2 => wpAny (model X.prog X.w) X.A (setFlight v none) (fun _ u3 =>
    wpAny (model X.prog X.w) X.A (handleBy v X.env (h0 :: hs)) (SP X K0 D) X.xe u3) X.xe u2) X.xe u1
  have hcat : Takes (X.tr (X.pn ++ K0) XE) (wA X.K W0 D cl) := by
    intro v s' caught
    obtain ⟨x, Bx, sx, K1, τ1, G1, k, dd, rfl, J0, nb, up, sky, gx, os, ag, wish⟩ := caught
    have J : Inv X K0 τ1 G1 sx := J0.ofTry ok
    show wpAny (model X.prog X.w) X.A (noteFrame (.ref x) X.env) _ _ _
    refine Sky.land Zc.steady frs0 e2 (e1 ▸ sky) fun hp fl upp => ?_
    have there : ∀ {hq : Heap} {ob : Obj} {fv : Array Value}, hq.FunFrames Bx (X.env :: X.outer) → hq.get? x = some ob → ob.data = .fields fv → x ∉ frs (X.env :: X.outer) := by
      intro hq ob fv ff g1 g2 mm
      obtain ⟨_, ob', g3, no⟩ := ff.mem mm
      cases g1.symm.trans g3
      exact no _ g2
    obtain ⟨ob, fv, gob, zob, dob⟩ := fl.there
    have out := there fl.2.2.1 gob dob
    have x1 : x ≠ X.env.locals := fun q => out (List.mem_filterMap.mpr ⟨X.env, List.mem_cons_self, by rw [e2, q]⟩)
    have x2 : x ∉ X.fs := by
      intro mm
      obtain ⟨en, m1, m2⟩ := List.mem_filterMap.mp mm
      exact out (List.mem_filterMap.mpr ⟨en, List.mem_cons_of_mem _ m1, m2⟩)
    have JL : Inv X K0 τ1 G1 { s' with heap := hp } := J.landed nb fl.1 (up.trans upp) os ag
    have JS := JL.suite gob dob gx x1 x2
    have seen : PySem.W.Looks (model X.prog X.w) hp (typeOf (.ref x)) k := fun _ _ _ _ kp q => wpAny_typeOf_ref (kp _ _ gob) (by rw [zob.1]; exact q)
    have named : ∀ {y : Str} {c : Value} {q1 : Pos} {Q E : Value → Shared → Prop}, Names X y c → Q c { s' with heap := hp } →
        wpAny (model X.prog X.w) (X.A.mark (some (.ref x))) (eval (.Name y q1) X.env) Q E { s' with heap := hp } := by
      rintro y c q1 Q E ⟨n1, n2, n3 | ⟨n3, n4, n5⟩⟩ q
      · exact ld_glob (X := X.suite x ((x, ob) :: (X.pn ++ K0))) JS n1 n3 q n2
      · exact ld_blt (X := X.suite x ((x, ob) :: (X.pn ++ K0))) JS n1 n3 n4 q n5 n2
    have walk : ∀ {hl : List ExceptHandler} {ll : List (Value × Option Nat × ClT)}, HdsA X hl ll → wA X.K W0 D ll k dd τ1 G1 →
        wpAny (model X.prog X.w) X.A (handleBy (.ref x) X.env hl) (SP X K0 D) X.xe { s' with heap := hp } := by
      intro hl ll hk
      induction hk with
      | nil =>
        intro w
        refine wpAny_handleBy_nil ?_
        have fl0 := fl
        obtain ⟨_, _, _, _, _, T, _, _, g1, _, g2, g3, _⟩ := fl0
        unfold PySem.passOn
        refine wpAny_bind (wpAny_field g1 g2 g3 ?_)
        rw [if_neg (by simp : ¬ ((Value.ref T == Value.none) = true))]
        have on : wpAny (model X.prog X.w) X.A (setFlight (.ref x) X.env.frame) (fun _ u => wpAny (model X.prog X.w) X.A (throw (.ref x) : Sem Flow) (SP X K0 D) X.xe u) X.xe { s' with heap := hp } := by
          rw [e2]
          refine HandSPX.setFlight_upZ fl fun h4 sky4 up4 => wpAny_throw (tk _ _ ?_)
          exact ⟨x, Bx, sx, K0, τ1, G1, k, dd, rfl, J, nb, (up.trans upp).trans up4, .inr (.inr (e1.symm ▸ sky4)), gx, os, ag, w⟩
        first
          | exact wpAny_bind (wpAny_pure (wpAny_bind on))
          | exact wpAny_bind on
      | only hc sok rest ih =>
        intro w
        obtain ⟨yes, w1, w2, w3⟩ := w
        refine wpAny_handleBy_cons (codeAny_handlers_test ?_) (fun q => by cases q)
        refine named hc ((PySem.W.exm_one (M := model X.prog X.w) JL.kIn seen w1).here ?_)
        cases yes with
        | false => exact ih (w3 rfl)
        | true =>
          refine codeAny_handlers_suite (HandSPX.lands_againZ fl fun h4 fl4 up4 => ?_)
          obtain ⟨ob4, fv4, g4, z4, d4⟩ := fl4.there
          have JM : Inv X K0 τ1 G1 { s' with heap := h4 } := J.landed nb fl4.1 ((up.trans upp).trans up4) os ag
          have J4 := JM.suite g4 d4 gx x1 x2
          exact wpAny_mono ((sok x ob4 k dd (X.pn ++ K0) z4 ⟨_, d4⟩).run [] _ _ G1 _ J4 (w2 rfl x gx)) (fun _ _ q => sp_map (fun _ _ J5 => J5.unsuite ok) q) fun _ _ q => q.elim
      | named hc hi hz sok rest ih =>
        intro w
        obtain ⟨yes, w1, w2, w3⟩ := w
        refine wpAny_handleBy_cons (codeAny_handlers_test ?_) (fun q => by cases q)
        refine named hc ((PySem.W.exm_one (M := model X.prog X.w) JL.kIn seen w1).here ?_)
        cases yes with
        | false => exact ih (w3 rfl)
        | true =>
          refine codeAny_handlers_suite_as (HandSPX.lands_againZ fl fun h4 fl4 up4 => ?_)
          obtain ⟨ob4, fv4, g4, z4, d4⟩ := fl4.there
          have JM : Inv X K0 τ1 G1 { s' with heap := h4 } := J.landed nb fl4.1 ((up.trans upp).trans up4) os ag
          have J4 := JM.suite g4 d4 gx x1 x2
          refine store_ok (X := X.suite x ((x, ob4) :: (X.pn ++ K0))) (v := .ref x) J4 hN hi (.inl hz) rfl (fun s5 J5 => ?_) (.inr hz)
          exact wpAny_mono ((sok x ob4 k dd (X.pn ++ K0) z4 ⟨_, d4⟩).run [] s5 _ G1 _ J5 (w2 rfl x gx)) (fun _ _ q => sp_gone (fun _ _ J6 => J6.unsuite ok) hN hi hz q) fun _ _ q => q.elim
    exact walk hh wish
  have hbody := (hb (wA X.K W0 D cl) (X.pn ++ K0) XE hcat PassesOwn.looking).run [] s τ G D (I.toTry _) given
  refine wpAny_Try_except (wpAny_mono hbody (fun f u q => ?_) fun _ _ q => q)
  have q2 : SP X K0 D f u := sp_map (fun _ _ J5 => J5.ofTry ok) q
  cases f with
  | next => exact wpAny_execs_nil q2
  | brk => exact q2
  | cont => exact q2
  | ret _ => exact q2
end
end L2
/-! The data layer: try, with clauses that return a text and the error's field. -/
namespace DL
open PySem PySem.Spec PyProof.Rows L2
/-- a constant that a clause answers -/
inductive Lit where
  | non | bl (b : Bool) | int (i : Int) | str (x : Str)
def Lit.d : Lit → D
  | .non => .non
  | .bl b => .bl b
  | .int i => .int i
  | .str x => .str x
def Lit.v : Lit → V
  | .non => .non
  | .bl b => .bl b
  | .int i => .int i
  | .str x => .str x
theorem Lit.rp {K : PySem.W.Frag} {F : Hp} : ∀ l : Lit, Rp K F l.d l.v
  | .non => rfl
  | .bl _ => rfl
  | .int _ => rfl
  | .str _ => rfl
/-- a clause: its class, its name's slot and the field that is told, the text; or the constant alone that is told -/
abbrev Cl := Str × Option (Nat × Str) × Str × Option Lit
def tryGo (und : Str → Str → Option Bool) : List Cl → Str → List (Str × D) → En → (D → Prop) → Prop → Prop
  | [], _, _, _, _, out => out
  | (cn, o, tag, bare) :: rest, c, fs, ρ, R, out => match und c cn with
    | some true => (match o with
      | none => R (match bare with
        | some l => l.d
        | none => .tup [.str tag, .non])
      | some (i, f) => i < ρ.length ∧ c = cn ∧ ∃ d, fs.lookup f = some d ∧ R (.tup [.str tag, d]))
    | some false => tryGo und rest c fs ρ R out
    | none => False
def mTry (und : Str → Str → Option Bool) (cls : List Cl) (t : DS) : DS := fun Dd ρ => t { Dd with ex := fun c fs ρ1 => tryGo und cls c fs ρ1 (fun d => Dd.rt (.val d) ρ1) (Dd.ex c fs ρ1) } ρ
def clT (K : PySem.W.Frag) : Cl → ClT
  | (_, none, tag, some l) => fun _ _ _ => tRet (tC l.v)
  | (_, none, tag, none) => fun _ _ _ => tRet (tTup (tCons (tC (.str tag)) (tCons (tC .non) tNil)))
  | (cn, some (i, f), tag, _) => fun x k dd => tRet (tTup (tCons (tC (.str tag)) (tCons (tXf x k dd (He.ga K cn) f (tVar i)) tNil)))
abbrev clL (K : PySem.W.Frag) (cls : List Cl) : List (Value × Option Nat × ClT) := cls.map fun cl => (.ref (He.ga K cl.1), cl.2.1.map (·.1), clT K cl)
theorem lookup_rp {K : PySem.W.Frag} {F : Hp} {f : Str} {d : D} : ∀ {fs : List (Str × D)} {fv : List (Str × V)}, fv.map (·.1) = fs.map (·.1) → RpL K F (fs.map (·.2)) (fv.map (·.2)) → fs.lookup f = some d → ∃ v, fv.lookup f = some v ∧ Rp K F d v
  | [], _, _, _, h => by cases h
  | (y, e) :: fs, [], h, _, _ => by cases h
  | (y, e) :: fs, (z, u) :: fv, h, r, l => by
    rw [List.map_cons, List.map_cons] at h
    injection h with h1 h2
    have h1' : z = y := h1
    subst h1'
    obtain ⟨v, vs, e1, e2, e3⟩ := r
    rw [List.map_cons] at e1
    injection e1 with e4 e5
    rw [List.lookup_cons] at l ⊢
    cases hy : f == z with
    | true =>
      rw [hy] at l
      cases l
      exact ⟨u, rfl, by have e6 : u = v := e4; rw [e6]; exact e2⟩
    | false =>
      rw [hy] at l
      exact lookup_rp h2 (e5 ▸ e3) l
section
variable {B : Bd} {W : WX} {F F' : Hp} {L' : La} {H' : Hp} {σ' : L2.St} {ρ' : En} {Dd : DEnds} {D : Ends}
theorem wA_of {und : Str → Str → Option Bool} {K : PySem.W.Frag} (hK : B.K = K) (hund : ∀ c cn b, und c cn = some b → PySem.W.exmOne K (.ref (He.ga K c)) (.ref (He.ga K cn)) = some b)
    (o : EOk B W F Dd D) (S : SR B F' L' σ' H' ρ') (sm : Same F F') {c : Str} {fs : List (Str × DL.D)} {k : Value} {dd : Option Addr} (r : ExcR B.K F' H' c fs k dd) :
    ∀ cls : List Cl, tryGo und cls c fs ρ' (fun d => Dd.rt (.val d) ρ') (Dd.ex c fs ρ') → wA K W D (clL K cls) k dd σ' H'
  | [], q => o.ex c fs ρ' k dd σ' F' L' H' q S sm r
  | (cn, oi, tag, bare) :: rest, q => by
    have ek : k = .ref (He.ga B.K c) := r.1
    unfold tryGo at q
    cases hu : und c cn with
    | none => rw [hu] at q; exact q.elim
    | some b =>
      have hx := hund c cn b hu
      rw [hu] at q
      refine ⟨b, by rw [ek, hK]; exact hx, fun eb x hxn => ?_, fun eb => ?_⟩
      · subst eb
        have tell : ∀ (d : DL.D) (v : V), Dd.rt (.val (.tup [.str tag, d])) ρ' → Rp B.K F' d v → ([V.str tag, v].length ≤ sizeLine ∧ ∀ p, H' p = none → D.rt (.ref p) (upd H' p (.tup [.str tag, v]))) := by
          intro d v q2 rv
          refine ⟨by rw [sizeLine_eq]; exact Nat.le_of_ble_eq_true rfl, fun p hp => ?_⟩
          obtain ⟨g, s⟩ := grow_upd (o := .tup [.str tag, v]) S.sub hp
          exact o.rt _ ρ' _ _ _ L' _ q2 (S.grow g s) (sm.trans g.f) ⟨p, _, rfl, SqT.of upd_same, ⟨_, _, rfl, rfl, _, _, rfl, rv.mono g.f, rfl⟩⟩
        cases oi with
        | none =>
          cases bare with
          | some l => exact o.rt _ ρ' _ _ _ L' _ q S sm l.rp
          | none => exact tell .non .non q rfl
        | some w =>
          obtain ⟨i, f⟩ := w
          obtain ⟨hi, hc, d, hl, q2⟩ := q
          subst hc
          rcases r.2 with ⟨e1, _⟩ | ⟨da, fv, e1, e2, e3, e4⟩
          · rw [e1] at hl
            cases hl
          · obtain ⟨v, hv, rv⟩ := lookup_rp e3 e4 hl
            refine ⟨.ref x, ?_, rfl, by rw [ek, hK], da, fv, v, e1, e2, hv, tell d v q2 rv⟩
            rw [S.len] at hi
            rw [List.getElem?_set_self hi]
      · subst eb
        exact wA_of hK hund o S sm r rest q
end
section
variable {X : Cx} {B : Bd} {W : WX} {pos : Pos} {bd : List Stmt} {h0 : ExceptHandler} {hs : List ExceptHandler} {t : DS}
theorem ds_try {und : Str → Str → Option Bool} {cls : List Cl} (e1 : X.stack = X.env :: X.outer) (e2 : X.env.frame = some X.env.locals) (hN : X.N.Nodup) (tk : Takes X W) (hund : ∀ c cn b, und c cn = some b → PySem.W.exmOne X.K (.ref (He.ga X.K c)) (.ref (He.ga X.K cn)) = some b)
    (hb : ∀ (W' : WX) (more : List (Addr × Obj)) (xe : Value → Shared → Prop), Takes (X.tr more xe) W' → PassesOwn (model X.prog X.w) X.A X.env xe → PSs (X.tr more xe) bd (rS B W' t))
    (hh : HdsA X (h0 :: hs) (clL X.K cls)) (hK : B.K = X.K := by rfl) : PS X (.Try bd (h0 :: hs) [] [] pos) (rS B W (mTry und cls t)) :=
  ps_imp (ps_try_manyA (tb := fun W' => rS B W' t) e1 e2 hN tk hb hh) fun D σ H ⟨F, L, ρ, Dd, S, q, o⟩ =>
    ⟨F, L, ρ, _, S, q, ⟨o.nx, o.rt, o.bk, o.ct, fun c fs ρ' k dd σ' F' L' H' e S' s' r => wA_of hK hund o S' s' r cls e⟩⟩
theorem nm_of {y : Str} {c : Value} (hm : X.mg y = some c) (hg : Gl X y := by rfl) (hd : (y == ("__debug__" : Str)) = false := by decide) : Names X y c := ⟨hg, hd, .inl hm⟩
theorem cl_nil : HdsA X [] (clL X.K []) := .nil
theorem cl_only {y tag : Str} {p1 p2 p3 p4 q1 q2 : Pos} {j1 j2 j3 : Nat} {hds : List ExceptHandler} {cls : List Cl} (hc : Names X y (.ref (He.ga X.K y))) (rest : HdsA X hds (clL X.K cls)) :
    HdsA X (.ExceptHandler (some (.Name y q1)) none [.Return (some (.Tuple [.Constant (.str tag) j1 p1, .Constant .none j2 p2] j3 p3)) p4] q2 :: hds) (clL X.K ((y, none, tag, none) :: cls)) :=
  .only hc (fun x ob k dd more hz hf => pss_one (ps_ret (pe_tup (pa_cons pe_str (pa_cons pe_non pa_nil))))) rest
theorem cl_bare {y tag : Str} {p1 p4 q1 q2 : Pos} {j1 : Nat} {hds : List ExceptHandler} {cls : List Cl} (hc : Names X y (.ref (He.ga X.K y))) (rest : HdsA X hds (clL X.K cls)) :
    HdsA X (.ExceptHandler (some (.Name y q1)) none [.Return (some (.Constant (.str tag) j1 p1)) p4] q2 :: hds) (clL X.K ((y, none, tag, some (.str tag)) :: cls)) :=
  .only hc (fun x ob k dd more hz hf => pss_one (ps_ret pe_str)) rest
theorem cl_bl {y : Str} {b : Bool} {p1 p4 q1 q2 : Pos} {j1 : Nat} {hds : List ExceptHandler} {cls : List Cl} (hc : Names X y (.ref (He.ga X.K y))) (rest : HdsA X hds (clL X.K cls)) :
    HdsA X (.ExceptHandler (some (.Name y q1)) none [.Return (some (.Constant (.bool b) j1 p1)) p4] q2 :: hds) (clL X.K ((y, none, "", some (.bl b)) :: cls)) :=
  .only hc (fun x ob k dd more hz hf => pss_one (ps_ret pe_bl)) rest
theorem cl_int {y : Str} {b : Int} {p1 p4 q1 q2 : Pos} {j1 : Nat} {hds : List ExceptHandler} {cls : List Cl} (hc : Names X y (.ref (He.ga X.K y))) (rest : HdsA X hds (clL X.K cls)) :
    HdsA X (.ExceptHandler (some (.Name y q1)) none [.Return (some (.Constant (.int b) j1 p1)) p4] q2 :: hds) (clL X.K ((y, none, "", some (.int b)) :: cls)) :=
  .only hc (fun x ob k dd more hz hf => pss_one (ps_ret pe_int)) rest
theorem cl_non {y : Str} {p1 p4 q1 q2 : Pos} {j1 : Nat} {hds : List ExceptHandler} {cls : List Cl} (hc : Names X y (.ref (He.ga X.K y))) (rest : HdsA X hds (clL X.K cls)) :
    HdsA X (.ExceptHandler (some (.Name y q1)) none [.Return (some (.Constant .none j1 p1)) p4] q2 :: hds) (clL X.K ((y, none, "", some .non) :: cls)) :=
  .only hc (fun x ob k dd more hz hf => pss_one (ps_ret pe_non)) rest
theorem cl_named {y z f tag : Str} {i : Nat} {p1 p2 p3 p4 p5 q1 q2 : Pos} {j1 j3 : Nat} {hds : List ExceptHandler} {cls : List Cl} (hc : Names X y (.ref (He.ga X.K y))) (T : XfC X.K (He.ga X.K y)) (hno : PySem.W.findIn X.K (.ref (He.ga X.K y)) f = some none) (rest : HdsA X hds (clL X.K cls))
    (hi : X.N[i]? = some z := by rfl) (hz : X.env.kindOf z = some .local := by rfl) (hzd : (z == ("__debug__" : Str)) = false := by decide) (hzc : (z == ("__classdict__" : Str)) = false := by decide) (hv : Vis X.env.scope z := by exact Or.inl rfl) (hb : attributeBase (.Name z p5) f X.env (eval (.Name z p5) X.env) = eval (.Name z p5) X.env := by rfl) :
    HdsA X (.ExceptHandler (some (.Name y q1)) (some z) [.Return (some (.Tuple [.Constant (.str tag) j1 p1, .Attribute (.Name z p5) f p2] j3 p3)) p4] q2 :: hds) (clL X.K ((y, some (i, f), tag, none) :: cls)) :=
  .named hc hi hz (fun x ob k dd more hzc2 hf => pss_one (ps_ret (pe_tup (pa_cons pe_str (pa_cons (pe_xf T hno hzc2 hf (pe_var hi hv hzd hzc) hb) pa_nil))))) rest
end
/-! which class stands under which -/
def undT (tbl : List ((Str × Str) × Bool)) (c cn : Str) : Option Bool := (tbl.find? fun p => p.1 == (c, cn)).map (·.2)
def undB (tbl : List ((Str × Str) × Bool)) (K : PySem.W.Frag) : Bool := tbl.all fun p => decide (PySem.W.exmOne K (.ref (He.ga K p.1.1)) (.ref (He.ga K p.1.2)) = some p.2)
theorem undB_ok {tbl : List ((Str × Str) × Bool)} {K : PySem.W.Frag} (h : undB tbl K = true) : ∀ c cn b, undT tbl c cn = some b → PySem.W.exmOne K (.ref (He.ga K c)) (.ref (He.ga K cn)) = some b := by
  intro c cn b e
  unfold undT at e
  obtain ⟨p, hp, rfl⟩ := Option.map_eq_some_iff.mp e
  have hm := List.mem_of_find?_eq_some hp
  have he := List.find?_some hp
  have h2 := List.all_eq_true.mp h p hm
  have e2 : p.1 = (c, cn) := eq_of_beq he
  have h3 := of_decide_eq_true h2
  rw [e2] at h3
  exact h3
end DL
/-! The data layer: instances that are only read; their attributes, their methods, how they are made. -/
namespace DL
open PySem PySem.Spec PyProof.Rows L2
/-! ### an attribute -/
def mFld (c : Str) (ks : List Str) (i : Nat) (t : DE) : DE := fun ρ Q E => t ρ (fun d ρ1 => ∃ ds v, d = .obj c ks ds ∧ ds[i]? = some v ∧ Q v ρ1) E
/-- where an attribute's name stands -/
def LkAt (ks : List Str) (f : Str) (i : Nat) : Prop := ∀ vs : List V, ks.length = vs.length → (ks.zip vs).lookup f = vs[i]?
def NoLk (ks : List Str) (f : Str) : Prop := ∀ vs : List V, ks.length = vs.length → (ks.zip vs).lookup f = none
section
variable {X : Cx} {B : Bd} {W : WX} {pos : Pos} {e o : Expr} {es : List Expr}
theorem de_fld (i : Nat) {c f : Str} {ks : List Str} {t : DE} (he : PE X e (rV B W t)) (cl : Cls X.K (He.ga X.K c)) (na : NoAttr X.K (He.ga X.K c) f) (hl : LkAt ks f i) (hb : attributeBase e f X.env (eval e X.env) = eval e X.env := by rfl) (hK : B.K = X.K := by rfl) :
    PE X (.Attribute e f pos) (rV B W (mFld c ks i t)) := by
  refine pe_imp (pe_fld he hb) fun σ H Q ⟨F, L, ρ, Qd, Ed, S, ht, hq, hx⟩ => ?_
  refine ⟨F, L, ρ, fun d ρ1 => ∃ ds v, d = .obj c ks ds ∧ ds[i]? = some v ∧ Qd v ρ1, Ed, S, ht, fun d ρ' v F' L' H' ⟨ds, w, ed, hw, q⟩ S' s r => ?_, hx⟩
  subst ed
  obtain ⟨a, dx, vs, ev, ea, hlen, rr⟩ := r
  obtain ⟨u, hu, ru⟩ := rr.get hw
  rw [hK] at ea
  exact ⟨a, _, dx, _, u, ev, S'.sub _ _ ea, cl, na, (hl vs hlen).trans hu, hq w ρ' u F' L' H' q S' s ru⟩
/-! ### a method -/
theorem pe_methS {CX : CXT} {k : Nat} {f C : Addr} {fd : FuncData} {ps : List Str} {sp : Sp} {E : L2.St → XK} {m : Str} {apos : Pos} {ta : TE} {t : TA} {pl : Sem Bool} (he : PE X o ta) (c : Cls X.K C) (hm : Meth X.K C m f) (F : FnOk X.prog X.w X.K X.mg X.base CX k f fd ps sp) (hr : Room k X.A) (hb : Binds X.K fd ps []) (hx : ∀ σ, PassesAt CX X σ (E σ))
    (ha : PA X (e :: es) t) (hst : starEach (e :: es) X.env = (false, eval e X.env) :: starEach es X.env := by rfl) (hpl : (backTo pos (starEach es X.env)).any (·.1) = false := by rfl)
    (ht : eval (.Call (.Attribute o m apos) (e :: es) [] pos) X.env = (do
      let ov ← eval o X.env
      standAt apos.atName
      let (f, first) ← holding [ov] (getMethod ov m pl)
      callWith pos f first (backTo pos (starEach (e :: es) X.env)) (backToKw pos (keywordEach [] X.env))) := by rfl) :
    PE X (.Call (.Attribute o m apos) (e :: es) [] pos) (fun σ H Q => ta σ H fun x H1 => ∃ a dx fs, x = .ref a ∧ H1 a = some (.ins C dx fs) ∧ fs.lookup m = none ∧ t σ H1 fun vs H2 => sp (x :: vs) H2 Q (E σ)) := by
  refine ⟨fun pins s σ H Q I h => ?_⟩
  refine PySem.W.methodCall_KW (pl := pl) (thn (he.run pins s σ H _ I h) fun u s1 ⟨x, H1, I1, rx, a, dx, fs, ex, ea, l, q⟩ => ?_) ht
  subst ex
  obtain rfl : u = Value.ref a := rx
  refine getmeth_ok I1 ea c hm l ?_
  refine PySem.W.callWith_K (first := [.ref a]) (h₀ := X.base) I.ok.mod.kin hm.kp (thn (ha.run pos pins s1 σ H1 _ I1 q) fun us s2 ⟨vs, H2, I2, r, q2⟩ => ⟨I2.kIn, ?_⟩) hst hpl
  exact run_fnS (us := .ref a :: us) (vs := .ref a :: vs) F hr hb (hx σ) I2 (.cons rfl r) q2
theorem pe_meth0S {CX : CXT} {k : Nat} {f C : Addr} {fd : FuncData} {ps : List Str} {sp : Sp} {E : L2.St → XK} {m : Str} {apos : Pos} {ta : TE} {pl : Sem Bool} (he : PE X o ta) (c : Cls X.K C) (hm : Meth X.K C m f) (F : FnOk X.prog X.w X.K X.mg X.base CX k f fd ps sp) (hr : Room k X.A) (hb : Binds X.K fd ps []) (hx : ∀ σ, PassesAt CX X σ (E σ))
    (ht : eval (.Call (.Attribute o m apos) [] [] pos) X.env = (do
      let ov ← eval o X.env
      standAt apos.atName
      let (f, first) ← holding [ov] (getMethod ov m pl)
      callWith pos f first (backTo pos (starEach [] X.env)) (backToKw pos (keywordEach [] X.env))) := by rfl) :
    PE X (.Call (.Attribute o m apos) [] [] pos) (fun σ H Q => ta σ H fun x H1 => ∃ a dx fs, x = .ref a ∧ H1 a = some (.ins C dx fs) ∧ fs.lookup m = none ∧ sp [x] H1 Q (E σ)) := by
  refine ⟨fun pins s σ H Q I h => ?_⟩
  refine PySem.W.methodCall_KW (pl := pl) (thn (he.run pins s σ H _ I h) fun u s1 ⟨x, H1, I1, rx, a, dx, fs, ex, ea, l, q⟩ => ?_) ht
  subst ex
  obtain rfl : u = Value.ref a := rx
  refine getmeth_ok I1 ea c hm l ?_
  exact PySem.W.callWith_K0 (first := [.ref a]) I1.kIn hm.kp (run_fnS (us := [.ref a]) (vs := [.ref a]) F hr hb (hx σ) I1 (.cons rfl .nil) q)
/-- a method of the text: where it stands, what it does -/
structure MethOk (P : Program) (w : World) (K : PySem.W.Frag) (mg : Str → Option Value) (base : Heap) (lv : Nat) (c m : Str) (fd : FuncData) (ps : List Str) (n : Nat) (ios : List Nat) (sp : DSp) : Prop where
  ok : FnOk P w K mg base (L2.CX P w) lv (He.ma K (He.ga K c) m) fd ps (spD K n ios sp)
  binds : Binds K fd ps []
  cls : Cls K (He.ga K c)
  meth : Meth K (He.ga K c) m (He.ma K (He.ga K c) m)
def mMeth (c : Str) (ks : List Str) (to : DE) (as : List KX) (w : DSp) : DC := fun ρ Q E => to ρ (fun d ρ1 => ∃ ds, d = .obj c ks ds ∧ mKXs as ρ1 (fun kv ρ2 => match rsvs ρ2 (.d d :: kv) with
  | some cs => w cs (fun c o => Q c (putO ρ2 0 (.d d :: kv) o)) (fun c fs o => E c fs (putO ρ2 0 (.d d :: kv) o))
  | none => False) E) E
theorem KRs.consD {F H : Hp} {L : La} {d : D} {v : V} {ks : List KV} {vs : List V} (h : Rp B.K F d v) (r : KRs B F L H ks vs) : KRs B F L H (.d d :: ks) (v :: vs) := ⟨v, vs, rfl, h, r⟩
theorem dc_meth {to : DE} {as : List KX} {n lv k : Nat} {ios : List Nat} {w : DSp} {fd : FuncData} {ps : List Str} {c m : Str} {ks : List Str} {apos : Pos} {pl : Sem Bool} (hto : PE X o (rV B W to)) (M : MethOk X.prog X.w X.K X.mg X.base lv c m fd ps n ios w) (nl : NoLk ks m) (hr : Room k X.A) (hle : lv ≤ k) (tk : Takes X W)
    (ha : PA X (e :: es) (rK B W as)) (hK : B.K = X.K := by rfl) (hn : (KS.d :: as.map KX.sh).length = n := by rfl) (hio : iosS 0 (KS.d :: as.map KX.sh) = ios := by rfl) (hgs : goodS (KS.d :: as.map KX.sh) = true := by rfl)
    (hst : starEach (e :: es) X.env = (false, eval e X.env) :: starEach es X.env := by rfl) (hpl : (backTo pos (starEach es X.env)).any (·.1) = false := by rfl)
    (ht : eval (.Call (.Attribute o m apos) (e :: es) [] pos) X.env = (do
      let ov ← eval o X.env
      standAt apos.atName
      let (f, first) ← holding [ov] (getMethod ov m pl)
      callWith pos f first (backTo pos (starEach (e :: es) X.env)) (backToKw pos (keywordEach [] X.env))) := by rfl) :
    PE X (.Call (.Attribute o m apos) (e :: es) [] pos) (rC B W (mMeth c ks to as w)) := by
  refine pe_imp (pe_methS (E := WE W) hto M.cls M.meth (M.ok.mono hle) hr M.binds (passAt tk) ha hst hpl ht) fun σ H Q ⟨F0, L, ρ, Qd, Ed, S, ht, hq, hx⟩ => ?_
  refine ⟨F0, L, ρ, _, Ed, S, ht, fun d ρ1 v F1 L1 H1 ⟨ds, ed, kk⟩ S1 s1 r => ?_, hx⟩
  subst ed
  have r0 := r
  obtain ⟨a, dx, vs, ev, ea, hlen, rr⟩ := r
  rw [hK] at ea
  refine ⟨a, dx, _, ev, S1.sub _ _ ea, nl vs hlen, F1, L1, ρ1, _, Ed, S1, kk, fun kv ρ2 us F2 L2 H2 k2 S2 s2 r2 hsh nw => ?_, hx.mono s1.f⟩
  rw [← hK]
  refine call_imp (ks := .d (.obj c ks ds) :: kv) (vs := v :: us) (ss := KS.d :: as.map KX.sh) S2 (s1.trans s2) (KRs.consD (r0.mono s2.f) r2) (by rw [List.map_cons, hsh]; rfl) ?_ hn hio hgs k2 hq hx
  exact KNew.cons (fun ds a e => by cases e) (nw.back s1)
theorem dc_meth0 {to : DE} {lv k : Nat} {w : DSp} {fd : FuncData} {ps : List Str} {c m : Str} {ks : List Str} {apos : Pos} {pl : Sem Bool} (hto : PE X o (rV B W to)) (M : MethOk X.prog X.w X.K X.mg X.base lv c m fd ps 1 [] w) (nl : NoLk ks m) (hr : Room k X.A) (hle : lv ≤ k) (tk : Takes X W)
    (hK : B.K = X.K := by rfl)
    (ht : eval (.Call (.Attribute o m apos) [] [] pos) X.env = (do
      let ov ← eval o X.env
      standAt apos.atName
      let (f, first) ← holding [ov] (getMethod ov m pl)
      callWith pos f first (backTo pos (starEach [] X.env)) (backToKw pos (keywordEach [] X.env))) := by rfl) :
    PE X (.Call (.Attribute o m apos) [] [] pos) (rC B W (mMeth c ks to [] w)) := by
  refine pe_imp (pe_meth0S (E := WE W) hto M.cls M.meth (M.ok.mono hle) hr M.binds (passAt tk) ht) fun σ H Q ⟨F0, L, ρ, Qd, Ed, S, ht, hq, hx⟩ => ?_
  refine ⟨F0, L, ρ, _, Ed, S, ht, fun d ρ1 v F1 L1 H1 ⟨ds, ed, kk⟩ S1 s1 r => ?_, hx⟩
  subst ed
  have r0 := r
  obtain ⟨a, dx, vs, ev, ea, hlen, rr⟩ := r
  rw [hK] at ea
  refine ⟨a, dx, _, ev, S1.sub _ _ ea, nl vs hlen, ?_⟩
  rw [← hK]
  exact call_imp (ks := [.d (.obj c ks ds)]) (vs := [v]) (ss := [KS.d]) S1 s1 (KRs.consD r0 rfl) rfl (KNew.cons (fun ds a e => by cases e) (fun i ds a e => by simp at e)) rfl rfl rfl kk hq hx
end
/-! ### made -/
/-- the heap without an instance and its dict -/
def hide (H : Hp) (x dx : Addr) : Hp := fun b => if b = x ∨ b = dx then none else H b
/-- what an __init__ promises: all attributes are stored, in order; nothing leaves -/
def spIn (K : PySem.W.Frag) (c : Str) (ks : List Str) (n : Nat) (w : DSp) : Sp := fun vs H Q E => ∃ x dx us F L cs Qd ad, vs = .ref x :: us ∧ us.length = n ∧ H x = some (.ins (He.ga K c) dx []) ∧ H dx = some (.own x) ∧ dx ≠ x ∧ F x = none ∧ F dx = none ∧
  SR ⟨K, hide H x dx, F, [], ad⟩ F L (us.map some) H (cs.map some) ∧ w cs Qd (fun _ _ _ => False) ∧
  (∀ ds o F' H' fv, Qd (.val (.obj c ks ds)) o → Post ⟨K, hide H x dx, F, [], ad⟩ F' H' o → H' x = some (.ins (He.ga K c) dx (ks.zip fv)) → ks.length = fv.length → RpL K F' ds fv → F' x = none → Q .non H')
theorem spIn_len {K : PySem.W.Frag} {c : Str} {ks : List Str} {n : Nat} {w : DSp} : ∀ vs H Q E, spIn K c ks n w vs H Q E → vs.length = n + 1 := fun _ _ _ _ ⟨_, _, us, _, _, _, _, _, e, h, _⟩ => by subst e; rw [List.length_cons, h]
section
variable {B : Bd} {F H F' H' : Hp} {L : La} {σ : L2.St} {ρ : En}
/-- a thing that no name holds is made still -/
theorem SR.freezeO {a : Addr} {o : HO} (S : SR B F L σ H ρ) (h : H a = some o) (f : F a = none) (n : ∀ i, L i ≠ some a) (h0 : B.H0 a = none) : SR B (upd F a o) L σ H ρ where
  len := S.len
  sub := fun b o e => by
    by_cases hb : b = a
    · subst hb; rw [upd_same] at e; rw [← e]; exact h
    · rw [upd_ne hb] at e; exact S.sub b o e
  slot := fun i => by
    have q := S.slot i
    revert q
    cases ρ.getD i none with
    | none => exact id
    | some c =>
      cases c with
      | val d => exact fun ⟨h1, v, h2, h3⟩ => ⟨h1, v, h2, h3.mono (same_upd f)⟩
      | own ds =>
        intro ⟨b, ws, h1, h2, h3, h4, h5, h6⟩
        have hb : b ≠ a := fun z => n i (by rw [h2, z])
        exact ⟨b, ws, h1, h2, h3, by rw [upd_ne hb]; exact h4, h5.mono (same_upd f), h6⟩
  inj := S.inj
  f0 := S.f0.trans (same_upd f)
  fn := fun b o e => by
    by_cases hb : b = a
    · rw [hb]; exact .inr h0
    · rw [upd_ne hb] at e; exact S.fn b o e
  keep := S.keep
  io := S.io
  al := S.al
theorem Stp.freezeO {L' : La} {a : Addr} {o : HO} (s : Stp F L H F' L' H') (f : F' a = none) (nw : H a = none ∨ ∃ i, L i = some a) : Stp F L H (upd F' a o) L' H' where
  f := s.f.trans (same_upd f)
  l := s.l
  h := s.h
  fn := fun b o e => by
    by_cases hb : b = a
    · rw [hb]; exact .inr nw
    · rw [upd_ne hb] at e; exact s.fn b o e
  al := s.al
theorem hide_upd {x dx : Addr} {o o2 : HO} (hx : H x = none) (hd : H dx = none) : hide (upd (upd H dx o) x o2) x dx = H := by
  funext b
  unfold hide
  by_cases h1 : b = x
  · rw [if_pos (.inl h1), h1, hx]
  · by_cases h2 : b = dx
    · rw [if_pos (.inr h2), h2, hd]
    · rw [if_neg (by simp [h1, h2]), upd_ne h1, upd_ne h2]
end
/-- an __init__ of the text -/
structure InitOk (P : Program) (w : World) (K : PySem.W.Frag) (mg : Str → Option Value) (base : Heap) (lv : Nat) (c : Str) (ks : List Str) (fd : FuncData) (ps : List Str) (n : Nat) (sp : DSp) : Prop where
  ok : FnOk P w K mg base (L2.CX P w) lv (He.ma K (He.ga K c) "__init__") fd ps (spIn K c ks n sp)
  binds : Binds K fd ps []
  mkr : Mk K (He.ga K c) (He.ma K (He.ga K c) "__init__")
  glo : mg c = some (.ref (He.ga K c))
def mMake (as : List KX) (w : DSp) : DC := fun ρ Q E => mKXs as ρ (fun kv ρ1 => match rsvs ρ1 kv with
  | some cs => w cs (fun c o => Q c (putO ρ1 0 kv o)) (fun _ _ _ => False)
  | none => False) E
section
variable {X : Cx} {B : Bd} {W : WX} {pos : Pos} {e : Expr} {es : List Expr}
theorem pass_no {P : Program} {w : World} {X : Cx} : Passes (L2.CX P w) X (fun _ _ _ => False) := fun _ _ _ _ _ _ _ ⟨_, _, _, _, _, _, _, _, _, _, _, _, z⟩ => z.elim
theorem dc_make {as : List KX} {n lv k : Nat} {w : DSp} {fd : FuncData} {ps : List Str} {c : Str} {ks : List Str} {p : Pos} (I : InitOk X.prog X.w X.K X.mg X.base lv c ks fd ps n w) (hr : Room k X.A) (hle : lv + 1 ≤ k) (ha : PA X (e :: es) (rK B W as)) (hK : B.K = X.K := by rfl)
    (hn : as.length = n := by rfl) (hio : iosS 0 (as.map KX.sh) = [] := by rfl) (hgs : goodS (as.map KX.sh) = true := by rfl) (hg : Gl X c := by rfl) (hdb : (c == ("__debug__" : Str)) = false := by decide)
    (he : starEach (e :: es) X.env = (false, eval e X.env) :: starEach es X.env := by rfl) (hpl : (backTo pos (starEach es X.env)).any (·.1) = false := by rfl) : PE X (.Call (.Name c p) (e :: es) [] pos) (rC B W (mMake as w)) := by
  refine pe_imp (pe_make (E := fun _ _ _ => False) I.mkr I.ok (hr.mono hle) hg I.glo I.binds .nil pass_no ha hdb he hpl) fun σ H Q ⟨F0, L, ρ, Qd, Ed, S, ht, hq, hx⟩ => ?_
  refine ⟨F0, L, ρ, _, Ed, S, ht, fun kv ρ1 vs F1 L1 H1 kk S1 s1 r hsh nw => ?_, hx⟩
  intro x dx hx0 hd0 hne
  have kk' : match rsvs ρ1 kv with
    | some cs => w cs (fun c o => Qd c (putO ρ1 0 kv o)) (fun _ _ _ => False)
    | none => False := kk
  split at kk'
  · rename_i cs ec
    rw [List.append_nil]
    have hh := hide_upd (H := H1) (o := .own x) (o2 := .ins (He.ga X.K c) dx []) hx0 hd0
    have fx : F1 x = none := by
      cases z : F1 x with
      | none => rfl
      | some o => rw [S1.sub x o z] at hx0; cases hx0
    have fdx : F1 dx = none := by
      cases z : F1 dx with
      | none => rfl
      | some o => rw [S1.sub dx o z] at hd0; cases hd0
    have hs1 : Same H1 (upd (upd H1 dx (.own x)) x (.ins (He.ga X.K c) dx [])) := (same_upd hd0).trans (same_upd (by rw [upd_ne (fun z => hne z.symm)]; exact hx0))
    have en := S1.enter r ec hsh hgs
    rw [hio, hK] at en
    have hb0 : B.H0 x = none := by
      cases z : B.H0 x with
      | none => rfl
      | some o => exact absurd hx0 (S1.al x (by rw [z]; simp))
    refine ⟨x, dx, vs, F1, laOf cs vs, cs, _, adOf vs, rfl, ?_, upd_same, by rw [upd_ne hne, upd_same], hne, fx, fdx, ?_, kk', ?_⟩
    · rw [r.length, ← hn, ← List.length_map (f := KX.sh) (as := as), ← hsh, List.length_map]
    · rw [hh]
      exact en.grow ⟨Same.refl _, hs1, fun _ _ z => .inl z⟩ (en.sub.trans hs1)
    · intro ds o F' H' fv q p hx' hl rr fx'
      rw [hh] at p
      refine ⟨rfl, ?_⟩
      have p' : Post ⟨B.K, H1, F1, iosS 0 (as.map KX.sh), adOf vs⟩ F' H' o := by rw [hio, hK]; exact p
      have S2 := S1.exit r ec hsh hgs p'
      have st := Stp.call S1 s1 r ec hsh nw p'
      have nl : ∀ i, L1 i ≠ some x := fun i z => by
        obtain ⟨_, _, _, _, h, _⟩ := S1.own z
        rw [hx0] at h
        cases h
      refine hq (.val (.obj c ks ds)) _ (.ref x) _ L1 H' q (S2.freezeO hx' fx' nl hb0) (st.freezeO fx' (.inl ?_)) ⟨x, dx, fv, rfl, ?_, hl, ?_⟩
      · cases z : H x with
        | none => rfl
        | some o => exact absurd hx0 (s1.al x (by rw [z]; simp))
      · rw [upd_same, hK]
      · rw [hK]
        exact rr.mono (same_upd fx')
  · exact kk'.elim
end
end DL
/-! The data layer: an __init__ that stores its attributes in order. -/
namespace DL
open PySem PySem.Spec PyProof.Rows L2
/-- the state while an instance at x is made: ks are stored, as ds -/
structure IR (B : Bd) (x dx C : Addr) (ks : List Str) (ds : List D) (F : Hp) (L : La) (σ : L2.St) (H : Hp) (ρ : En) : Prop where
  S : SR B F L σ H ρ
  at_ : ∃ fv, H x = some (.ins C dx (ks.zip fv)) ∧ ks.length = fv.length ∧ RpL B.K F ds fv
  fx : F x = none
  hx : B.H0 x = none
  io : B.ios = []
section
variable {B : Bd} {x dx C : Addr} {ks KS : List Str} {ds : List D} {F H F' H' F1 H1 : Hp} {L L' L1 : La} {σ σ' σ1 : L2.St} {ρ ρ' ρ1 : En}
theorem IR.nl (I : IR B x dx C ks ds F L σ H ρ) (i : Nat) : L i ≠ some x := fun z => by
  obtain ⟨_, _, _, _, h, _⟩ := I.S.own z
  obtain ⟨fv, h2, _⟩ := I.at_
  rw [h2] at h
  cases h
theorem IR.step (I : IR B x dx C ks ds F L σ H ρ) (S' : SR B F' L' σ H' ρ') (s : Stp F L H F' L' H') : IR B x dx C ks ds F' L' σ H' ρ' where
  S := S'
  at_ := by
    obtain ⟨fv, h1, h2, h3⟩ := I.at_
    exact ⟨fv, s.h _ _ h1 I.nl, h2, h3.mono s.f⟩
  fx := by
    obtain ⟨fv, h1, h2, h3⟩ := I.at_
    cases z : F' x with
    | none => rfl
    | some o =>
      rcases s.fn x o z with q | q | ⟨i, q⟩
      · rw [I.fx] at q; cases q
      · rw [h1] at q; cases q
      · exact absurd q (I.nl i)
  hx := I.hx
  io := I.io
def noOwns (ρ : En) : Bool := ρ.all fun c => !isOwn c
theorem SR.rebase {ad : Nat → Addr} (S : SR B F L σ H ρ) (n : noOwns ρ = true) : SR ⟨B.K, H, F, [], ad⟩ F L σ H ρ where
  len := S.len
  sub := S.sub
  slot := fun i => by
    have q := S.slot i
    cases e : ρ.getD i none with
    | none => rw [e] at q; exact q
    | some c =>
      rw [e] at q
      cases c with
      | val d => exact q
      | own ds =>
        have := List.all_eq_true.mp n _ (List.mem_of_getElem? (getD_some e))
        cases this
  inj := S.inj
  f0 := Same.refl F
  fn := fun a o h => .inl h
  keep := fun a o h _ => h
  io := fun j hj => by cases hj
  al := fun a h => h
theorem IR.unbase {ad : Nat → Addr} (h0 : IR B x dx C ks ds F1 L1 σ1 H1 ρ1) (S : SR ⟨B.K, H1, F1, [], ad⟩ F L σ H ρ) : IR B x dx C ks ds F L σ H ρ where
  S := {
    len := S.len
    sub := S.sub
    slot := fun i => by
      have q := S.slot i
      cases e : ρ.getD i none with
      | none => rw [e] at q; exact q
      | some c =>
        rw [e] at q
        cases c with
        | val d => exact q
        | own ds =>
          obtain ⟨a, vs, h1, h2, h3, h4, h5, h6⟩ := q
          refine ⟨a, vs, h1, h2, h3, h4, h5, .inr ?_⟩
          rcases h6 with ⟨j, hj, _⟩ | h6
          · cases hj
          · cases z : B.H0 a with
            | none => rfl
            | some o => exact absurd h6 (h0.S.al a (by rw [z]; simp))
    inj := S.inj
    f0 := h0.S.f0.trans S.f0
    fn := fun a o e => by
      rcases S.fn a o e with q | q
      · exact h0.S.fn a o q
      · refine .inr ?_
        cases z : B.H0 a with
        | none => rfl
        | some o => exact absurd q (h0.S.al a (by rw [z]; simp))
    keep := fun a o e n => S.keep a o (h0.S.keep a o e n) fun j hj => by cases hj
    io := fun j hj => by rw [h0.io] at hj; cases hj
    al := fun a e => S.al a (h0.S.al a e) }
  at_ := by
    obtain ⟨fv, h1, h2, h3⟩ := h0.at_
    exact ⟨fv, S.keep _ _ h1 fun j hj => (by cases hj), h2, h3.mono S.f0⟩
  fx := by
    obtain ⟨fv, h1, h2, h3⟩ := h0.at_
    cases z : F x with
    | none => rfl
    | some o =>
      rcases S.fn x o z with q | q
      · have q' : F1 x = some o := q
        rw [h0.fx] at q'
        cases q'
      · have q' : H1 x = none := q
        rw [h1] at q'
        cases q'
  hx := h0.hx
  io := h0.io
def shl (L : La) : La := fun i => match i with
  | 0 => none
  | i + 1 => L i
theorem SR.first {d : D} {v : V} (S : SR B F L σ H ρ) (io : B.ios = []) (r : Rp B.K F d v) : SR B F (shl L) (some v :: σ) H (some (.val d) :: ρ) where
  len := by rw [List.length_cons, List.length_cons, S.len]
  sub := S.sub
  slot := fun i => by
    cases i with
    | zero => exact ⟨rfl, v, rfl, r⟩
    | succ i => exact S.slot i
  inj := fun i j a h1 h2 => by
    cases i with
    | zero => cases h1
    | succ i =>
      cases j with
      | zero => cases h2
      | succ j => exact congrArg (· + 1) (S.inj i j a h1 h2)
  f0 := S.f0
  fn := S.fn
  keep := S.keep
  io := fun j hj => by rw [io] at hj; cases hj
  al := S.al
end
/-! ### the statements' readings -/
abbrev MI := (List D → En → Prop) → List D → En → Prop
abbrev MJ := (List D → En → Prop) → En → Prop
def rIn (B : Bd) (x dx C : Addr) (ks KS : List Str) (t : MI) : TS := fun D σ H => ∃ F L ρ ds N, IR B x dx C ks ds F L σ H ρ ∧ t N ds ρ ∧ (∀ ds' ρ' F' L' σ' H', N ds' ρ' → IR B x dx C KS ds' F' L' σ' H' ρ' → D.nx σ' H')
def rJn (B B' : Bd) (x dx C : Addr) (KS : List Str) (t : MJ) : TS := fun D σ H => ∃ F L ρ N, SR B' F L σ H ρ ∧ t N ρ ∧ (∀ ds' ρ' F' L' σ' H', N ds' ρ' → IR B x dx C KS ds' F' L' σ' H' ρ' → D.nx σ' H')
def mEnd : MI := fun N ds ρ => N ds ρ
def mSto (x : Addr) (te : DE) (u : MI) : MI := fun N ds ρ => te ρ (fun d ρ1 => ρ1.getD 0 none = some (.val (.adr x)) ∧ u N (ds ++ [d]) ρ1) noX
def mEnt (t : List D → MJ) : MI := fun N ds ρ => noOwns ρ = true ∧ t ds N ρ
def mJq (t : DS) (u : MJ) : MJ := fun N ρ => t ⟨fun ρ' => u N ρ', fun _ _ => False, fun _ => False, fun _ => False, noX⟩ ρ
def mJe (u : MI) (ds : List D) : MJ := fun N ρ => u N ds ρ
def mSelf (x : Addr) (ds : List D) (i : Nat) : DE := fun ρ Q _ => ρ.getD 0 none = some (.val (.adr x)) ∧ ∃ d, ds[i]? = some d ∧ Q d ρ
/-- where a store puts an attribute -/
def PutAt (ks : List Str) (f : Str) : Prop := ∀ (fv : List V) (v : V), ks.length = fv.length → putF f v (ks.zip fv) = (ks ++ [f]).zip (fv ++ [v])
section
variable {X : Cx} {B B' : Bd} {W : WX} {pos : Pos} {e : Expr} {es : List Expr} {x dx C : Addr} {ks KS : List Str} {l : List Stmt} {st : Stmt}
theorem di_nil : PSs X [] (rIn B x dx C KS KS mEnd) := pss_imp pss_nil fun D σ H ⟨F, L, ρ, ds, N, I, q, o⟩ => o ds ρ F L σ H q I
theorem di_cons {f : Str} {p p' : Pos} {te : DE} {u : MI} (he : PE X e (rV B W te)) (cl : Cls X.K C) (na : NoAttr X.K C f) (hp : PutAt ks f) (rest : PSs X l (rIn B x dx C (ks ++ [f]) KS u)) (hN : X.N[0]? = some ("self" : Str) := by rfl) (hv : Vis X.env.scope "self" := by first | exact Or.inl rfl | exact Or.inr (Or.inl rfl) | exact Or.inr (Or.inr rfl))
    (hk : ks.length < 1000 := by decide) (hs : swapsWith e (some (.Attribute (.Name "self" p) f p')) pos.line X.env = pure false := by rfl) : PSs X (.Assign [.Attribute (.Name "self" p) f p'] e pos :: l) (rIn B x dx C ks KS (mSto x te u)) := by
  refine pss_imp (pss_cons (ps_fld (pe_var (i := 0) hN hv) he hs) rest) fun D σ H ⟨F, L, ρ, ds, N, I, q, o⟩ => ?_
  refine ⟨F, L, ρ, _, noX, I.S, q, fun d ρ' v F' L' H' ⟨e0, q'⟩ S' s r => ?_, noX_ok⟩
  obtain ⟨h1, w, h2, h3⟩ := S'.val e0
  cases (show w = V.ref x from h3)
  have I' := I.step S' s
  obtain ⟨fv, g1, g2, g3⟩ := I'.at_
  refine ⟨.ref x, h2, x, C, dx, _, rfl, g1, cl, na, ?_, ?_⟩
  · rw [List.length_zip]
    omega
  · rw [hp fv v g2]
    refine ⟨F', L', ρ', ds ++ [d], N, ⟨S'.poke I'.fx I'.nl I'.hx, ⟨fv ++ [v], upd_same, ?_, g3.append (RpL.one r)⟩, I'.fx, I'.hx, I'.io⟩, q', o⟩
    rw [List.length_append, List.length_append, g2]
    rfl
theorem di_enter {tM : List D → MJ} (h : ∀ (F1 : Hp) (L1 : La) (σ1 : L2.St) (H1 : Hp) (ρ1 : En) (ds : List D) (ad : Nat → Addr), IR B x dx C ks ds F1 L1 σ1 H1 ρ1 → PSs X l (rJn B ⟨B.K, H1, F1, [], ad⟩ x dx C KS (tM ds))) : PSs X l (rIn B x dx C ks KS (mEnt tM)) :=
  ⟨fun pins s σ H D I ⟨F, L, ρ, ds, N, J, ⟨hn, q⟩, o⟩ => (h F L σ H ρ ds (fun _ => 0) J).run pins s σ H D I ⟨F, L, ρ, N, J.S.rebase hn, q, o⟩⟩
theorem dj_cons {t : DS} {u : MJ} (h1 : PS X st (rS B' W t)) (h2 : PSs X l (rJn B B' x dx C KS u)) : PSs X (st :: l) (rJn B B' x dx C KS (mJq t u)) :=
  pss_imp (pss_cons h1 h2) fun D σ H ⟨F, L, ρ, N, S, q, o⟩ => ⟨F, L, ρ, _, S, q, ⟨fun ρ' σ' F' L' H' k S' z => ⟨F', L', ρ', N, S', k, o⟩, fun _ _ _ _ _ _ _ z => False.elim z, fun _ _ _ _ _ z => False.elim z, fun _ _ _ _ _ z => False.elim z, noX_ok⟩⟩
theorem dj_leave {F1 : Hp} {L1 : La} {σ1 : L2.St} {H1 : Hp} {ρ1 : En} {ds : List D} {ad : Nat → Addr} {u : MI} (h0 : IR B x dx C ks ds F1 L1 σ1 H1 ρ1) (h : PSs X l (rIn B x dx C ks KS u)) : PSs X l (rJn B ⟨B.K, H1, F1, [], ad⟩ x dx C KS (mJe u ds)) :=
  pss_imp h fun D σ H ⟨F, L, ρ, N, S, q, o⟩ => ⟨F, L, ρ, ds, N, h0.unbase S, q, o⟩
theorem de_self (i : Nat) {f : Str} {p : Pos} {F1 : Hp} {L1 : La} {σ1 : L2.St} {H1 : Hp} {ρ1 : En} {ds : List D} {ad : Nat → Addr} (h0 : IR B x dx C ks ds F1 L1 σ1 H1 ρ1) (cl : Cls X.K C) (na : NoAttr X.K C f) (hl : LkAt ks f i) (hN : X.N[0]? = some ("self" : Str) := by rfl) (hv : Vis X.env.scope "self" := by first | exact Or.inl rfl | exact Or.inr (Or.inl rfl) | exact Or.inr (Or.inr rfl))
    (hb : attributeBase (.Name "self" p) f X.env (eval (.Name "self" p) X.env) = eval (.Name "self" p) X.env := by rfl) : PE X (.Attribute (.Name "self" p) f pos) (rV ⟨B.K, H1, F1, [], ad⟩ W (mSelf x ds i)) := by
  refine pe_imp (pe_fld (pe_var (i := 0) hN hv) hb) fun σ H Q ⟨F, L, ρ, Qd, Ed, S, ⟨e0, d, hd, q⟩, hq, hx⟩ => ?_
  obtain ⟨h1, w, h2, h3⟩ := S.val e0
  cases (show w = V.ref x from h3)
  obtain ⟨fv, g1, g2, g3⟩ := h0.at_
  obtain ⟨u, hu, ru⟩ := g3.get hd
  exact ⟨.ref x, h2, x, C, dx, _, u, rfl, S.keep _ _ g1 fun j hj => (by cases hj), cl, na, (hl fv g2).trans hu, hq d ρ u F L H q S (Stp.refl _ _ _) (ru.mono S.f0)⟩
end
/-- an __init__, as what C(..) does -/
def wIn (c : Str) (KS : List Str) (k : Nat) (tb : Addr → MI) : DSp := fun cs Qd _ => ∀ x, tb x (fun ds ρ => Qd (.val (.obj c KS ds)) (outsOf ρ)) [] (some (.val (.adr x)) :: (cs.map some ++ List.replicate k none))
theorem init_ok {K : PySem.W.Frag} {P : Program} {w : World} {mg : Str → Option Value} {base : Heap} {nm qual c : Str} {KS : List Str} {params : Arguments} {body : List Stmt} {scope : Scope} {f : Addr} {fd : FuncData} {N ps : List Str} {k : Nat} (n : Nat) {tb : Addr → MI}
    (Fd : FunD K nm qual params body scope [] [] f fd) (S : FnScope N ("self" :: ps) scope) (hn : ps.length = n)
    (hb : ∀ (cdv : Value) (A : Around) (outer : List Env) (s : Shared) (H F : Hp) (E : XK) (ad : Nat → Addr) (x dx : Addr), Room k (A.deeper (envOfC qual scope s.heap.objs.size f cdv)) → Takes (cxOf (L2.CX P w) P w K mg base N qual scope f cdv A outer s H E) (fun cls d _ H' => E cls d H') →
      PSs (cxOf (L2.CX P w) P w K mg base N qual scope f cdv A outer s H E) body (rIn ⟨K, hide H x dx, F, [], ad⟩ x dx (He.ga K c) [] KS (tb x))) : FnOk P w K mg base (L2.CX P w) (k + 1) f fd ("self" :: ps) (spIn K c KS n (wIn c KS (N.length - (n + 1)) tb)) := by
  refine Fd.ok S (fun vs H Q E h => by rw [spIn_len _ _ _ _ h, List.length_cons, hn]) fun cdv A outer s H vs Q E hr ⟨x, dx, us, F, L, cs, Qd, ad, ev, hl, hx, hdx, hne, fx, fdx, hS, hw, hq⟩ => ?_
  subst ev
  have hhx : hide H x dx x = none := if_pos (.inl rfl)
  refine ⟨_, hb cdv A outer s H F E ad x dx hr (takes_of rfl rfl rfl rfl), F, shl L, _, [], _, ⟨?_, ⟨[], hx, rfl, rfl⟩, fx, hhx, rfl⟩, hw x, fun ds' ρ' F' L' σ' H' q I => ?_⟩
  · have := (hS.first rfl (d := .adr x) (v := .ref x) rfl).pad (N.length - (n + 1))
    unfold L2.start
    rw [List.length_cons, hl]
    exact this
  · obtain ⟨fv, g1, g2, g3⟩ := I.at_
    exact hq ds' _ F' H' fv q I.S.post g1 g2 g3 I.fx
end DL
/-! The data layer: range objects, comprehensions with two sources. -/
namespace DL
open PySem PySem.Spec PyProof.Rows L2
/-! ### range objects -/
theorem cr_range1 {X : Cx} : CallR X (.type "range") (fun vs H Q => ∃ i, vs = [V.int i] ∧ ∀ p, H p = none → Q (.ref p) (upd H p (.rng 0 i))) := by
  intro pins s σ H vs us Q I r h
  obtain ⟨i, rfl, q⟩ := h
  cases r with
  | cons r rr =>
    cases rr
    obtain ⟨t, rfl⟩ := r
    refine call_range_1 ⟨.ref s.heap.objs.size, upd H s.heap.objs.size (.rng 0 i), I.laid (t' := s.toks + 1 + 1) (fun b o e => Heap.get?_push_of_some _ e) (Nat.le_refl _) ?_, rfl, q _ (I.hok.fresh (Nat.le_refl _))⟩
    exact ⟨_, _, _, Heap.get?_push_size _ rfl⟩
def rRg1 : List V → Hp → VK → Prop := fun vs H Q => ∃ i, vs = [V.int i] ∧ ∀ p, H p = none → Q (.ref p) (upd H p (.rng 0 i))
def gRg1 : D → Option Cell
  | .int i => some (.val (.rng 0 i))
  | _ => none
abbrev fRg1 : DOpN := n1 gRg1
theorem fRg1_ok {K : PySem.W.Frag} : OpN K rRg1 fRg1 := by
  refine n1_ok fun F H d v c Q sb h e q => ?_
  unfold gRg1 at e
  split at e
  · cases e
    rename_i i
    cases (show v = V.int i from h)
    refine ⟨i, rfl, fun p hp => ?_⟩
    obtain ⟨g1, g2⟩ := grow_upd (o := .rng 0 i) sb hp
    exact q _ _ _ g1 g2 ⟨p, rfl, upd_same⟩
  · cases e
theorem call_rg1 {X : Cx} : CallR X (.type "range") rRg1 := cr_range1
def rRg2 : List V → Hp → VK → Prop := fun vs H Q => ∃ i j, vs = [V.int i, V.int j] ∧ ∀ p, H p = none → Q (.ref p) (upd H p (.rng i j))
def gRg2 : D → D → Option Cell
  | .int i, .int j => some (.val (.rng i j))
  | _, _ => none
abbrev fRg2 : DOpN := n2 gRg2
theorem fRg2_ok {K : PySem.W.Frag} : OpN K rRg2 fRg2 := by
  refine n2_ok fun F H d d2 v v2 c Q sb h h2 e q => ?_
  unfold gRg2 at e
  split at e
  · cases e
    rename_i i j
    cases (show v = V.int i from h)
    cases (show v2 = V.int j from h2)
    refine ⟨i, j, rfl, fun p hp => ?_⟩
    obtain ⟨g1, g2⟩ := grow_upd (o := .rng i j) sb hp
    exact q _ _ _ g1 g2 ⟨p, rfl, upd_same⟩
  · cases e
theorem call_rg2 {X : Cx} : CallR X (.type "range") rRg2 := cr_range2
/-- a range object, walked -/
def iRngV (tl : TE) : TI := fun σ H R => tl σ H fun x H1 => ∃ a lo hi, x = .ref a ∧ H1 a = some (.rng lo hi) ∧ -(2 ^ 62) ≤ lo ∧ lo < 2 ^ 62 ∧ -(2 ^ 62) ≤ hi ∧ hi < 2 ^ 62 ∧ R (Itr lo (hi - lo).toNat) H1
theorem pi_rngV {X : Cx} {tg l : Expr} {tl : TE} (hl : PE X l tl) : PI X tg l (iRngV tl) := by
  refine ⟨fun pins s σ H R I h => ?_⟩
  refine thn (hl.run pins s σ H _ I h) fun v s1 ⟨x, H1, I1, r1, q1⟩ => ?_
  obtain ⟨a, lo, hi, e, ha, h1, h2, h3, h4, q⟩ := q1
  subst e
  cases r1
  obtain ⟨t, u, v, ho⟩ := I1.hok a _ ha
  refine wpAny_pyIter_range (show IsRange s1.heap a lo hi 1 t u v from ho) (small_one h1 h2 h3 h4) ?_
  refine ⟨s1.heap.objs.size, [s1.heap.objs.size], _, _, H1, rfl, I1.kept (t' := s1.toks) fun b o e => Heap.get?_push_of_some _ e, turn_range _ lo (hi - lo).toNat, ?_, fun b hb => ?_, q⟩
  · have e1 : lo + ((0 : Nat) : Int) * 1 = lo := by simp
    have e2 : (((hi - lo).toNat : Nat) : Int) - ((0 : Nat) : Int) = Builtin.Range.rangeSize lo hi 1 := by rw [rangeSize_one]; split <;> omega
    show IsRangeIter _ _ (lo + ((0 : Nat) : Int) * 1) ((((hi - lo).toNat : Nat) : Int) - ((0 : Nat) : Int)) 1
    rw [e1, e2]
    exact Heap.get?_push_size _ rfl
  · have e : b = s1.heap.objs.size := by simpa using hb
    subst e
    exact I1.fpOk (Nat.le_refl _) (I1.hok.fresh (Nat.le_refl _))
def iRgO (t : DE) : DI := fun ρ Q E => t ρ (fun d ρ1 => match d with
  | .rng lo hi => lim62 lo ∧ lim62 hi ∧ Q (rangeD lo (hi - lo).toNat) ρ1
  | _ => False) E
theorem di_rgO {X : Cx} {B : Bd} {W : WX} {tg e : Expr} {t : DE} (he : PE X e (rV B W t)) : PI X tg e (rI B W (iRgO t)) := by
  refine pi_imp (pi_rngV he) fun σ H R ⟨F, L, ρ, Qd, Ed, S, ht, hq, hx⟩ => ⟨F, L, ρ, _, Ed, S, ht, fun d ρ' v F' L' H' k S' s r => ?_, hx⟩
  split at k
  · rename_i lo hi
    obtain ⟨⟨l1, l2⟩, ⟨l3, l4⟩, k⟩ := k
    obtain ⟨a, ev, q⟩ := r
    subst ev
    exact ⟨a, lo, hi, rfl, S'.sub _ _ q, l1, l2, l3, l4, hq _ ρ' F' L' H' _ k S' s gives_range⟩
  · exact k.elim
/-! ### comprehensions with two sources -/
def lcGo2 (p : Pt) (tt : DT) (it1 : DI) (p1 : Pt) (tt1 : DT) (te : DE) (vs vs1 : List Nat) : List D → List D → En → (List D → En → Prop) → Prop
  | [], acc, ρ, Q => Q acc ρ
  | d :: ds, acc, ρ, Q => ptGo p d ρ fun ρ1 => tt ρ1 (fun b ρ2 => if b = true then it1 ρ2 (fun items ρ3 => lcGo p1 tt1 te vs1 items acc (wipeE ρ3 vs1) fun acc2 ρ4 => lcGo2 p tt it1 p1 tt1 te vs vs1 ds acc2 (wipeE ρ4 vs) Q) noX else lcGo2 p tt it1 p1 tt1 te vs vs1 ds acc (wipeE ρ2 vs) Q) noX
def mLc2 (it : DI) (p : Pt) (tt : DT) (it1 : DI) (p1 : Pt) (tt1 : DT) (te : DE) (vs vs1 : List Nat) : DC := fun ρ Q E => it ρ (fun items ρ1 => noOwn ρ1 vs = true ∧ lcGo2 p tt it1 p1 tt1 te vs vs1 items [] (wipeE ρ1 vs) fun acc ρ2 => Q (.own acc) (backE ρ2 ρ1 vs)) E
theorem on_step {F L H F' L' H'} {D : Addr} {av : List V} (s : Stp F L H F' L' H') (h1 : H D = some (.lst av)) (h2 : F D = none) (h3 : ∀ i, L i ≠ some D) : H' D = some (.lst av) ∧ F' D = none ∧ ∀ i, L' i ≠ some D := by
  refine ⟨s.h _ _ h1 h3, ?_, fun i e => h3 i (s.l i _ e)⟩
  cases e : F' D with
  | none => rfl
  | some o =>
    rcases s.fn D o e with z | z | ⟨i, z⟩
    · rw [h2] at z; cases z
    · rw [h1] at z; cases z
    · exact absurd z (h3 i)
theorem stp_put {F1 L1 H1 F L H} {D : Addr} {o : HO} (st : Stp F1 L1 H1 F L H) (hD : H1 D = none) : Stp F1 L1 H1 F L (upd H D o) :=
  ⟨st.f, fun i a h => st.l i a h, fun b o e n => by rw [upd_ne (ne_of_none e hD)]; exact st.h b o e n, st.fn, fun b e => by rw [upd_ne (fun z => e (by rw [z]; exact hD))]; exact st.al b e⟩
theorem stp_less {F L H L'} (l : ∀ i a, L' i = some a → L i = some a) : Stp F L H F L' H := ⟨Same.refl _, l, fun _ _ e _ => e, fun _ _ e => .inl e, fun _ e => e⟩
theorem lc_in {B : Bd} {it : DI} {p : Pt} {tt : DT} {te : DE} {vs : List Nat} (hio : (vs.all fun v => !B.ios.contains v) = true) (hp : ((ptNs p).all fun v => vs.contains v) = true) {σ : L2.St} {D : Addr} {F0 : Hp} {L0 : La} {H0 : Hp} (h0 : B.H0 D = none) (hD0 : H0 D = none)
    {F : Hp} {L : La} {H : Hp} {ρ : En} {acc : List DL.D} {av : List V} (S : SR B F L σ H ρ) (s0 : Stp F0 L0 H0 F L H) (d1 : H D = some (.lst av)) (d2 : F D = none) (d3 : ∀ i, L i ≠ some D) (r0 : RpL B.K F acc av) {Kn : List DL.D → En → Prop}
    (ht : it ρ (fun items ρ3 => lcGo p tt te vs items acc (wipeE ρ3 vs) Kn) noX) {Nx : Hp → Prop}
    (hN : ∀ F L ρ acc av H, SR B F L (L2.wipe σ vs) H ρ → Stp F0 L0 H0 F L H → H D = some (.lst av) → F D = none → (∀ i, L i ≠ some D) → RpL B.K F acc av → Kn acc ρ → Nx H) :
    rI B WF it σ H fun J H1 => ∃ W1 : Nat → Nat → Hp → Prop, (∃ m, W1 0 m H1) ∧ ∀ j k H, W1 j k H → (J.stop j H ∧ Nx H) ∨ (J.go j H ∧ ∃ Nx1 : Hp → Prop, (∀ H', Nx1 H' → ∃ k', k' < k ∧ W1 (j + 1) k' H') ∧ ∀ x H', J.yld j H x H' → rP B p x (L2.wipe σ vs) H' fun σ3 H5 => L2.wipe σ3 vs = L2.wipe σ vs ∧ rT B WF tt σ3 H5 fun b H6 =>
      if b = true then rV B WF te σ3 H6 fun y H7 => ∃ acc, H7 D = some (.lst acc) ∧ acc.length < sizeLine ∧ Nx1 (upd H7 D (.lst (acc ++ [y]))) else Nx1 H6) := by
  have hpv : ∀ i ∈ ptNs p, i ∈ vs := fun i hi => List.contains_iff_mem.mp (List.all_eq_true.mp hp i hi)
  refine ⟨F, L, ρ, _, noX, S, ht, fun items ρ1 F1 L1 H1 J k S1 s1 gv => ?_, noX_ok⟩
  obtain ⟨e1, e2, e3⟩ := on_step s1 d1 d2 d3
  obtain ⟨Lw, Sw, lw⟩ := S1.wipe hio
  have sw := (s0.trans s1).trans (stp_less lw)
  refine ⟨fun i m H => m = items.length - i ∧ i ≤ items.length ∧ ∃ F L ρ acc av, SR B F L (L2.wipe σ vs) H ρ ∧ Stp F0 L0 H0 F L H ∧ Same F1 F ∧ H D = some (.lst av) ∧ F D = none ∧ (∀ i, L i ≠ some D) ∧ RpL B.K F acc av ∧
    lcGo p tt te vs (items.drop i) acc ρ Kn, ⟨items.length, rfl, Nat.zero_le _, F1, Lw, _, acc, av, Sw, sw, Same.refl _, e1, e2, fun i e => e3 i (lw i _ e), r0.mono s1.f, k⟩, ?_⟩
  rintro i m H2 ⟨rfl, hi, F2, L2', ρ2, acc, av, S2, s2, m2, hD2, fD2, lD2, racc, k2⟩
  by_cases hlt : i < items.length
  · rw [List.drop_eq_getElem_cons hlt] at k2
    have subF : Same F1 H2 := m2.trans S2.sub
    refine .inr ⟨gv.go i H2 subF hlt, fun H => items.length - (i + 1) = items.length - (i + 1) ∧ i + 1 ≤ items.length ∧ ∃ F L ρ acc av, SR B F L (L2.wipe σ vs) H ρ ∧ Stp F0 L0 H0 F L H ∧ Same F1 F ∧ H D = some (.lst av) ∧ F D = none ∧ (∀ i, L i ≠ some D) ∧ RpL B.K F acc av ∧
      lcGo p tt te vs (items.drop (i + 1)) acc ρ Kn, fun H' h => ⟨_, by omega, h⟩, fun x H' y => ?_⟩
    obtain ⟨F3, d, g3, sb3, ed, rd⟩ := gv.yld i F2 H2 x H' m2 S2.sub hlt y
    rw [List.getElem?_eq_getElem hlt] at ed
    cases ed
    have S3 := S2.grow g3 sb3
    refine ⟨F3, L2', ρ2, _, items[i], S3, rd, k2, fun ρ4 σ4 L4 q4 S4 l4 w4 => ⟨?_, F3, L4, ρ4, _, noX, S4, q4, fun b ρ5 F5 L5 H5 q5 S5 s5 => ?_, noX_ok⟩⟩
    · rw [w4 vs hpv, wipe_idem fun _ h => h]
    have s3 : Stp F0 L0 H0 F3 L4 H' := (s2.trans g3.stp).trans (stp_less l4)
    have hw4 : L2.wipe σ4 vs = L2.wipe σ vs := by rw [w4 vs hpv, wipe_idem fun _ h => h]
    have hD3 : H' D = some (.lst av) := g3.h _ _ hD2
    have fD3 : F3 D = none := g3.none (by rw [hD2]; simp) fD2
    have lD4 : ∀ i, L4 i ≠ some D := fun i e => lD2 i (l4 i _ e)
    cases b with
    | false =>
      obtain ⟨d1, d2, d3⟩ := on_step s5 hD3 fD3 lD4
      obtain ⟨L6, S6, l6⟩ := S5.wipe hio
      rw [hw4] at S6
      exact ⟨rfl, hlt, F5, L6, _, acc, av, S6, (s3.trans s5).trans (stp_less l6), m2.trans (g3.f.trans s5.f), d1, d2, fun i e => d3 i (l6 i _ e), racc.mono (g3.f.trans s5.f), q5⟩
    | true =>
      refine ⟨F5, L5, ρ5, _, noX, S5, q5, fun x ρ6 xv F6 L6 H6 ⟨hz, q6⟩ S6 s6 rx => ?_, noX_ok⟩
      obtain ⟨d1, d2, d3⟩ := on_step (s5.trans s6) hD3 fD3 lD4
      have r6 := racc.mono (g3.f.trans (s5.f.trans s6.f))
      refine ⟨av, d1, by rw [← racc.length]; exact hz, rfl, hlt, ?_⟩
      obtain ⟨L7, S7, l7⟩ := (S6.poke (o := .lst (av ++ [xv])) d2 d3 h0).wipe hio
      rw [hw4] at S7
      refine ⟨F6, L7, _, acc ++ [x], av ++ [xv], S7, ?_, m2.trans (g3.f.trans (s5.f.trans s6.f)), upd_same, d2, fun i e => d3 i (l7 i _ e), r6.append (RpL.one rx), q6⟩
      exact (stp_put ((s3.trans s5).trans s6) hD0).trans (stp_less l7)
  · have e : i = items.length := by omega
    subst e
    rw [List.drop_length] at k2
    exact .inl ⟨gv.stop H2 (m2.trans S2.sub), hN F2 L2' ρ2 acc av H2 S2 s2 hD2 fD2 lD2 racc k2⟩
theorem wipe_wipe {σ σ2 : L2.St} {vs vs1 : List Nat} (h : L2.wipe σ2 vs = L2.wipe σ vs) (hv : ∀ i ∈ vs1, i ∈ vs) : L2.wipe (L2.wipe σ2 vs1) vs = L2.wipe σ vs := by
  rw [wipe_idem hv, h]
theorem lc2_imp {B : Bd} {W : WX} {it it1 : DI} {p p1 : Pt} {tt tt1 : DT} {te : DE} {vs vs1 : List Nat} (hio : (vs.all fun v => !B.ios.contains v) = true) (hp : ((ptNs p).all fun v => vs.contains v) = true) (hv1 : ∀ i ∈ vs1, i ∈ vs) (hp1 : ((ptNs p1).all fun v => vs1.contains v) = true) {σ : L2.St} {H : Hp} {Q : VK} (h : rC B W (mLc2 it p tt it1 p1 tt1 te vs vs1) σ H Q) :
    tLc2 (rI B W it) (rP B p) (rT B WF tt) (rI B WF it1) (rP B p1) (rT B WF tt1) (rV B WF te) vs vs1 σ H Q := by
  obtain ⟨F, L, ρ, Qd, Ed, S, ht, hq, hx⟩ := h
  refine ⟨F, L, ρ, _, Ed, S, ht, fun items ρ1 F1 L1 H1 J ⟨kn, k⟩ S1 s1 gv D hD => ?_, hx⟩
  have hpv : ∀ i ∈ ptNs p, i ∈ vs := fun i hi => List.contains_iff_mem.mp (List.all_eq_true.mp hp i hi)
  have hio1 : (vs1.all fun v => !B.ios.contains v) = true := List.all_eq_true.mpr fun v hv => List.all_eq_true.mp hio v (hv1 v hv)
  have fD : F1 D = none := S1.sub.free hD
  have lD : ∀ i, L1 i ≠ some D := fun i e => by
    obtain ⟨_, _, _, _, q3, _⟩ := S1.own e
    rw [hD] at q3; cases q3
  have h0 : B.H0 D = none := by
    cases e : B.H0 D with
    | none => rfl
    | some o => exact absurd hD (S1.al D (by rw [e]; simp))
  obtain ⟨Lw, Sw, lw⟩ := (S1.poke (o := .lst []) fD lD h0).wipe hio
  refine ⟨fun i m H => m = items.length - i ∧ i ≤ items.length ∧ ∃ F L ρ acc av, SR B F L (L2.wipe σ vs) H ρ ∧ Stp F1 L1 H1 F L H ∧ H D = some (.lst av) ∧ F D = none ∧ (∀ i, L i ≠ some D) ∧ RpL B.K F acc av ∧
    lcGo2 p tt it1 p1 tt1 te vs vs1 (items.drop i) acc ρ fun acc ρ2 => Qd (.own acc) (backE ρ2 ρ1 vs), ⟨items.length, rfl, Nat.zero_le _, F1, Lw, _, [], [], Sw, ?_, upd_same, fD, fun i e => lD i (lw i _ e), rfl, k⟩, ?_⟩
  · exact (stp_put (Stp.refl _ _ _) hD).trans (stp_less lw)
  rintro i m H2 ⟨rfl, hi, F2, L2', ρ2, acc, av, S2, s2, hD2, fD2, lD2, racc, k2⟩
  by_cases hlt : i < items.length
  · rw [List.drop_eq_getElem_cons hlt] at k2
    have subF : Same F1 H2 := s2.f.trans S2.sub
    refine .inr ⟨gv.go i H2 subF hlt, fun H => items.length - (i + 1) = items.length - (i + 1) ∧ i + 1 ≤ items.length ∧ ∃ F L ρ acc av, SR B F L (L2.wipe σ vs) H ρ ∧ Stp F1 L1 H1 F L H ∧ H D = some (.lst av) ∧ F D = none ∧ (∀ i, L i ≠ some D) ∧ RpL B.K F acc av ∧
      lcGo2 p tt it1 p1 tt1 te vs vs1 (items.drop (i + 1)) acc ρ fun acc ρ2 => Qd (.own acc) (backE ρ2 ρ1 vs), fun H' h => ⟨_, by omega, h⟩, fun x H' y => ?_⟩
    obtain ⟨F3, d, g3, sb3, ed, rd⟩ := gv.yld i F2 H2 x H' s2.f S2.sub hlt y
    rw [List.getElem?_eq_getElem hlt] at ed
    cases ed
    have S3 := S2.grow g3 sb3
    refine ⟨F3, L2', ρ2, _, items[i], S3, rd, k2, fun ρ4 σ4 L4 q4 S4 l4 w4 => ⟨?_, F3, L4, ρ4, _, noX, S4, q4, fun b ρ5 F5 L5 H5 q5 S5 s5 => ?_, noX_ok⟩⟩
    · rw [w4 vs hpv, wipe_idem fun _ h => h]
    have s3 : Stp F1 L1 H1 F3 L4 H' := (s2.trans g3.stp).trans (stp_less l4)
    have hw4 : L2.wipe σ4 vs = L2.wipe σ vs := by rw [w4 vs hpv, wipe_idem fun _ h => h]
    have hD3 : H' D = some (.lst av) := g3.h _ _ hD2
    have fD3 : F3 D = none := g3.none (by rw [hD2]; simp) fD2
    have lD4 : ∀ i, L4 i ≠ some D := fun i e => lD2 i (l4 i _ e)
    obtain ⟨d1, d2, d3⟩ := on_step s5 hD3 fD3 lD4
    cases b with
    | false =>
      obtain ⟨L6, S6, l6⟩ := S5.wipe hio
      rw [hw4] at S6
      exact ⟨rfl, hlt, F5, L6, _, acc, av, S6, (s3.trans s5).trans (stp_less l6), d1, d2, fun i e => d3 i (l6 i _ e), racc.mono (g3.f.trans s5.f), q5⟩
    | true =>
      refine lc_in hio1 hp1 h0 hD S5 (s3.trans s5) d1 d2 d3 (racc.mono (g3.f.trans s5.f)) q5 fun F6 L6 ρ6 acc6 av6 H6 S6 s6 c1 c2 c3 r6 q6 => ?_
      obtain ⟨L7, S7, l7⟩ := S6.wipe hio
      rw [wipe_wipe hw4 hv1] at S7
      exact ⟨rfl, hlt, F6, L7, _, acc6, av6, S7, s6.trans (stp_less l7), c1, c2, fun i e => c3 i (l7 i _ e), r6, q6⟩
  · have e : i = items.length := by omega
    subst e
    rw [List.drop_length] at k2
    refine .inl ⟨gv.stop H2 (s2.f.trans S2.sub), hq (.own acc) _ _ F2 L2' H2 k2 (S1.back kn S2 s2.f) (s1.trans s2) ⟨D, av, rfl, hD2, fD2, lD2, h0, racc, .inl ?_⟩⟩
    cases e : H D with
    | none => rfl
    | some o => exact absurd hD (s1.al D (by rw [e]; simp))
section
variable {X : Cx} {B : Bd} {W : WX} {pos : Pos}
theorem dc_lc2 {elt tg iter tg1 iter1 : Expr} {ifs ifs1 : List Expr} {scope : Scope} (own : List (Str × Nat)) (vs1 : List Nat) {it it1 : DI} {p p1 : Pt} {tt tt1 : DT} {te : DE} (hc : X.calm = true) (hN : X.N.Nodup) (hi : PI X tg iter (rI B W it))
    (hg : ∀ (s : Shared) (H : Hp) (C : Addr) (cl : List (Str × Addr)) (fp : List Addr), PG (X.blk s H scope (compEnvC scope cl C X.env) fp) tg (rP B p)) (ht : ∀ (s : Shared) (H : Hp) (C : Addr) (cl : List (Str × Addr)) (fp : List Addr), PTs (X.blk s H scope (compEnvC scope cl C X.env) fp) ifs (rT B WF tt))
    (hi1 : ∀ (s : Shared) (H : Hp) (C : Addr) (cl : List (Str × Addr)) (fp : List Addr), PI (X.blk s H scope (compEnvC scope cl C X.env) fp) tg1 iter1 (rI B WF it1))
    (hg1 : ∀ (s : Shared) (H : Hp) (C : Addr) (cl : List (Str × Addr)) (fp : List Addr), PG (X.blk s H scope (compEnvC scope cl C X.env) fp) tg1 (rP B p1)) (ht1 : ∀ (s : Shared) (H : Hp) (C : Addr) (cl : List (Str × Addr)) (fp : List Addr), PTs (X.blk s H scope (compEnvC scope cl C X.env) fp) ifs1 (rT B WF tt1))
    (he : ∀ (s : Shared) (H : Hp) (C : Addr) (cl : List (Str × Addr)) (fp : List Addr), PE (X.blk s H scope (compEnvC scope cl C X.env) fp) elt (rV B WF te)) (ok : blkC X.N X.env.scope scope own = true := by rfl) (hio : ((own.map (·.2)).all fun v => !B.ios.contains v) = true := by rfl) (hp : ((ptNs p).all fun v => (own.map (·.2)).contains v) = true := by rfl)
    (hv1 : (vs1.all fun v => (own.map (·.2)).contains v) = true := by rfl) (hp1 : ((ptNs p1).all fun v => vs1.contains v) = true := by rfl)
    (hs : ∀ x, foldedSetIterable iter X.env x = pure x := by intro _; rfl) (hs1 : ∀ env x, foldedSetIterable iter1 env x = pure x := by intro _ _; rfl) : PE X (.ListComp elt [⟨tg, iter, ifs, 0⟩, ⟨tg1, iter1, ifs1, 0⟩] scope pos) (rC B W (mLc2 it p tt it1 p1 tt1 te (own.map (·.2)) vs1)) :=
  have hv : ∀ i ∈ vs1, i ∈ own.map (·.2) := fun i hi => List.contains_iff_mem.mp (List.all_eq_true.mp hv1 i hi)
  pe_imp (pe_lc2 hc hN hi (blkOk_by ok) hv hg ht hi1 hg1 ht1 he hs hs1) fun _ _ _ h => lc2_imp hio hp hv hp1 h
theorem ds_setLc2 (i : Nat) {y : Str} {py : Pos} {elt tg iter tg1 iter1 : Expr} {ifs ifs1 : List Expr} {scope : Scope} {spos : Pos} (own : List (Str × Nat)) (vs1 : List Nat) {it it1 : DI} {p p1 : Pt} {tt tt1 : DT} {te : DE} (hc : X.calm = true) (hN : X.N.Nodup) (hi : PI X tg iter (rI B W it))
    (hg : ∀ (s : Shared) (H : Hp) (C : Addr) (cl : List (Str × Addr)) (fp : List Addr), PG (X.blk s H scope (compEnvC scope cl C X.env) fp) tg (rP B p)) (ht : ∀ (s : Shared) (H : Hp) (C : Addr) (cl : List (Str × Addr)) (fp : List Addr), PTs (X.blk s H scope (compEnvC scope cl C X.env) fp) ifs (rT B WF tt))
    (hi1 : ∀ (s : Shared) (H : Hp) (C : Addr) (cl : List (Str × Addr)) (fp : List Addr), PI (X.blk s H scope (compEnvC scope cl C X.env) fp) tg1 iter1 (rI B WF it1))
    (hg1 : ∀ (s : Shared) (H : Hp) (C : Addr) (cl : List (Str × Addr)) (fp : List Addr), PG (X.blk s H scope (compEnvC scope cl C X.env) fp) tg1 (rP B p1)) (ht1 : ∀ (s : Shared) (H : Hp) (C : Addr) (cl : List (Str × Addr)) (fp : List Addr), PTs (X.blk s H scope (compEnvC scope cl C X.env) fp) ifs1 (rT B WF tt1))
    (he : ∀ (s : Shared) (H : Hp) (C : Addr) (cl : List (Str × Addr)) (fp : List Addr), PE (X.blk s H scope (compEnvC scope cl C X.env) fp) elt (rV B WF te)) (hsw : swapsWith (.ListComp elt [⟨tg, iter, ifs, 0⟩, ⟨tg1, iter1, ifs1, 0⟩] scope pos) (some (.Name y py)) spos.line X.env = pure true := by exact sw_true rfl rfl rfl rfl)
    (hy : X.N[i]? = some y := by rfl) (hyl : X.env.scope.names.lookup y = some .local := by rfl) (hioi : B.ios.contains i = false := by rfl) (ok : blkC X.N X.env.scope scope own = true := by rfl) (hio : ((own.map (·.2)).all fun v => !B.ios.contains v) = true := by rfl) (hp : ((ptNs p).all fun v => (own.map (·.2)).contains v) = true := by rfl)
    (hv1 : (vs1.all fun v => (own.map (·.2)).contains v) = true := by rfl) (hp1 : ((ptNs p1).all fun v => vs1.contains v) = true := by rfl)
    (hs : ∀ x, foldedSetIterable iter X.env x = pure x := by intro _; rfl) (hs1 : ∀ env x, foldedSetIterable iter1 env x = pure x := by intro _ _; rfl) : PS X (.Assign [.Name y py] (.ListComp elt [⟨tg, iter, ifs, 0⟩, ⟨tg1, iter1, ifs1, 0⟩] scope pos) spos) (rS B W (mAsg (.nm i) (mLc2 it p tt it1 p1 tt1 te (own.map (·.2)) vs1))) := by
  have hv : ∀ i ∈ vs1, i ∈ own.map (·.2) := fun i hi => List.contains_iff_mem.mp (List.all_eq_true.mp hv1 i hi)
  refine ps_impL (ps_setLc2 hc hN hy hyl hsw hi (blkOk_by ok) hv hg ht hi1 hg1 ht1 he hs hs1) fun D σ H hl h => ?_
  obtain ⟨F, L, ρ, Dd, S, q, o⟩ := h
  have hlt : i < σ.length := by rw [hl]; exact (List.getElem?_eq_some_iff.mp hy).1
  refine lc2_imp hio hp hv hp1 ⟨F, L, ρ, _, Dd.ex, S, q, fun c ρ1 v F1 L1 H1 k S1 s1 r1 => ?_, o.ex⟩
  have k' : Dd.nx (ρ1.set i (some c)) := k
  cases c with
  | val d => exact o.nx _ _ _ _ _ k' (S1.put hioi hlt r1) s1.f
  | own ds =>
    obtain ⟨a, vs, e, h1, h2, h3, h4, h5, _⟩ := r1
    subst e
    exact o.nx _ _ _ _ _ k' (S1.putO hioi hlt h1 h2 h3 h4 h5) s1.f
theorem ds_setLcV2 (i : Nat) {y : Str} {py : Pos} {elt tg iter tg1 iter1 : Expr} {ifs ifs1 : List Expr} {scope : Scope} {spos : Pos} (own : List (Str × Nat)) (vs1 : List Nat) {it it1 : DI} {p p1 : Pt} {tt tt1 : DT} {te : DE} (hc : X.calm = true) (hN : X.N.Nodup) (hi : PI X tg iter (rI B W it))
    (hg : ∀ (s : Shared) (H : Hp) (C : Addr) (cl : List (Str × Addr)) (fp : List Addr), PG (X.blk s H scope (compEnvC scope cl C X.env) fp) tg (rP B p)) (ht : ∀ (s : Shared) (H : Hp) (C : Addr) (cl : List (Str × Addr)) (fp : List Addr), PTs (X.blk s H scope (compEnvC scope cl C X.env) fp) ifs (rT B WF tt))
    (hi1 : ∀ (s : Shared) (H : Hp) (C : Addr) (cl : List (Str × Addr)) (fp : List Addr), PI (X.blk s H scope (compEnvC scope cl C X.env) fp) tg1 iter1 (rI B WF it1))
    (hg1 : ∀ (s : Shared) (H : Hp) (C : Addr) (cl : List (Str × Addr)) (fp : List Addr), PG (X.blk s H scope (compEnvC scope cl C X.env) fp) tg1 (rP B p1)) (ht1 : ∀ (s : Shared) (H : Hp) (C : Addr) (cl : List (Str × Addr)) (fp : List Addr), PTs (X.blk s H scope (compEnvC scope cl C X.env) fp) ifs1 (rT B WF tt1))
    (he : ∀ (s : Shared) (H : Hp) (C : Addr) (cl : List (Str × Addr)) (fp : List Addr), PE (X.blk s H scope (compEnvC scope cl C X.env) fp) elt (rV B WF te)) (hsw : swapsWith (.ListComp elt [⟨tg, iter, ifs, 0⟩, ⟨tg1, iter1, ifs1, 0⟩] scope pos) (some (.Name y py)) spos.line X.env = pure true := by exact sw_true rfl rfl rfl rfl)
    (hy : X.N[i]? = some y := by rfl) (hyl : X.env.scope.names.lookup y = some .local := by rfl) (hioi : B.ios.contains i = false := by rfl) (ok : blkC X.N X.env.scope scope own = true := by rfl) (hio : ((own.map (·.2)).all fun v => !B.ios.contains v) = true := by rfl) (hp : ((ptNs p).all fun v => (own.map (·.2)).contains v) = true := by rfl)
    (hv1 : (vs1.all fun v => (own.map (·.2)).contains v) = true := by rfl) (hp1 : ((ptNs p1).all fun v => vs1.contains v) = true := by rfl)
    (hs : ∀ x, foldedSetIterable iter X.env x = pure x := by intro _; rfl) (hs1 : ∀ env x, foldedSetIterable iter1 env x = pure x := by intro _ _; rfl) : PS X (.Assign [.Name y py] (.ListComp elt [⟨tg, iter, ifs, 0⟩, ⟨tg1, iter1, ifs1, 0⟩] scope pos) spos) (rS B W (mAsg (.nm i) (vl (frz (mLc2 it p tt it1 p1 tt1 te (own.map (·.2)) vs1))))) := by
  have hv : ∀ i ∈ vs1, i ∈ own.map (·.2) := fun i hi => List.contains_iff_mem.mp (List.all_eq_true.mp hv1 i hi)
  refine ps_impL (ps_setLc2 hc hN hy hyl hsw hi (blkOk_by ok) hv hg ht hi1 hg1 ht1 he hs hs1) fun D σ H hl h => ?_
  obtain ⟨F, L, ρ, Dd, S, q, o⟩ := h
  have hlt : i < σ.length := by rw [hl]; exact (List.getElem?_eq_some_iff.mp hy).1
  refine lc2_imp hio hp hv hp1 ⟨F, L, ρ, fun c ρ1 => Dd.nx (ρ1.set i (some (.val c.toD))), Dd.ex, S, q, fun c ρ1 v F1 L1 H1 k S1 s1 r1 => ?_, o.ex⟩
  have k' : Dd.nx (ρ1.set i (some (.val c.toD))) := k
  cases c with
  | val d => exact o.nx _ _ _ _ _ k' (S1.put hioi hlt r1) s1.f
  | own ds =>
    obtain ⟨a, vs, e, h1, h2, h3, h4, h5, _⟩ := r1
    subst e
    exact o.nx _ _ _ _ _ k' ((S1.freeze h1 h2 h3 h4).put hioi hlt ⟨a, vs, rfl, upd_same, h5.mono (same_upd h2)⟩) (s1.f.trans (same_upd h2))
end
/-! ### displays with stars: (*xs, y, ..) -/
abbrev DK := En → (List D → En → Prop) → DX → Prop
def kN : DK := fun ρ Q _ => Q [] ρ
def kC (t : DE) (k : DK) : DK := fun ρ Q E => t ρ (fun d ρ1 => k ρ1 (fun ds => Q (d :: ds)) E) E
def kS (t : DE) (k : DK) : DK := fun ρ Q E => t ρ (fun d ρ1 => match seqOf d with
  | some xs => k ρ1 (fun ds => Q (xs ++ ds)) E
  | none => False) E
def rDx (B : Bd) (W : WX) (k : DK) : TA := fun σ H Q => ∃ F L ρ Qd Ed, SR B F L σ H ρ ∧ k ρ Qd Ed ∧
  (∀ ds ρ' vs F' L' H', Qd ds ρ' → SR B F' L' σ H' ρ' → Stp F L H F' L' H' → RpL B.K F' ds vs → Q vs H') ∧ XOk B W F Ed
section
variable {X : Cx} {B : Bd} {W : WX} {pos p : Pos} {e : Expr} {es : List Expr} {t : DE} {k : DK}
theorem dxn : PA X [] (rDx B W kN) := pa_imp pa_nil fun σ H Q ⟨F, L, ρ, Qd, Ed, S, ht, hq, hx⟩ => hq [] ρ [] F L H ht S (Stp.refl _ _ _) rfl
theorem dxc (ha : PE X e (rV B W t)) (hr : PA X es (rDx B W k)) (hs : starEach (e :: es) X.env = (false, eval e X.env) :: starEach es X.env := by rfl) : PA X (e :: es) (rDx B W (kC t k)) :=
  pa_imp (pa_cons ha hr hs) fun σ H Q ⟨F, L, ρ, Qd, Ed, S, ht, hq, hx⟩ =>
    ⟨F, L, ρ, _, Ed, S, ht, fun d ρ1 v F1 L1 H1 q1 S1 s1 r1 => ⟨F1, L1, ρ1, _, Ed, S1, q1, fun ds ρ2 vs F2 L2 H2 q2 S2 s2 r2 => hq (d :: ds) ρ2 (v :: vs) F2 L2 H2 q2 S2 (s1.trans s2) ⟨v, vs, rfl, r1.mono s2.f, r2⟩, hx.mono s1.f⟩, hx⟩
theorem dxs (ha : PE X e (rV B W t)) (hr : PA X es (rDx B W k)) (hK : B.K = X.K := by rfl) (hs : starEach (.Starred e p :: es) X.env = (true, eval e X.env) :: starEach es X.env := by rfl) : PA X (.Starred e p :: es) (rDx B W (kS t k)) :=
  pa_imp (StX.pa_star ha hr hs) fun σ H Q ⟨F, L, ρ, Qd, Ed, S, ht, hq, hx⟩ =>
    ⟨F, L, ρ, _, Ed, S, ht, fun d ρ1 v F1 L1 H1 q1 S1 s1 r1 => by
      split at q1
      · rename_i xs e
        obtain ⟨a, vs, b, ev, q, rl⟩ := seqOf_ok r1 e
        subst ev
        refine ⟨a, vs, rfl, ?_, F1, L1, ρ1, _, Ed, S1, q1, fun ds ρ2 us F2 L2 H2 q2 S2 s2 r2 => hq (xs ++ ds) ρ2 (vs ++ us) F2 L2 H2 q2 S2 (s1.trans s2) ((rl.mono s2.f).append r2), hx.mono s1.f⟩
        cases b with
        | true => exact .inr (hK ▸ S1.sub.seq q)
        | false => exact .inl (hK ▸ Same.tseq S1.sub q)
      · exact q1.elim, hx⟩
def mTupK (k : DK) : DE := fun ρ Q E => k ρ (fun ds ρ1 => ds.length ≤ sizeLine ∧ Q (.tup ds) ρ1) E
theorem de_tupK {j : Nat} (h : PA X es (rDx B W k)) : PE X (.Tuple es j pos) (rV B W (mTupK k)) := by
  refine pe_imp (pe_tup h) fun σ H Q ⟨F, L, ρ, Qd, Ed, S, ht, hq, hx⟩ => ⟨F, L, ρ, _, Ed, S, ht, fun ds ρ1 vs F1 L1 H1 ⟨hl, k⟩ S1 s1 r1 => ⟨by rw [← r1.length]; exact hl, fun p hp => ?_⟩, hx⟩
  obtain ⟨g, s⟩ := grow_upd (o := .tup vs) S1.sub hp
  exact hq (.tup ds) ρ1 _ _ L1 _ k (S1.grow g s) (s1.trans g.stp) ⟨p, vs, rfl, SqT.of upd_same, r1.mono g.f⟩
end
end DL
/-! The data layer: dicts: k in d, d[k], len(d). -/
namespace DL
open PySem PySem.Spec PyProof.Rows L2
def keyD : D → Option Key
  | .int i => some (.inl i)
  | .str x => some (.inr x)
  | _ => none
def lookK : List Key → List D → Key → Option D
  | k :: ks, d :: ds, j => if k = j then some d else lookK ks ds j
  | _, _, _ => none
theorem keyD_ok {K : PySem.W.Frag} {F H : Hp} {d : D} {v : V} {k : Key} (h : RpV K F H d v) (e : keyD d = some k) : v = kV k := by
  cases d <;> first | (cases e; done) | skip
  · cases e
    exact h
  · cases e
    exact h
theorem lookK_ok {K : PySem.W.Frag} {F : Hp} {j : Key} : ∀ {ks : List Key} {ds : List D} {vs : List V}, RpL K F ds vs → (match lookK ks ds j with
    | some d => ∃ v, valV (ks.zip vs) j = some v ∧ Rp K F d v
    | none => ks.length = ds.length → valV (ks.zip vs) j = none)
  | [], _, _, _ => fun _ => rfl
  | k :: ks, [], _, _ => by
    intro h
    simp at h
  | k :: ks, d :: ds, _, h => by
    obtain ⟨v, r, rfl, h1, h2⟩ := h
    have ih := lookK_ok (ks := ks) (j := j) h2
    unfold lookK
    rw [List.zip_cons_cons]
    by_cases e : k = j
    · rw [if_pos e]
      exact ⟨v, valV_pos (p := (k, v)) e, h1⟩
    · rw [if_neg e, valV_neg (p := (k, v)) e]
      cases hl : lookK ks ds j with
      | some d => rw [hl] at ih; exact ih
      | none =>
        rw [hl] at ih
        intro hn
        exact ih (by simpa using hn)
def fInK : DOp2
  | x, .dic ks ds => (keyD x).map fun k => .val (.bl (lookK ks ds k).isSome)
  | x, y => fIn x y
def rInK (K : PySem.W.Frag) : R2 := fun y x H Q => rInA K y x H Q ∨ ∃ a ov, x = .ref a ∧ DGet H a y ov ∧ Q (.bl ov.isSome) H
theorem op_inK {X : Cx} (hu : X.A.units + 65 < cLine) : OpR X (compareOp .In) (rInK X.K) := OpR.or (op_inA hu) (by
  intro pins s σ H y x v u Q I ry rx h
  obtain ⟨a, ov, rfl, g, q⟩ := h
  cases rx
  exact d_in (by omega) I g ry fun s3 I3 => ⟨.bl ov.isSome, H, I3, rfl, q⟩)
theorem fInK_ok {K : PySem.W.Frag} : Op2 K (rInK K) fInK := by
  intro F H d1 d2 v1 v2 c Q sb h1 h2 e q
  cases d2 <;> first | (exact .inl (fIn_ok F H _ _ v1 v2 c Q sb h1 h2 e q)) | skip
  rename_i ks ds
  have e' : ((keyD d1).map fun k => Cell.val (.bl (lookK ks ds k).isSome)) = some c := e
  cases ek : keyD d1 with
  | none => rw [ek] at e'; cases e'
  | some k =>
    rw [ek] at e'
    cases e'
    obtain ⟨a, vs, rfl, ha, hl, hr⟩ := (show Rp K F (.dic ks ds) v2 from h2)
    rw [keyD_ok h1 ek]
    refine .inr ⟨a, valV (ks.zip vs) k, rfl, DGet.k (sb _ _ ha), ?_⟩
    have ok := lookK_ok (ks := ks) (j := k) hr
    have es : (valV (ks.zip vs) k).isSome = (lookK ks ds k).isSome := by
      cases hlk : lookK ks ds k with
      | some d =>
        rw [hlk] at ok
        obtain ⟨v, hv, _⟩ := ok
        rw [hv]
        rfl
      | none =>
        rw [hlk] at ok
        rw [ok (by rw [hl, ← hr.length])]
        rfl
    rw [es]
    exact fin_val sb q rfl
def fIxK : DOp2
  | .dic ks ds, y => (keyD y).bind fun k => (lookK ks ds k).map .val
  | x, y => fIx x y
def rIxK (K : PySem.W.Frag) : R2 := fun x y H Q => rIx K x y H Q ∨ ∃ a v, x = .ref a ∧ DGet H a y (some v) ∧ Q v H
theorem ix_seqK {X : Cx} (hu : X.A.units + 65 < cLine) : IxR X (rIxK X.K) := ix_seq.or (by
  intro value slice pins s σ H x y v u Q I rx ry h hs
  obtain ⟨a, z, rfl, g, q⟩ := h
  cases rx
  exact tail_any (dict_typeIs I g) PySem.F.slot_dict_getitem.lookup (d_getItem (by omega) I g ry fun w' s3 I3 rw' => ⟨z, H, I3, rw', q⟩) hs)
theorem fIxK_ok {K : PySem.W.Frag} : Op2 K (rIxK K) fIxK := by
  intro F H d1 d2 v1 v2 c Q sb h1 h2 e q
  cases d1 <;> first | (exact .inl (fIx_ok F H _ _ v1 v2 c Q sb h1 h2 e q)) | skip
  rename_i ks ds
  have e' : ((keyD d2).bind fun k => (lookK ks ds k).map Cell.val) = some c := e
  cases ek : keyD d2 with
  | none => rw [ek] at e'; cases e'
  | some k =>
    rw [ek] at e'
    have e2 : (lookK ks ds k).map Cell.val = some c := e'
    obtain ⟨a, vs, rfl, ha, hl, hr⟩ := (show Rp K F (.dic ks ds) v1 from h1)
    rw [keyD_ok h2 ek]
    have ok := lookK_ok (ks := ks) (j := k) hr
    cases hlk : lookK ks ds k with
    | none => rw [hlk] at e2; cases e2
    | some d =>
      rw [hlk] at e2 ok
      cases e2
      obtain ⟨v, hv, rv⟩ := ok
      refine .inr ⟨a, v, rfl, ?_, fin_val sb q rv⟩
      rw [← hv]
      exact DGet.k (sb _ _ ha)
def gLenK : D → Option Cell
  | .dic ks _ => some (.val (.int (ks.length : Nat)))
  | d => gLen d
abbrev fLenK : DOpN := n1 gLenK
def rLenK (K : PySem.W.Frag) : List V → Hp → VK → Prop := fun xs H Q => rLen K xs H Q ∨ ∃ a kvs, xs = [V.ref a] ∧ H a = some (.dK kvs) ∧ Q (.int kvs.length) H
theorem call_lenK {X : Cx} : CallR X (.builtin "len") (rLenK X.K) := call_len.or call_lenD
theorem fLenK_ok {K : PySem.W.Frag} : OpN K (rLenK K) fLenK := by
  refine n1_ok fun F H d v c Q sb h e q => ?_
  cases d <;> first | (exact .inl (fLen_ok F H [_] [v] c Q sb ⟨v, [], rfl, h, rfl⟩ e q)) | skip
  rename_i ks ds
  cases e
  obtain ⟨a, vs, rfl, ha, hl, hr⟩ := (show Rp K F (.dic ks ds) v from h)
  refine .inr ⟨a, _, rfl, sb _ _ ha, ?_⟩
  have en : (ks.zip vs).length = ks.length := by rw [List.length_zip]; omega
  rw [en]
  exact fin_val sb q rfl
end DL
namespace L2
open PySem PySem.Spec PyProof.Rows
section
variable {X : Cx}
theorem ps_setDc {i : Nat} {y : Str} {py : Pos} {kx vx tg iter : Expr} {ifs : List Expr} {scope : Scope} {own : List (Str × Nat)} {pos spos : Pos} {wi : TI} {g : TG} {tt : TT} {tk tv : TE} (hc : X.calm = true) (hN : X.N.Nodup) (hy : X.N[i]? = some y) (hyl : X.env.scope.names.lookup y = some .local)
    (hsw : swapsWith (.DictComp kx vx [⟨tg, iter, ifs, 0⟩] scope pos) (some (.Name y py)) spos.line X.env = pure true) (hi : PI X tg iter wi) (ok : BlkOk X.N X.env.scope scope own)
    (hg : ∀ (s : Shared) (H : Hp) (C : Addr) (cl : List (Str × Addr)) (fp : List Addr), PG (X.blk s H scope (compEnvC scope cl C X.env) fp) tg g) (ht : ∀ (s : Shared) (H : Hp) (C : Addr) (cl : List (Str × Addr)) (fp : List Addr), PTs (X.blk s H scope (compEnvC scope cl C X.env) fp) ifs tt)
    (hk : ∀ (s : Shared) (H : Hp) (C : Addr) (cl : List (Str × Addr)) (fp : List Addr), PE (X.blk s H scope (compEnvC scope cl C X.env) fp) kx tk)
    (he : ∀ (s : Shared) (H : Hp) (C : Addr) (cl : List (Str × Addr)) (fp : List Addr), PE (X.blk s H scope (compEnvC scope cl C X.env) fp) vx tv) (hs : ∀ x, foldedSetIterable iter X.env x = pure x := by intro _; rfl) :
    PS X (.Assign [.Name y py] (.DictComp kx vx [⟨tg, iter, ifs, 0⟩] scope pos) spos) (tAsg (tDc wi g tt tk tv (own.map (·.2))) (gName i)) := by
  refine ⟨fun pins s σ H D I h => ?_⟩
  rw [exec_Assign_Name_used _ _ _ _ hsw]
  refine wpAny_bind (wpAny_standAt (wpAny_bind ?_))
  show wpAny _ X.A (do let _ ← comprehension (.DictComp kx vx [⟨tg, iter, ifs, 0⟩] scope pos) scope X.env (firstIterPos [⟨tg, iter, ifs, 0⟩] pos) newDict false (eval iter X.env) (some (assign (.Name y py) X.env))) _ _ s
  have h : tDc wi g tt tk tv (own.map (·.2)) σ H (fun x H1 => gName i x σ H1 D.nx) := h
  refine wpAny_bind (thn (dc_core (Qf := fun _ s' => SP X pins D .next s') hc hN I hi ok hg ht hk he hs h fun L C s' m H' I' q hn f => ?_) fun _ s' hq => wpAny_pure (wpAny_pure hq))
  show wpAny _ _ (assign (.Name y py) X.env (.ref L)) _ _ _
  refine wpAny_assign_Name (store_ok2 (v := V.ref L) I' hN hy (.inl hyl) rfl (fun s2 I2 ⟨a, sb, ha⟩ => ?_) (.inr hyl))
  obtain ⟨f0, f1, f2, f3, f4, f5⟩ := f
  have haC : C ≠ a := by
    rcases ha with z | z
    · rw [z]; exact f1
    · exact fun e => f4 y a z e.symm
  refine ⟨m, hn.sameBut sb haC, fun h3 sb3 => ?_⟩
  exact ⟨_, H', I2.turned (t' := s2.toks) (fun b o hb e => (sb3.2 b hb).trans e) f0 f1 f3 f4 f5, q⟩
theorem sw_trueD {kx vx : Expr} {gs : List Comprehension} {scope : Scope} {pos py : Pos} {y : Str} {l : Nat} {env : Env} (hk : env.scope.kind = .function) (hy : env.scope.names.lookup y = some .local) (hl : (py.line == pos.line) = true)
    (ha : (scope.names.any fun (n, k) => n == y && (k == .local || k == .cell)) = false) : swapsWith (.DictComp kx vx gs scope pos) (some (.Name y py)) l env = pure true := by
  have ky : env.kindOf y = some .local := hy
  have hb : env.blockKind = .function := by unfold Env.blockKind; rw [hk]; rfl
  unfold swapsWith
  simp only [hb, ky, ha, Expr.pos, hl]
  rfl
end
end L2
/-! The data layer: dicts that are only read: comprehensions, displays of one pair, get, not in. -/
namespace DL
open PySem PySem.Spec PyProof.Rows L2
def putD (acc : List (Key × D)) (k : Key) (d : D) : List (Key × D) :=
  if (acc.any fun p => decide (p.1 = k)) = true then acc.map (fun p => if p.1 = k then (p.1, d) else p) else acc ++ [(k, d)]
abbrev dicD (acc : List (Key × D)) : D := .dic (acc.map (·.1)) (acc.map (·.2))
def AccR (K : PySem.W.Frag) (F : Hp) : List (Key × D) → List (Key × V) → Prop
  | [], kvs => kvs = []
  | p :: acc, kvs => ∃ v r, kvs = (p.1, v) :: r ∧ Rp K F p.2 v ∧ AccR K F acc r
section
variable {K : PySem.W.Frag} {F F' : Hp}
theorem AccR.mono (s : Same F F') : ∀ {acc : List (Key × D)} {kvs : List (Key × V)}, AccR K F acc kvs → AccR K F' acc kvs
  | [], _, h => h
  | _ :: _, _, ⟨v, r, e, h1, h2⟩ => ⟨v, r, e, h1.mono s, AccR.mono s h2⟩
theorem AccR.any (k : Key) : ∀ {acc : List (Key × D)} {kvs : List (Key × V)}, AccR K F acc kvs → (acc.any fun p => decide (p.1 = k)) = kvs.any fun p => decide (p.1 = k)
  | [], _, h => by cases (show _ = [] from h); rfl
  | p :: acc, _, ⟨v, r, e, h1, h2⟩ => by
    subst e
    rw [List.any_cons, List.any_cons, AccR.any k h2]
theorem AccR.len : ∀ {acc : List (Key × D)} {kvs : List (Key × V)}, AccR K F acc kvs → acc.length = kvs.length
  | [], _, h => by cases (show _ = [] from h); rfl
  | p :: acc, _, ⟨v, r, e, h1, h2⟩ => by
    subst e
    rw [List.length_cons, List.length_cons, AccR.len h2]
theorem AccR.map {k : Key} {d : D} {v : V} (hd : Rp K F d v) : ∀ {acc : List (Key × D)} {kvs : List (Key × V)}, AccR K F acc kvs → AccR K F (acc.map fun p => if p.1 = k then (p.1, d) else p) (kvs.map fun p => if p.1 = k then (p.1, v) else p)
  | [], _, h => by cases (show _ = [] from h); rfl
  | p :: acc, _, ⟨w, r, e, h1, h2⟩ => by
    subst e
    rw [List.map_cons, List.map_cons]
    by_cases hk : p.1 = k
    · rw [if_pos hk, if_pos (show (p.1, w).1 = k from hk)]
      exact ⟨v, _, rfl, hd, AccR.map hd h2⟩
    · rw [if_neg hk, if_neg (show ¬ (p.1, w).1 = k from hk)]
      exact ⟨w, _, rfl, h1, AccR.map hd h2⟩
theorem AccR.snoc {k : Key} {d : D} {v : V} (hd : Rp K F d v) : ∀ {acc : List (Key × D)} {kvs : List (Key × V)}, AccR K F acc kvs → AccR K F (acc ++ [(k, d)]) (kvs ++ [(k, v)])
  | [], _, h => by cases (show _ = [] from h); exact ⟨v, [], rfl, hd, rfl⟩
  | p :: acc, _, ⟨w, r, e, h1, h2⟩ => by
    subst e
    exact ⟨w, _, rfl, h1, AccR.snoc hd h2⟩
theorem AccR.put {k : Key} {d : D} {v : V} (hd : Rp K F d v) {acc : List (Key × D)} {kvs : List (Key × V)} (h : AccR K F acc kvs) : AccR K F (putD acc k d) (putK kvs k v) := by
  unfold putD putK
  rw [h.any k]
  split
  · exact h.map hd
  · exact h.snoc hd
theorem AccR.keys : ∀ {acc : List (Key × D)} {kvs : List (Key × V)}, AccR K F acc kvs → (acc.map (·.1)).zip (kvs.map (·.2)) = kvs
  | [], _, h => by cases (show _ = [] from h); rfl
  | p :: acc, _, ⟨w, r, e, h1, h2⟩ => by
    subst e
    rw [List.map_cons, List.map_cons, List.zip_cons_cons, AccR.keys h2]
theorem AccR.rpl : ∀ {acc : List (Key × D)} {kvs : List (Key × V)}, AccR K F acc kvs → RpL K F (acc.map (·.2)) (kvs.map (·.2))
  | [], _, h => by cases (show _ = [] from h); rfl
  | p :: acc, _, ⟨w, r, e, h1, h2⟩ => by
    subst e
    exact ⟨w, _, rfl, h1, AccR.rpl h2⟩
theorem AccR.rp {acc : List (Key × D)} {kvs : List (Key × V)} {a : Addr} (h : AccR K F acc kvs) (ha : F a = some (.dK kvs)) : Rp K F (dicD acc) (.ref a) :=
  ⟨a, kvs.map (·.2), rfl, by rw [h.keys]; exact ha, by rw [List.length_map, List.length_map, h.len], h.rpl⟩
end
section
variable {B : Bd} {F H F' H' : Hp} {L : La} {σ : L2.St} {ρ : En}
/-- anything that no name holds is made still -/
theorem SR.freezeA {a : Addr} {o : HO} (S : SR B F L σ H ρ) (h : H a = some o) (f : F a = none) (n : ∀ i, L i ≠ some a) (h0 : B.H0 a = none) : SR B (upd F a o) L σ H ρ where
  len := S.len
  sub := fun b o e => by
    by_cases hb : b = a
    · subst hb; rw [upd_same] at e; rw [← e]; exact h
    · rw [upd_ne hb] at e; exact S.sub b o e
  slot := fun i => by
    have q := S.slot i
    revert q
    cases ρ.getD i none with
    | none => exact id
    | some c =>
      cases c with
      | val d => exact fun ⟨h1, v, h2, h3⟩ => ⟨h1, v, h2, h3.mono (same_upd f)⟩
      | own ds =>
        intro ⟨b, ws, h1, h2, h3, h4, h5, h6⟩
        have hb : b ≠ a := fun z => n i (by rw [h2, z])
        exact ⟨b, ws, h1, h2, h3, by rw [upd_ne hb]; exact h4, h5.mono (same_upd f), h6⟩
  inj := S.inj
  f0 := S.f0.trans (same_upd f)
  fn := fun b o e => by
    by_cases hb : b = a
    · rw [hb]; exact .inr h0
    · rw [upd_ne hb] at e; exact S.fn b o e
  keep := S.keep
  io := S.io
  al := S.al
theorem Stp.freezeA {L' : La} {a : Addr} {o : HO} (s : Stp F L H F' L' H') (f : F' a = none) (nw : H a = none ∨ ∃ i, L i = some a) : Stp F L H (upd F' a o) L' H' where
  f := s.f.trans (same_upd f)
  l := s.l
  h := s.h
  fn := fun b o e => by
    by_cases hb : b = a
    · rw [hb]; exact .inr nw
    · rw [upd_ne hb] at e; exact s.fn b o e
  al := s.al
end
/-! ### {k: v for ..} -/
def dcGo (p : Pt) (tt : DT) (tk tv : DE) (vs : List Nat) : List D → List (Key × D) → En → (List (Key × D) → En → Prop) → Prop
  | [], acc, ρ, Q => Q acc ρ
  | d :: ds, acc, ρ, Q => ptGo p d ρ fun ρ1 => tt ρ1 (fun b ρ2 => if b = true then tk ρ2 (fun x ρ3 => tv ρ3 (fun y ρ4 => ∃ k, keyD x = some k ∧ acc.length < sizeLine ∧ dcGo p tt tk tv vs ds (putD acc k y) (wipeE ρ4 vs) Q) noX) noX else dcGo p tt tk tv vs ds acc (wipeE ρ2 vs) Q) noX
def mDc (it : DI) (p : Pt) (tt : DT) (tk tv : DE) (vs : List Nat) : DE := fun ρ Q E => it ρ (fun items ρ1 => noOwn ρ1 vs = true ∧ dcGo p tt tk tv vs items [] (wipeE ρ1 vs) fun acc ρ2 => Q (dicD acc) (backE ρ2 ρ1 vs)) E
theorem keyD_rp {K : PySem.W.Frag} {F : Hp} {d : D} {v : V} {k : Key} (h : Rp K F d v) (e : keyD d = some k) : v = kV k := by
  cases d <;> first | (cases e; done) | skip
  · cases e
    exact h
  · cases e
    exact h
theorem on_stepA {F L H F' L' H'} {D : Addr} {o : HO} (s : Stp F L H F' L' H') (h1 : H D = some o) (h2 : F D = none) (h3 : ∀ i, L i ≠ some D) : H' D = some o ∧ F' D = none ∧ ∀ i, L' i ≠ some D := by
  refine ⟨s.h _ _ h1 h3, ?_, fun i e => h3 i (s.l i _ e)⟩
  cases e : F' D with
  | none => rfl
  | some o =>
    rcases s.fn D o e with z | z | ⟨i, z⟩
    · rw [h2] at z; cases z
    · rw [h1] at z; cases z
    · exact absurd z (h3 i)
theorem dc_imp {B : Bd} {W : WX} {it : DI} {p : Pt} {tt : DT} {tk tv : DE} {vs : List Nat} (hio : (vs.all fun v => !B.ios.contains v) = true) (hp : ((ptNs p).all fun v => vs.contains v) = true) {σ : L2.St} {H : Hp} {Q : VK} (h : rV B W (mDc it p tt tk tv vs) σ H Q) :
    tDc (rI B W it) (rP B p) (rT B WF tt) (rV B WF tk) (rV B WF tv) vs σ H Q := by
  obtain ⟨F, L, ρ, Qd, Ed, S, ht, hq, hx⟩ := h
  refine ⟨F, L, ρ, _, Ed, S, ht, fun items ρ1 F1 L1 H1 J ⟨kn, k⟩ S1 s1 gv D hD => ?_, hx⟩
  have hpv : ∀ i ∈ ptNs p, i ∈ vs := fun i hi => List.contains_iff_mem.mp (List.all_eq_true.mp hp i hi)
  have fD : F1 D = none := S1.sub.free hD
  have lD : ∀ i, L1 i ≠ some D := fun i e => by
    obtain ⟨_, _, _, _, q3, _⟩ := S1.own e
    rw [hD] at q3; cases q3
  have h0 : B.H0 D = none := by
    cases e : B.H0 D with
    | none => rfl
    | some o => exact absurd hD (S1.al D (by rw [e]; simp))
  obtain ⟨Lw, Sw, lw⟩ := (S1.poke (o := .dK []) fD lD h0).wipe hio
  refine ⟨fun i m H => m = items.length - i ∧ i ≤ items.length ∧ ∃ F L ρ acc av, SR B F L (L2.wipe σ vs) H ρ ∧ Stp F1 L1 H1 F L H ∧ H D = some (.dK av) ∧ F D = none ∧ (∀ i, L i ≠ some D) ∧ AccR B.K F acc av ∧
    dcGo p tt tk tv vs (items.drop i) acc ρ fun acc ρ2 => Qd (dicD acc) (backE ρ2 ρ1 vs), ⟨items.length, rfl, Nat.zero_le _, F1, Lw, _, [], [], Sw, ?_, upd_same, fD, fun i e => lD i (lw i _ e), rfl, k⟩, ?_⟩
  · exact (stp_put (Stp.refl _ _ _) hD).trans (stp_less lw)
  rintro i m H2 ⟨rfl, hi, F2, L2', ρ2, acc, av, S2, s2, hD2, fD2, lD2, racc, k2⟩
  by_cases hlt : i < items.length
  · rw [List.drop_eq_getElem_cons hlt] at k2
    have subF : Same F1 H2 := s2.f.trans S2.sub
    refine .inr ⟨gv.go i H2 subF hlt, fun H => items.length - (i + 1) = items.length - (i + 1) ∧ i + 1 ≤ items.length ∧ ∃ F L ρ acc av, SR B F L (L2.wipe σ vs) H ρ ∧ Stp F1 L1 H1 F L H ∧ H D = some (.dK av) ∧ F D = none ∧ (∀ i, L i ≠ some D) ∧ AccR B.K F acc av ∧
      dcGo p tt tk tv vs (items.drop (i + 1)) acc ρ fun acc ρ2 => Qd (dicD acc) (backE ρ2 ρ1 vs), fun H' h => ⟨_, by omega, h⟩, fun x H' y => ?_⟩
    obtain ⟨F3, d, g3, sb3, ed, rd⟩ := gv.yld i F2 H2 x H' s2.f S2.sub hlt y
    rw [List.getElem?_eq_getElem hlt] at ed
    cases ed
    have S3 := S2.grow g3 sb3
    refine ⟨F3, L2', ρ2, _, items[i], S3, rd, k2, fun ρ4 σ4 L4 q4 S4 l4 w4 => ⟨?_, F3, L4, ρ4, _, noX, S4, q4, fun b ρ5 F5 L5 H5 q5 S5 s5 => ?_, noX_ok⟩⟩
    · rw [w4 vs hpv, wipe_idem fun _ h => h]
    have s3 : Stp F1 L1 H1 F3 L4 H' := (s2.trans g3.stp).trans (stp_less l4)
    have hw4 : L2.wipe σ4 vs = L2.wipe σ vs := by rw [w4 vs hpv, wipe_idem fun _ h => h]
    have hD3 : H' D = some (.dK av) := g3.h _ _ hD2
    have fD3 : F3 D = none := g3.none (by rw [hD2]; simp) fD2
    have lD4 : ∀ i, L4 i ≠ some D := fun i e => lD2 i (l4 i _ e)
    cases b with
    | false =>
      obtain ⟨d1, d2, d3⟩ := on_stepA s5 hD3 fD3 lD4
      obtain ⟨L6, S6, l6⟩ := S5.wipe hio
      rw [hw4] at S6
      exact ⟨rfl, hlt, F5, L6, _, acc, av, S6, (s3.trans s5).trans (stp_less l6), d1, d2, fun i e => d3 i (l6 i _ e), racc.mono (g3.f.trans s5.f), q5⟩
    | true =>
      refine ⟨F5, L5, ρ5, _, noX, S5, q5, fun x ρ6 xv F6 L6 H6 q6 S6 s6 rx => ⟨F6, L6, ρ6, _, noX, S6, q6, fun y ρ7 yv F7 L7 H7 ⟨kk, hk, hz, q7⟩ S7 s7 ry => ?_, noX_ok⟩, noX_ok⟩
      have s57 := (s5.trans s6).trans s7
      obtain ⟨d1, d2, d3⟩ := on_stepA s57 hD3 fD3 lD4
      have r7 := racc.mono (g3.f.trans s57.f)
      refine ⟨av, kk, keyD_rp rx hk, d1, by rw [← racc.len]; exact hz, rfl, hlt, ?_⟩
      obtain ⟨L8, S8, l8⟩ := (S7.poke (o := .dK (putK av kk yv)) d2 d3 h0).wipe hio
      rw [hw4] at S8
      exact ⟨F7, L8, _, putD acc kk y, putK av kk yv, S8, (stp_put (s3.trans s57) hD).trans (stp_less l8), upd_same, d2, fun i e => d3 i (l8 i _ e), r7.put ry, q7⟩
  · have e : i = items.length := by omega
    subst e
    rw [List.drop_length] at k2
    have Sb := S1.back kn S2 s2.f
    have nD : H D = none := by
      cases e : H D with
      | none => rfl
      | some o => exact absurd hD (s1.al D (by rw [e]; simp))
    refine .inl ⟨gv.stop H2 (s2.f.trans S2.sub), hq (dicD acc) _ _ _ L2' H2 k2 (Sb.freezeA hD2 fD2 lD2 h0) ((s1.trans s2).freezeA fD2 (.inl nD)) ?_⟩
    exact (racc.mono (same_upd fD2)).rp upd_same
section
variable {X : Cx} {B : Bd} {W : WX} {pos : Pos}
theorem de_dc {kx vx tg iter : Expr} {ifs : List Expr} {scope : Scope} (own : List (Str × Nat)) {it : DI} {p : Pt} {tt : DT} {tk tv : DE} (hc : X.calm = true) (hN : X.N.Nodup) (hi : PI X tg iter (rI B W it))
    (hg : ∀ (s : Shared) (H : Hp) (C : Addr) (cl : List (Str × Addr)) (fp : List Addr), PG (X.blk s H scope (compEnvC scope cl C X.env) fp) tg (rP B p)) (ht : ∀ (s : Shared) (H : Hp) (C : Addr) (cl : List (Str × Addr)) (fp : List Addr), PTs (X.blk s H scope (compEnvC scope cl C X.env) fp) ifs (rT B WF tt))
    (hk : ∀ (s : Shared) (H : Hp) (C : Addr) (cl : List (Str × Addr)) (fp : List Addr), PE (X.blk s H scope (compEnvC scope cl C X.env) fp) kx (rV B WF tk))
    (he : ∀ (s : Shared) (H : Hp) (C : Addr) (cl : List (Str × Addr)) (fp : List Addr), PE (X.blk s H scope (compEnvC scope cl C X.env) fp) vx (rV B WF tv)) (ok : blkC X.N X.env.scope scope own = true := by rfl) (hio : ((own.map (·.2)).all fun v => !B.ios.contains v) = true := by rfl) (hp : ((ptNs p).all fun v => (own.map (·.2)).contains v) = true := by rfl)
    (hs : ∀ x, foldedSetIterable iter X.env x = pure x := by intro _; rfl) : PE X (.DictComp kx vx [⟨tg, iter, ifs, 0⟩] scope pos) (rV B W (mDc it p tt tk tv (own.map (·.2)))) :=
  pe_imp (pe_dc hc hN hi (blkOk_by ok) hg ht hk he hs) fun _ _ _ h => dc_imp hio hp h
theorem ds_setDcV (i : Nat) {y : Str} {py : Pos} {kx vx tg iter : Expr} {ifs : List Expr} {scope : Scope} {spos : Pos} (own : List (Str × Nat)) {it : DI} {p : Pt} {tt : DT} {tk tv : DE} (hc : X.calm = true) (hN : X.N.Nodup) (hi : PI X tg iter (rI B W it))
    (hg : ∀ (s : Shared) (H : Hp) (C : Addr) (cl : List (Str × Addr)) (fp : List Addr), PG (X.blk s H scope (compEnvC scope cl C X.env) fp) tg (rP B p)) (ht : ∀ (s : Shared) (H : Hp) (C : Addr) (cl : List (Str × Addr)) (fp : List Addr), PTs (X.blk s H scope (compEnvC scope cl C X.env) fp) ifs (rT B WF tt))
    (hk : ∀ (s : Shared) (H : Hp) (C : Addr) (cl : List (Str × Addr)) (fp : List Addr), PE (X.blk s H scope (compEnvC scope cl C X.env) fp) kx (rV B WF tk))
    (he : ∀ (s : Shared) (H : Hp) (C : Addr) (cl : List (Str × Addr)) (fp : List Addr), PE (X.blk s H scope (compEnvC scope cl C X.env) fp) vx (rV B WF tv)) (hsw : swapsWith (.DictComp kx vx [⟨tg, iter, ifs, 0⟩] scope pos) (some (.Name y py)) spos.line X.env = pure true := by exact sw_trueD rfl rfl rfl rfl)
    (hy : X.N[i]? = some y := by rfl) (hyl : X.env.scope.names.lookup y = some .local := by rfl) (hioi : B.ios.contains i = false := by rfl) (ok : blkC X.N X.env.scope scope own = true := by rfl) (hio : ((own.map (·.2)).all fun v => !B.ios.contains v) = true := by rfl) (hp : ((ptNs p).all fun v => (own.map (·.2)).contains v) = true := by rfl)
    (hs : ∀ x, foldedSetIterable iter X.env x = pure x := by intro _; rfl) : PS X (.Assign [.Name y py] (.DictComp kx vx [⟨tg, iter, ifs, 0⟩] scope pos) spos) (rS B W (mAsg (.nm i) (vl (mDc it p tt tk tv (own.map (·.2)))))) := by
  refine ps_impL (ps_setDc hc hN hy hyl hsw hi (blkOk_by ok) hg ht hk he hs) fun D σ H hl h => ?_
  obtain ⟨F, L, ρ, Dd, S, q, o⟩ := h
  have hlt : i < σ.length := by rw [hl]; exact (List.getElem?_eq_some_iff.mp hy).1
  refine dc_imp hio hp ⟨F, L, ρ, fun d ρ1 => Dd.nx (ρ1.set i (some (.val d))), Dd.ex, S, q, fun d ρ1 v F1 L1 H1 k S1 s1 r1 => ?_, o.ex⟩
  exact o.nx _ _ _ _ _ k (S1.put hioi hlt r1) s1.f
/-! ### {k: v} -/
def mDic1 (tk tv : DE) : DE := fun ρ Q E => tk ρ (fun x ρ1 => tv ρ1 (fun y ρ2 => ∃ k, keyD x = some k ∧ Q (.dic [k] [y]) ρ2) E) E
theorem de_dicE {kx vx : Expr} {tk tv : DE} (hk : PE X kx (rV B W tk)) (hv : PE X vx (rV B W tv)) : PE X (.Dict [some kx] [vx] pos) (rV B W (mDic1 tk tv)) := by
  refine pe_imp (pe_disp (pps_cons hk hv pps_nil) rfl rfl (by simp) (Nat.le_of_ble_eq_true rfl)) fun σ H Q ⟨F, L, ρ, Qd, Ed, S, ht, hq, hx⟩ p hp => ?_
  have fD : F p = none := S.sub.free hp
  have lD : ∀ i, L i ≠ some p := fun i e => by
    obtain ⟨_, _, _, _, q3, _⟩ := S.own e
    rw [hp] at q3; cases q3
  have h0 : B.H0 p = none := by
    cases e : B.H0 p with
    | none => rfl
    | some o => exact absurd hp (S.al p (by rw [e]; simp))
  have S0 := S.poke (o := .dK []) fD lD h0
  have s0 : Stp F L H F L (upd H p (.dK [])) := stp_put (Stp.refl _ _ _) hp
  refine ⟨F, L, ρ, _, Ed, S0, ht, fun x ρ1 xv F1 L1 H1 q1 S1 s1 rx => ⟨F1, L1, ρ1, _, Ed, S1, q1, fun y ρ2 yv F2 L2' H2 ⟨k, hkk, q2⟩ S2 s2 ry => ?_, hx.mono s1.f⟩, hx⟩
  obtain ⟨d1, d2, d3⟩ := on_stepA (s1.trans s2) upd_same fD lD
  refine ⟨d1, [(k, yv)], by rw [keyD_rp rx hkk]; rfl, Nat.le_of_ble_eq_true rfl, ?_⟩
  have S3 := S2.poke (o := .dK (mergeK [] [(k, yv)])) d2 d3 h0
  have s3 : Stp F L H F2 L2' (upd H2 p (.dK (mergeK [] [(k, yv)]))) := stp_put ((s0.trans s1).trans s2) hp
  exact hq _ _ _ _ L2' _ q2 (S3.freezeA upd_same d2 d3 h0) (s3.freezeA d2 (.inl hp)) ⟨p, [yv], rfl, upd_same, rfl, RpL.one (ry.mono (same_upd d2))⟩
/-! ### d.get(k, x), d.get(k) -/
def mGet2 (td tk tx : DE) : DE := fun ρ Q E => td ρ (fun d ρ1 => match d with
  | .dic ks ds => tk ρ1 (fun x ρ2 => tx ρ2 (fun y ρ3 => match keyD x with
    | some k => Q ((lookK ks ds k).getD y) ρ3
    | none => False) E) E
  | _ => False) E
def mGet1 (td tk : DE) : DE := fun ρ Q E => td ρ (fun d ρ1 => match d with
  | .dic ks ds => tk ρ1 (fun x ρ2 => match keyD x with
    | some k => Q ((lookK ks ds k).getD .non) ρ2
    | none => False) E
  | _ => False) E
theorem isD_dK {H : Hp} {a : Addr} {kvs : List (Key × V)} (h : H a = some (.dK kvs)) : IsD H a := .inl ⟨kvs, .inl h⟩
theorem dic_get {K : PySem.W.Frag} {F H : Hp} (sb : Same F H) {ks : List Key} {ds : List D} {v : V} {k : Key} (h : Rp K F (.dic ks ds) v) : ∃ a vs, v = .ref a ∧ F a = some (.dK (ks.zip vs)) ∧ DGet H a (kV k) (valV (ks.zip vs) k) ∧ (match lookK ks ds k with | some d => ∃ w, valV (ks.zip vs) k = some w ∧ Rp K F d w | none => valV (ks.zip vs) k = none) := by
  obtain ⟨a, vs, e, ha, hl, hr⟩ := h
  refine ⟨a, vs, e, ha, DGet.k (sb _ _ ha), ?_⟩
  have ok := lookK_ok (ks := ks) (j := k) hr
  cases q : lookK ks ds k with
  | some d => rw [q] at ok; exact ok
  | none =>
    rw [q] at ok
    exact ok (by rw [hl, ← hr.length])
theorem de_get2 {o e f : Expr} {apos cpos : Pos} {td tk tx : DE} (hu : X.A.units + 65 < cLine) (ho : PE X o (rV B W td)) (he : PE X e (rV B W tk)) (hf : PE X f (rV B W tx)) (m : M2 X o "get" apos e f cpos) : PE X (.Call (.Attribute o "get" apos) [e, f] [] cpos) (rV B W (mGet2 td tk tx)) := by
  refine pe_imp (pe_dget2 (by omega) ho he hf m) fun σ H Q ⟨F, L, ρ, Qd, Ed, S, ht, hq, hx⟩ => ⟨F, L, ρ, _, Ed, S, ht, fun d ρ1 v F1 L1 H1 k1 S1 s1 rd => ?_, hx⟩
  split at k1
  · rename_i ks ds
    obtain ⟨a, vs, rfl, ha, hl, hr⟩ := rd
    refine ⟨a, rfl, isD_dK (S1.sub _ _ ha), F1, L1, ρ1, _, Ed, S1, k1, fun x ρ2 xv F2 L2' H2 k2 S2 s2 rx => ⟨F2, L2', ρ2, _, Ed, S2, k2, fun y ρ3 yv F3 L3 H3 k3 S3 s3 ry => ?_, (hx.mono s1.f).mono s2.f⟩, hx.mono s1.f⟩
    split at k3
    · rename_i k ek
      have rd3 : Rp B.K F3 (.dic ks ds) (.ref a) := ⟨a, vs, rfl, s3.f _ _ (s2.f _ _ ha), hl, (hr.mono s2.f).mono s3.f⟩
      obtain ⟨a2, vs2, ea, ha2, g, ok⟩ := dic_get (k := k) S3.sub rd3
      cases ea
      refine ⟨_, (keyD_rp rx ek) ▸ g, ?_⟩
      refine hq _ ρ3 _ F3 L3 H3 k3 S3 ((s1.trans s2).trans s3) ?_
      cases q : lookK ks ds k with
      | some d =>
        rw [q] at ok
        obtain ⟨w, ew, rw_⟩ := ok
        rw [ew]
        exact rw_
      | none =>
        rw [q] at ok
        rw [ok]
        exact ry
    · exact k3.elim
  · exact k1.elim
theorem de_get1 {o e : Expr} {apos cpos : Pos} {td tk : DE} (hu : X.A.units + 65 < cLine) (ho : PE X o (rV B W td)) (he : PE X e (rV B W tk)) (m : M1 X o "get" apos e cpos) : PE X (.Call (.Attribute o "get" apos) [e] [] cpos) (rV B W (mGet1 td tk)) := by
  refine pe_imp (pe_dget1 (by omega) ho he m) fun σ H Q ⟨F, L, ρ, Qd, Ed, S, ht, hq, hx⟩ => ⟨F, L, ρ, _, Ed, S, ht, fun d ρ1 v F1 L1 H1 k1 S1 s1 rd => ?_, hx⟩
  split at k1
  · rename_i ks ds
    obtain ⟨a, vs, rfl, ha, hl, hr⟩ := rd
    refine ⟨a, rfl, isD_dK (S1.sub _ _ ha), F1, L1, ρ1, _, Ed, S1, k1, fun x ρ2 xv F2 L2' H2 k2 S2 s2 rx => ?_, hx.mono s1.f⟩
    split at k2
    · rename_i k ek
      have rd2 : Rp B.K F2 (.dic ks ds) (.ref a) := ⟨a, vs, rfl, s2.f _ _ ha, hl, hr.mono s2.f⟩
      obtain ⟨a2, vs2, ea, ha2, g, ok⟩ := dic_get (k := k) S2.sub rd2
      cases ea
      refine ⟨_, (keyD_rp rx ek) ▸ g, ?_⟩
      refine hq _ ρ2 _ F2 L2' H2 k2 S2 (s1.trans s2) ?_
      cases q : lookK ks ds k with
      | some d =>
        rw [q] at ok
        obtain ⟨w, ew, rw_⟩ := ok
        rw [ew]
        exact rw_
      | none =>
        rw [q] at ok
        rw [ok]
        exact (rfl : Rp B.K F2 .non .non)
    · exact k2.elim
  · exact k1.elim
end
/-! ### k not in d -/
def fNinK : DOp2
  | x, .dic ks ds => (keyD x).map fun k => .val (.bl (!(lookK ks ds k).isSome))
  | x, y => fNin x y
def rNinK (K : PySem.W.Frag) : R2 := fun y x H Q => rNinA K y x H Q ∨ ∃ a ov, x = .ref a ∧ DGet H a y ov ∧ Q (.bl (!ov.isSome)) H
theorem op_ninK {X : Cx} (hu : X.A.units + 65 < cLine) : OpR X (compareOp .NotIn) (rNinK X.K) := OpR.or (op_ninA hu) (by
  intro pins s σ H y x v u Q I ry rx h
  obtain ⟨a, ov, rfl, g, q⟩ := h
  cases rx
  exact d_notIn (by omega) I g ry fun s3 I3 => ⟨.bl (!ov.isSome), H, I3, rfl, q⟩)
theorem fNinK_ok {K : PySem.W.Frag} : Op2 K (rNinK K) fNinK := by
  intro F H d1 d2 v1 v2 c Q sb h1 h2 e q
  cases d2 <;> first | (exact .inl (fNin_ok F H _ _ v1 v2 c Q sb h1 h2 e q)) | skip
  rename_i ks ds
  have e' : ((keyD d1).map fun k => Cell.val (.bl (!(lookK ks ds k).isSome))) = some c := e
  cases ek : keyD d1 with
  | none => rw [ek] at e'; cases e'
  | some k =>
    rw [ek] at e'
    cases e'
    obtain ⟨a, vs, rfl, ha, g, ok⟩ := dic_get (k := k) sb (show Rp K F (.dic ks ds) v2 from h2)
    rw [keyD_ok h1 ek]
    refine .inr ⟨a, valV (ks.zip vs) k, rfl, g, ?_⟩
    have es : (valV (ks.zip vs) k).isSome = (lookK ks ds k).isSome := by
      cases hlk : lookK ks ds k with
      | some d =>
        rw [hlk] at ok
        obtain ⟨v, hv, _⟩ := ok
        rw [hv]
        rfl
      | none =>
        rw [hlk] at ok
        rw [ok]
        rfl
    rw [es]
    exact fin_val sb q rfl
end DL
/-! The data layer: texts. -/
namespace DL
open PySem PySem.Spec PyProof.Rows L2
/-! ### the signs of a text, walked -/
def signsD (z : Str) : List D := z.cps.toList.map fun c => D.str ⟨#[c]⟩
theorem signsD_len (z : Str) : (signsD z).length = z.cps.size := by unfold signsD; rw [List.length_map, Array.length_toList]
theorem gives_str {K : PySem.W.Frag} {F : Hp} {z : Str} : Gives K F (Its z) (signsD z) where
  go := fun i H s hi => by rw [signsD_len] at hi; exact hi
  stop := fun H s => by rw [signsD_len]; exact Nat.le_refl _
  yld := fun i F1 H x H' s1 s2 hi y => by
    obtain ⟨e, c, hc, ev⟩ := y
    subst e
    subst ev
    refine ⟨F1, .str ⟨#[c]⟩, Grow.refl _ _, s2, ?_, rfl⟩
    unfold signsD
    rw [List.getElem?_map, Array.getElem?_toList, hc]
    rfl
def iTx (t : DE) : DI := fun ρ Q E => t ρ (fun d ρ1 => match d with
  | .str z => Q (signsD z) ρ1
  | _ => False) E
section
variable {X : Cx} {B : Bd} {W : WX} {tg : Expr} {pos : Pos}
theorem di_tx {e : Expr} {t : DE} (he : PE X e (rV B W t)) : PI X tg e (rI B W (iTx t)) := by
  refine pi_imp (pi_str he) fun σ H R ⟨F, L, ρ, Qd, Ed, S, ht, hq, hx⟩ => ⟨F, L, ρ, _, Ed, S, ht, fun d ρ' v F' L' H' k S' s r => ?_, hx⟩
  cases d <;> first | (exact False.elim k) | skip
  rename_i z
  cases (show v = V.str z from r)
  exact ⟨z, rfl, hq _ ρ' F' L' H' _ k S' s gives_str⟩
end
/-! ### methods of a text with one thing handed over -/
def mMth (f : DOp2) (t u : DE) : DC := fun ρ Q E => t ρ (fun d ρ1 => match d with
  | .str x => u ρ1 (fun e ρ2 => ∃ c, f (.str x) e = some c ∧ Q c ρ2) E
  | _ => False) E
section
variable {X : Cx} {B : Bd} {W : WX} {pos apos : Pos}
theorem mth_op {r : V → List V → Hp → VK → Prop} {f : DOp2} (hf : Op2 B.K (fun x y H Q => r x [y] H Q) f) {t u : DE} {σ : L2.St} {H : Hp} {Q : VK} (h : rC B W (mMth f t u) σ H Q) : tM1 r (rV B W t) (rV B W u) σ H Q := by
  obtain ⟨F, L, ρ, Qd, Ed, S, ht, hq, hx⟩ := h
  refine ⟨F, L, ρ, _, Ed, S, ht, fun d ρ1 v F1 L1 H1 k1 S1 s1 r1 => ?_, hx⟩
  cases d <;> first | (exact False.elim k1) | skip
  rename_i x
  cases (show v = V.str x from r1)
  refine ⟨⟨x, rfl⟩, F1, L1, ρ1, _, Ed, S1, k1, fun e ρ2 w F2 L2' H2 k2 S2 s2 r2 => ?_, hx.mono s1.f⟩
  obtain ⟨c, ec, k2⟩ := k2
  exact hf F2 H2 (.str x) e (.str x) w c Q S2.sub (Rp.view (d := .str x) S2.sub rfl) (Rp.view S2.sub r2) ec fun w' F3 H3 g sb n => hq c ρ2 w' F3 L2' H3 k2 (S2.grow g sb) ((s1.trans s2).trans g.stp) ((n.res S2).back (s1.trans s2))
def fSplit : DOp2
  | .str a, .str b => if (b.length == 0) = false ∧ a.length + 2 ≤ sizeLine then some (.own ((Txt.split a b).map D.str)) else none
  | _, _ => none
theorem strs_rp {K : PySem.W.Frag} {F : Hp} : ∀ ys : List Str, RpL K F (ys.map D.str) (ys.map V.str)
  | [] => rfl
  | y :: ys => ⟨.str y, ys.map V.str, rfl, rfl, strs_rp ys⟩
theorem fSplit_ok {K : PySem.W.Frag} : Op2 K (fun x y H Q => (fun x xs H Q => ∃ a b, x = .str a ∧ xs = [.str b] ∧ (b.length == 0) = false ∧ a.length + 2 ≤ sizeLine ∧ rNewStrs (Txt.split a b) H Q) x [y] H Q) fSplit := by
  intro F H d1 d2 v1 v2 c Q sb h1 h2 e q
  cases d1 <;> cases d2 <;> first | (cases e; done) | skip
  rename_i a b
  cases (show v1 = V.str a from h1)
  cases (show v2 = V.str b from h2)
  simp only [fSplit] at e
  split at e
  · rename_i hc
    cases e
    exact ⟨a, b, rfl, rfl, hc.1, hc.2, fun p hp => fin_lst sb q hp (strs_rp _)⟩
  · cases e
def strsD : List D → Option (List Str)
  | [] => some []
  | .str x :: ds => (strsD ds).map (x :: ·)
  | _ :: _ => none
theorem strsD_ok {K : PySem.W.Frag} {F : Hp} : ∀ {ds : List D} {vs : List V} {ys : List Str}, RpL K F ds vs → strsD ds = some ys → vs = ys.map V.str
  | [], vs, ys, h, e => by
    cases e
    exact h
  | d :: ds, vs, ys, h, e => by
    obtain ⟨v, us, rfl, h1, h2⟩ := h
    cases d <;> first | (cases e; done) | skip
    rename_i x
    cases (show v = V.str x from h1)
    have e' : (strsD ds).map (x :: ·) = some ys := e
    cases q : strsD ds with
    | none => rw [q] at e'; cases e'
    | some zs =>
      rw [q] at e'
      cases e'
      rw [strsD_ok h2 q]
      rfl
theorem strsD_map : ∀ ys : List Str, strsD (ys.map D.str) = some ys
  | [] => rfl
  | y :: ys => by
    show (strsD (ys.map D.str)).map (y :: ·) = _
    rw [strsD_map ys]
    rfl
def joinOk (a : Str) (ys : List Str) : Prop := (ys.map (·.length)).sum + ys.length * a.length ≤ 16777216
instance (a : Str) (ys : List Str) : Decidable (joinOk a ys) := by unfold joinOk; infer_instance
def joinC (a : Str) (ds : List D) : Option Cell := match strsD ds with
  | some ys => if joinOk a ys then some (.val (.str (Txt.join a ys))) else none
  | none => none
def fJoin : DOp2
  | .str a, .tup ds => joinC a ds
  | .str a, .lst ds => joinC a ds
  | _, _ => none
theorem joinC_of {a : Str} {ys : List Str} (h : joinOk a ys) : joinC a (ys.map D.str) = some (.val (.str (Txt.join a ys))) := by
  unfold joinC
  rw [strsD_map]
  exact if_pos h
theorem joinC_inv {a : Str} {ds : List D} {c : Cell} (h : joinC a ds = some c) : ∃ ys, strsD ds = some ys ∧ joinOk a ys ∧ c = .val (.str (Txt.join a ys)) := by
  unfold joinC at h
  cases q : strsD ds with
  | none => rw [q] at h; cases h
  | some ys =>
    rw [q] at h
    by_cases o : joinOk a ys
    · have h' : (if joinOk a ys then some (Cell.val (.str (Txt.join a ys))) else none) = some c := h
      rw [if_pos o] at h'
      cases h'
      exact ⟨ys, rfl, o, rfl⟩
    · have h' : (if joinOk a ys then some (Cell.val (.str (Txt.join a ys))) else none) = some c := h
      rw [if_neg o] at h'
      cases h'
def rJoin (K : PySem.W.Frag) : V → List V → Hp → VK → Prop := fun x xs H Q => ∃ a p, ∃ ys : List Str, x = .str a ∧ xs = [.ref p] ∧ (SqL K H p (ys.map V.str) ∨ SqT K H p (ys.map V.str)) ∧
      (ys.map (·.length)).sum + ys.length * a.length ≤ 16777216 ∧ Q (.str (Txt.join a ys)) H
theorem fJoin_ok {K : PySem.W.Frag} : Op2 K (fun x y H Q => rJoin K x [y] H Q) fJoin := by
  intro F H d1 d2 v1 v2 c Q sb h1 h2 e q
  cases d1 <;> cases d2 <;> first | (cases e; done) | skip
  · rename_i a ds
    cases (show v1 = V.str a from h1)
    obtain ⟨ys, e1, o, rfl⟩ := joinC_inv e
    obtain ⟨p, vs, rfl, q1, r1⟩ := RpV.tup_ sb h2
    cases strsD_ok r1 e1
    exact ⟨a, p, ys, rfl, rfl, .inr q1, o, fin_val sb q rfl⟩
  · rename_i a ds
    cases (show v1 = V.str a from h1)
    obtain ⟨ys, e1, o, rfl⟩ := joinC_inv e
    obtain ⟨p, vs, rfl, q1, r1⟩ := h2
    cases strsD_ok r1 e1
    exact ⟨a, p, ys, rfl, rfl, .inl (SqL.of q1), o, fin_val sb q rfl⟩
def fStw : DOp2
  | .str a, .str b => some (.val (.bl (Txt.startswith a b)))
  | _, _ => none
def fEnw : DOp2
  | .str a, .str b => some (.val (.bl (Txt.endswith a b)))
  | _, _ => none
theorem fStw_ok {K : PySem.W.Frag} : Op2 K (fun x y H Q => (fun x xs H Q => ∃ a b, x = .str a ∧ xs = [.str b] ∧ Q (.bl (Txt.startswith a b)) H) x [y] H Q) fStw := by
  intro F H d1 d2 v1 v2 c Q sb h1 h2 e q
  cases d1 <;> cases d2 <;> first | (cases e; done) | skip
  rename_i a b
  cases (show v1 = V.str a from h1)
  cases (show v2 = V.str b from h2)
  cases e
  exact ⟨a, b, rfl, rfl, fin_val sb q rfl⟩
theorem fEnw_ok {K : PySem.W.Frag} : Op2 K (fun x y H Q => (fun x xs H Q => ∃ a b, x = .str a ∧ xs = [.str b] ∧ Q (.bl (Txt.endswith a b)) H) x [y] H Q) fEnw := by
  intro F H d1 d2 v1 v2 c Q sb h1 h2 e q
  cases d1 <;> cases d2 <;> first | (cases e; done) | skip
  rename_i a b
  cases (show v1 = V.str a from h1)
  cases (show v2 = V.str b from h2)
  cases e
  exact ⟨a, b, rfl, rfl, fin_val sb q rfl⟩
variable {o e : Expr} {t u : DE}
theorem dc_split (ho : PE X o (rV B W t)) (he : PE X e (rV B W u)) (hs : starEach [e] X.env = [(false, eval e X.env)] := by rfl) (hbase : attributeBase o "split" X.env (eval o X.env) = eval o X.env := by rfl) (hline : (apos.endLine == pos.line) = true := by rfl) :
    PE X (.Call (.Attribute o "split" apos) [e] [] pos) (rC B W (mMth fSplit t u)) := pe_imp (pe_split ho he hs hbase hline) fun _ _ _ h => mth_op fSplit_ok h
theorem dc_join (ho : PE X o (rV B W t)) (he : PE X e (rV B W u)) (hK : B.K = X.K := by rfl) (hs : starEach [e] X.env = [(false, eval e X.env)] := by rfl) (hbase : attributeBase o "join" X.env (eval o X.env) = eval o X.env := by rfl) (hline : (apos.endLine == pos.line) = true := by rfl) :
    PE X (.Call (.Attribute o "join" apos) [e] [] pos) (rC B W (mMth fJoin t u)) := pe_imp (pe_join ho he hs hbase hline) fun _ _ _ h => mth_op (r := rJoin X.K) (hK ▸ fJoin_ok) h
theorem dc_stw (ho : PE X o (rV B W t)) (he : PE X e (rV B W u)) (hs : starEach [e] X.env = [(false, eval e X.env)] := by rfl) (hbase : attributeBase o "startswith" X.env (eval o X.env) = eval o X.env := by rfl) (hline : (apos.endLine == pos.line) = true := by rfl) :
    PE X (.Call (.Attribute o "startswith" apos) [e] [] pos) (rC B W (mMth fStw t u)) := pe_imp (pe_m1 F.slot_str_startswith F.type_str_startswith mt_startswith ho he hs hbase hline) fun _ _ _ h => mth_op fStw_ok h
theorem dc_enw (ho : PE X o (rV B W t)) (he : PE X e (rV B W u)) (hs : starEach [e] X.env = [(false, eval e X.env)] := by rfl) (hbase : attributeBase o "endswith" X.env (eval o X.env) = eval o X.env := by rfl) (hline : (apos.endLine == pos.line) = true := by rfl) :
    PE X (.Call (.Attribute o "endswith" apos) [e] [] pos) (rC B W (mMth fEnw t u)) := pe_imp (pe_m1 F.slot_str_endswith F.type_str_endswith mt_endswith ho he hs hbase hline) fun _ _ _ h => mth_op fEnw_ok h
end
/-! ### int of a text, one sign in a text -/
def gIntT : D → Option Cell
  | .str a => if a.length ≤ 640 then (PySem.intText? a).map fun n => .val (.int n) else none
  | d => gInt d
abbrev fIntT : DOpN := n1 gIntT
def rIntT : List V → Hp → VK → Prop := fun xs H Q => rInt1 xs H Q ∨ ∃ a n, xs = [.str a] ∧ PySem.intText? a = some n ∧ a.length ≤ 640 ∧ Q (.int n) H
theorem fIntT_ok {K : PySem.W.Frag} : OpN K rIntT fIntT := by
  refine n1_ok fun F H d v c Q sb h e q => ?_
  cases d <;> first | (cases e; done) | skip
  · cases (show v = V.bl _ from h)
    cases e
    exact .inl (.inr ⟨_, rfl, fin_val sb q rfl⟩)
  · cases (show v = V.int _ from h)
    cases e
    exact .inl (.inl ⟨_, rfl, fin_val sb q rfl⟩)
  · rename_i a
    cases (show v = V.str a from h)
    simp only [gIntT] at e
    split at e
    · rename_i hl
      cases en : PySem.intText? a with
      | none => rw [en] at e; cases e
      | some n =>
        rw [en] at e
        cases e
        exact .inr ⟨a, n, rfl, en, hl, fin_val sb q rfl⟩
    · cases e
theorem call_intT {X : Cx} : CallR X (.type "int") rIntT := call_int1.or call_int_str
def fInT (neg : Bool) : DOp2
  | .str x, .str z => match x.cps.toList with
    | [c] => some (.val (.bl (if neg then !decide (c ∈ z.cps.toList) else decide (c ∈ z.cps.toList))))
    | _ => none
  | _, _ => none
def rInT (neg : Bool) : R2 := fun x y H Q => ∃ (c : Nat) (z : Str), x = .str ⟨#[c]⟩ ∧ y = .str z ∧ Q (.bl (if neg then !decide (c ∈ z.cps.toList) else decide (c ∈ z.cps.toList))) H
theorem fInT_ok {K : PySem.W.Frag} {neg : Bool} : Op2 K (rInT neg) (fInT neg) := by
  intro F H d1 d2 v1 v2 c Q sb h1 h2 e q
  cases d1 <;> cases d2 <;> first | (cases e; done) | skip
  rename_i x z
  cases (show v1 = V.str x from h1)
  cases (show v2 = V.str z from h2)
  simp only [fInT] at e
  split at e
  · rename_i k ek
    cases e
    have ex : x = ⟨#[k]⟩ := by
      cases x
      rename_i l
      have : l = #[k] := Array.toList_inj.mp ek
      rw [this]
    exact ⟨k, z, by rw [ex], rfl, fin_val sb q rfl⟩
  · cases e
theorem op_inT {X : Cx} : OpR X (compareOp .In) (rInT false) := op_in_sign
theorem op_ninT {X : Cx} : OpR X (compareOp .NotIn) (rInT true) := op_notIn_sign
/-! a text in a text -/
def fNinS : DOp2
  | .str x, .str y => some (.val (.bl (!(!(Builtin.Str.occurrences y x 0 y.length 1).isEmpty))))
  | _, _ => none
def rNinS : R2 := fun x y H Q => ∃ i j, x = .str i ∧ y = .str j ∧ Q (.bl (!(!(Builtin.Str.occurrences j i 0 j.length 1).isEmpty))) H
theorem fNinS_ok {K : PySem.W.Frag} : Op2 K rNinS fNinS := by
  intro F H d1 d2 v1 v2 c Q sb h1 h2 e q
  cases d1 <;> cases d2 <;> first | (cases e; done) | skip
  rename_i x z
  cases (show v1 = V.str x from h1)
  cases (show v2 = V.str z from h2)
  cases e
  exact ⟨x, z, rfl, rfl, fin_val sb q rfl⟩
theorem op_ninS {X : Cx} : OpR X (compareOp .NotIn) rNinS := op_notIn_str
end DL
/-! The data layer: try with one clause that has a body of its own. -/
namespace DL
open PySem PySem.Spec PyProof.Rows L2
/-- a body's frame, told anew: what stood is kept, one object beside -/
abbrev reB (B : Bd) (F H : Hp) (dd : Option Addr) : Bd := ⟨B.K, fun a => if dd = some a then H a else B.H0 a, F, B.ios, B.ad⟩
/-- what a told error's attributes are, where the frame holds them -/
structure XB (B : Bd) (c : Str) (fs : List (Str × D)) (k : Value) (dd : Option Addr) : Prop where
  cls : k = .ref (He.ga B.K c)
  at_ : (fs = [] ∧ dd = none) ∨ ∃ da fv, dd = some da ∧ B.H0 da = some (.xd fv) ∧ (∀ j ∈ B.ios, B.ad j ≠ da) ∧ fv.map (·.1) = fs.map (·.1) ∧ RpL B.K B.F0 (fs.map (·.2)) (fv.map (·.2))
section
variable {B : Bd} {W : WX} {F F' H H' : Hp} {L L' : La} {σ σ' : L2.St} {ρ ρ' : En} {c : Str} {fs : List (Str × DL.D)} {k : Value} {dd : Option Addr}
theorem reB_none (he : ExcR B.K F H c fs k dd) {a : Addr} (h : (reB B F H dd).H0 a = none) : B.H0 a = none := by
  have h' : (if dd = some a then H a else B.H0 a) = none := h
  split at h'
  · rename_i e
    rcases he.2 with ⟨_, z⟩ | ⟨da, fv, z, q, _⟩
    · rw [z] at e; cases e
    · rw [z] at e
      cases e
      rw [q] at h'
      cases h'
  · exact h'
theorem SR.toB (S : SR B F L σ H ρ) (he : ExcR B.K F H c fs k dd) : SR (reB B F H dd) F L σ H ρ where
  len := S.len
  sub := S.sub
  slot := fun i => by
    have q := S.slot i
    revert q
    cases ρ.getD i none with
    | none => exact id
    | some c =>
      cases c with
      | val d => exact id
      | own ds =>
        intro ⟨a, vs, h1, h2, h3, h4, h5, h6⟩
        refine ⟨a, vs, h1, h2, h3, h4, h5, h6.imp id fun h0 => ?_⟩
        show (if dd = some a then H a else B.H0 a) = none
        split
        · rename_i e
          rcases he.2 with ⟨_, z⟩ | ⟨da, fv, z, q, _⟩
          · rw [z] at e; cases e
          · rw [z] at e
            cases e
            rw [q] at h3
            cases h3
        · exact h0
  inj := S.inj
  f0 := Same.refl F
  fn := fun a o e => .inl e
  keep := fun a o e n => by
    have e' : (if dd = some a then H a else B.H0 a) = some o := e
    split at e'
    · exact e'
    · exact S.keep a o e' n
  io := S.io
  al := fun a n => by
    have n' : (if dd = some a then H a else B.H0 a) ≠ none := n
    split at n'
    · exact n'
    · exact S.al a n'
theorem SR.ofB (S : SR B F L σ H ρ) (he : ExcR B.K F H c fs k dd) (S' : SR (reB B F H dd) F' L' σ' H' ρ') : SR B F' L' σ' H' ρ' where
  len := S'.len
  sub := S'.sub
  slot := fun i => by
    have q := S'.slot i
    revert q
    cases ρ'.getD i none with
    | none => exact id
    | some c =>
      cases c with
      | val d => exact id
      | own ds =>
        intro ⟨a, vs, h1, h2, h3, h4, h5, h6⟩
        exact ⟨a, vs, h1, h2, h3, h4, h5, h6.imp id fun h0 => reB_none he h0⟩
  inj := S'.inj
  f0 := S.f0.trans S'.f0
  fn := fun a o e => by
    rcases S'.fn a o e with q | q
    · exact S.fn a o q
    · exact .inr (reB_none he q)
  keep := fun a o e n => by
    refine S'.keep a o ?_ n
    show (if dd = some a then H a else B.H0 a) = some o
    split
    · exact S.keep a o e n
    · exact e
  io := S'.io
  al := fun a n => by
    refine S'.al a ?_
    show (if dd = some a then H a else B.H0 a) ≠ none
    split
    · exact S.al a n
    · exact n
theorem CellR.ofB (he : ExcR B.K F H c fs k dd) : ∀ {r : Cell} {v : V}, CellR (reB B F H dd) F' L' H' r v → CellR B F' L' H' r v
  | .val _, _, h => h
  | .own _, _, ⟨a, vs, e, h1, h2, h3, h4, h5⟩ => ⟨a, vs, e, h1, h2, h3, reB_none he h4, h5⟩
theorem XB.of (S : SR B F L σ H ρ) (he : ExcR B.K F H c fs k dd) : XB (reB B F H dd) c fs k dd where
  cls := he.1
  at_ := by
    rcases he.2 with h | ⟨da, fv, e, h1, h2, h3⟩
    · exact .inl h
    · refine .inr ⟨da, fv, e, ?_, fun j hj z => ?_, h2, h3⟩
      · show (if dd = some da then H da else B.H0 da) = _
        rw [if_pos e]
        exact h1
      · obtain ⟨_, vs, _, _, q, _⟩ := S.own (S.io j hj)
        rw [show B.ad j = da from z, h1] at q
        cases q
/-- what a handler's body is: told the error, its class, its attributes -/
abbrev HB := Addr → Str → List (Str × D) → DS
/-- the ends behind a clause -/
def goneE (D : DEnds) (i : Nat) : DEnds := ⟨fun ρ => D.nx (ρ.set i none), D.rt, fun ρ => D.bk (ρ.set i none), fun ρ => D.ct (ρ.set i none), D.ex⟩
def mTryH (und : Str → Str → Option Bool) (cn : Str) (i : Nat) (body : HB) (t : DS) : DS := fun Dd ρ => t { Dd with ex := fun c fs ρ1 => match und c cn with
  | some true => i < ρ1.length ∧ ∀ x, body x c fs (goneE Dd i) (ρ1.set i (some (.val (.adr x))))
  | some false => Dd.ex c fs ρ1
  | none => False } ρ
def clH (B : Bd) (W : WX) (body : HB) : ClT := fun x k dd D σ H => ∃ H0 F0 c fs, XB ⟨B.K, H0, F0, B.ios, B.ad⟩ c fs k dd ∧ rS ⟨B.K, H0, F0, B.ios, B.ad⟩ W (body x c fs) D σ H
theorem SR.unset (S : SR B F L σ H ρ) (i : Nat) (hi : B.ios.contains i = false) : SR B F (forget L i) (σ.set i none) H (ρ.set i none) := (S.drop hi).unsig (by
  by_cases h : i < ρ.length
  · rw [getD_set_self h]
  · rw [List.getD_eq_getElem?_getD, List.getElem?_eq_none (by rw [List.length_set]; omega)]
    rfl)
theorem hA_of {und : Str → Str → Option Bool} {cn : Str} {i : Nat} {body : HB} {Dd : DEnds} {D : Ends} (hi : B.ios.contains i = false) (hK : PySem.W.Frag) (eK : B.K = hK) (hund : ∀ c cn b, und c cn = some b → PySem.W.exmOne hK (.ref (He.ga hK c)) (.ref (He.ga hK cn)) = some b)
    (o : EOk B W F Dd D) (S : SR B F' L' σ' H' ρ') (sm : Same F F') (r : ExcR B.K F' H' c fs k dd)
    (q : match und c cn with | some true => i < ρ'.length ∧ ∀ x, body x c fs (goneE Dd i) (ρ'.set i (some (.val (.adr x)))) | some false => Dd.ex c fs ρ' | none => False) :
    wA hK W D [(.ref (He.ga hK cn), some i, clH B W body)] k dd σ' H' := by
  have ek : k = .ref (He.ga B.K c) := r.1
  cases hu : und c cn with
  | none => rw [hu] at q; exact q.elim
  | some b =>
    have hx := hund c cn b hu
    rw [hu] at q
    refine ⟨b, by rw [ek, eK]; exact hx, fun eb x hxn => ?_, fun eb => ?_⟩
    · subst eb
      obtain ⟨hl, q⟩ := q
      have q2 := q x
      have S2 : SR B F' (forget L' i) (σ'.set i (some (.ref x))) H' (ρ'.set i (some (.val (.adr x)))) := S.put hi (by rw [← S.len]; exact hl) rfl
      refine ⟨_, _, c, fs, XB.of S r, F', forget L' i, _, goneE Dd i, S2.toB r, q2, ⟨fun ρ2 σ2 F2 L2 H2 e S3 z => ?_, fun rr ρ2 v σ2 F2 L2 H2 e S3 z cr => ?_, fun ρ2 σ2 F2 L2 H2 e S3 z => ?_, fun ρ2 σ2 F2 L2 H2 e S3 z => ?_, fun c2 fs2 ρ2 k2 dd2 σ2 F2 L2 H2 e S3 z er => ?_⟩⟩
      · exact o.nx _ _ F2 _ H2 e ((S2.ofB r S3).unset i hi) (sm.trans z)
      · exact o.rt rr ρ2 v σ2 F2 L2 H2 e (S2.ofB r S3) (sm.trans z) (CellR.ofB r cr)
      · exact o.bk _ _ F2 _ H2 e ((S2.ofB r S3).unset i hi) (sm.trans z)
      · exact o.ct _ _ F2 _ H2 e ((S2.ofB r S3).unset i hi) (sm.trans z)
      · exact o.ex c2 fs2 ρ2 k2 dd2 σ2 F2 L2 H2 e (S2.ofB r S3) (sm.trans z) er
    · subst eb
      exact o.ex c fs ρ' k dd σ' F' L' H' q S sm r
end
section
variable {X : Cx} {B : Bd} {W : WX} {pos : Pos} {bd : List Stmt} {t : DS}
theorem ds_tryH {und : Str → Str → Option Bool} {y z : Str} {i : Nat} {body : HB} {st : Stmt} {sts : List Stmt} {q1 q2 : Pos} (e1 : X.stack = X.env :: X.outer) (e2 : X.env.frame = some X.env.locals) (hN : X.N.Nodup) (tk : Takes X W) (hund : ∀ c cn b, und c cn = some b → PySem.W.exmOne X.K (.ref (He.ga X.K c)) (.ref (He.ga X.K cn)) = some b)
    (hb : ∀ (W' : WX) (more : List (Addr × Obj)) (xe : Value → Shared → Prop), Takes (X.tr more xe) W' → PassesOwn (model X.prog X.w) X.A X.env xe → PSs (X.tr more xe) bd (rS B W' t))
    (hc : Names X y (.ref (He.ga X.K y)))
    (hh : ∀ (x : Addr) (ob : Obj) (more : List (Addr × Obj)) (H0 F0 : Hp) (c : Str) (fs : List (Str × D)) (k : Value) (dd : Option Addr), Zc k dd ob → (∃ fv, ob.data = .fields fv) → XB ⟨B.K, H0, F0, B.ios, B.ad⟩ c fs k dd → PSs (X.suite x ((x, ob) :: more)) (st :: sts) (rS ⟨B.K, H0, F0, B.ios, B.ad⟩ W (body x c fs)))
    (hK : B.K = X.K := by rfl) (hi : X.N[i]? = some z := by rfl) (hz : X.env.kindOf z = some .local := by rfl) (hio : B.ios.contains i = false := by rfl) :
    PS X (.Try bd [.ExceptHandler (some (.Name y q1)) (some z) (st :: sts) q2] [] [] pos) (rS B W (mTryH und y i body t)) :=
  ps_imp (ps_try_manyA (tb := fun W' => rS B W' t) (cl := [(.ref (He.ga X.K y), some i, clH B W body)]) e1 e2 hN tk hb (.named hc hi hz (fun x ob k dd more z1 z2 => ⟨fun pins s σ H D I ⟨H0, F0, c, fs, xb, q⟩ => (hh x ob more H0 F0 c fs k dd z1 z2 xb).run pins s σ H D I q⟩) .nil)) fun D σ H ⟨F, L, ρ, Dd, S, q, o⟩ =>
    ⟨F, L, ρ, _, S, q, ⟨o.nx, o.rt, o.bk, o.ct, fun c fs ρ' k dd σ' F' L' H' e S' s' r => hA_of hio X.K hK hund o S' s' r e⟩⟩
end
end DL
/-! The data layer: what a clause's body reads of the error; defs that raise nothing, called there. -/
namespace DL
open PySem PySem.Spec PyProof.Rows L2
/-- what a class must say, so that isinstance asks its instances rightly -/
def xisB (K : PySem.W.Frag) (C : Addr) : Bool := (PySem.W.clsIn K C).isSome && (decide (PySem.W.findIn K (.ref C) "__getattribute__" = some (some (.builtin "BaseException.__getattribute__"))) && (decide (PySem.W.findIn K (.ref C) "__getattr__" = some none) && (decide (PySem.W.subIn K (.ref C) (.type "BaseException") = some true) &&
  (decide (PySem.W.findIn K (.ref C) "__class__" = some (some (.builtin "object.__class__"))) && (decide (PySem.W.specialIn K (.builtin "object.__class__") "__get__" = some (some (.builtin "getset_descriptor.__get__"))) && (decide (PySem.W.takesIn K (.builtin "object.__class__") = some true) && decide (PySem.W.mroIn K C (.type "object") = some true)))))))
theorem kitx_own {K : PySem.W.Frag} {C x : Addr} {ox : Obj} {od : Option Obj} (h : xisB K C = true) : PySem.W.KitX K (.ref x) (.ref C) (fun h => PySem.W.InstAt h x ox C od) := by
  unfold xisB at h
  simp only [Bool.and_eq_true, decide_eq_true_eq] at h
  obtain ⟨h1, h2, h3, h4, h5, h6, h7, h8⟩ := h
  exact PySem.W.kitx_exc h1 h2 h3 h4 h5 h6 h7 h8
/-- isinstance(e, c), e the error that the suite holds -/
def rIsH (K : PySem.W.Frag) (C x : Addr) (dd : Option Addr) : List V → Hp → VK → Prop := fun xs H Q => ∃ (c : V) (cv : Value) (b : Bool), xs = [.ref x, c] ∧ (∀ u, RelV c u → u = cv) ∧ PySem.W.kitOne K (.ref C) cv = some b ∧ (dd = none ∨ ∃ da fv, dd = some da ∧ H da = some (.xd fv)) ∧ Q (.bl b) H
theorem call_isH {X : Cx} {x C : Addr} {ob : Obj} {dd : Option Addr} {pn : List (Addr × Obj)} (T : xisB X.K C = true) (hz : Zc (.ref C) dd ob) (hf : ∃ fv, ob.data = .fields fv) : CallR (X.suite x ((x, ob) :: pn)) (.builtin "isinstance") (rIsH X.K C x dd) := by
  intro pins s σ H xs us Q I r ⟨c, cv, b, e0, hcv, e, hd, q⟩
  subst e0
  obtain ⟨hget, _⟩ := I.pin (x, ob) (List.mem_append.mpr (.inl List.mem_cons_self))
  obtain ⟨fv0, hfv⟩ := hf
  have hn : PySem.W.notCls ob = true := by
    unfold PySem.W.notCls
    rw [hfv] <;> rfl
  have key : ∃ od, PySem.W.InstAt s.heap x ob C od := by
    rcases hd with hd | ⟨da, fv, ed, ea⟩
    · subst hd
      exact ⟨none, hget, hz.1, hn, by rw [hz.2]; trivial⟩
    · subst ed
      have hx : ObjOk X.prog X.w H s.heap da (.xd fv) := I.hok da _ ea
      obtain ⟨mA, hns, _⟩ := hx
      obtain ⟨od, ho, _⟩ := lookIn_ns hns
      exact ⟨some od, hget, hz.1, hn, by rw [hz.2]; exact ho⟩
  obtain ⟨od, J⟩ := key
  match us, r with
  | [_, _], .cons rx (.cons rt .nil) =>
    cases rx
    have ec := hcv _ rt
    subst ec
    exact PySem.W.kia_one (kitx_own T) I.kIn J e (fun z => nomatch z) fun tk => ⟨.bl b, H, I.kept (t' := tk) fun _ _ z => z, rfl, q⟩
/-- which of these classes stand under which, as isinstance has it -/
def isEB (tbl : List ((Str × Str) × Bool)) (K : PySem.W.Frag) : Bool := tbl.all fun p => xisB K (He.ga K p.1.1) && decide (PySem.W.kitOne K (.ref (He.ga K p.1.1)) (.ref (He.ga K p.1.2)) = some p.2)
/-- the same, of a built-in class -/
def isTB (tbl : List ((Str × String) × Bool)) (K : PySem.W.Frag) : Bool := tbl.all fun p => xisB K (He.ga K p.1.1) && decide (PySem.W.kitOne K (.ref (He.ga K p.1.1)) (.type p.1.2) = some p.2)
def isTT (tbl : List ((Str × String) × Bool)) (c : Str) (n : String) : Option Bool := (tbl.find? fun p => p.1 == (c, n)).map (·.2)
theorem isEB_ok {tbl : List ((Str × Str) × Bool)} {K : PySem.W.Frag} (h : isEB tbl K = true) : ∀ c cn b, undT tbl c cn = some b → xisB K (He.ga K c) = true ∧ PySem.W.kitOne K (.ref (He.ga K c)) (.ref (He.ga K cn)) = some b := by
  intro c cn b e
  unfold undT at e
  obtain ⟨p, hp, rfl⟩ := Option.map_eq_some_iff.mp e
  have h3 := List.all_eq_true.mp h p (List.mem_of_find?_eq_some hp)
  rw [Bool.and_eq_true, decide_eq_true_eq] at h3
  have he := List.find?_some (p := fun p : (Str × Str) × Bool => p.1 == (c, cn)) hp
  have e2 : p.1 = (c, cn) := eq_of_beq he
  rw [e2] at h3
  exact h3
theorem isTB_ok {tbl : List ((Str × String) × Bool)} {K : PySem.W.Frag} (h : isTB tbl K = true) : ∀ c n b, isTT tbl c n = some b → xisB K (He.ga K c) = true ∧ PySem.W.kitOne K (.ref (He.ga K c)) (.type n) = some b := by
  intro c cn b e
  unfold isTT at e
  obtain ⟨p, hp, rfl⟩ := Option.map_eq_some_iff.mp e
  have h3 := List.all_eq_true.mp h p (List.mem_of_find?_eq_some hp)
  rw [Bool.and_eq_true, decide_eq_true_eq] at h3
  have he := List.find?_some (p := fun p : (Str × String) × Bool => p.1 == (c, cn)) hp
  have e2 : p.1 = (c, cn) := eq_of_beq he
  rw [e2] at h3
  exact h3
def mIsE (q : Str → Str → Option Bool) (i : Nat) (x : Addr) (c cn : Str) : DC := fun ρ Q _ => ρ.getD i none = some (.val (.adr x)) ∧ ∃ b, q c cn = some b ∧ Q (.val (.bl b)) ρ
def mIsT (q : Str → String → Option Bool) (i : Nat) (x : Addr) (c : Str) (n : String) : DC := fun ρ Q _ => ρ.getD i none = some (.val (.adr x)) ∧ ∃ b, q c n = some b ∧ Q (.val (.bl b)) ρ
def mXf (cs : List Str) (i : Nat) (x : Addr) (c : Str) (fs : List (Str × D)) (f : Str) : DE := fun ρ Q _ => ρ.getD i none = some (.val (.adr x)) ∧ cs.contains c = true ∧ ∃ d, fs.lookup f = some d ∧ Q d ρ
section
variable {X : Cx} {B : Bd} {W : WX} {x : Addr} {ob : Obj} {more : List (Addr × Obj)} {c : Str} {fs : List (Str × D)} {k : Value} {dd : Option Addr} {pos p p2 p3 : Pos}
theorem XB.there (xb : XB B c fs k dd) {F H : Hp} {L : La} {σ : L2.St} {ρ : En} (S : SR B F L σ H ρ) : dd = none ∨ ∃ da fv, dd = some da ∧ H da = some (.xd fv) := by
  rcases xb.at_ with ⟨_, e⟩ | ⟨da, fv, e, h1, h2, _⟩
  · exact .inl e
  · exact .inr ⟨da, fv, e, S.keep da _ h1 h2⟩
theorem dc_isE {q : Str → Str → Option Bool} (i : Nat) {z cn : Str} (xb : XB B c fs k dd) (hz : Zc k dd ob) (hf : ∃ fv, ob.data = .fields fv) (hq : ∀ c cn b, q c cn = some b → xisB X.K (He.ga X.K c) = true ∧ PySem.W.kitOne X.K (.ref (He.ga X.K c)) (.ref (He.ga X.K cn)) = some b)
    (hm : X.mg "isinstance" = none) (hc : X.mg cn = some (.ref (He.ga X.K cn))) (hK : B.K = X.K := by rfl) (hN : X.N[i]? = some z := by rfl) (hv : Vis X.env.scope z := by exact Or.inl rfl) (hzd : (z == ("__debug__" : Str)) = false := by decide) (hzc : (z == ("__classdict__" : Str)) = false := by decide)
    (hg : Gl X "isinstance" := by rfl) (hgc : Gl X cn := by rfl) (hcd : (cn == ("__debug__" : Str)) = false := by decide) (he : starEach [.Name z p2, .Name cn p3] X.env = (false, eval (.Name z p2) X.env) :: starEach [.Name cn p3] X.env := by rfl) (he2 : starEach [.Name cn p3] X.env = (false, eval (.Name cn p3) X.env) :: starEach [] X.env := by rfl)
    (hpl : (backTo pos (starEach [.Name cn p3] X.env)).any (·.1) = false := by rfl) : PE (X.suite x ((x, ob) :: more)) (.Call (.Name "isinstance" p) [.Name z p2, .Name cn p3] [] pos) (rC B W (mIsE q i x c cn)) := by
  refine ⟨fun pins s σ H Q I ⟨F, L, ρ, Qd, Ed, S, ⟨h1, b, h2, h3⟩, hq', hx⟩ => ?_⟩
  have ek : k = .ref (He.ga X.K c) := by rw [← hK]; exact xb.cls
  subst ek
  obtain ⟨T, hk⟩ := hq c cn b h2
  obtain ⟨l0, v, e, rv⟩ := S.val h1
  refine (pe_callB (X := X.suite x ((x, ob) :: more)) (call_isH T hz hf) hg hm (by decide +kernel) (pa_cons (pe_var (i := i) hN hv hzd hzc) (pa_cons (pe_glob (v := .ref (He.ga X.K cn)) hgc hc rfl hcd) pa_nil he2) he) (by decide) (by decide) he hpl).run pins s σ H Q I ⟨v, e, ?_⟩
  refine ⟨.ref (He.ga X.K cn), .ref (He.ga X.K cn), b, by rw [show v = .ref x from rv], fun u r => r, hk, xb.there S, ?_⟩
  exact hq' (.val (.bl b)) ρ _ F L H h3 S (Stp.refl _ _ _) rfl
theorem dc_isT {q : Str → String → Option Bool} (i : Nat) {z n : Str} {T : String} (xb : XB B c fs k dd) (hz : Zc k dd ob) (hf : ∃ fv, ob.data = .fields fv) (hq : ∀ c n b, q c n = some b → xisB X.K (He.ga X.K c) = true ∧ PySem.W.kitOne X.K (.ref (He.ga X.K c)) (.type n) = some b)
    (hm : X.mg "isinstance" = none) (hc : X.mg n = none) (hb : bootBuiltins n = some (.type T) := by decide +kernel) (hn : n ≠ "__name__" := by decide) (hK : B.K = X.K := by rfl) (hN : X.N[i]? = some z := by rfl) (hv : Vis X.env.scope z := by exact Or.inl rfl) (hzd : (z == ("__debug__" : Str)) = false := by decide) (hzc : (z == ("__classdict__" : Str)) = false := by decide)
    (hg : Gl X "isinstance" := by rfl) (hgc : Gl X n := by rfl) (hcd : (n == ("__debug__" : Str)) = false := by decide) (he : starEach [.Name z p2, .Name n p3] X.env = (false, eval (.Name z p2) X.env) :: starEach [.Name n p3] X.env := by rfl) (he2 : starEach [.Name n p3] X.env = (false, eval (.Name n p3) X.env) :: starEach [] X.env := by rfl)
    (hpl : (backTo pos (starEach [.Name n p3] X.env)).any (·.1) = false := by rfl) : PE (X.suite x ((x, ob) :: more)) (.Call (.Name "isinstance" p) [.Name z p2, .Name n p3] [] pos) (rC B W (mIsT q i x c T)) := by
  refine ⟨fun pins s σ H Q I ⟨F, L, ρ, Qd, Ed, S, ⟨h1, b, h2, h3⟩, hq', hx⟩ => ?_⟩
  have ek : k = .ref (He.ga X.K c) := by rw [← hK]; exact xb.cls
  subst ek
  obtain ⟨T', hk⟩ := hq c T b h2
  obtain ⟨l0, v, e, rv⟩ := S.val h1
  refine (pe_callB (X := X.suite x ((x, ob) :: more)) (call_isH T' hz hf) hg hm (by decide +kernel) (pa_cons (pe_var (i := i) hN hv hzd hzc) (pa_cons (pe_bltn (v := .ty T) hgc hc hb rfl hn hcd) pa_nil he2) he) (by decide) (by decide) he hpl).run pins s σ H Q I ⟨v, e, ?_⟩
  refine ⟨.ty T, .type T, b, by rw [show v = .ref x from rv], fun u r => r, hk, xb.there S, ?_⟩
  exact hq' (.val (.bl b)) ρ _ F L H h3 S (Stp.refl _ _ _) rfl
theorem lookup_ne {fs : List (Str × D)} {f : Str} {d : D} (h : fs.lookup f = some d) : fs ≠ [] := fun e => by
  rw [e] at h
  cases h
theorem de_xf {cs : List Str} (i : Nat) {z f : Str} (xb : XB B c fs k dd) (hz : Zc k dd ob) (hf : ∃ fv, ob.data = .fields fv) (T : ∀ c, cs.contains c = true → XfC X.K (He.ga X.K c) ∧ PySem.W.findIn X.K (.ref (He.ga X.K c)) f = some none)
    (hK : B.K = X.K := by rfl) (hN : X.N[i]? = some z := by rfl) (hv : Vis X.env.scope z := by exact Or.inl rfl) (hzd : (z == ("__debug__" : Str)) = false := by decide) (hzc : (z == ("__classdict__" : Str)) = false := by decide)
    (hb : attributeBase (.Name z p2) f X.env (eval (.Name z p2) X.env) = eval (.Name z p2) X.env := by rfl) : PE (X.suite x ((x, ob) :: more)) (.Attribute (.Name z p2) f pos) (rV B W (mXf cs i x c fs f)) := by
  refine ⟨fun pins s σ H Q I ⟨F, L, ρ, Qd, Ed, S, ⟨h1, h2, d, h3, h4⟩, hq', hx⟩ => ?_⟩
  obtain ⟨T1, T2⟩ := T c h2
  have ek : k = .ref (He.ga X.K c) := by rw [← hK]; exact xb.cls
  obtain ⟨l0, v, e, rv⟩ := S.val h1
  rcases xb.at_ with ⟨z1, _⟩ | ⟨da, fv, ed, g1, g2, g3, g4⟩
  · exact absurd z1 (lookup_ne h3)
  · obtain ⟨u, hu, ru⟩ := lookup_rp g3 g4 h3
    refine (pe_xf (X := X) T1 T2 hz hf (pe_var (X := X.suite x ((x, ob) :: more)) (i := i) hN hv hzd hzc) hb).run pins s σ H Q I ⟨v, e, rv, ek, da, fv, u, ed, S.keep da _ g1 g2, hu, ?_⟩
    exact hq' d ρ u F L H h4 S (Stp.refl _ _ _) (ru.mono S.f0)
end
/-! ### a def that raises nothing, where an error is handled -/
structure FnQ (P : Program) (w : World) (K : PySem.W.Frag) (mg : Str → Option Value) (base : Heap) (k : Nat) (f : Addr) (fd : FuncData) (ps : List Str) (sp : Sp) : Prop where
  len : ∀ vs H Q E, sp vs H Q E → vs.length = ps.length
  run : ∀ (A : Around) (outer : List Env) (s : Shared) (H : Hp) (args : Args) (us : List Value) (vs : List V) (Q : VK) (p : Addr × Obj), L2H.RoomH k A → L2H.PinOk outer H s p → Env0 P w K mg base A outer s H → BindsTo s fd args (ps.zip us) → Vals vs us → sp vs H Q (fun _ _ _ => False) →
    codeAny (model P w) A (.call (.ref f) args) (CR (L2.CX P w) outer P w H s Q (fun _ _ _ => False)) s
theorem FnQ.mono {P : Program} {w : World} {K : PySem.W.Frag} {mg : Str → Option Value} {base : Heap} {j k : Nat} {f : Addr} {fd : FuncData} {ps : List Str} {sp : Sp} (F : FnQ P w K mg base j f fd ps sp) (h : j ≤ k) : FnQ P w K mg base k f fd ps sp :=
  ⟨F.len, fun A outer s H args us vs Q p hr => F.run A outer s H args us vs Q p (hr.mono h)⟩
abbrev cxQ (P : Program) (w : World) (K : PySem.W.Frag) (mg : Str → Option Value) (base : Heap) (N : List Str) (qual : Str) (scope : Scope) (f : Addr) (cd : Value) (A : Around) (outer : List Env) (s : Shared) (H : Hp) (p : Addr × Obj) : Cx :=
  L2H.cxH (L2.CX P w) P w K mg base N qual scope f cd A outer s H (fun _ _ _ => False) p
theorem fn_ofQ {P : Program} {w : World} {K : PySem.W.Frag} {mg : Str → Option Value} {base : Heap} {x qual : Str} {params : Arguments} {body : List Stmt} {scope : Scope} {dvs : List V} {kws : List (Str × V)} {f : Addr} {fd : FuncData} {N ps : List Str} {k : Nat} {sp : Sp}
    (Fd : FunD K x qual params body scope dvs kws f fd) (S : FnScope N ps scope) (len : ∀ vs H Q E, sp vs H Q E → vs.length = ps.length)
    (hb : ∀ (cdv : Value) (A : Around) (outer : List Env) (s : Shared) (H : Hp) (vs : List V) (Q : VK) (p : Addr × Obj), L2H.RoomH k (A.deeper (envOfC qual scope s.heap.objs.size f cdv)) → sp vs H Q (fun _ _ _ => False) →
      ∃ t, PSs (cxQ P w K mg base N qual scope f cdv A outer s H p) body t ∧ t { nx := fun _ H' => Q .non H', rt := Q } (L2.start N vs) H) : FnQ P w K mg base (k + 1) f fd ps sp := by
  obtain ⟨oc, od, dV, kV, doc, pm, an, cdv, ct, osl, rfl, lk, hcd, _, _⟩ := Fd.ex
  refine ⟨len, fun A outer s H args us vs Q p hr pinned env bound vals told => ?_⟩
  have many := len _ _ _ _ told
  have inK : K.In s.heap := env.mod.kin.keeps fun b o e => (env.bs b o e).1
  have free : s.heap.NoLimit := env.mod.nolimit.keeps fun b o e => (env.bs b o e).1
  have kinds : ∀ y ∈ ps.zip us, scope.names.lookup y.1 = some .local ∨ (scope.names.lookup y.1 = some .cell ∧ ((cellsFrom (s.heap.objs.size + 1) scope.names []).lookup y.1).isSome = true) := fun ⟨n, v⟩ hy =>
    (S.par n (List.of_mem_zip hy).1).imp id fun q => ⟨q, PySem.W.cellsFrom_some _ _ _ (.inl q)⟩
  refine codeAny_call_function hr.depth (inK _ _ lk) rfl S.co S.gen rfl (PySem.W.codeRec_of inK hcd) (bound _ _ _ _ ?_)
  refine wpAny_newFunctionEnv_cells S.kind kinds fun env2 he s1 x => ?_
  subst he
  refine ⟨free.keeps x.toInCall.keep, codeAny_func ?_⟩
  obtain ⟨t, ht, hq⟩ := hb cdv A outer s H vs Q p (hr.deeper _) told
  have I := L2H.inv_startH (CX := L2.CX P w) (E := fun _ _ _ => False) S pinned env many vals x
  refine wpAny_mono (ht.run [] s1 (L2.start N vs) H _ I hq) (fun fl s' hs => ?_) fun _ _ hs => hs
  have fin : ∀ {σ' : L2.St} {H' : Hp} {v : V} {u : Value}, Inv (cxQ P w K mg base N qual scope f cdv A outer s H p) [] σ' H' s' → RelV v u → Q v H' → CE outer P w H s Q u s' :=
    fun J rv q => ⟨_, _, J.os, J.bare, J.base, J.hok, rv, q⟩
  cases fl with
  | ret u =>
    obtain ⟨v, σ', H', J, rv, q⟩ := hs
    exact fin J rv q
  | next =>
    obtain ⟨σ', H', J, q⟩ := hs
    exact fin (v := V.non) (u := Value.none) J rfl q
  | brk => exact hs.choose_spec.choose_spec.2.elim
  | cont => exact hs.choose_spec.choose_spec.2.elim
structure DefQ (P : Program) (w : World) (K : PySem.W.Frag) (mg : Str → Option Value) (base : Heap) (lv : Nat) (x : Str) (st : Stmt) (fd : FuncData) (ps : List Str) (n : Nat) (sp : DSp) : Prop where
  fun_ : FunD K x x (defArgs st) (defBody st) (defScope st) [] [] (He.ga K x) fd
  ok : FnQ P w K mg base lv (He.ga K x) fd ps (spD K n [] sp)
  glo : mg x = some (.ref (He.ga K x))
  binds : Binds K fd ps []
/-- no exception is let out -/
abbrev W0 : WX := fun _ _ _ _ => False
theorem def_okQ {K : PySem.W.Frag} {P : Program} {w : World} {mg : Str → Option Value} {base : Heap} {x qual : Str} {params : Arguments} {body : List Stmt} {scope : Scope} {dvs : List V} {kws : List (Str × V)} {f : Addr} {fd : FuncData} {N ps : List Str} {k : Nat} (n : Nat) {tb : DS}
    (Fd : FunD K x qual params body scope dvs kws f fd) (S : FnScope N ps scope) (hn : ps.length = n)
    (hb : ∀ (cdv : Value) (A : Around) (outer : List Env) (s : Shared) (H F : Hp) (p : Addr × Obj) (ad : Nat → Addr), L2H.RoomH k (A.deeper (envOfC qual scope s.heap.objs.size f cdv)) → PSs (cxQ P w K mg base N qual scope f cdv A outer s H p) body (rS ⟨K, H, F, [], ad⟩ W0 tb)) :
    FnQ P w K mg base (k + 1) f fd ps (spD K n [] (wDef (N.length - n) tb)) := by
  refine fn_ofQ Fd S (fun vs H Q E h => by rw [spD_len _ _ _ _ h, hn]) fun cdv A outer s H vs Q p hr ⟨F, L, cs, ad, Qd, Ed, hl, hS, hw, hq, hx⟩ => ?_
  refine ⟨_, hb cdv A outer s H F p ad hr, F, L, _, _, ?_, hw, ⟨fun ρ' σ' F' L' H' q S' _ => ?_, fun r ρ' v σ' F' L' H' q S' _ c => ?_, fun ρ' σ' F' L' H' q S' _ => ?_, fun ρ' σ' F' L' H' q S' _ => ?_, fun c fs ρ' cls dd σ' F' L' H' q S' _ ex => ?_⟩⟩
  · have := hS.pad (N.length - n)
    unfold L2.start
    rw [hl]
    exact this
  · exact hq (.val .non) _ .non F' H' q S'.post rfl
  · exact hq r _ v F' H' q S'.post c.resD
  · exact q.elim
  · exact q.elim
  · exact hx c fs _ cls dd F' H' q S'.post ex
section
variable {X : Cx} {B : Bd} {W : WX} {pos : Pos} {e : Expr} {es : List Expr}
theorem pe_callQ {k : Nat} {f : Addr} {fd : FuncData} {ps : List Str} {sp : Sp} {x : Str} {p : Pos} {t : TA} {pn : Addr × Obj} (F : FnQ X.prog X.w X.K X.mg X.base k f fd ps sp) (hr : L2H.RoomH k X.A) (hp : pn ∈ X.pn) (hg : Gl X x) (hm : X.mg x = some (.ref f)) (hk : PySem.W.keepIn X.K (.ref f) = true) (hb : Binds X.K fd ps [])
    (ha : PA X (e :: es) t) (hdb : (x == ("__debug__" : Str)) = false := by decide) (he : starEach (e :: es) X.env = (false, eval e X.env) :: starEach es X.env := by rfl) (hpl : (backTo pos (starEach es X.env)).any (·.1) = false := by rfl) :
    PE X (.Call (.Name x p) (e :: es) [] pos) (fun σ H Q => t σ H fun vs H1 => sp vs H1 Q (fun _ _ _ => False)) := by
  refine ⟨fun pins s σ H Q I h => ?_⟩
  refine wpAny_Call_Name_kw (ld_glob I hg hm ?_ hdb)
  refine PySem.W.callWith_K (h₀ := X.base) I.ok.mod.kin hk (thn (ha.run pos pins s σ H _ I h) fun us s1 ⟨vs, H1, I1, r, q⟩ => ⟨I1.kIn, ?_⟩) he hpl
  have hl : us.length = ps.length := by rw [← r.length]; exact F.len _ _ _ _ q
  have b := hb s1 us I1.kIn (by rw [List.append_nil]; exact hl)
  rw [List.append_nil] at b
  have P1 := I1.pin pn (List.mem_append_left _ hp)
  have pinned : L2H.PinOk X.stack H1 s1 pn := ⟨P1.1, P1.2.1, fun hm => (List.mem_cons.mp (I1.stkSub pn.1 hm)).elim P1.2.2.1 P1.2.2.2.1, P1.2.2.2.2⟩
  refine wpAny_call (codeAny_mono (F.run X.A X.stack s1 H1 ⟨us, []⟩ us vs Q pn hr pinned I1.env0 b r q) fun r s' hq => ?_)
  cases r with
  | error e =>
    obtain ⟨_, _, _, _, _, _, _, _, _, _, _, _, z⟩ := hq
    exact z.elim
  | ok fl =>
    cases fl with
    | ret u => exact I1.after hq
    | next => exact False.elim hq
    | brk => exact False.elim hq
    | cont => exact False.elim hq
def mCallQ (as : List KX) (w : DSp) : DC := fun ρ Q E => mKXs as ρ (fun ks ρ1 => match rsvs ρ1 ks with
  | some cs => w cs (fun c o => Q c (putO ρ1 0 ks o)) (fun _ _ _ => False)
  | none => False) E
theorem dc_callQ {as : List KX} {n lv k : Nat} {w : DSp} {fd : FuncData} {ps : List Str} {x : Str} {st : Stmt} {p : Pos} {pn : Addr × Obj} (D : DefQ X.prog X.w X.K X.mg X.base lv x st fd ps n w) (hr : L2H.RoomH k X.A) (hle : lv ≤ k) (hp : pn ∈ X.pn) (ha : PA X (e :: es) (rK B W as)) (hK : B.K = X.K := by rfl)
    (hn : (as.map KX.sh).length = n := by rfl) (hio : iosS 0 (as.map KX.sh) = [] := by rfl) (hgs : goodS (as.map KX.sh) = true := by rfl) (hg : Gl X x := by rfl) (hdb : (x == ("__debug__" : Str)) = false := by decide)
    (he : starEach (e :: es) X.env = (false, eval e X.env) :: starEach es X.env := by rfl) (hpl : (backTo pos (starEach es X.env)).any (·.1) = false := by rfl) : PE X (.Call (.Name x p) (e :: es) [] pos) (rC B W (mCallQ as w)) := by
  refine pe_imp (pe_callQ (sp := spD B.K n [] w) (by rw [hK]; exact D.ok.mono hle) hr hp hg D.glo D.fun_.kp D.binds ha hdb he hpl) fun σ H Q ⟨F0, L, ρ, Qd, Ed, S, ht, hq, hx⟩ => ?_
  refine ⟨F0, L, ρ, _, Ed, S, ht, fun ks ρ1 vs F1 L1 H1 kk S1 s1 r hsh nw => ?_, hx⟩
  exact call_imp (W := W0) (Ed := fun _ _ _ => False) S1 s1 r hsh nw hn hio hgs kk hq (fun _ _ _ _ _ _ _ _ _ z _ _ _ => z.elim)
end
end DL
/-! The data layer: i.bit_length(); == beside the empty tuple, of empty dicts. -/
namespace DL
open PySem PySem.Spec PyProof.Rows L2
def mBits (t : DE) : DE := fun ρ Q E => t ρ (fun d ρ1 => match d with
  | .int i => Q (.int ((Builtin.Int.intBits i : Nat) : Int)) ρ1
  | _ => False) E
theorem de_bits {X : Cx} {B : Bd} {W : WX} {o : Expr} {t : DE} {pos apos : Pos} (he : PE X o (rV B W t)) (hbase : attributeBase o "bit_length" X.env (eval o X.env) = eval o X.env := by rfl) (hline : (apos.endLine == pos.line) = true := by rfl) : PE X (.Call (.Attribute o "bit_length" apos) [] [] pos) (rV B W (mBits t)) := by
  refine pe_imp (pe_bits he hbase hline) fun σ H Q ⟨F, L, ρ, Qd, Ed, S, ht, hq, hx⟩ => ⟨F, L, ρ, _, Ed, S, ht, fun d ρ' v F' L' H' k S' s r => ?_, hx⟩
  cases d <;> first | (exact False.elim k) | skip
  rename_i i
  cases (show v = V.int i from r)
  exact ⟨i, rfl, hq (.int ((Builtin.Int.intBits i : Nat) : Int)) ρ' _ F' L' H' k S' s rfl⟩
/-! t == () -/
def rEq0 (K : PySem.W.Frag) : R2 := fun x y H Q => (∃ a b xs, x = .ref a ∧ y = .ref b ∧ SqT K H a xs ∧ SqT K H b [] ∧ Q (.bl xs.isEmpty) H) ∨ rEqD K x y H Q
theorem op_eq0 {X : Cx} (hu : X.A.units + 64 < cLine) : OpR X (compareOp .Eq) (rEq0 X.K) := by
  refine OpR.or ?_ (op_eqD hu)
  intro pins s σ H x y v u Q I rx ry ⟨a, b, xs, e1, e2, h1, h2, q⟩
  subst e1
  subst e2
  cases rx
  cases ry
  obtain ⟨its, r, pl, _⟩ := I.tuple h1
  obtain ⟨its2, r2, pl2, _⟩ := I.tuple h2
  have z2 : its2 = [] := List.eq_nil_of_length_eq_zero r2.length.symm
  subst z2
  refine PySem.SeqAt.eq_tupleAt (e := fun _ => true) pl pl2 (by omega) (fun j h1 h2 => by simp at h2) ?_
  have e : ((List.range (min its.toArray.size ([] : List Value).toArray.size)).all (fun _ => true) && its.toArray.size == ([] : List Value).toArray.size) = xs.isEmpty := by
    have hl := r.length
    cases xs with
    | nil =>
      have : its = [] := List.eq_nil_of_length_eq_zero hl.symm
      subst this
      rfl
    | cons x xs =>
      cases its with
      | nil => cases hl
      | cons i its => simp
  rw [e]
  exact ⟨.bl _, H, I, rfl, q⟩
def fEq0 : DOp2
  | .tup ds, .tup [] => some (.val (.bl ds.isEmpty))
  | d, e => fEq d e
theorem fEq0_ok {K : PySem.W.Frag} : Op2 K (rEq0 K) fEq0 := by
  intro F H d1 d2 v1 v2 c Q sb h1 h2 e q
  have old : fEq d1 d2 = some c → rEq0 K v1 v2 H Q := fun e => .inr (fEq_ok F H d1 d2 v1 v2 c Q sb h1 h2 e q)
  unfold fEq0 at e
  split at e
  · rename_i ds
    cases e
    obtain ⟨a, vs, e1, q1, r1⟩ := RpV.tup_ sb h1
    obtain ⟨b, us, e2, q2, r2⟩ := RpV.tup_ sb h2
    have hu : us = [] := r2
    subst hu
    refine .inl ⟨a, b, vs, e1, e2, q1, q2, ?_⟩
    have hl := r1.length
    have : vs.isEmpty = ds.isEmpty := by
      cases ds <;> cases vs <;> first | rfl | cases hl
    rw [this]
    exact fin_val sb q rfl
  · exact old e
/-! {} == {} -/
def rEqX (K : PySem.W.Frag) : R2 := fun x y H Q => (∃ a b kvs, x = .ref a ∧ y = .ref b ∧ H a = some (.dK kvs) ∧ H b = some (.dK kvs) ∧ (kvs.map (·.1)).Nodup ∧ (∀ p ∈ kvs, flatB p.2 = true) ∧ Q (.bl true) H) ∨ rEqD K x y H Q
theorem op_eqX {X : Cx} (hu : X.A.units + 64 < cLine) : OpR X (compareOp .Eq) (rEqX X.K) := OpR.or (op_eq_dict (by omega)) (op_eqD hu)
def fEqX : DOp2
  | .dic [] [], .dic [] [] => some (.val (.bl true))
  | d, e => fEq d e
theorem fEqX_ok {K : PySem.W.Frag} : Op2 K (rEqX K) fEqX := by
  intro F H d1 d2 v1 v2 c Q sb h1 h2 e q
  have old : fEq d1 d2 = some c → rEqX K v1 v2 H Q := fun e => .inr (fEq_ok F H d1 d2 v1 v2 c Q sb h1 h2 e q)
  unfold fEqX at e
  split at e
  · cases e
    obtain ⟨a, vs, e1, q1, l1, r1⟩ := h1
    obtain ⟨b, us, e2, q2, l2, r2⟩ := h2
    exact .inl ⟨a, b, [], e1, e2, sb _ _ q1, sb _ _ q2, by simp, by simp, fin_val sb q rfl⟩
  · exact old e
/-! xs == [], xs != [] for any list -/
def rEqN (K : PySem.W.Frag) : R2 := fun x y H Q => (∃ a b xs, x = .ref a ∧ y = .ref b ∧ SqL K H a xs ∧ SqL K H b [] ∧ Q (.bl xs.isEmpty) H) ∨ rEqD K x y H Q
def rNeN (K : PySem.W.Frag) : R2 := fun x y H Q => (∃ a b xs, x = .ref a ∧ y = .ref b ∧ SqL K H a xs ∧ SqL K H b [] ∧ Q (.bl (!xs.isEmpty)) H) ∨ rNeD K x y H Q
theorem plain_is {h : Heap} {a : Addr} {its : Array Value} : PlainL h a its → h.IsList a its := fun ⟨o, n, g, hc, _, hd⟩ => ⟨o, g, hc, n, hd⟩
theorem op_eqN {X : Cx} (hu : X.A.units + 64 < cLine) : OpR X (compareOp .Eq) (rEqN X.K) := by
  refine OpR.or ?_ (op_eqD hu)
  intro pins s σ H x y v u Q I rx ry ⟨a, b, xs, e1, e2, h1, h2, q⟩
  subst e1
  subst e2
  cases rx
  cases ry
  obtain ⟨its, r, pl, _⟩ := I.list h1
  obtain ⟨its2, r2, pl2, _⟩ := I.list h2
  have z2 : its2 = [] := List.eq_nil_of_length_eq_zero r2.length.symm
  subst z2
  have hl := r.length
  cases xs with
  | nil =>
    have z1 : its = [] := List.eq_nil_of_length_eq_zero hl.symm
    subst z1
    exact PySem.SeqAt.eq_listAt (e := fun _ => true) (plain_is pl) (plain_is pl2) rfl (by omega) (fun j h1 h2 => by simp at h2) ⟨.bl _, H, I, rfl, q⟩
  | cons x xs =>
    cases its with
    | nil => cases hl
    | cons i its => exact PySem.SeqAt.eq_list_lengthsAt (plain_is pl) (plain_is pl2) (by simp) (by omega) ⟨.bl _, H, I, rfl, q⟩
theorem op_neN {X : Cx} (hu : X.A.units + 64 < cLine) : OpR X (compareOp .NotEq) (rNeN X.K) := by
  refine OpR.or ?_ (op_neD hu)
  intro pins s σ H x y v u Q I rx ry ⟨a, b, xs, e1, e2, h1, h2, q⟩
  subst e1
  subst e2
  cases rx
  cases ry
  obtain ⟨its, r, pl, _⟩ := I.list h1
  obtain ⟨its2, r2, pl2, _⟩ := I.list h2
  have z2 : its2 = [] := List.eq_nil_of_length_eq_zero r2.length.symm
  subst z2
  have hl := r.length
  cases xs with
  | nil =>
    have z1 : its = [] := List.eq_nil_of_length_eq_zero hl.symm
    subst z1
    exact PySem.SeqAt.RcNeAt.lists (e := fun _ => true) (plain_is pl) (plain_is pl2) rfl (by omega) (fun j h1 h2 => by simp at h2) _ _ _ _ ⟨.bl _, H, I, rfl, q⟩
  | cons x xs =>
    cases its with
    | nil => cases hl
    | cons i its => exact PySem.SeqAt.RcNeAt.lists_lengths (plain_is pl) (plain_is pl2) (by simp) (by omega) _ _ _ _ ⟨.bl _, H, I, rfl, q⟩
def fEqN : DOp2
  | .lst ds, .lst [] => some (.val (.bl ds.isEmpty))
  | d, e => fEq d e
def fNeN : DOp2
  | .lst ds, .lst [] => some (.val (.bl (!ds.isEmpty)))
  | d, e => fNe d e
theorem lst_both {K : PySem.W.Frag} {F H : Hp} {ds : List D} {v1 v2 : V} (sb : Same F H) (h1 : RpV K F H (.lst ds) v1) (h2 : RpV K F H (.lst []) v2) : ∃ a b vs, v1 = .ref a ∧ v2 = .ref b ∧ SqL K H a vs ∧ SqL K H b [] ∧ vs.isEmpty = ds.isEmpty := by
  obtain ⟨a, vs, e1, q1, r1⟩ := h1
  obtain ⟨b, us, e2, q2, r2⟩ := h2
  have hu : us = [] := r2
  subst hu
  refine ⟨a, b, vs, e1, e2, SqL.of q1, SqL.of q2, ?_⟩
  have hl := r1.length
  cases ds <;> cases vs <;> first | rfl | cases hl
theorem fEqN_ok {K : PySem.W.Frag} : Op2 K (rEqN K) fEqN := by
  intro F H d1 d2 v1 v2 c Q sb h1 h2 e q
  have old : fEq d1 d2 = some c → rEqN K v1 v2 H Q := fun e => .inr (fEq_ok F H d1 d2 v1 v2 c Q sb h1 h2 e q)
  unfold fEqN at e
  split at e
  · cases e
    obtain ⟨a, b, vs, e1, e2, q1, q2, e3⟩ := lst_both sb h1 h2
    refine .inl ⟨a, b, vs, e1, e2, q1, q2, ?_⟩
    rw [e3]
    exact fin_val sb q rfl
  · exact old e
theorem fNeN_ok {K : PySem.W.Frag} : Op2 K (rNeN K) fNeN := by
  intro F H d1 d2 v1 v2 c Q sb h1 h2 e q
  have old : fNe d1 d2 = some c → rNeN K v1 v2 H Q := fun e => .inr (fNe_ok F H d1 d2 v1 v2 c Q sb h1 h2 e q)
  unfold fNeN at e
  split at e
  · cases e
    obtain ⟨a, b, vs, e1, e2, q1, q2, e3⟩ := lst_both sb h1 h2
    refine .inl ⟨a, b, vs, e1, e2, q1, q2, ?_⟩
    rw [e3]
    exact fin_val sb q rfl
  · exact old e
end DL
namespace DL
open PySem PySem.Spec PyProof.Rows L2
/-! max(t), min(t): of a tuple of whole numbers -/
theorem ints_hold {h : Heap} : ∀ {ns : List Int} {its : List Value}, Vals (ns.map V.int) its → PySem.W.HoldAll h its ns
  | [], its, r => by
    have : its = [] := List.eq_nil_of_length_eq_zero (r.length.symm.trans rfl)
    subst this
    exact PySem.W.HoldAll.nil
  | n :: ns, its, r => by
    cases r with
    | cons a b =>
      obtain ⟨as, ih⟩ := ints_hold (h := h) b
      obtain ⟨t, rfl⟩ := a
      exact ⟨_, .cons (.int n t) ih⟩
theorem maxOf_spec : ∀ (xs : List Int) (x : Int), PySem.W.maxOf x xs ∈ x :: xs ∧ ∀ y ∈ x :: xs, y ≤ PySem.W.maxOf x xs
  | [], x => ⟨by simp [PySem.W.maxOf], by simp [PySem.W.maxOf]⟩
  | y :: ys, x => by
    have e : PySem.W.maxOf x (y :: ys) = PySem.W.maxOf (if decide (x < y) = true then y else x) ys := rfl
    rw [e]
    obtain ⟨h1, h2⟩ := maxOf_spec ys (if decide (x < y) = true then y else x)
    generalize PySem.W.maxOf (if decide (x < y) = true then y else x) ys = m at h1 h2 ⊢
    by_cases c : x < y
    · rw [if_pos (decide_eq_true c)] at h1 h2
      refine ⟨List.mem_cons_of_mem _ h1, fun z hz => ?_⟩
      rcases List.mem_cons.mp hz with rfl | hz
      · have := h2 y List.mem_cons_self
        omega
      · exact h2 z hz
    · rw [if_neg (by simpa using c)] at h1 h2
      refine ⟨?_, fun z hz => ?_⟩
      · rcases List.mem_cons.mp h1 with z | z
        · rw [z]; exact List.mem_cons_self
        · exact List.mem_cons_of_mem _ (List.mem_cons_of_mem _ z)
      · rcases List.mem_cons.mp hz with rfl | hz
        · exact h2 _ List.mem_cons_self
        · rcases List.mem_cons.mp hz with rfl | hz
          · have := h2 x List.mem_cons_self
            omega
          · exact h2 z (List.mem_cons_of_mem _ hz)
theorem minOf_spec : ∀ (xs : List Int) (x : Int), PySem.W.minOf x xs ∈ x :: xs ∧ ∀ y ∈ x :: xs, PySem.W.minOf x xs ≤ y
  | [], x => ⟨by simp [PySem.W.minOf], by simp [PySem.W.minOf]⟩
  | y :: ys, x => by
    have e : PySem.W.minOf x (y :: ys) = PySem.W.minOf (if decide (y < x) = true then y else x) ys := rfl
    rw [e]
    obtain ⟨h1, h2⟩ := minOf_spec ys (if decide (y < x) = true then y else x)
    generalize PySem.W.minOf (if decide (y < x) = true then y else x) ys = m at h1 h2 ⊢
    by_cases c : y < x
    · rw [if_pos (decide_eq_true c)] at h1 h2
      refine ⟨List.mem_cons_of_mem _ h1, fun z hz => ?_⟩
      rcases List.mem_cons.mp hz with rfl | hz
      · have := h2 y List.mem_cons_self
        omega
      · exact h2 z hz
    · rw [if_neg (by simpa using c)] at h1 h2
      refine ⟨?_, fun z hz => ?_⟩
      · rcases List.mem_cons.mp h1 with z | z
        · rw [z]; exact List.mem_cons_self
        · exact List.mem_cons_of_mem _ (List.mem_cons_of_mem _ z)
      · rcases List.mem_cons.mp hz with rfl | hz
        · exact h2 _ List.mem_cons_self
        · rcases List.mem_cons.mp hz with rfl | hz
          · have := h2 x List.mem_cons_self
            omega
          · exact h2 z (List.mem_cons_of_mem _ hz)
def rMaxT (K : PySem.W.Frag) : List V → Hp → VK → Prop := fun vs H Q => (∃ (a : Addr) (ns : List Int), vs = [V.ref a] ∧ SqT K H a (ns.map V.int) ∧ 0 < ns.length ∧ ∀ m, m ∈ ns → (∀ y, y ∈ ns → y ≤ m) → Q (.int m) H) ∨ rMaxD K vs H Q
def rMinT (K : PySem.W.Frag) : List V → Hp → VK → Prop := fun vs H Q => (∃ (a : Addr) (ns : List Int), vs = [V.ref a] ∧ SqT K H a (ns.map V.int) ∧ 0 < ns.length ∧ ∀ m, m ∈ ns → (∀ y, y ∈ ns → m ≤ y) → Q (.int m) H) ∨ rMinD K vs H Q
theorem cr_maxT {X : Cx} (hu : X.A.units + 64 < cLine) (hc : X.calm = true) : CallR X (.builtin "max") (rMaxT X.K) := by
  intro pins s σ H vs us Q I r h
  rcases h with ⟨a, ns, rfl, hs, hne, q⟩ | h
  · obtain ⟨its, rv, hl, _⟩ := I.tuple hs
    rw [Vals.ref1 r]
    cases ns with
    | nil => cases hne
    | cons x xs =>
      obtain ⟨g1, g2⟩ := maxOf_spec xs x
      refine PySem.W.max_tuple_datum (α := Int) (x := x) (xs := xs) (I.ok.hd hc) hl (ints_hold rv) (by show X.A.units + 1 + 0 < cLine; omega) fun i v h' tk hi ho hk => ?_
      obtain ⟨as, ho⟩ := ho
      cases ho with
      | int _ t => exact ⟨.int _, H, I.kept hk, ⟨_, rfl⟩, q _ g1 g2⟩
  · exact cr_maxD hc pins s σ H vs us Q I r h
theorem cr_minT {X : Cx} (hu : X.A.units + 64 < cLine) (hc : X.calm = true) : CallR X (.builtin "min") (rMinT X.K) := by
  intro pins s σ H vs us Q I r h
  rcases h with ⟨a, ns, rfl, hs, hne, q⟩ | h
  · obtain ⟨its, rv, hl, _⟩ := I.tuple hs
    rw [Vals.ref1 r]
    cases ns with
    | nil => cases hne
    | cons x xs =>
      obtain ⟨g1, g2⟩ := minOf_spec xs x
      refine PySem.W.min_tuple_datum (α := Int) (x := x) (xs := xs) (I.ok.hd hc) hl (ints_hold rv) (by show X.A.units + 1 + 0 < cLine; omega) fun i v h' tk hi ho hk => ?_
      obtain ⟨as, ho⟩ := ho
      cases ho with
      | int _ t => exact ⟨.int _, H, I.kept hk, ⟨_, rfl⟩, q _ g1 g2⟩
  · exact cr_minD hc pins s σ H vs us Q I r h
def fMaxT : DOpN
  | [.tup ds] => (numsD ds).bind fun ns => (maxI ns).map fun m => .val (.int m)
  | ds => fMax ds
def fMinT : DOpN
  | [.tup ds] => (numsD ds).bind fun ns => (minI ns).map fun m => .val (.int m)
  | ds => fMin ds
theorem tupInts {K : PySem.W.Frag} {F H : Hp} {ds : List D} {v : V} {α : Type} {g : List Int → Option α} {c : α} (sb : Same F H) (h : RpV K F H (.tup ds) v) (e : (numsD ds).bind g = some c) : ∃ a ns, v = .ref a ∧ SqT K H a (ns.map V.int) ∧ g ns = some c := by
  obtain ⟨a, vs, ev, q, r⟩ := RpV.tup_ sb h
  cases en : numsD ds with
  | none => simp only [en] at e; cases e
  | some ns =>
    simp only [en] at e
    have := ints_eq en
    subst this
    rw [r.to_ints] at q
    exact ⟨a, ns, ev, q, e⟩
theorem fMaxT_ok {K : PySem.W.Frag} : OpN K (rMaxT K) fMaxT := by
  intro F H ds vs c Q sb rs e q
  have old : fMax ds = some c → rMaxT K vs H Q := fun e => .inr (fMax_ok F H ds vs c Q sb rs e q)
  unfold fMaxT at e
  split at e
  · obtain ⟨v, ev, rv⟩ := rs.one
    subst ev
    obtain ⟨a, ns, ev, hq, ec⟩ := tupInts sb rv e
    subst ev
    refine .inl ⟨a, ns, rfl, hq, ?_, fun m h1 h2 => ?_⟩
    · cases ns with
      | nil => cases ec
      | cons n ns => exact Nat.succ_pos _
    · rw [maxI_eq h1 h2] at ec
      cases ec
      exact fin_val sb q rfl
  · exact old e
theorem fMinT_ok {K : PySem.W.Frag} : OpN K (rMinT K) fMinT := by
  intro F H ds vs c Q sb rs e q
  have old : fMin ds = some c → rMinT K vs H Q := fun e => .inr (fMin_ok F H ds vs c Q sb rs e q)
  unfold fMinT at e
  split at e
  · obtain ⟨v, ev, rv⟩ := rs.one
    subst ev
    obtain ⟨a, ns, ev, hq, ec⟩ := tupInts sb rv e
    subst ev
    refine .inl ⟨a, ns, rfl, hq, ?_, fun m h1 h2 => ?_⟩
    · cases ns with
      | nil => cases ec
      | cons n ns => exact Nat.succ_pos _
    · rw [minI_eq h1 h2] at ec
      cases ec
      exact fin_val sb q rfl
  · exact old e
end DL
/-! The data layer: small things for the handlers' print. -/
namespace DL
open PySem PySem.Spec PyProof.Rows L2
def mFail : DS := fun _ _ => False
theorem dss_fail {X : Cx} {B : Bd} {W : WX} {ss : List Stmt} : PSs X ss (rS B W mFail) := ⟨fun _ _ _ _ _ _ ⟨_, _, _, _, _, q, _⟩ => q.elim⟩
theorem roomH_mark {k : Nat} {A : Around} {v : Option Value} (r : Room k A) : L2H.RoomH k (A.mark v) := ⟨r.dp, r.un⟩
def xfsB (cs : List Str) (f : Str) (K : PySem.W.Frag) : Bool := cs.all fun c => xfB K (He.ga K c) && noatB K c f
theorem xfsB_ok {cs : List Str} {f : Str} {K : PySem.W.Frag} (h : xfsB cs f K = true) : ∀ c, cs.contains c = true → XfC K (He.ga K c) ∧ PySem.W.findIn K (.ref (He.ga K c)) f = some none := fun c hc => by
  have h2 := List.all_eq_true.mp h c (List.contains_iff_mem.mp hc)
  rw [Bool.and_eq_true] at h2
  exact ⟨xfB_ok h2.1, He.eqO_ok h2.2⟩
end DL
theorem L2H.RoomH.units {k : Nat} {A : PySem.Around} (r : L2H.RoomH k A) : A.units + 64 < PySem.cLine := by
  have := r.un
  omega
/-! law k80: mirrors of its defs, their derivations (printed by a program of mine). -/
namespace Lk80
open PySem PySem.Spec PyProof.Rows L2 DL
abbrev top (i : Nat) : Stmt := PySem.Challenge.pw_packtags_k80_whole_texts_of_rows_and_fra.main.body.getD i (.Pass ⟨0, 0, 0, 0⟩)
def tblU : List ((Str × Str) × Bool) := [((("PackError" : Str), ("PackError" : Str)), true), ((("NotAList" : Str), ("PackError" : Str)), true), ((("InvalidOrder" : Str), ("PackError" : Str)), true), ((("InvalidNumber" : Str), ("PackError" : Str)), true), ((("InvalidText" : Str), ("PackError" : Str)), true)]
@[irreducible] def und : Str → Str → Option Bool := undT tblU
theorem und_PackError_PackError : und "PackError" "PackError" = some true := by unfold und; decide +kernel
theorem und_NotAList_PackError : und "NotAList" "PackError" = some true := by unfold und; decide +kernel
theorem und_InvalidOrder_PackError : und "InvalidOrder" "PackError" = some true := by unfold und; decide +kernel
theorem und_InvalidNumber_PackError : und "InvalidNumber" "PackError" = some true := by unfold und; decide +kernel
theorem und_InvalidText_PackError : und "InvalidText" "PackError" = some true := by unfold und; decide +kernel
def tblI : List ((Str × Str) × Bool) := [((("PackError" : Str), ("InvalidOrder" : Str)), false), ((("PackError" : Str), ("InvalidNumber" : Str)), false), ((("PackError" : Str), ("NotAList" : Str)), false), ((("PackError" : Str), ("InvalidText" : Str)), false), ((("NotAList" : Str), ("InvalidOrder" : Str)), false), ((("NotAList" : Str), ("InvalidNumber" : Str)), false), ((("NotAList" : Str), ("NotAList" : Str)), true), ((("NotAList" : Str), ("InvalidText" : Str)), false), ((("InvalidOrder" : Str), ("InvalidOrder" : Str)), true), ((("InvalidOrder" : Str), ("InvalidNumber" : Str)), false), ((("InvalidOrder" : Str), ("NotAList" : Str)), false), ((("InvalidOrder" : Str), ("InvalidText" : Str)), false), ((("InvalidNumber" : Str), ("InvalidOrder" : Str)), false), ((("InvalidNumber" : Str), ("InvalidNumber" : Str)), true), ((("InvalidNumber" : Str), ("NotAList" : Str)), false), ((("InvalidNumber" : Str), ("InvalidText" : Str)), false), ((("InvalidText" : Str), ("InvalidOrder" : Str)), false), ((("InvalidText" : Str), ("InvalidNumber" : Str)), false), ((("InvalidText" : Str), ("NotAList" : Str)), false), ((("InvalidText" : Str), ("InvalidText" : Str)), true)]
@[irreducible] def isq : Str → Str → Option Bool := undT tblI
theorem isq_PackError_InvalidOrder : isq "PackError" "InvalidOrder" = some false := by unfold isq; decide +kernel
theorem isq_PackError_InvalidNumber : isq "PackError" "InvalidNumber" = some false := by unfold isq; decide +kernel
theorem isq_PackError_NotAList : isq "PackError" "NotAList" = some false := by unfold isq; decide +kernel
theorem isq_PackError_InvalidText : isq "PackError" "InvalidText" = some false := by unfold isq; decide +kernel
theorem isq_NotAList_InvalidOrder : isq "NotAList" "InvalidOrder" = some false := by unfold isq; decide +kernel
theorem isq_NotAList_InvalidNumber : isq "NotAList" "InvalidNumber" = some false := by unfold isq; decide +kernel
theorem isq_NotAList_NotAList : isq "NotAList" "NotAList" = some true := by unfold isq; decide +kernel
theorem isq_NotAList_InvalidText : isq "NotAList" "InvalidText" = some false := by unfold isq; decide +kernel
theorem isq_InvalidOrder_InvalidOrder : isq "InvalidOrder" "InvalidOrder" = some true := by unfold isq; decide +kernel
theorem isq_InvalidOrder_InvalidNumber : isq "InvalidOrder" "InvalidNumber" = some false := by unfold isq; decide +kernel
theorem isq_InvalidOrder_NotAList : isq "InvalidOrder" "NotAList" = some false := by unfold isq; decide +kernel
theorem isq_InvalidOrder_InvalidText : isq "InvalidOrder" "InvalidText" = some false := by unfold isq; decide +kernel
theorem isq_InvalidNumber_InvalidOrder : isq "InvalidNumber" "InvalidOrder" = some false := by unfold isq; decide +kernel
theorem isq_InvalidNumber_InvalidNumber : isq "InvalidNumber" "InvalidNumber" = some true := by unfold isq; decide +kernel
theorem isq_InvalidNumber_NotAList : isq "InvalidNumber" "NotAList" = some false := by unfold isq; decide +kernel
theorem isq_InvalidNumber_InvalidText : isq "InvalidNumber" "InvalidText" = some false := by unfold isq; decide +kernel
theorem isq_InvalidText_InvalidOrder : isq "InvalidText" "InvalidOrder" = some false := by unfold isq; decide +kernel
theorem isq_InvalidText_InvalidNumber : isq "InvalidText" "InvalidNumber" = some false := by unfold isq; decide +kernel
theorem isq_InvalidText_NotAList : isq "InvalidText" "NotAList" = some false := by unfold isq; decide +kernel
theorem isq_InvalidText_InvalidText : isq "InvalidText" "InvalidText" = some true := by unfold isq; decide +kernel
def tblT : List ((Str × String) × Bool) := [((("PackError" : Str), "ValueError"), true), ((("NotAList" : Str), "ValueError"), true), ((("InvalidOrder" : Str), "ValueError"), true), ((("InvalidNumber" : Str), "ValueError"), true), ((("InvalidText" : Str), "ValueError"), true)]
@[irreducible] def isqt : Str → String → Option Bool := isTT tblT
theorem isqt_PackError : isqt "PackError" "ValueError" = some true := by unfold isqt; decide +kernel
theorem isqt_NotAList : isqt "NotAList" "ValueError" = some true := by unfold isqt; decide +kernel
theorem isqt_InvalidOrder : isqt "InvalidOrder" "ValueError" = some true := by unfold isqt; decide +kernel
theorem isqt_InvalidNumber : isqt "InvalidNumber" "ValueError" = some true := by unfold isqt; decide +kernel
theorem isqt_InvalidText : isqt "InvalidText" "ValueError" = some true := by unfold isqt; decide +kernel
abbrev xc_given : List Str := ["NotAList", "InvalidOrder", "InvalidNumber", "InvalidText"]
/-! ### mirrors -/
@[irreducible] def m_law_pool_1 : DS := mAsg (.nm 3) (vl (frz (mOp2 fMod (.e (frz (mOpN fInt [.e (frz (mOp2 fAdd (.e (frz (mOp2 fAdd (.e (frz (mOp2 fMul (.e (mVar 3)) (.e (mK (.int 48271)))))) (.e (frz (mOp2 fMod (.e (frz (mOpN fIntT [.e (mVar 4)]))) (.e (mK (.int 2147483629))))))))) (.e (mK (.int 1390)))))]))) (.e (mK (.int 2147483629))))))
@[irreducible] def m_law_pool_2 : DS := mRet (mLst [frz (mOp2 fMod (.e (frz (mOpN fInt [.e (frz (mOp2 fAdd (.e (mVar 3)) (.e (frz (mOp2 fMul (.e (mVar 2)) (.e (mK (.int 1013))))))))]))) (.e (mK (.int 2147483629)))), frz (mIf (mOrT (asT (mOp2 fLt (.e (mVar 2)) (.e (mK (.int 0))))) (asT (mOp2 fGe (.e (mVar 2)) (.e (frz (mOp2 fPow (.e (mK (.int 10))) (.e (mK (.int 18))))))))) (mOpN fAbs [.e (mVar 2)]) (vl (mK (.int 0)))), mK (.int 0)])
@[irreducible] def m_law_pool_3 : DS := mSeq (mFor (iSq (frz (mSl (.e (mVar 0)) none (some (mK (.int 63)))))) (.nm 4) (m_law_pool_1)) (m_law_pool_2)
def m_law_pool : DS := mSeq (mPar [.nm 2, .nm 3] [vl (frz (mIf (asT (mOp2 fLt (.e (mVar 1)) (.e (frz (mOpN fLen [.e (mVar 0)]))))) (mOpN fIntT [.e (frz (mOp2 fIx (.e (mVar 0)) (.e (mVar 1))))]) (mOp2 fAdd (.e (frz (mOp2 fMul (.e (mK (.int 70001))) (.e (mVar 1))))) (.e (mK (.int 3460)))))), vl (frz (mOp2 fAdd (.e (mK (.int 823320))) (.e (frz (mOp2 fMul (.e (mK (.int 5087))) (.e (mVar 1)))))))]) (m_law_pool_3)
@[irreducible] def w_law_pool : DSp := wDef 3 m_law_pool
def m_law_draw_iv_1 : DS := mRet (mOp2 fMod (.e (frz (mOpN fInt [.e (frz (mOp2 fDiv (.e (frz (mOp2 fIx (.s 0) (.e (mK (.int 0)))))) (.e (mK (.int 128)))))]))) (.e (mVar 1)))
def m_law_draw_iv_2 : DS := mSeq (mAsg (.sub 0 (mK (.int 0))) (vl (frz (mOp2 fMod (.e (frz (mOpN fInt [.e (frz (mOp2 fAdd (.e (frz (mOp2 fAdd (.e (frz (mOp2 fMul (.e (mVar 3)) (.e (frz (mOp2 fAdd (.e (frz (mOp2 fMod (.e (mVar 3)) (.e (mK (.int 20011)))))) (.e (mK (.int 30011))))))))) (.e (frz (mOp2 fMul (.e (mK (.int 70001))) (.e (frz (mOp2 fIx (.s 0) (.e (mK (.int 2)))))))))))) (.e (mK (.int 9)))))]))) (.e (mK (.int 2147483629))))))) (m_law_draw_iv_1)
def m_law_draw_iv_3 : DS := mSeq (mAsg (.nm 3) (vl (frz (mOpN fIntT [.e (frz (mOp2 fIx (.s 0) (.e (mK (.int 0)))))])))) (m_law_draw_iv_2)
def m_law_draw_iv_4 : DS := mSeq (mAsg (.sub 0 (mK (.int 2))) (vl (frz (mOp2 fAdd (.e (frz (mOp2 fIx (.s 0) (.e (mK (.int 2)))))) (.e (mK (.int 1))))))) (m_law_draw_iv_3)
def m_law_draw_iv : DS := mSeq (mIfS (asT (mOp2 fGt (.e (frz (mOp2 fIx (.s 0) (.e (mK (.int 1)))))) (.e (mK (.int 0))))) (mSeq (mAsg (.tp [.sub 0 (mK (.int 1)), .nm 2]) (vl (frz (mOpN fDivmod [.e (frz (mOp2 fIx (.s 0) (.e (mK (.int 1))))), .e (mVar 1)])))) (mRet (vl (mVar 2)))) (mNext)) (m_law_draw_iv_4)
@[irreducible] def w_law_draw_iv : DSp := wDef 2 m_law_draw_iv
def m_law_pick_iv : DS := mRet (mOp2 fIx (.e (mVar 1)) (.e (frz (mCall [.s 0, .e (frz (mOpN fLen [.e (mVar 1)]))] w_law_draw_iv))))
@[irreducible] def w_law_pick_iv : DSp := wDef 0 m_law_pick_iv
def m_law_number_iv_1 : DS := mRet (mCall [.s 0, .e (frz (mLst [frz (mOp2 fSub (.e (frz (mCall [.s 0, .e (mK (.int 19999))] w_law_draw_iv))) (.e (mK (.int 9999)))), mK (.int 9999), frz (mOp1 fNeg (.e (mK (.int 9999)))), mK (.int 0), mK (.int 1)]))] w_law_pick_iv)
def m_law_number_iv_2 : DS := mSeq (mIfS (asT (mOp2 fEq (.e (mVar 1)) (.e (mK (.int 1))))) (mRet (mOp2 fSub (.e (frz (mCall [.s 0, .e (mK (.int 41))] w_law_draw_iv))) (.e (mK (.int 20))))) (mNext)) (m_law_number_iv_1)
def m_law_number_iv : DS := mSeq (mIfS (asT (mOp2 fEq (.e (mVar 1)) (.e (mK (.int 0))))) (mRet (mOp2 fSub (.e (frz (mCall [.s 0, .e (mK (.int 7))] w_law_draw_iv))) (.e (mK (.int 3))))) (mNext)) (m_law_number_iv_2)
@[irreducible] def w_law_number_iv : DSp := wDef 0 m_law_number_iv
def m_law_put : DS := mRet (mOp2 fAdd (.e (frz (mOp2 fAdd (.e (frz (mSl (.e (mVar 0)) none (some (mVar 1))))) (.e (mTup [mVar 2]))))) (.e (frz (mSl (.e (mVar 0)) (some (frz (mOp2 fAdd (.e (mVar 1)) (.e (mK (.int 1)))))) none))))
@[irreducible] def w_law_put : DSp := wDef 0 m_law_put
def m_is_whole : DS := mRet (mAndV (.e (frz (mOpN fIsi [.e (mVar 0), .e (mK (.ty "int"))]))) (vl (mNotV (.e (frz (mOpN fIsi [.e (mVar 0), .e (mK (.ty "bool"))]))))))
@[irreducible] def w_is_whole : DSp := wDef 0 m_is_whole
def m_is_tuple_of : DS := mRet (mAndV (.e (frz (mOpN fIsi [.e (mVar 0), .e (mK (.ty "tuple"))]))) (mOp2 fEq (.e (frz (mOpN fLen [.e (mVar 0)]))) (.e (mVar 1))))
@[irreducible] def w_is_tuple_of : DSp := wDef 0 m_is_tuple_of
def m_are_wholes : DS := mRet (mAndV (.e (frz (mCall [.e (mVar 0), .e (mVar 1)] w_is_tuple_of))) (mOpN fAll [.e (frz (mLc (iSq (mVar 0)) (.nm 2) (mYes) (frz (mCall [.e (mVar 2)] w_is_whole)) [2]))]))
@[irreducible] def w_are_wholes : DSp := wDef 1 m_are_wholes
def m_text_of_row : DS := mRet (mMth fJoin (mK (.str " ")) (frz (mLc (iSq (mVar 0)) (.nm 1) (mYes) (frz (mOpN fStr [.e (mVar 1)])) [1])))
@[irreducible] def w_text_of_row : DSp := wDef 1 m_text_of_row
def m_row_text_1 : DS := mRet (mCall [.e (mVar 0)] w_text_of_row)
def m_row_text : DS := mSeq (mIfS (mOrT (mNot (mTru (.e (frz (mOpN fIsi [.e (mVar 0), .e (mK (.ty "tuple"))]))))) (mOrT (asT (mOp2 fEq0 (.e (mVar 0)) (.e (mTup [])))) (mNot (mTru (.e (frz (mCall [.e (mVar 0), .e (frz (mOpN fLen [.e (mVar 0)]))] w_are_wholes))))))) (mRaise "InvalidOrder" "given" (mVar 0)) (mNext)) (m_row_text_1)
@[irreducible] def w_row_text : DSp := wDef 0 m_row_text
def m_law_figures_1 : DS := mRet (mIf (asT (mOp2 fEq (.e (frz (mOp2 fIx (.e (mVar 0)) (.e (mK (.int 0)))))) (.e (mK (.str "-"))))) (mOp1 fNeg (.e (frz (mOpN fIntT [.e (mVar 1)])))) (mOpN fIntT [.e (mVar 1)]))
def m_law_figures_2 : DS := mSeq (mIfS (mOrT (asT (mOp2 fEq (.e (mVar 1)) (.e (mK (.str ""))))) (mOrT (asT (mOp2 fNe (.e (frz (mLc (iTx (mVar 1)) (.nm 2) (asT (mOp2 (fInT true) (.e (mVar 2)) (.e (mK (.str "0123456789"))))) (mVar 2) [2]))) (.e (frz (mLst []))))) (mOrT (mAndT (asT (mOp2 fGt (.e (frz (mOpN fLen [.e (mVar 1)]))) (.e (mK (.int 1))))) (asT (mOp2 fEq (.e (frz (mOp2 fIx (.e (mVar 1)) (.e (mK (.int 0)))))) (.e (mK (.str "0")))))) (asT (mOp2 fEq (.e (mVar 0)) (.e (mK (.str "-0")))))))) (mRet (vl (mK .non))) (mNext)) (m_law_figures_1)
def m_law_figures : DS := mSeq (mAsg (.nm 1) (vl (frz (mIf (asT (mOp2 fEq (.e (frz (mSl (.e (mVar 0)) none (some (mK (.int 1)))))) (.e (mK (.str "-"))))) (mSl (.e (mVar 0)) (some (mK (.int 1))) none) (vl (mVar 0)))))) (m_law_figures_2)
@[irreducible] def w_law_figures : DSp := wDef 2 m_law_figures
def m_law_read_row_1 : DS := mRet (mIf (mAndT (asT (mOp2 fEq (.e (frz (mOpN fLen [.e (mVar 2)]))) (.e (mVar 1)))) (asT (mOp2 fNin (.e (mK .non)) (.e (mVar 2))))) (mOpN fTuple [.e (mVar 2)]) (vl (mK .non)))
def m_law_read_row : DS := mSeq (mAsg (.nm 2) (vl (frz (mLc (iSq (frz (mMth fSplit (mVar 0) (mK (.str " "))))) (.nm 3) (mYes) (frz (mCall [.e (mVar 3)] w_law_figures)) [3])))) (m_law_read_row_1)
@[irreducible] def w_law_read_row : DSp := wDef 2 m_law_read_row
def m_law_row_text : DS := mRet (mMth fJoin (mK (.str " ")) (frz (mLc (iSq (mVar 0)) (.nm 1) (mYes) (frz (mOpN fStr [.e (mVar 1)])) [1])))
@[irreducible] def w_law_row_text : DSp := wDef 1 m_law_row_text
def m_law_ratio_1 : DS := mPar [.nm 2, .nm 3] [vl (mVar 3), vl (frz (mOp2 fMod (.e (frz (mOpN fIntT [.e (mVar 2)]))) (.e (mVar 3))))]
def m_law_ratio_2 : DS := mSeq (mIfS (asT (mOp2 fEq (.e (mVar 3)) (.e (mK (.int 0))))) (mBreak) (mNext)) (m_law_ratio_1)
def m_law_ratio_3 : DS := mRet (mIf (asT (mOp2 fGt (.e (mVar 1)) (.e (mK (.int 0))))) (vl (mTup [frz (mOp2 fDiv (.e (mVar 0)) (.e (mVar 2))), frz (mOp2 fDiv (.e (mVar 1)) (.e (mVar 2)))])) (vl (mTup [frz (mOp2 fDiv (.e (frz (mOp1 fNeg (.e (mVar 0))))) (.e (mVar 2))), frz (mOp2 fDiv (.e (frz (mOp1 fNeg (.e (mVar 1))))) (.e (mVar 2)))])))
def m_law_ratio_4 : DS := mSeq (mFor (iRg1 (frz (mOp2 fAdd (.e (frz (mOp2 fMul (.e (mK (.int 2))) (.e (frz (vl (mBits (mVar 3)))))))) (.e (mK (.int 3)))))) (.nm 4) (m_law_ratio_2)) (m_law_ratio_3)
def m_law_ratio : DS := mSeq (mPar [.nm 2, .nm 3] [vl (frz (mOpN fAbs [.e (mVar 0)])), vl (frz (mOpN fAbs [.e (mVar 1)]))]) (m_law_ratio_4)
@[irreducible] def w_law_ratio : DSp := wDef 3 m_law_ratio
def m_is_fraction : DS := mRet (mAndV (.e (frz (mCall [.e (mVar 0), .e (mK (.int 2))] w_are_wholes))) (mAndV (.e (frz (mOp2 fGt (.e (frz (mOp2 fIx (.e (mVar 0)) (.e (mK (.int 1)))))) (.e (mK (.int 0)))))) (mOp2 fEq (.e (frz (mOpN fGcd [.e (frz (mOp2 fIx (.e (mVar 0)) (.e (mK (.int 0))))), .e (frz (mOp2 fIx (.e (mVar 0)) (.e (mK (.int 1)))))]))) (.e (mK (.int 1))))))
@[irreducible] def w_is_fraction : DSp := wDef 0 m_is_fraction
def m_text_of_fraction : DS := mRet (mIf (asT (mOp2 fEq (.e (frz (mOp2 fIx (.e (mVar 0)) (.e (mK (.int 1)))))) (.e (mK (.int 1))))) (mOpN fStr [.e (frz (mOp2 fIx (.e (mVar 0)) (.e (mK (.int 0)))))]) (mOp2 fAdd (.e (frz (mOp2 fAdd (.e (frz (mOpN fStr [.e (frz (mOp2 fIx (.e (mVar 0)) (.e (mK (.int 0)))))]))) (.e (mK (.str "/")))))) (.e (frz (mOpN fStr [.e (frz (mOp2 fIx (.e (mVar 0)) (.e (mK (.int 1)))))])))))
@[irreducible] def w_text_of_fraction : DSp := wDef 0 m_text_of_fraction
def m_fraction_text_1 : DS := mRet (mCall [.e (mVar 0)] w_text_of_fraction)
def m_fraction_text : DS := mSeq (mIfS (mNot (mTru (.e (frz (mCall [.e (mVar 0)] w_is_fraction))))) (mRaise "InvalidNumber" "given" (mVar 0)) (mNext)) (m_fraction_text_1)
@[irreducible] def w_fraction_text : DSp := wDef 0 m_fraction_text
def m_law_row_ivv : DS := mRet (mOpN fTuple [.e (frz (mLc (iRg1 (mVar 1)) (.nm 3) (mYes) (frz (mCall [.s 0, .e (mVar 2)] w_law_number_iv)) [3]))])
@[irreducible] def w_law_row_ivv : DSp := wDef 1 m_law_row_ivv
@[irreducible] def x_law_not_number_i_1 : DC := mLst [mK .non, mK (.bl true), mK (.bl false), mK (.str "1"), mTup [mK (.int 1)], frz (mLst [mK (.int 1)]), mTup [], mK (.dic [] []), mK (.str ""), mTup [mK (.int 1), mK (.int 2)]]
def m_law_not_number_i : DS := mRet (mCall [.s 0, .e (frz (x_law_not_number_i_1))] w_law_pick_iv)
@[irreducible] def w_law_not_number_i : DSp := wDef 0 m_law_not_number_i
@[irreducible] def x_law_not_row_iv_1 : DC := mLst [mK .non, mK (.bl true), mK (.int 0), mK (.str "row"), frz (mOpN fList [.e (mVar 1)]), mK (.dic [] []), frz (mOp2 fAdd (.e (mVar 1)) (.e (mTup [mK (.int 0)]))), frz (mSl (.e (mVar 1)) (some (mK (.int 1))) none), mTup [mVar 1], frz (mOp2 fAdd (.e (frz (mOp2 fAdd (.e (frz (mSl (.e (mVar 1)) none (some (mVar 2))))) (.e (mTup [mK .non]))))) (.e (frz (mSl (.e (mVar 1)) (some (frz (mOp2 fAdd (.e (mVar 2)) (.e (mK (.int 1)))))) none))))]
@[irreducible] def m_law_not_row_iv_1 : DS := mRet (mIf (asT (mOp2 fEq (.e (frz (mCall [.s 0, .e (mK (.int 2))] w_law_draw_iv))) (.e (mK (.int 0))))) (mCall [.e (mVar 1), .e (mVar 2), .e (frz (mCall [.s 0] w_law_not_number_i))] w_law_put) (mCall [.s 0, .e (mVar 3)] w_law_pick_iv))
@[irreducible] def m_law_not_row_iv_2 : DS := mSeq (mAsg (.nm 3) (vl (frz (x_law_not_row_iv_1)))) (m_law_not_row_iv_1)
def m_law_not_row_iv : DS := mSeq (mAsg (.nm 2) (vl (frz (mCall [.s 0, .e (frz (mOpN fLen [.e (mVar 1)]))] w_law_draw_iv)))) (m_law_not_row_iv_2)
@[irreducible] def w_law_not_row_iv : DSp := wDef 2 m_law_not_row_iv
def m_law_is_whole : DS := mRet (mAndV (.e (frz (mOpN fIsi [.e (mVar 0), .e (mK (.ty "int"))]))) (vl (mNotV (.e (frz (mOpN fIsi [.e (mVar 0), .e (mK (.ty "bool"))]))))))
@[irreducible] def w_law_is_whole : DSp := wDef 0 m_law_is_whole
def m_law_is_row : DS := mRet (mAndV (.e (frz (mOpN fIsi [.e (mVar 0), .e (mK (.ty "tuple"))]))) (mAndV (.e (frz (mOp2 fEq (.e (frz (mOpN fLen [.e (mVar 0)]))) (.e (mVar 1))))) (mOp2 fEqN (.e (frz (mLc (iSq (mVar 0)) (.nm 2) (mNot (mTru (.e (frz (mCall [.e (mVar 2)] w_law_is_whole))))) (mVar 2) [2]))) (.e (frz (mLst []))))))
@[irreducible] def w_law_is_row : DSp := wDef 1 m_law_is_row
def m_law_wrong_given : DS := mRet (mLc (iSq (mVar 1)) (.nm 2) (mYes) (mTup [mVar 2, frz (mLst [mVar 0, mVar 2])]) [2])
@[irreducible] def w_law_wrong_given : DSp := wDef 1 m_law_wrong_given
def m_is_between : DS := mRet (mAndV (.e (frz (mCall [.e (mVar 0)] w_is_whole))) (mChain fLe fLe (.e (mVar 1)) (.e (mVar 0)) (.e (mVar 2))))
@[irreducible] def w_is_between : DSp := wDef 0 m_is_between
def m_are_between : DS := mRet (mAndV (.e (frz (mCall [.e (mVar 0), .e (mVar 1)] w_is_tuple_of))) (mOpN fAll [.e (frz (mLc (iSq (mVar 0)) (.nm 4) (mYes) (frz (mCall [.e (mVar 4), .e (mVar 2), .e (mVar 3)] w_is_between)) [4]))]))
@[irreducible] def w_are_between : DSp := wDef 1 m_are_between
def m_is_pack : DS := mRet (mCall [.e (mVar 1), .e (mVar 0), .e (frz (mOp1 fNeg (.e (mK (.int 9999))))), .e (mK (.int 9999))] w_are_between)
@[irreducible] def w_is_pack : DSp := wDef 0 m_is_pack
def m_is_list_by_1 : DS := mRet (mOpN fAll [.e (frz (mLc (iSq (frz (mOp2 fIx (.e (mVar 0)) (.e (mK (.int 1)))))) (.nm 1) (mYes) (frz (mCall [.e (frz (mOp2 fIx (.e (mVar 0)) (.e (mK (.int 0))))), .e (mVar 1)] w_is_pack)) [1]))])
def m_is_list_by_2 : DS := mSeq (mIfS (mOrT (mNot (mTru (.e (frz (mOpN fIsi [.e (frz (mOp2 fIx (.e (mVar 0)) (.e (mK (.int 1))))), .e (mK (.ty "tuple"))]))))) (asT (mOp2 fGt (.e (frz (mOpN fLen [.e (frz (mOp2 fIx (.e (mVar 0)) (.e (mK (.int 1)))))]))) (.e (mK (.int 8)))))) (mRet (vl (mK (.bl false)))) (mNext)) (m_is_list_by_1)
def m_is_list_by : DS := mSeq (mIfS (mOrT (mNot (mTru (.e (frz (mCall [.e (mVar 0), .e (mK (.int 2))] w_is_tuple_of))))) (mNot (mTru (.e (frz (mCall [.e (frz (mOp2 fIx (.e (mVar 0)) (.e (mK (.int 0))))), .e (mK (.int 1)), .e (mK (.int 6))] w_is_between)))))) (mRet (vl (mK (.bl false)))) (mNext)) (m_is_list_by_2)
@[irreducible] def w_is_list_by : DSp := wDef 1 m_is_list_by
def m_check_list : DS := mIfS (mNot (mTru (.e (frz (mCall [.e (mVar 0)] w_is_list_by))))) (mRaise "NotAList" "given" (mVar 0)) (mNext)
@[irreducible] def w_check_list : DSp := wDef 0 m_check_list
def m_text_of_list_1 : DS := mApp 1 (frz (mOp2 fAdd (.e (frz (mOp2 fAdd (.e (mK (.str "pack"))) (.e (mK (.str " ")))))) (.e (frz (mCall [.e (mVar 2)] w_text_of_row)))))
def m_text_of_list_2 : DS := mRet (mMth fJoin (mK (.str "")) (frz (mLc (iSq (mStill 1)) (.nm 3) (mYes) (frz (mOp2 fAdd (.e (mVar 3)) (.e (mK (.str "\n"))))) [3])))
def m_text_of_list_3 : DS := mSeq (mFor (iSq (frz (mOp2 fIx (.e (mVar 0)) (.e (mK (.int 1)))))) (.nm 2) (m_text_of_list_1)) (m_text_of_list_2)
def m_text_of_list : DS := mSeq (mAsg (.nm 1) (mLst [frz (mOp2 fAdd (.e (frz (mOp2 fAdd (.e (mK (.str "goods"))) (.e (mK (.str " ")))))) (.e (frz (mOpN fStr [.e (frz (mOp2 fIx (.e (mVar 0)) (.e (mK (.int 0)))))]))))])) (m_text_of_list_3)
@[irreducible] def w_text_of_list : DSp := wDef 3 m_text_of_list
def m_list_text_1 : DS := mRet (mCall [.e (mVar 0)] w_text_of_list)
def m_list_text : DS := mSeq (mDrop (mCall [.e (mVar 0)] w_check_list)) (m_list_text_1)
@[irreducible] def w_list_text : DSp := wDef 0 m_list_text
def m_is_figures_1 : DS := mRet (mOrV (.e (frz (mOp2 fEq (.e (mVar 0)) (.e (mK (.str "0")))))) (mOp2 fNe (.e (frz (mOp2 fIx (.e (mVar 0)) (.e (mK (.int 0)))))) (.e (mK (.str "0")))))
def m_is_figures : DS := mSeq (mIfS (mOrT (asT (mOp2 fEq (.e (mVar 0)) (.e (mK (.str ""))))) (mTru (.e (frz (mOpN fAny [.e (frz (mLc (iTx (mVar 0)) (.nm 1) (mYes) (frz (mOp2 (fInT true) (.e (mVar 1)) (.e (mK (.str "0123456789"))))) [1]))]))))) (mRet (vl (mK (.bl false)))) (mNext)) (m_is_figures_1)
@[irreducible] def w_is_figures : DSp := wDef 1 m_is_figures
def m_is_number_text : DS := mSeq (mIfS (mTru (.e (frz (mMth fStw (mVar 0) (mK (.str "-")))))) (mRet (mAndV (.e (frz (mCall [.e (frz (mSl (.e (mVar 0)) (some (mK (.int 1))) none))] w_is_figures))) (mOp2 fNe (.e (mVar 0)) (.e (mK (.str "-0")))))) (mNext)) (mRet (mCall [.e (mVar 0)] w_is_figures))
@[irreducible] def w_is_number_text : DSp := wDef 0 m_is_number_text
def m_read_numbers_1 : DS := mRet (mLst [frz (mOpN fTuple [.e (frz (mLc (iSq (mVar 0)) (.nm 1) (mYes) (frz (mOpN fIntT [.e (mVar 1)])) [1]))])])
def m_read_numbers : DS := mSeq (mIfS (mNot (mTru (.e (frz (mOpN fAll [.e (frz (mLc (iSq (mVar 0)) (.nm 1) (mYes) (frz (mCall [.e (mVar 1)] w_is_number_text)) [1]))]))))) (mRet (mLst [])) (mNext)) (m_read_numbers_1)
@[irreducible] def w_read_numbers : DSp := wDef 1 m_read_numbers
def m_read_line_1 : DS := mRet (mIf (asT (mOp2 fEq (.e (frz (mOp2 fIx (.e (mVar 2)) (.e (mK (.int 0)))))) (.e (mVar 1)))) (mCall [.e (frz (mSl (.e (mVar 2)) (some (mK (.int 1))) none))] w_read_numbers) (mLst []))
def m_read_line : DS := mSeq (mAsg (.nm 2) (vl (frz (mMth fSplit (mVar 0) (mK (.str " ")))))) (m_read_line_1)
@[irreducible] def w_read_line : DSp := wDef 1 m_read_line
def m_read_lines_1 : DS := mSeq (mIfS (asT (mOp2 fEq (.e (mVar 4)) (.e (frz (mLst []))))) (mRet (mLst [])) (mNext)) (mExt 2 (mVar 4))
def m_read_lines_2 : DS := mSeq (mAsg (.nm 4) (vl (frz (mCall [.e (mVar 3), .e (mK (.str "pack"))] w_read_line)))) (m_read_lines_1)
def m_read_lines_3 : DS := mRet (mLst [mTup [frz (mOp2 fIx (.e (frz (mOp2 fIx (.e (mVar 1)) (.e (mK (.int 0)))))) (.e (mK (.int 0)))), frz (mOpN fTuple [.e (mStill 2)])]])
def m_read_lines_4 : DS := mSeq (mFor (iSq (frz (mSl (.e (mVar 0)) (some (mK (.int 1))) none))) (.nm 3) (m_read_lines_2)) (m_read_lines_3)
def m_read_lines_5 : DS := mSeq (mIfS (mOrT (asT (mOp2 fEq (.e (mVar 1)) (.e (frz (mLst []))))) (asT (mOp2 fNe (.e (frz (mOpN fLen [.e (frz (mOp2 fIx (.e (mVar 1)) (.e (mK (.int 0)))))]))) (.e (mK (.int 1)))))) (mRet (mLst [])) (mNext)) (m_read_lines_4)
def m_read_lines : DS := mSeq (mPar [.nm 1, .nm 2] [vl (frz (mCall [.e (frz (mOp2 fIx (.e (mVar 0)) (.e (mK (.int 0))))), .e (mK (.str "goods"))] w_read_line)), mLst []]) (m_read_lines_5)
@[irreducible] def w_read_lines : DSp := wDef 4 m_read_lines
def m_list_with_text_1 : DS := mRet (mLc (iSq (frz (mCall [.e (frz (mMth fSplit (frz (mSl (.e (mVar 0)) none (some (frz (mOp1 fNeg (.e (mK (.int 1)))))))) (mK (.str "\n"))))] w_read_lines))) (.nm 1) (mTru (.e (frz (mCall [.e (mVar 1)] w_is_list_by)))) (mVar 1) [1])
def m_list_with_text : DS := mSeq (mIfS (mNot (mTru (.e (frz (mMth fEnw (mVar 0) (mK (.str "\n"))))))) (mRet (mLst [])) (mNext)) (m_list_with_text_1)
@[irreducible] def w_list_with_text : DSp := wDef 1 m_list_with_text
def m_read_list_1 : DS := mRet (mOp2 fIx (.e (mVar 1)) (.e (mK (.int 0))))
def m_read_list_2 : DS := mSeq (mIfS (asT (mOp2 fEq (.e (mVar 1)) (.e (frz (mLst []))))) (mRaise "InvalidText" "given" (mVar 0)) (mNext)) (m_read_list_1)
def m_read_list : DS := mSeq (mAsg (.nm 1) (vl (frz (mIf (mTru (.e (frz (mOpN fIsi [.e (mVar 0), .e (mK (.ty "str"))])))) (mCall [.e (mVar 0)] w_list_with_text) (mLst []))))) (m_read_list_2)
@[irreducible] def w_read_list : DSp := wDef 1 m_read_list
def m_law_ask_1 : DS := mRet (mIf (mTru (.e (mVar 2))) (mCallK [.e (frz (mOp2 fIx (.e (mVar 1)) (.e (mK (.int 0)))))] [0] w_read_list) (mCall [.e (frz (mOp2 fIx (.e (mVar 1)) (.e (mK (.int 0)))))] w_read_list))
def m_law_ask_2 : DS := mSeq (mIfS (asT (mOp2 fEq (.e (mVar 0)) (.e (mK (.str "list"))))) (mRet (mIf (mTru (.e (mVar 2))) (mCallK [.e (frz (mOp2 fIx (.e (mVar 1)) (.e (mK (.int 0)))))] [0] w_list_text) (mCall [.e (frz (mOp2 fIx (.e (mVar 1)) (.e (mK (.int 0)))))] w_list_text))) (mNext)) (m_law_ask_1)
def m_law_ask_3 : DS := mSeq (mIfS (asT (mOp2 fEq (.e (mVar 0)) (.e (mK (.str "fraction"))))) (mRet (mIf (mTru (.e (mVar 2))) (mCallK [.e (frz (mOp2 fIx (.e (mVar 1)) (.e (mK (.int 0)))))] [0] w_fraction_text) (mCall [.e (frz (mOp2 fIx (.e (mVar 1)) (.e (mK (.int 0)))))] w_fraction_text))) (mNext)) (m_law_ask_2)
def m_law_ask : DS := mSeq (mIfS (asT (mOp2 fEq (.e (mVar 0)) (.e (mK (.str "row"))))) (mRet (mIf (mTru (.e (mVar 2))) (mCallK [.e (frz (mOp2 fIx (.e (mVar 1)) (.e (mK (.int 0)))))] [0] w_row_text) (mCall [.e (frz (mOp2 fIx (.e (mVar 1)) (.e (mK (.int 0)))))] w_row_text))) (mNext)) (m_law_ask_3)
@[irreducible] def w_law_ask : DSp := wDef 0 m_law_ask
def m_law_refused : DS := mSeq (mTryH und "PackError" 4 (fun hx hc hfs => mSeq (mAsg (.nm 3) (vl (frz (mIf (mTru (.e (frz (mIsE isq 4 hx hc "InvalidOrder")))) (mLst [mK (.str "order"), mXf xc_given 4 hx hc hfs "given"]) (mLst []))))) (mSeq (mAsg (.nm 3) (vl (frz (mOp2 fAdd (.e (mVar 3)) (.e (frz (mIf (mTru (.e (frz (mIsE isq 4 hx hc "InvalidNumber")))) (mLst [mK (.str "number"), mXf xc_given 4 hx hc hfs "given"]) (mLst [])))))))) (mSeq (mAsg (.nm 3) (vl (frz (mOp2 fAdd (.e (mVar 3)) (.e (frz (mIf (mTru (.e (frz (mIsE isq 4 hx hc "NotAList")))) (mLst [mK (.str "list"), mXf xc_given 4 hx hc hfs "given"]) (mLst [])))))))) (mSeq (mAsg (.nm 3) (vl (frz (mOp2 fAdd (.e (mVar 3)) (.e (frz (mIf (mTru (.e (frz (mIsE isq 4 hx hc "InvalidText")))) (mLst [mK (.str "text"), mXf xc_given 4 hx hc hfs "given"]) (mLst [])))))))) (mRet (mIf (mTru (.e (frz (mIsT isqt 4 hx hc "ValueError")))) (vl (mVar 3)) (mLst []))))))) (mDrop (mCall [.e (mVar 0), .e (mVar 1), .e (mVar 2)] w_law_ask))) (mRet (vl (mK .non)))
@[irreducible] def w_law_refused : DSp := wDef 2 m_law_refused
def m_law_ask_viv_1 : DS := mRet (mIf (mTru (.e (mVar 2))) (mCallK [.e (frz (mOp2 fIx (.s 1) (.e (mK (.int 0)))))] [0] w_read_list) (mCall [.e (frz (mOp2 fIx (.s 1) (.e (mK (.int 0)))))] w_read_list))
def m_law_ask_viv_2 : DS := mSeq (mIfS (asT (mOp2 fEq (.e (mVar 0)) (.e (mK (.str "list"))))) (mRet (mIf (mTru (.e (mVar 2))) (mCallK [.e (frz (mOp2 fIx (.s 1) (.e (mK (.int 0)))))] [0] w_list_text) (mCall [.e (frz (mOp2 fIx (.s 1) (.e (mK (.int 0)))))] w_list_text))) (mNext)) (m_law_ask_viv_1)
def m_law_ask_viv_3 : DS := mSeq (mIfS (asT (mOp2 fEq (.e (mVar 0)) (.e (mK (.str "fraction"))))) (mRet (mIf (mTru (.e (mVar 2))) (mCallK [.e (frz (mOp2 fIx (.s 1) (.e (mK (.int 0)))))] [0] w_fraction_text) (mCall [.e (frz (mOp2 fIx (.s 1) (.e (mK (.int 0)))))] w_fraction_text))) (mNext)) (m_law_ask_viv_2)
def m_law_ask_viv : DS := mSeq (mIfS (asT (mOp2 fEq (.e (mVar 0)) (.e (mK (.str "row"))))) (mRet (mIf (mTru (.e (mVar 2))) (mCallK [.e (frz (mOp2 fIx (.s 1) (.e (mK (.int 0)))))] [0] w_row_text) (mCall [.e (frz (mOp2 fIx (.s 1) (.e (mK (.int 0)))))] w_row_text))) (mNext)) (m_law_ask_viv_3)
@[irreducible] def w_law_ask_viv : DSp := wDef 0 m_law_ask_viv
def m_law_refused_viv : DS := mSeq (mTryH und "PackError" 4 (fun hx hc hfs => mSeq (mAsg (.nm 3) (vl (frz (mIf (mTru (.e (frz (mIsE isq 4 hx hc "InvalidOrder")))) (mLst [mK (.str "order"), mXf xc_given 4 hx hc hfs "given"]) (mLst []))))) (mSeq (mAsg (.nm 3) (vl (frz (mOp2 fAdd (.e (mVar 3)) (.e (frz (mIf (mTru (.e (frz (mIsE isq 4 hx hc "InvalidNumber")))) (mLst [mK (.str "number"), mXf xc_given 4 hx hc hfs "given"]) (mLst [])))))))) (mSeq (mAsg (.nm 3) (vl (frz (mOp2 fAdd (.e (mVar 3)) (.e (frz (mIf (mTru (.e (frz (mIsE isq 4 hx hc "NotAList")))) (mLst [mK (.str "list"), mXf xc_given 4 hx hc hfs "given"]) (mLst [])))))))) (mSeq (mAsg (.nm 3) (vl (frz (mOp2 fAdd (.e (mVar 3)) (.e (frz (mIf (mTru (.e (frz (mIsE isq 4 hx hc "InvalidText")))) (mLst [mK (.str "text"), mXf xc_given 4 hx hc hfs "given"]) (mLst [])))))))) (mRet (mIf (mTru (.e (frz (mIsT isqt 4 hx hc "ValueError")))) (vl (mVar 3)) (mLst []))))))) (mDrop (mCall [.e (mVar 0), .s 1, .e (mVar 2)] w_law_ask_viv))) (mRet (vl (mK .non)))
@[irreducible] def w_law_refused_viv : DSp := wDef 2 m_law_refused_viv
def m_law_same_1 (w : DSp) : DS := mRet (mAndV (.e (frz (mOp2 fEq (.e (frz (mOpN fIsi [.e (mVar 0), .e (mK (.ty "int"))]))) (.e (frz (mOpN fIsi [.e (mVar 1), .e (mK (.ty "int"))])))))) (mAndV (.e (frz (mOp2 fEq (.e (frz (mOpN fIsi [.e (mVar 0), .e (mK (.ty "str"))]))) (.e (frz (mOpN fIsi [.e (mVar 1), .e (mK (.ty "str"))])))))) (mOp2 fEqX (.e (mVar 0)) (.e (mVar 1)))))
def m_law_same_2 (w : DSp) : DS := mSeq (mIfS (mOrT (mTru (.e (frz (mOpN fIsi [.e (mVar 0), .e (mK (.ty "bool"))])))) (mTru (.e (frz (mOpN fIsi [.e (mVar 1), .e (mK (.ty "bool"))]))))) (mRet (mAndV (.e (frz (mOpN fIsi [.e (mVar 0), .e (mK (.ty "bool"))]))) (mAndV (.e (frz (mOpN fIsi [.e (mVar 1), .e (mK (.ty "bool"))]))) (mOp2 fEqX (.e (mVar 0)) (.e (mVar 1)))))) (mNext)) (m_law_same_1 w)
def m_law_same (w : DSp) : DS := mSeq (mIfS (mTru (.e (frz (mOpN fIsi [.e (mVar 0), .e (mK (.ty "tuple"))])))) (mRet (mAndV (.e (frz (mOpN fIsi [.e (mVar 1), .e (mK (.ty "tuple"))]))) (mAndV (.e (frz (mOp2 fEq (.e (frz (mOpN fLen [.e (mVar 0)]))) (.e (frz (mOpN fLen [.e (mVar 1)])))))) (mOp2 fEq (.e (frz (mLc (iRg1 (frz (mOpN fLen [.e (mVar 0)]))) (.nm 2) (mNot (mTru (.e (frz (mCall [.e (frz (mOp2 fIx (.e (mVar 0)) (.e (mVar 2)))), .e (frz (mOp2 fIx (.e (mVar 1)) (.e (mVar 2))))] (w)))))) (mVar 2) [2]))) (.e (frz (mLst []))))))) (mNext)) (m_law_same_2 w)
def w_law_same : Nat → DSp
  | 0 => fun _ _ _ => False
  | r + 1 => wDef 1 (m_law_same (w_law_same r))
@[irreducible] def v_law_same : DSp := w_law_same 8
def m_law_is_due : DS := mRet (mAndV (.e (frz (mOp2 fNotN (.e (mVar 0)) (.e (mK .non))))) (mAndV (.e (frz (mOp2 fEq (.e (frz (mOpN fLen [.e (mVar 0)]))) (.e (mK (.int 2)))))) (mAndV (.e (frz (mOp2 fEq (.e (frz (mOp2 fIx (.e (mVar 0)) (.e (mK (.int 0)))))) (.e (frz (mOp2 fIx (.e (mVar 1)) (.e (mK (.int 0))))))))) (mCall [.e (frz (mOp2 fIx (.e (mVar 0)) (.e (mK (.int 1))))), .e (frz (mOp2 fIx (.e (mVar 1)) (.e (mK (.int 1)))))] v_law_same))))
@[irreducible] def w_law_is_due : DSp := wDef 0 m_law_is_due
@[irreducible] def m_law_refused_each_ivvv_1 : DS := mApp 7 (frz (mIf (mOrT (asT (mOp2 fEq (.e (frz (mOp2 fIx (.e (mVar 3)) (.e (mVar 8))))) (.e (frz (mLst []))))) (asT (mOp2 fEq (.e (frz (mCall [.s 0, .e (mK (.int 2))] w_law_draw_iv))) (.e (mK (.int 0)))))) (mOp2 fIx (.e (mVar 2)) (.e (mVar 8))) (mOp2 fIx (.e (frz (mCall [.s 0, .e (frz (mOp2 fIx (.e (mVar 3)) (.e (mVar 8))))] w_law_pick_iv))) (.e (mK (.int 0))))))
@[irreducible] def m_law_refused_each_ivvv_2 : DS := mIfS (mNot (mTru (.e (frz (mCall [.e (frz (mCall [.e (mVar 1), .s 7, .e (frz (mOp2 fEq (.e (frz (mCall [.s 0, .e (mK (.int 2))] w_law_draw_iv))) (.e (mK (.int 0)))))] w_law_refused_viv)), .e (mVar 6)] w_law_is_due))))) (mRet (vl (mK (.bl false)))) (mNext)
@[irreducible] def m_law_refused_each_ivvv_3 : DS := mSeq (mFor (iRg2 (frz (mOp2 fAdd (.e (mVar 4)) (.e (mK (.int 1))))) (frz (mOpN fLen [.e (mVar 2)]))) (.nm 8) (m_law_refused_each_ivvv_1)) (m_law_refused_each_ivvv_2)
@[irreducible] def m_law_refused_each_ivvv_4 : DS := mSeq (mAsg (.nm 7) (mOp2 fAdd (.e (frz (mSl (.e (mVar 2)) none (some (mVar 4))))) (.e (frz (mLst [mVar 5]))))) (m_law_refused_each_ivvv_3)
@[irreducible] def m_law_refused_each_ivvv_5 : DS := mFor (iSq (frz (mOp2 fIx (.e (mVar 3)) (.e (mVar 4))))) (.tp [.nm 5, .nm 6]) (m_law_refused_each_ivvv_4)
@[irreducible] def m_law_refused_each_ivvv_6 : DS := mRet (mOp2 fIsN (.e (frz (mCall [.e (mVar 1), .e (mVar 2), .e (frz (mOp2 fEq (.e (frz (mCall [.s 0, .e (mK (.int 2))] w_law_draw_iv))) (.e (mK (.int 0)))))] w_law_refused))) (.e (mK .non)))
@[irreducible] def m_law_refused_each_ivvv_7 : DS := mSeq (mFor (iRg1 (frz (mOpN fLen [.e (mVar 2)]))) (.nm 4) (m_law_refused_each_ivvv_5)) (m_law_refused_each_ivvv_6)
def m_law_refused_each_ivvv : DS := mSeq (mIfS (mOrT (asT (mOp2 fNotN (.e (frz (mCall [.e (mVar 1), .e (mVar 2), .e (mK (.bl false))] w_law_refused))) (.e (mK .non)))) (asT (mOp2 fNotN (.e (frz (mCall [.e (mVar 1), .e (mVar 2), .e (mK (.bl true))] w_law_refused))) (.e (mK .non))))) (mRet (vl (mK (.bl false)))) (mNext)) (m_law_refused_each_ivvv_7)
@[irreducible] def w_law_refused_each_ivvv : DSp := wDef 5 m_law_refused_each_ivvv
@[irreducible] def x_law_not_fraction_i_1 : DC := mLst [mK .non, mK (.int 1), mK (.str "1/2"), mTup [], mTup [mK (.int 1)], mTup [mK (.int 1), mK (.int 2), mK (.int 3)], frz (mLst [mK (.int 1), mK (.int 2)]), mTup [mK (.int 2), mK (.int 4)], mTup [mK (.int 0), mK (.int 2)], mTup [frz (mOp1 fNeg (.e (mK (.int 6)))), mK (.int 3)], mTup [mK (.int 1), mK (.int 0)], mTup [mK (.int 0), mK (.int 0)], mTup [mK (.int 1), frz (mOp1 fNeg (.e (mK (.int 2))))], mTup [frz (mOp1 fNeg (.e (mK (.int 1)))), frz (mOp1 fNeg (.e (mK (.int 2))))], mTup [mK (.bl true), mK (.int 1)], mTup [mK (.int 1), mK (.bl true)], mTup [mTup [mK (.int 1), mK (.int 1)], mK (.int 1)], mTup [mK (.str "1"), mK (.int 1)], mTup [mK (.int 1), mK .non]]
@[irreducible] def x_law_not_fraction_i_2 : DC := mLst [mK (.dic [] []), mK (.bl true), mTup [mK (.int 0), frz (mOp1 fNeg (.e (mK (.int 1))))], mTup [frz (mOp2 fPow (.e (mK (.int 10))) (.e (mK (.int 40)))), frz (mOp2 fPow (.e (mK (.int 10))) (.e (mK (.int 39))))]]
@[irreducible] def m_law_not_fraction_i_1 : DS := mRet (mCall [.s 0, .e (frz (mOp2 fAdd (.e (mVar 1)) (.e (frz (x_law_not_fraction_i_2)))))] w_law_pick_iv)
def m_law_not_fraction_i : DS := mSeq (mAsg (.nm 1) (vl (frz (x_law_not_fraction_i_1)))) (m_law_not_fraction_i_1)
@[irreducible] def w_law_not_fraction_i : DSp := wDef 1 m_law_not_fraction_i
def m_law_not_pack_iv_1 : DS := mRet (mIf (asT (mOp2 fEq (.e (frz (mCall [.s 0, .e (mK (.int 3))] w_law_draw_iv))) (.e (mK (.int 0))))) (mCall [.e (mVar 1), .e (mVar 2), .e (frz (mCall [.s 0, .e (frz (mLst [mK (.int 10000), frz (mOp1 fNeg (.e (mK (.int 10000)))), frz (mOp2 fPow (.e (mK (.int 10))) (.e (mK (.int 40))))]))] w_law_pick_iv))] w_law_put) (mCall [.s 0, .e (mVar 1)] w_law_not_row_iv))
def m_law_not_pack_iv : DS := mSeq (mAsg (.nm 2) (vl (frz (mCall [.s 0, .e (frz (mOpN fLen [.e (mVar 1)]))] w_law_draw_iv)))) (m_law_not_pack_iv_1)
@[irreducible] def w_law_not_pack_iv : DSp := wDef 1 m_law_not_pack_iv
@[irreducible] def x_law_not_list_iv_1 : DC := mLst [mK (.int 0), mK (.int 7), frz (mOp1 fNeg (.e (mK (.int 1)))), mK (.bl true), mK .non, mK (.str "2"), frz (mOp2 fAdd (.e (mVar 2)) (.e (mK (.int 1)))), mTup [mVar 2]]
@[irreducible] def x_law_not_list_iv_2 : DC := mLst [mTup [mK (.int 0), mTup []], mTup [mK (.int 7), mTup []], mTup [mVar 2, frz (mOp2 fAdd (.e (mVar 3)) (.e (mTup [frz (mOpN fTuple [.e (frz (mOp2 fMul (.e (frz (mLst [mK (.int 0)]))) (.e (frz (mOp2 fAdd (.e (mVar 2)) (.e (mK (.int 1))))))))])])))], mTup [mVar 2, mTup [frz (mOpN fTuple [.e (frz (mOp2 fMul (.e (frz (mLst [mK (.int 10000)]))) (.e (mVar 2))))])]]]
@[irreducible] def x_law_not_list_iv_3 : DC := mLst [mK .non, mTup [], frz (mOpN fList [.e (mVar 1)]), mTup [mVar 2], frz (mOp2 fAdd (.e (mVar 1)) (.e (mTup [mTup []]))), mTup [mVar 2, frz (mOpN fList [.e (mVar 3)])], mTup [mVar 3, mVar 2], mVar 3, mVar 2, mTup [mVar 2, frz (mOp2 fIx (.e (mVar 3)) (.e (mK (.int 0))))], mK (.str "list"), mK (.bl true), mK (.dic [] [])]
@[irreducible] def m_law_not_list_iv_1 : DS := mRet (mCall [.s 0, .e (frz (x_law_not_list_iv_3))] w_law_pick_iv)
@[irreducible] def m_law_not_list_iv_2 : DS := mSeq (mIfS (asT (mOp2 fEq (.e (mVar 4)) (.e (mK (.int 5))))) (mRet (mCall [.s 0, .e (frz (x_law_not_list_iv_2))] w_law_pick_iv)) (mNext)) (m_law_not_list_iv_1)
@[irreducible] def m_law_not_list_iv_3 : DS := mSeq (mIfS (asT (mOp2 fEq (.e (mVar 4)) (.e (mK (.int 4))))) (mRet (vl (mTup [frz (mCall [.s 0, .e (frz (x_law_not_list_iv_1))] w_law_pick_iv), mVar 3]))) (mNext)) (m_law_not_list_iv_2)
@[irreducible] def m_law_not_list_iv_4 : DS := mSeq (mIfS (asT (mOp2 fEq (.e (mVar 4)) (.e (mK (.int 3))))) (mRet (vl (mTup [mVar 2, frz (mSl (.e (frz (mOp2 fMul (.e (mVar 3)) (.e (mK (.int 9)))))) none (some (mK (.int 9))))]))) (mNext)) (m_law_not_list_iv_3)
@[irreducible] def m_law_not_list_iv_5 : DS := mSeq (mIfS (asT (mOp2 fLt (.e (mVar 4)) (.e (mK (.int 3))))) (mRet (vl (mTup [mVar 2, frz (mCall [.e (mVar 3), .e (mVar 5), .e (frz (mCall [.s 0, .e (frz (mOp2 fIx (.e (mVar 3)) (.e (mVar 5))))] w_law_not_pack_iv))] w_law_put)]))) (mNext)) (m_law_not_list_iv_4)
@[irreducible] def m_law_not_list_iv_6 : DS := mSeq (mPar [.nm 4, .nm 5] [vl (frz (mCall [.s 0, .e (mK (.int 7))] w_law_draw_iv)), vl (frz (mCall [.s 0, .e (frz (mOpN fLen [.e (mVar 3)]))] w_law_draw_iv))]) (m_law_not_list_iv_5)
def m_law_not_list_iv : DS := mSeq (mAsg (.tp [.nm 2, .nm 3]) (vl (mVar 1))) (m_law_not_list_iv_6)
@[irreducible] def w_law_not_list_iv : DSp := wDef 4 m_law_not_list_iv
@[irreducible] def m_law_is_list_1 : DS := mRet (mOp2 fEqN (.e (frz (mLc (iSq (frz (mOp2 fIx (.e (mVar 0)) (.e (mK (.int 1)))))) (.nm 1) (mOrT (asT (mOp2 fGt (.e (frz (mOpN fMaxT [.e (mVar 1)]))) (.e (mK (.int 9999))))) (asT (mOp2 fLt (.e (frz (mOpN fMinT [.e (mVar 1)]))) (.e (frz (mOp1 fNeg (.e (mK (.int 9999))))))))) (mVar 1) [1]))) (.e (frz (mLst []))))
@[irreducible] def m_law_is_list_2 : DS := mSeq (mIfS (mOrT (asT (mOp2 fGt (.e (frz (mOpN fLen [.e (frz (mOp2 fIx (.e (mVar 0)) (.e (mK (.int 1)))))]))) (.e (mK (.int 8))))) (asT (mOp2 fNeN (.e (frz (mLc (iSq (frz (mOp2 fIx (.e (mVar 0)) (.e (mK (.int 1)))))) (.nm 1) (mNot (mTru (.e (frz (mCall [.e (mVar 1), .e (frz (mOp2 fIx (.e (mVar 0)) (.e (mK (.int 0)))))] w_law_is_row))))) (mVar 1) [1]))) (.e (frz (mLst [])))))) (mRet (vl (mK (.bl false)))) (mNext)) (m_law_is_list_1)
def m_law_is_list : DS := mSeq (mIfS (mOrT (mNot (mTru (.e (frz (mOpN fIsi [.e (mVar 0), .e (mK (.ty "tuple"))]))))) (mOrT (asT (mOp2 fNe (.e (frz (mOpN fLen [.e (mVar 0)]))) (.e (mK (.int 2))))) (mOrT (mNot (mTru (.e (frz (mCall [.e (frz (mOp2 fIx (.e (mVar 0)) (.e (mK (.int 0)))))] w_law_is_whole))))) (mOrT (asT (mOp2 fLt (.e (frz (mOp2 fIx (.e (mVar 0)) (.e (mK (.int 0)))))) (.e (mK (.int 1))))) (mOrT (asT (mOp2 fGt (.e (frz (mOp2 fIx (.e (mVar 0)) (.e (mK (.int 0)))))) (.e (mK (.int 6))))) (mNot (mTru (.e (frz (mOpN fIsi [.e (frz (mOp2 fIx (.e (mVar 0)) (.e (mK (.int 1))))), .e (mK (.ty "tuple"))])))))))))) (mRet (vl (mK (.bl false)))) (mNext)) (m_law_is_list_2)
@[irreducible] def w_law_is_list : DSp := wDef 1 m_law_is_list
@[irreducible] def x_law_right_i_1 : DC := mLst [mTup [], mK .non, mTup [mK .non], mTup [mK (.bl true)], mTup [mK (.str "1")], frz (mLst [mK (.int 1)]), mTup [mTup [mK (.int 1)]], mTup [mK (.int 1), mK (.bl false)], mK (.int 0), mK (.str "1 2")]
@[irreducible] def x_law_right_i_2 : DC := mLst [mK .non, mK (.bl true), mK (.int 0), mTup [], frz (mLst [mK (.str "goods 1\n")]), mTup [mK (.str "goods 1\n")], mK (.dic [] []), frz (mOp2 fPow (.e (mK (.int 10))) (.e (mK (.int 40)))), mVar 9, mK (.str ""), mK (.str "x"), mK (.str "goods"), mK (.str "\n"), mK (.str "goods 0\n")]
@[irreducible] def m_law_right_i_1 : DS := mIfS (mOrT (mNot (mTru (.e (frz (mOpN fIsi [.e (mVar 3), .e (mK (.ty "str"))]))))) (asT (mOp2 fNe (.e (mVar 3)) (.e (frz (mIf (asT (mOp2 fEq (.e (frz (mOp2 fIx (.e (mVar 6)) (.e (mK (.int 1)))))) (.e (mK (.int 1))))) (mOpN fStr [.e (frz (mOp2 fIx (.e (mVar 6)) (.e (mK (.int 0)))))]) (mOp2 fAdd (.e (frz (mOp2 fAdd (.e (frz (mOpN fStr [.e (frz (mOp2 fIx (.e (mVar 6)) (.e (mK (.int 0)))))]))) (.e (mK (.str "/")))))) (.e (frz (mOpN fStr [.e (frz (mOp2 fIx (.e (mVar 6)) (.e (mK (.int 1)))))])))))))))) (mRet (vl (mK (.bl false)))) (mNext)
@[irreducible] def m_law_right_i_2 : DS := mSeq (mAsg (.nm 3) (vl (frz (mIf (asT (mOp2 fEq (.e (frz (mCall [.s 0, .e (mK (.int 3))] w_law_draw_iv))) (.e (mK (.int 0))))) (mCallK [.e (mVar 6)] [0] w_fraction_text) (mCall [.e (mVar 6)] w_fraction_text))))) (m_law_right_i_1)
@[irreducible] def m_law_right_i_3 : DS := mSeq (mAsg (.nm 6) (vl (frz (mCall [.e (mVar 4), .e (mVar 5)] w_law_ratio)))) (m_law_right_i_2)
@[irreducible] def m_law_right_i_4 : DS := mSeq (mPar [.nm 4, .nm 5] [vl (frz (mCall [.s 0, .e (frz (mCall [.s 0, .e (mK (.int 3))] w_law_draw_iv))] w_law_number_iv)), vl (frz (mOp2 fAdd (.e (mK (.int 1))) (.e (frz (mCall [.s 0, .e (frz (mCall [.s 0, .e (frz (mLst [mK (.int 1), mK (.int 9), frz (mOp2 fPow (.e (mK (.int 10))) (.e (mK (.int 40))))]))] w_law_pick_iv))] w_law_draw_iv)))))]) (m_law_right_i_3)
@[irreducible] def m_law_right_i_5 : DS := mSeq (mIfS (mOrT (mNot (mTru (.e (frz (mOpN fIsi [.e (mVar 3), .e (mK (.ty "str"))]))))) (mOrT (asT (mOp2 fNe (.e (mVar 3)) (.e (frz (mCall [.e (mVar 2)] w_law_row_text))))) (asT (mOp2 fNe (.e (frz (mCall [.e (mVar 3), .e (frz (mOpN fLen [.e (mVar 2)]))] w_law_read_row))) (.e (mVar 2)))))) (mRet (vl (mK (.bl false)))) (mNext)) (m_law_right_i_4)
@[irreducible] def m_law_right_i_6 : DS := mSeq (mAsg (.nm 3) (vl (frz (mIf (asT (mOp2 fEq (.e (frz (mCall [.s 0, .e (mK (.int 3))] w_law_draw_iv))) (.e (mK (.int 0))))) (mCallK [.e (mVar 2)] [0] w_row_text) (mCall [.e (mVar 2)] w_row_text))))) (m_law_right_i_5)
@[irreducible] def m_law_right_i_7 : DS := mSeq (mAsg (.nm 2) (vl (frz (mIf (asT (mOp2 fEq (.e (frz (mCall [.s 0, .e (mK (.int 3))] w_law_draw_iv))) (.e (mK (.int 0))))) (mCall [.e (mVar 2), .e (mK (.int 0)), .e (frz (mOp2 fSub (.e (frz (mCall [.s 0, .e (frz (mOp2 fPow (.e (mK (.int 10))) (.e (mK (.int 40)))))] w_law_draw_iv))) (.e (frz (mOp2 fMul (.e (mK (.int 5))) (.e (frz (mOp2 fPow (.e (mK (.int 10))) (.e (mK (.int 39)))))))))))] w_law_put) (vl (mVar 2)))))) (m_law_right_i_6)
@[irreducible] def m_law_right_i_8 : DS := mSeq (mAsg (.nm 2) (vl (frz (mOpN fTuple [.e (frz (mLc (iRg1 (frz (mOp2 fAdd (.e (mK (.int 1))) (.e (frz (mCall [.s 0, .e (mK (.int 8))] w_law_draw_iv)))))) (.nm 13) (mYes) (frz (mCall [.s 0, .e (frz (mCall [.s 0, .e (mK (.int 3))] w_law_draw_iv))] w_law_number_iv)) [13]))])))) (m_law_right_i_7)
@[irreducible] def m_law_right_i_9 : DS := mRet (mAndV (.e (frz (mOp2 fEq (.e (frz (mCall [.e (mTup [mK (.int 0)])] w_row_text))) (.e (mK (.str "0")))))) (mAndV (.e (frz (mOp2 fEq (.e (frz (mCall [.e (mTup [frz (mOp1 fNeg (.e (mK (.int 3)))), mK (.int 0)])] w_row_text))) (.e (mK (.str "-3 0")))))) (mAndV (.e (frz (mOp2 fEq (.e (frz (mCall [.e (mTup [mK (.int 0), mK (.int 1)])] w_fraction_text))) (.e (mK (.str "0")))))) (mOp2 fEq (.e (frz (mCall [.e (mTup [frz (mOp1 fNeg (.e (mK (.int 1)))), mK (.int 2)])] w_fraction_text))) (.e (mK (.str "-1/2")))))))
@[irreducible] def m_law_right_i_10 : DS := mSeq (mIfS (mNot (mTru (.e (frz (mCall [.s 0, .e (mK (.str "read")), .e (frz (mLst [frz (mOp2 fAdd (.e (frz (mOp2 fAdd (.e (mK (.str "goods "))) (.e (frz (mOpN fStr [.e (mVar 8)])))))) (.e (mK (.str "\n"))))])), .e (frz (mLst [mVar 11]))] w_law_refused_each_ivvv))))) (mRet (vl (mK (.bl false)))) (mNext)) (m_law_right_i_9)
@[irreducible] def m_law_right_i_11 : DS := mSeq (mAsg (.nm 11) (vl (frz (mCall [.e (mK (.str "text")), .e (frz (x_law_right_i_2))] w_law_wrong_given)))) (m_law_right_i_10)
@[irreducible] def m_law_right_i_12 : DS := mSeq (mIfS (mNot (mTru (.e (frz (mCall [.s 0, .e (mK (.str "list")), .e (frz (mLst [mVar 9])), .e (frz (mLst [frz (mCall [.e (mK (.str "list")), .e (mVar 10)] w_law_wrong_given)]))] w_law_refused_each_ivvv))))) (mRet (vl (mK (.bl false)))) (mNext)) (m_law_right_i_11)
@[irreducible] def m_law_right_i_13 : DS := mSeq (mAsg (.nm 10) (vl (frz (mLc (iSq (mVar 10)) (.nm 12) (mNot (mTru (.e (frz (mCall [.e (mVar 12)] w_law_is_list))))) (mVar 12) [12])))) (m_law_right_i_12)
@[irreducible] def m_law_right_i_14 : DS := mSeq (mAsg (.nm 10) (vl (frz (mLc (iRg1 (mK (.int 18))) (.nm 1) (mYes) (frz (mCall [.s 0, .e (mVar 9)] w_law_not_list_iv)) [1])))) (m_law_right_i_13)
@[irreducible] def m_law_right_i_15 : DS := mSeq (mAsg (.nm 9) (vl (mTup [mVar 8, frz (mOpN fTuple [.e (frz (mLc (iRg1 (frz (mOp2 fAdd (.e (mK (.int 1))) (.e (frz (mCall [.s 0, .e (mK (.int 8))] w_law_draw_iv)))))) (.nm 1) (mYes) (frz (mCall [.s 0, .e (mVar 8), .e (frz (mCall [.s 0, .e (mK (.int 3))] w_law_draw_iv))] w_law_row_ivv)) [1]))])]))) (m_law_right_i_14)
@[irreducible] def m_law_right_i_16 : DS := mSeq (mAsg (.nm 8) (vl (frz (mOp2 fAdd (.e (mK (.int 1))) (.e (frz (mCall [.s 0, .e (mK (.int 6))] w_law_draw_iv))))))) (m_law_right_i_15)
@[irreducible] def m_law_right_i_17 : DS := mSeq (mIfS (mNot (mTru (.e (frz (mCall [.s 0, .e (mK (.str "fraction")), .e (frz (mLst [mTup [frz (mOp1 fNeg (.e (mK (.int 7)))), mK (.int 3)]])), .e (frz (mLst [frz (mCall [.e (mK (.str "number")), .e (frz (mLc (iRg1 (mK (.int 14))) (.nm 1) (mYes) (frz (mCall [.s 0] w_law_not_fraction_i)) [1]))] w_law_wrong_given)]))] w_law_refused_each_ivvv))))) (mRet (vl (mK (.bl false)))) (mNext)) (m_law_right_i_16)
@[irreducible] def m_law_right_i_18 : DS := mSeq (mIfS (mNot (mTru (.e (frz (mCall [.s 0, .e (mK (.str "row")), .e (frz (mLst [mVar 2])), .e (frz (mLst [frz (mCall [.e (mK (.str "order")), .e (mVar 7)] w_law_wrong_given)]))] w_law_refused_each_ivvv))))) (mRet (vl (mK (.bl false)))) (mNext)) (m_law_right_i_17)
@[irreducible] def m_law_right_i_19 : DS := mSeq (mAsg (.nm 7) (vl (frz (mOp2 fAdd (.e (mVar 7)) (.e (frz (x_law_right_i_1))))))) (m_law_right_i_18)
@[irreducible] def m_law_right_i_20 : DS := mSeq (mAsg (.nm 7) (vl (frz (mLc (iSq (frz (mLc (iRg1 (mK (.int 14))) (.nm 1) (mYes) (frz (mCall [.s 0, .e (mVar 2)] w_law_not_row_iv)) [1]))) (.nm 12) (mOrT (mAndT (mNot (mTru (.e (frz (mCall [.e (mVar 12), .e (frz (mOp2 fAdd (.e (frz (mOpN fLen [.e (mVar 2)]))) (.e (mK (.int 1)))))] w_law_is_row))))) (mNot (mTru (.e (frz (mCall [.e (mVar 12), .e (frz (mOp2 fSub (.e (frz (mOpN fLen [.e (mVar 2)]))) (.e (mK (.int 1)))))] w_law_is_row)))))) (asT (mOp2 fEq0 (.e (mVar 12)) (.e (mTup []))))) (mVar 12) [12])))) (m_law_right_i_19)
@[irreducible] def m_law_right_i_21 : DS := mSeq (mAsg (.nm 2) (vl (frz (mCall [.s 0, .e (frz (mOp2 fAdd (.e (mK (.int 1))) (.e (frz (mCall [.s 0, .e (mK (.int 6))] w_law_draw_iv))))), .e (frz (mCall [.s 0, .e (mK (.int 3))] w_law_draw_iv))] w_law_row_ivv)))) (m_law_right_i_20)
def m_law_right_i : DS := mSeq (mFor (iRg1 (mK (.int 10))) (.nm 1) (m_law_right_i_8)) (m_law_right_i_21)
@[irreducible] def w_law_right_i : DSp := wDef 13 m_law_right_i
def m_law_1 : DS := mIfS (mNot (mTru (.e (frz (mCall [.t (mCall [.e (mVar 0), .e (mVar 1)] w_law_pool)] w_law_right_i))))) (mRet (vl (mK (.bl false)))) (mNext)
def m_law : DS := mSeq (mFor (iRg1 (frz (mOpN fMax [.e (mK (.int 2)), .e (frz (mOpN fMin [.e (frz (mOpN fLen [.e (mVar 0)])), .e (mK (.int 3))]))]))) (.nm 1) (m_law_1)) (mRet (vl (mK (.bl true))))
@[irreducible] def w_law : DSp := wDef 1 m_law
/-! ### the head -/
def d_law_pool : He.DefD := ⟨("_law_pool", none), "_law_pool", "_law_pool", defArgs (top 46), defBody (top 46), defScope (top 46), [], []⟩
def d_law_draw : He.DefD := ⟨("_law_draw", none), "_law_draw", "_law_draw", defArgs (top 47), defBody (top 47), defScope (top 47), [], []⟩
def d_law_pick : He.DefD := ⟨("_law_pick", none), "_law_pick", "_law_pick", defArgs (top 48), defBody (top 48), defScope (top 48), [], []⟩
def d_law_number : He.DefD := ⟨("_law_number", none), "_law_number", "_law_number", defArgs (top 56), defBody (top 56), defScope (top 56), [], []⟩
def d_law_put : He.DefD := ⟨("_law_put", none), "_law_put", "_law_put", defArgs (top 52), defBody (top 52), defScope (top 52), [], []⟩
def d_is_whole : He.DefD := ⟨("is_whole", none), "is_whole", "is_whole", defArgs (top 8), defBody (top 8), defScope (top 8), [], []⟩
def d_is_tuple_of : He.DefD := ⟨("is_tuple_of", none), "is_tuple_of", "is_tuple_of", defArgs (top 10), defBody (top 10), defScope (top 10), [], []⟩
def d_are_wholes : He.DefD := ⟨("are_wholes", none), "are_wholes", "are_wholes", defArgs (top 11), defBody (top 11), defScope (top 11), [], []⟩
def d_text_of_row : He.DefD := ⟨("text_of_row", none), "text_of_row", "text_of_row", defArgs (top 33), defBody (top 33), defScope (top 33), [], []⟩
def d_row_text : He.DefD := ⟨("row_text", none), "row_text", "row_text", defArgs (top 41), defBody (top 41), defScope (top 41), [], []⟩
def d_law_figures : He.DefD := ⟨("_law_figures", none), "_law_figures", "_law_figures", defArgs (top 58), defBody (top 58), defScope (top 58), [], []⟩
def d_law_read_row : He.DefD := ⟨("_law_read_row", none), "_law_read_row", "_law_read_row", defArgs (top 60), defBody (top 60), defScope (top 60), [], []⟩
def d_law_row_text : He.DefD := ⟨("_law_row_text", none), "_law_row_text", "_law_row_text", defArgs (top 59), defBody (top 59), defScope (top 59), [], []⟩
def d_law_ratio : He.DefD := ⟨("_law_ratio", none), "_law_ratio", "_law_ratio", defArgs (top 49), defBody (top 49), defScope (top 49), [], []⟩
def d_is_fraction : He.DefD := ⟨("is_fraction", none), "is_fraction", "is_fraction", defArgs (top 13), defBody (top 13), defScope (top 13), [], []⟩
def d_text_of_fraction : He.DefD := ⟨("text_of_fraction", none), "text_of_fraction", "text_of_fraction", defArgs (top 35), defBody (top 35), defScope (top 35), [], []⟩
def d_fraction_text : He.DefD := ⟨("fraction_text", none), "fraction_text", "fraction_text", defArgs (top 42), defBody (top 42), defScope (top 42), [], []⟩
def d_law_row : He.DefD := ⟨("_law_row", none), "_law_row", "_law_row", defArgs (top 57), defBody (top 57), defScope (top 57), [], []⟩
def d_law_not_number : He.DefD := ⟨("_law_not_number", none), "_law_not_number", "_law_not_number", defArgs (top 63), defBody (top 63), defScope (top 63), [], []⟩
def d_law_not_row : He.DefD := ⟨("_law_not_row", none), "_law_not_row", "_law_not_row", defArgs (top 64), defBody (top 64), defScope (top 64), [], []⟩
def d_law_is_whole : He.DefD := ⟨("_law_is_whole", none), "_law_is_whole", "_law_is_whole", defArgs (top 50), defBody (top 50), defScope (top 50), [], []⟩
def d_law_is_row : He.DefD := ⟨("_law_is_row", none), "_law_is_row", "_law_is_row", defArgs (top 61), defBody (top 61), defScope (top 61), [], []⟩
def d_law_wrong_given : He.DefD := ⟨("_law_wrong_given", none), "_law_wrong_given", "_law_wrong_given", defArgs (top 55), defBody (top 55), defScope (top 55), [], []⟩
def d_is_between : He.DefD := ⟨("is_between", none), "is_between", "is_between", defArgs (top 9), defBody (top 9), defScope (top 9), [], []⟩
def d_are_between : He.DefD := ⟨("are_between", none), "are_between", "are_between", defArgs (top 12), defBody (top 12), defScope (top 12), [], []⟩
def d_is_pack : He.DefD := ⟨("is_pack", none), "is_pack", "is_pack", defArgs (top 20), defBody (top 20), defScope (top 20), [], []⟩
def d_is_list_by : He.DefD := ⟨("is_list_by", none), "is_list_by", "is_list_by", defArgs (top 21), defBody (top 21), defScope (top 21), [], []⟩
def d_check_list : He.DefD := ⟨("check_list", none), "check_list", "check_list", defArgs (top 23), defBody (top 23), defScope (top 23), [], []⟩
def d_text_of_list : He.DefD := ⟨("text_of_list", none), "text_of_list", "text_of_list", defArgs (top 36), defBody (top 36), defScope (top 36), [], []⟩
def d_list_text : He.DefD := ⟨("list_text", none), "list_text", "list_text", defArgs (top 43), defBody (top 43), defScope (top 43), [], []⟩
def d_is_figures : He.DefD := ⟨("is_figures", none), "is_figures", "is_figures", defArgs (top 31), defBody (top 31), defScope (top 31), [], []⟩
def d_is_number_text : He.DefD := ⟨("is_number_text", none), "is_number_text", "is_number_text", defArgs (top 32), defBody (top 32), defScope (top 32), [], []⟩
def d_read_numbers : He.DefD := ⟨("read_numbers", none), "read_numbers", "read_numbers", defArgs (top 34), defBody (top 34), defScope (top 34), [], []⟩
def d_read_line : He.DefD := ⟨("read_line", none), "read_line", "read_line", defArgs (top 37), defBody (top 37), defScope (top 37), [], []⟩
def d_read_lines : He.DefD := ⟨("read_lines", none), "read_lines", "read_lines", defArgs (top 38), defBody (top 38), defScope (top 38), [], []⟩
def d_list_with_text : He.DefD := ⟨("list_with_text", none), "list_with_text", "list_with_text", defArgs (top 39), defBody (top 39), defScope (top 39), [], []⟩
def d_read_list : He.DefD := ⟨("read_list", none), "read_list", "read_list", defArgs (top 44), defBody (top 44), defScope (top 44), [], []⟩
def d_law_ask : He.DefD := ⟨("_law_ask", none), "_law_ask", "_law_ask", defArgs (top 66), defBody (top 66), defScope (top 66), [], []⟩
def d_law_refused : He.DefD := ⟨("_law_refused", none), "_law_refused", "_law_refused", defArgs (top 67), defBody (top 67), defScope (top 67), [], []⟩
def d_law_same : He.DefD := ⟨("_law_same", none), "_law_same", "_law_same", defArgs (top 51), defBody (top 51), defScope (top 51), [], []⟩
def d_law_is_due : He.DefD := ⟨("_law_is_due", none), "_law_is_due", "_law_is_due", defArgs (top 53), defBody (top 53), defScope (top 53), [], []⟩
def d_law_refused_each : He.DefD := ⟨("_law_refused_each", none), "_law_refused_each", "_law_refused_each", defArgs (top 54), defBody (top 54), defScope (top 54), [], []⟩
def d_law_not_fraction : He.DefD := ⟨("_law_not_fraction", none), "_law_not_fraction", "_law_not_fraction", defArgs (top 68), defBody (top 68), defScope (top 68), [], []⟩
def d_law_not_pack : He.DefD := ⟨("_law_not_pack", none), "_law_not_pack", "_law_not_pack", defArgs (top 65), defBody (top 65), defScope (top 65), [], []⟩
def d_law_not_list : He.DefD := ⟨("_law_not_list", none), "_law_not_list", "_law_not_list", defArgs (top 69), defBody (top 69), defScope (top 69), [], []⟩
def d_law_is_list : He.DefD := ⟨("_law_is_list", none), "_law_is_list", "_law_is_list", defArgs (top 62), defBody (top 62), defScope (top 62), [], []⟩
def d_law_right : He.DefD := ⟨("_law_right", none), "_law_right", "_law_right", defArgs (top 70), defBody (top 70), defScope (top 70), [], []⟩
def d_law : He.DefD := ⟨("law", none), "law", "law", defArgs (top 71), defBody (top 71), defScope (top 71), [], []⟩
def d_InvalidOrder : He.DefD := ⟨("InvalidOrder", some "__init__"), "__init__", "InvalidOrder.__init__", defArgs (inClass (top 4) 0), defBody (inClass (top 4) 0), defScope (inClass (top 4) 0), [], []⟩
def d_InvalidNumber : He.DefD := ⟨("InvalidNumber", some "__init__"), "__init__", "InvalidNumber.__init__", defArgs (inClass (top 5) 0), defBody (inClass (top 5) 0), defScope (inClass (top 5) 0), [], []⟩
def d_NotAList : He.DefD := ⟨("NotAList", some "__init__"), "__init__", "NotAList.__init__", defArgs (inClass (top 3) 0), defBody (inClass (top 3) 0), defScope (inClass (top 3) 0), [], []⟩
def d_InvalidText : He.DefD := ⟨("InvalidText", some "__init__"), "__init__", "InvalidText.__init__", defArgs (inClass (top 6) 0), defBody (inClass (top 6) 0), defScope (inClass (top 6) 0), [], []⟩
def fn : List He.DefD := [d_law_pool, d_law_draw, d_law_pick, d_law_number, d_law_put, d_is_whole, d_is_tuple_of, d_are_wholes, d_text_of_row, d_row_text, d_law_figures, d_law_read_row, d_law_row_text, d_law_ratio, d_is_fraction, d_text_of_fraction, d_fraction_text, d_law_row, d_law_not_number, d_law_not_row, d_law_is_whole, d_law_is_row, d_law_wrong_given, d_is_between, d_are_between, d_is_pack, d_is_list_by, d_check_list, d_text_of_list, d_list_text, d_is_figures, d_is_number_text, d_read_numbers, d_read_line, d_read_lines, d_list_with_text, d_read_list, d_law_ask, d_law_refused, d_law_same, d_law_is_due, d_law_refused_each, d_law_not_fraction, d_law_not_pack, d_law_not_list, d_law_is_list, d_law_right, d_law, d_InvalidOrder, d_InvalidNumber, d_NotAList, d_InvalidText]
def fa : List He.Fa := [.free "len", .free "min", .free "max", .free "range", .free "int", .free "abs", .free "divmod", .free "tuple", .free "bool", .free "isinstance", .free "all", .glo "InvalidOrder", .str "BLANK" " ", .free "str", .glo "InvalidNumber", .free "list", .int "MANY" 0, .int "MOST_GOODS" 6, .int "PACKS" 1, .int "MOST_PACKS" 8, .int "MOST_IN_PACK" 9999, .glo "NotAList", .str "GOODS_WORD" "goods", .str "PACK_WORD" "pack", .str "END" "\n", .str "MINUS" "-", .str "FIGURES" "0123456789", .free "any", .glo "InvalidText", .glo "PackError", .free "ValueError", .glo "_law_pool", .glo "_law_draw", .glo "_law_pick", .glo "_law_number", .glo "_law_put", .glo "is_whole", .glo "is_tuple_of", .glo "are_wholes", .glo "text_of_row", .glo "row_text", .glo "_law_figures", .glo "_law_read_row", .glo "_law_row_text", .glo "_law_ratio", .glo "is_fraction", .glo "text_of_fraction", .glo "fraction_text", .glo "_law_row", .glo "_law_not_number", .glo "_law_not_row", .glo "_law_is_whole", .glo "_law_is_row", .glo "_law_wrong_given", .glo "is_between", .glo "are_between", .glo "is_pack", .glo "is_list_by", .glo "check_list", .glo "text_of_list", .glo "list_text", .glo "is_figures", .glo "is_number_text", .glo "read_numbers", .glo "read_line", .glo "read_lines", .glo "list_with_text", .glo "read_list", .glo "_law_ask", .glo "_law_refused", .glo "_law_same", .glo "_law_is_due", .glo "_law_refused_each", .glo "_law_not_fraction", .glo "_law_not_pack", .glo "_law_not_list", .glo "_law_is_list", .glo "_law_right", .glo "law"]
def exs : List (PySem.W.Frag → Bool) := [fun K => oexB K "InvalidOrder", fun K => noatB K "InvalidOrder" "given", fun K => oexB K "InvalidNumber", fun K => noatB K "InvalidNumber" "given", fun K => oexB K "NotAList", fun K => noatB K "NotAList" "given", fun K => oexB K "InvalidText", fun K => noatB K "InvalidText" "given", bltB "gcd" "math.gcd", undB tblU, isEB tblI, xfsB xc_given "given", isTB tblT]
abbrev ZZ (K : PySem.W.Frag) (mg : Str → Option Value) (base : Heap) : Prop := Zx fa fn (exAll exs) K mg base
section
variable {P : Program} {w : World} {K : PySem.W.Frag} {mg : Str → Option Value} {base : Heap}
theorem f_len (Z : ZZ K mg base) : mg "len" = none := Z.free 0
theorem f_min (Z : ZZ K mg base) : mg "min" = none := Z.free 1
theorem f_max (Z : ZZ K mg base) : mg "max" = none := Z.free 2
theorem f_range (Z : ZZ K mg base) : mg "range" = none := Z.free 3
theorem f_int (Z : ZZ K mg base) : mg "int" = none := Z.free 4
theorem f_abs (Z : ZZ K mg base) : mg "abs" = none := Z.free 5
theorem f_divmod (Z : ZZ K mg base) : mg "divmod" = none := Z.free 6
theorem f_tuple (Z : ZZ K mg base) : mg "tuple" = none := Z.free 7
theorem f_bool (Z : ZZ K mg base) : mg "bool" = none := Z.free 8
theorem f_isinstance (Z : ZZ K mg base) : mg "isinstance" = none := Z.free 9
theorem f_all (Z : ZZ K mg base) : mg "all" = none := Z.free 10
theorem g_InvalidOrder (Z : ZZ K mg base) : mg "InvalidOrder" = some (.ref (He.ga K "InvalidOrder")) := Z.glo 11
theorem c_BLANK (Z : ZZ K mg base) : ∃ t, mg "BLANK" = some (.str " " t) := Z.str 12
theorem f_str (Z : ZZ K mg base) : mg "str" = none := Z.free 13
theorem g_InvalidNumber (Z : ZZ K mg base) : mg "InvalidNumber" = some (.ref (He.ga K "InvalidNumber")) := Z.glo 14
theorem f_list (Z : ZZ K mg base) : mg "list" = none := Z.free 15
theorem c_MANY (Z : ZZ K mg base) : ∃ t, mg "MANY" = some (.int 0 t) := Z.int 16
theorem c_MOST_GOODS (Z : ZZ K mg base) : ∃ t, mg "MOST_GOODS" = some (.int 6 t) := Z.int 17
theorem c_PACKS (Z : ZZ K mg base) : ∃ t, mg "PACKS" = some (.int 1 t) := Z.int 18
theorem c_MOST_PACKS (Z : ZZ K mg base) : ∃ t, mg "MOST_PACKS" = some (.int 8 t) := Z.int 19
theorem c_MOST_IN_PACK (Z : ZZ K mg base) : ∃ t, mg "MOST_IN_PACK" = some (.int 9999 t) := Z.int 20
theorem g_NotAList (Z : ZZ K mg base) : mg "NotAList" = some (.ref (He.ga K "NotAList")) := Z.glo 21
theorem c_GOODS_WORD (Z : ZZ K mg base) : ∃ t, mg "GOODS_WORD" = some (.str "goods" t) := Z.str 22
theorem c_PACK_WORD (Z : ZZ K mg base) : ∃ t, mg "PACK_WORD" = some (.str "pack" t) := Z.str 23
theorem c_END (Z : ZZ K mg base) : ∃ t, mg "END" = some (.str "\n" t) := Z.str 24
theorem c_MINUS (Z : ZZ K mg base) : ∃ t, mg "MINUS" = some (.str "-" t) := Z.str 25
theorem c_FIGURES (Z : ZZ K mg base) : ∃ t, mg "FIGURES" = some (.str "0123456789" t) := Z.str 26
theorem f_any (Z : ZZ K mg base) : mg "any" = none := Z.free 27
theorem g_InvalidText (Z : ZZ K mg base) : mg "InvalidText" = some (.ref (He.ga K "InvalidText")) := Z.glo 28
theorem g_PackError (Z : ZZ K mg base) : mg "PackError" = some (.ref (He.ga K "PackError")) := Z.glo 29
theorem f_ValueError (Z : ZZ K mg base) : mg "ValueError" = none := Z.free 30
theorem g__law_pool (Z : ZZ K mg base) : mg "_law_pool" = some (.ref (He.ga K "_law_pool")) := Z.glo 31
theorem g__law_draw (Z : ZZ K mg base) : mg "_law_draw" = some (.ref (He.ga K "_law_draw")) := Z.glo 32
theorem g__law_pick (Z : ZZ K mg base) : mg "_law_pick" = some (.ref (He.ga K "_law_pick")) := Z.glo 33
theorem g__law_number (Z : ZZ K mg base) : mg "_law_number" = some (.ref (He.ga K "_law_number")) := Z.glo 34
theorem g__law_put (Z : ZZ K mg base) : mg "_law_put" = some (.ref (He.ga K "_law_put")) := Z.glo 35
theorem g_is_whole (Z : ZZ K mg base) : mg "is_whole" = some (.ref (He.ga K "is_whole")) := Z.glo 36
theorem g_is_tuple_of (Z : ZZ K mg base) : mg "is_tuple_of" = some (.ref (He.ga K "is_tuple_of")) := Z.glo 37
theorem g_are_wholes (Z : ZZ K mg base) : mg "are_wholes" = some (.ref (He.ga K "are_wholes")) := Z.glo 38
theorem g_text_of_row (Z : ZZ K mg base) : mg "text_of_row" = some (.ref (He.ga K "text_of_row")) := Z.glo 39
theorem g_row_text (Z : ZZ K mg base) : mg "row_text" = some (.ref (He.ga K "row_text")) := Z.glo 40
theorem g__law_figures (Z : ZZ K mg base) : mg "_law_figures" = some (.ref (He.ga K "_law_figures")) := Z.glo 41
theorem g__law_read_row (Z : ZZ K mg base) : mg "_law_read_row" = some (.ref (He.ga K "_law_read_row")) := Z.glo 42
theorem g__law_row_text (Z : ZZ K mg base) : mg "_law_row_text" = some (.ref (He.ga K "_law_row_text")) := Z.glo 43
theorem g__law_ratio (Z : ZZ K mg base) : mg "_law_ratio" = some (.ref (He.ga K "_law_ratio")) := Z.glo 44
theorem g_is_fraction (Z : ZZ K mg base) : mg "is_fraction" = some (.ref (He.ga K "is_fraction")) := Z.glo 45
theorem g_text_of_fraction (Z : ZZ K mg base) : mg "text_of_fraction" = some (.ref (He.ga K "text_of_fraction")) := Z.glo 46
theorem g_fraction_text (Z : ZZ K mg base) : mg "fraction_text" = some (.ref (He.ga K "fraction_text")) := Z.glo 47
theorem g__law_row (Z : ZZ K mg base) : mg "_law_row" = some (.ref (He.ga K "_law_row")) := Z.glo 48
theorem g__law_not_number (Z : ZZ K mg base) : mg "_law_not_number" = some (.ref (He.ga K "_law_not_number")) := Z.glo 49
theorem g__law_not_row (Z : ZZ K mg base) : mg "_law_not_row" = some (.ref (He.ga K "_law_not_row")) := Z.glo 50
theorem g__law_is_whole (Z : ZZ K mg base) : mg "_law_is_whole" = some (.ref (He.ga K "_law_is_whole")) := Z.glo 51
theorem g__law_is_row (Z : ZZ K mg base) : mg "_law_is_row" = some (.ref (He.ga K "_law_is_row")) := Z.glo 52
theorem g__law_wrong_given (Z : ZZ K mg base) : mg "_law_wrong_given" = some (.ref (He.ga K "_law_wrong_given")) := Z.glo 53
theorem g_is_between (Z : ZZ K mg base) : mg "is_between" = some (.ref (He.ga K "is_between")) := Z.glo 54
theorem g_are_between (Z : ZZ K mg base) : mg "are_between" = some (.ref (He.ga K "are_between")) := Z.glo 55
theorem g_is_pack (Z : ZZ K mg base) : mg "is_pack" = some (.ref (He.ga K "is_pack")) := Z.glo 56
theorem g_is_list_by (Z : ZZ K mg base) : mg "is_list_by" = some (.ref (He.ga K "is_list_by")) := Z.glo 57
theorem g_check_list (Z : ZZ K mg base) : mg "check_list" = some (.ref (He.ga K "check_list")) := Z.glo 58
theorem g_text_of_list (Z : ZZ K mg base) : mg "text_of_list" = some (.ref (He.ga K "text_of_list")) := Z.glo 59
theorem g_list_text (Z : ZZ K mg base) : mg "list_text" = some (.ref (He.ga K "list_text")) := Z.glo 60
theorem g_is_figures (Z : ZZ K mg base) : mg "is_figures" = some (.ref (He.ga K "is_figures")) := Z.glo 61
theorem g_is_number_text (Z : ZZ K mg base) : mg "is_number_text" = some (.ref (He.ga K "is_number_text")) := Z.glo 62
theorem g_read_numbers (Z : ZZ K mg base) : mg "read_numbers" = some (.ref (He.ga K "read_numbers")) := Z.glo 63
theorem g_read_line (Z : ZZ K mg base) : mg "read_line" = some (.ref (He.ga K "read_line")) := Z.glo 64
theorem g_read_lines (Z : ZZ K mg base) : mg "read_lines" = some (.ref (He.ga K "read_lines")) := Z.glo 65
theorem g_list_with_text (Z : ZZ K mg base) : mg "list_with_text" = some (.ref (He.ga K "list_with_text")) := Z.glo 66
theorem g_read_list (Z : ZZ K mg base) : mg "read_list" = some (.ref (He.ga K "read_list")) := Z.glo 67
theorem g__law_ask (Z : ZZ K mg base) : mg "_law_ask" = some (.ref (He.ga K "_law_ask")) := Z.glo 68
theorem g__law_refused (Z : ZZ K mg base) : mg "_law_refused" = some (.ref (He.ga K "_law_refused")) := Z.glo 69
theorem g__law_same (Z : ZZ K mg base) : mg "_law_same" = some (.ref (He.ga K "_law_same")) := Z.glo 70
theorem g__law_is_due (Z : ZZ K mg base) : mg "_law_is_due" = some (.ref (He.ga K "_law_is_due")) := Z.glo 71
theorem g__law_refused_each (Z : ZZ K mg base) : mg "_law_refused_each" = some (.ref (He.ga K "_law_refused_each")) := Z.glo 72
theorem g__law_not_fraction (Z : ZZ K mg base) : mg "_law_not_fraction" = some (.ref (He.ga K "_law_not_fraction")) := Z.glo 73
theorem g__law_not_pack (Z : ZZ K mg base) : mg "_law_not_pack" = some (.ref (He.ga K "_law_not_pack")) := Z.glo 74
theorem g__law_not_list (Z : ZZ K mg base) : mg "_law_not_list" = some (.ref (He.ga K "_law_not_list")) := Z.glo 75
theorem g__law_is_list (Z : ZZ K mg base) : mg "_law_is_list" = some (.ref (He.ga K "_law_is_list")) := Z.glo 76
theorem g__law_right (Z : ZZ K mg base) : mg "_law_right" = some (.ref (He.ga K "_law_right")) := Z.glo 77
theorem g_law (Z : ZZ K mg base) : mg "law" = some (.ref (He.ga K "law")) := Z.glo 78
theorem o_InvalidOrder (Z : ZZ K mg base) : Oex K "InvalidOrder" "given" := oex_ok (exAll_at Z.c.2 0 rfl) (exAll_at Z.c.2 1 rfl)
theorem o_InvalidNumber (Z : ZZ K mg base) : Oex K "InvalidNumber" "given" := oex_ok (exAll_at Z.c.2 2 rfl) (exAll_at Z.c.2 3 rfl)
theorem o_NotAList (Z : ZZ K mg base) : Oex K "NotAList" "given" := oex_ok (exAll_at Z.c.2 4 rfl) (exAll_at Z.c.2 5 rfl)
theorem o_InvalidText (Z : ZZ K mg base) : Oex K "InvalidText" "given" := oex_ok (exAll_at Z.c.2 6 rfl) (exAll_at Z.c.2 7 rfl)
theorem gcd (Z : ZZ K mg base) : mg "gcd" = some (.builtin "math.gcd") := bltB_ok Z.x Z.g (exAll_at Z.c.2 8 rfl)
theorem und_ok (Z : ZZ K mg base) : ∀ c cn b, und c cn = some b → PySem.W.exmOne K (.ref (He.ga K c)) (.ref (He.ga K cn)) = some b := by
  rw [und]
  exact undB_ok (exAll_at Z.c.2 9 rfl)
theorem isq_ok (Z : ZZ K mg base) : ∀ c cn b, isq c cn = some b → xisB K (He.ga K c) = true ∧ PySem.W.kitOne K (.ref (He.ga K c)) (.ref (He.ga K cn)) = some b := by
  rw [isq]
  exact isEB_ok (exAll_at Z.c.2 10 rfl)
theorem xfs_given (Z : ZZ K mg base) : ∀ c, xc_given.contains c = true → XfC K (He.ga K c) ∧ PySem.W.findIn K (.ref (He.ga K c)) "given" = some none := xfsB_ok (exAll_at Z.c.2 11 rfl)
theorem isqt_ok (Z : ZZ K mg base) : ∀ c n b, isqt c n = some b → xisB K (He.ga K c) = true ∧ PySem.W.kitOne K (.ref (He.ga K c)) (.type n) = some b := by
  rw [isqt]
  exact isTB_ok (exAll_at Z.c.2 12 rfl)
theorem ini_InvalidOrder (Z : ZZ K mg base) : ∃ fd, FnOk P w K mg base (L2.CX P w) 1 (He.ma K (He.ga K "InvalidOrder") "__init__") fd ["self", "given"] (spIni (He.ga K "InvalidOrder") "given") ∧ Binds K fd ["self", "given"] [] := by
  obtain ⟨fd, F⟩ := Z.def_ 48 (d := d_InvalidOrder)
  exact ⟨fd, ini_ok F (o_InvalidOrder Z) ⟨rfl, rfl, rfl, by decide +kernel, rfl, by decide +kernel, by decide +kernel⟩ rfl rfl rfl rfl, FunD.bindsN F fun _ _ _ _ _ _ us hl => match us, hl with | [_, _], _ => rfl⟩
theorem ini_InvalidNumber (Z : ZZ K mg base) : ∃ fd, FnOk P w K mg base (L2.CX P w) 1 (He.ma K (He.ga K "InvalidNumber") "__init__") fd ["self", "given"] (spIni (He.ga K "InvalidNumber") "given") ∧ Binds K fd ["self", "given"] [] := by
  obtain ⟨fd, F⟩ := Z.def_ 49 (d := d_InvalidNumber)
  exact ⟨fd, ini_ok F (o_InvalidNumber Z) ⟨rfl, rfl, rfl, by decide +kernel, rfl, by decide +kernel, by decide +kernel⟩ rfl rfl rfl rfl, FunD.bindsN F fun _ _ _ _ _ _ us hl => match us, hl with | [_, _], _ => rfl⟩
theorem ini_NotAList (Z : ZZ K mg base) : ∃ fd, FnOk P w K mg base (L2.CX P w) 1 (He.ma K (He.ga K "NotAList") "__init__") fd ["self", "given"] (spIni (He.ga K "NotAList") "given") ∧ Binds K fd ["self", "given"] [] := by
  obtain ⟨fd, F⟩ := Z.def_ 50 (d := d_NotAList)
  exact ⟨fd, ini_ok F (o_NotAList Z) ⟨rfl, rfl, rfl, by decide +kernel, rfl, by decide +kernel, by decide +kernel⟩ rfl rfl rfl rfl, FunD.bindsN F fun _ _ _ _ _ _ us hl => match us, hl with | [_, _], _ => rfl⟩
theorem ini_InvalidText (Z : ZZ K mg base) : ∃ fd, FnOk P w K mg base (L2.CX P w) 1 (He.ma K (He.ga K "InvalidText") "__init__") fd ["self", "given"] (spIni (He.ga K "InvalidText") "given") ∧ Binds K fd ["self", "given"] [] := by
  obtain ⟨fd, F⟩ := Z.def_ 51 (d := d_InvalidText)
  exact ⟨fd, ini_ok F (o_InvalidText Z) ⟨rfl, rfl, rfl, by decide +kernel, rfl, by decide +kernel, by decide +kernel⟩ rfl rfl rfl rfl, FunD.bindsN F fun _ _ _ _ _ _ us hl => match us, hl with | [_, _], _ => rfl⟩
theorem sc_law_pool : FnScope ["script", "lap", "own", "stirred", "cell"] ["script", "lap"] (defScope (top 46)) := ⟨rfl, rfl, rfl, by decide +kernel, rfl, by decide +kernel, by decide +kernel⟩
theorem sc_law_draw : FnScope ["pool", "many", "figure", "held"] ["pool", "many"] (defScope (top 47)) := ⟨rfl, rfl, rfl, by decide +kernel, rfl, by decide +kernel, by decide +kernel⟩
theorem sc_law_pick : FnScope ["pool", "some"] ["pool", "some"] (defScope (top 48)) := ⟨rfl, rfl, rfl, by decide +kernel, rfl, by decide +kernel, by decide +kernel⟩
theorem sc_law_number : FnScope ["pool", "way"] ["pool", "way"] (defScope (top 56)) := ⟨rfl, rfl, rfl, by decide +kernel, rfl, by decide +kernel, by decide +kernel⟩
theorem sc_law_put : FnScope ["some", "at", "each"] ["some", "at", "each"] (defScope (top 52)) := ⟨rfl, rfl, rfl, by decide +kernel, rfl, by decide +kernel, by decide +kernel⟩
theorem sc_is_whole : FnScope ["value"] ["value"] (defScope (top 8)) := ⟨rfl, rfl, rfl, by decide +kernel, rfl, by decide +kernel, by decide +kernel⟩
theorem sc_is_tuple_of : FnScope ["value", "many"] ["value", "many"] (defScope (top 10)) := ⟨rfl, rfl, rfl, by decide +kernel, rfl, by decide +kernel, by decide +kernel⟩
theorem sc_are_wholes : FnScope ["value", "many", "each"] ["value", "many"] (defScope (top 11)) := ⟨rfl, rfl, rfl, by decide +kernel, rfl, by decide +kernel, by decide +kernel⟩
theorem sc_text_of_row : FnScope ["row", "number"] ["row"] (defScope (top 33)) := ⟨rfl, rfl, rfl, by decide +kernel, rfl, by decide +kernel, by decide +kernel⟩
theorem sc_row_text : FnScope ["row"] ["row"] (defScope (top 41)) := ⟨rfl, rfl, rfl, by decide +kernel, rfl, by decide +kernel, by decide +kernel⟩
theorem kb_row_text_row {f : Addr} {fd : FuncData} (F : FunD K "row_text" "row_text" (defArgs (top 41)) (defBody (top 41)) (defScope (top 41)) [] [] f fd) : BindsK fd ["row"] ["row"] [0] := bindsK_of F fun _ _ _ _ _ _ ws hl => match ws, hl with | [_], _ => rfl
theorem sc_law_figures : FnScope ["word", "plain", "sign"] ["word"] (defScope (top 58)) := ⟨rfl, rfl, rfl, by decide +kernel, rfl, by decide +kernel, by decide +kernel⟩
theorem sc_law_read_row : FnScope ["text", "many", "row", "word"] ["text", "many"] (defScope (top 60)) := ⟨rfl, rfl, rfl, by decide +kernel, rfl, by decide +kernel, by decide +kernel⟩
theorem sc_law_row_text : FnScope ["row", "each"] ["row"] (defScope (top 59)) := ⟨rfl, rfl, rfl, by decide +kernel, rfl, by decide +kernel, by decide +kernel⟩
theorem sc_law_ratio : FnScope ["top", "low", "one", "other", "lap"] ["top", "low"] (defScope (top 49)) := ⟨rfl, rfl, rfl, by decide +kernel, rfl, by decide +kernel, by decide +kernel⟩
theorem sc_is_fraction : FnScope ["value"] ["value"] (defScope (top 13)) := ⟨rfl, rfl, rfl, by decide +kernel, rfl, by decide +kernel, by decide +kernel⟩
theorem sc_text_of_fraction : FnScope ["value"] ["value"] (defScope (top 35)) := ⟨rfl, rfl, rfl, by decide +kernel, rfl, by decide +kernel, by decide +kernel⟩
theorem sc_fraction_text : FnScope ["fraction"] ["fraction"] (defScope (top 42)) := ⟨rfl, rfl, rfl, by decide +kernel, rfl, by decide +kernel, by decide +kernel⟩
theorem kb_fraction_text_fraction {f : Addr} {fd : FuncData} (F : FunD K "fraction_text" "fraction_text" (defArgs (top 42)) (defBody (top 42)) (defScope (top 42)) [] [] f fd) : BindsK fd ["fraction"] ["fraction"] [0] := bindsK_of F fun _ _ _ _ _ _ ws hl => match ws, hl with | [_], _ => rfl
theorem sc_law_row : FnScope ["pool", "many", "way", "lap"] ["pool", "many", "way"] (defScope (top 57)) := ⟨rfl, rfl, rfl, by decide +kernel, rfl, by decide +kernel, by decide +kernel⟩
theorem sc_law_not_number : FnScope ["pool"] ["pool"] (defScope (top 63)) := ⟨rfl, rfl, rfl, by decide +kernel, rfl, by decide +kernel, by decide +kernel⟩
theorem sc_law_not_row : FnScope ["pool", "row", "at", "some"] ["pool", "row"] (defScope (top 64)) := ⟨rfl, rfl, rfl, by decide +kernel, rfl, by decide +kernel, by decide +kernel⟩
theorem sc_law_is_whole : FnScope ["told"] ["told"] (defScope (top 50)) := ⟨rfl, rfl, rfl, by decide +kernel, rfl, by decide +kernel, by decide +kernel⟩
theorem sc_law_is_row : FnScope ["told", "many", "each"] ["told", "many"] (defScope (top 61)) := ⟨rfl, rfl, rfl, by decide +kernel, rfl, by decide +kernel, by decide +kernel⟩
theorem sc_law_wrong_given : FnScope ["word", "some", "each"] ["word", "some"] (defScope (top 55)) := ⟨rfl, rfl, rfl, by decide +kernel, rfl, by decide +kernel, by decide +kernel⟩
theorem sc_is_between : FnScope ["value", "low", "high"] ["value", "low", "high"] (defScope (top 9)) := ⟨rfl, rfl, rfl, by decide +kernel, rfl, by decide +kernel, by decide +kernel⟩
theorem sc_are_between : FnScope ["value", "many", "low", "high", "each"] ["value", "many", "low", "high"] (defScope (top 12)) := ⟨rfl, rfl, rfl, by decide +kernel, rfl, by decide +kernel, by decide +kernel⟩
theorem sc_is_pack : FnScope ["many", "value"] ["many", "value"] (defScope (top 20)) := ⟨rfl, rfl, rfl, by decide +kernel, rfl, by decide +kernel, by decide +kernel⟩
theorem sc_is_list_by : FnScope ["value", "each"] ["value"] (defScope (top 21)) := ⟨rfl, rfl, rfl, by decide +kernel, rfl, by decide +kernel, by decide +kernel⟩
theorem sc_check_list : FnScope ["value"] ["value"] (defScope (top 23)) := ⟨rfl, rfl, rfl, by decide +kernel, rfl, by decide +kernel, by decide +kernel⟩
theorem sc_text_of_list : FnScope ["stock", "lines", "pack", "line"] ["stock"] (defScope (top 36)) := ⟨rfl, rfl, rfl, by decide +kernel, rfl, by decide +kernel, by decide +kernel⟩
theorem sc_list_text : FnScope ["stock"] ["stock"] (defScope (top 43)) := ⟨rfl, rfl, rfl, by decide +kernel, rfl, by decide +kernel, by decide +kernel⟩
theorem kb_list_text_stock {f : Addr} {fd : FuncData} (F : FunD K "list_text" "list_text" (defArgs (top 43)) (defBody (top 43)) (defScope (top 43)) [] [] f fd) : BindsK fd ["stock"] ["stock"] [0] := bindsK_of F fun _ _ _ _ _ _ ws hl => match ws, hl with | [_], _ => rfl
theorem sc_is_figures : FnScope ["text", "sign"] ["text"] (defScope (top 31)) := ⟨rfl, rfl, rfl, by decide +kernel, rfl, by decide +kernel, by decide +kernel⟩
theorem sc_is_number_text : FnScope ["text"] ["text"] (defScope (top 32)) := ⟨rfl, rfl, rfl, by decide +kernel, rfl, by decide +kernel, by decide +kernel⟩
theorem sc_read_numbers : FnScope ["words", "word"] ["words"] (defScope (top 34)) := ⟨rfl, rfl, rfl, by decide +kernel, rfl, by decide +kernel, by decide +kernel⟩
theorem sc_read_line : FnScope ["line", "word", "words"] ["line", "word"] (defScope (top 37)) := ⟨rfl, rfl, rfl, by decide +kernel, rfl, by decide +kernel, by decide +kernel⟩
theorem sc_read_lines : FnScope ["lines", "many", "packs", "line", "found"] ["lines"] (defScope (top 38)) := ⟨rfl, rfl, rfl, by decide +kernel, rfl, by decide +kernel, by decide +kernel⟩
theorem sc_list_with_text : FnScope ["text", "found"] ["text"] (defScope (top 39)) := ⟨rfl, rfl, rfl, by decide +kernel, rfl, by decide +kernel, by decide +kernel⟩
theorem sc_read_list : FnScope ["text", "found"] ["text"] (defScope (top 44)) := ⟨rfl, rfl, rfl, by decide +kernel, rfl, by decide +kernel, by decide +kernel⟩
theorem kb_read_list_text {f : Addr} {fd : FuncData} (F : FunD K "read_list" "read_list" (defArgs (top 44)) (defBody (top 44)) (defScope (top 44)) [] [] f fd) : BindsK fd ["text"] ["text"] [0] := bindsK_of F fun _ _ _ _ _ _ ws hl => match ws, hl with | [_], _ => rfl
theorem sc_law_ask : FnScope ["word", "args", "is_named"] ["word", "args", "is_named"] (defScope (top 66)) := ⟨rfl, rfl, rfl, by decide +kernel, rfl, by decide +kernel, by decide +kernel⟩
theorem sc_law_refused : FnScope ["word", "args", "is_named", "found", "e"] ["word", "args", "is_named"] (defScope (top 67)) := ⟨rfl, rfl, rfl, by decide +kernel, rfl, by decide +kernel, by decide +kernel⟩
theorem sc_law_same : FnScope ["one", "other", "k"] ["one", "other"] (defScope (top 51)) := ⟨rfl, rfl, rfl, by decide +kernel, rfl, by decide +kernel, by decide +kernel⟩
theorem sc_law_is_due : FnScope ["told", "due"] ["told", "due"] (defScope (top 53)) := ⟨rfl, rfl, rfl, by decide +kernel, rfl, by decide +kernel, by decide +kernel⟩
theorem sc_law_refused_each : FnScope ["pool", "word", "right", "wrong", "k", "value", "due", "args", "j"] ["pool", "word", "right", "wrong"] (defScope (top 54)) := ⟨rfl, rfl, rfl, by decide +kernel, rfl, by decide +kernel, by decide +kernel⟩
theorem sc_law_not_fraction : FnScope ["pool", "some"] ["pool"] (defScope (top 68)) := ⟨rfl, rfl, rfl, by decide +kernel, rfl, by decide +kernel, by decide +kernel⟩
theorem sc_law_not_pack : FnScope ["pool", "row", "at"] ["pool", "row"] (defScope (top 65)) := ⟨rfl, rfl, rfl, by decide +kernel, rfl, by decide +kernel, by decide +kernel⟩
theorem sc_law_not_list : FnScope ["pool", "stock", "many", "packs", "way", "at"] ["pool", "stock"] (defScope (top 69)) := ⟨rfl, rfl, rfl, by decide +kernel, rfl, by decide +kernel, by decide +kernel⟩
theorem sc_law_is_list : FnScope ["told", "pack"] ["told"] (defScope (top 62)) := ⟨rfl, rfl, rfl, by decide +kernel, rfl, by decide +kernel, by decide +kernel⟩
theorem sc_law_right : FnScope ["pool", "turn", "row", "told", "top", "low", "rate", "rows", "many", "stock", "lists", "texts", "value", "each"] ["pool"] (defScope (top 70)) := ⟨rfl, rfl, rfl, by decide +kernel, rfl, by decide +kernel, by decide +kernel⟩
theorem sc_law : FnScope ["script", "turn"] ["script"] (defScope (top 71)) := ⟨rfl, rfl, rfl, by decide +kernel, rfl, by decide +kernel, by decide +kernel⟩
theorem ok_law_pool (Z : ZZ K mg base) : ∃ fd, DefOk P w K mg base 2 "_law_pool" (top 46) fd ["script", "lap"] 2 [] w_law_pool := by
  obtain ⟨fd, F⟩ := Z.def_ 0 (d := d_law_pool)
  rw [w_law_pool]
  refine ⟨fd, F, def_ok (k := 1) 2 [] F sc_law_pool rfl fun cdv A outer s H F0 E ad hr tk => ?_, Z.glo 31, FunD.bindsN F fun _ _ _ _ _ _ us hl => match us, hl with | [_, _], _ => rfl⟩
  have nd := sc_law_pool.nd
  exact (dss_cons (ds_par2 2 3 rfl nd (dcs_cons (dc_val (de_frz (dc_if (dt_cmp op_lt fLt_ok (dx_e (de_var 1)) (dx_e (de_frz (dc_callB call_len fLen_ok (f_len Z) (da_cons (dx_e (de_var 0)) da_nil))))) (dc_callTy call_intT fIntT_ok (f_int Z) (da_cons (dx_e (de_frz (dc_ix ix_seq fIx_ok (dx_e (de_var 0)) (dx_e (de_var 1))))) da_nil)) (dc_bin op_addD fAdd_ok (dx_e (de_frz (dc_bin op_mulD fMul_ok (dx_e de_int) (dx_e (de_var 1))))) (dx_e de_int))))) (dcs_cons (dc_val (de_frz (dc_bin op_addD fAdd_ok (dx_e de_int) (dx_e (de_frz (dc_bin op_mulD fMul_ok (dx_e de_int) (dx_e (de_var 1)))))))) dcs_nil))) (pss_eq (m_law_pool_3.eq_1) (dss_cons (ds_for (passes_of rfl) rfl (di_sq (de_frz (dc_slice (dx_e (de_var 0)) do_none (do_some de_int)))) (dg_nm 4 nd) (pss_eq (m_law_pool_1.eq_1) (dss_one (ds_set 3 (dc_val (de_frz (dc_bin op_modN fMod_ok (dx_e (de_frz (dc_callTy call_int1 fInt_ok (f_int Z) (da_cons (dx_e (de_frz (dc_bin op_addD fAdd_ok (dx_e (de_frz (dc_bin op_addD fAdd_ok (dx_e (de_frz (dc_bin op_mulD fMul_ok (dx_e (de_var 3)) (dx_e de_int)))) (dx_e (de_frz (dc_bin op_modN fMod_ok (dx_e (de_frz (dc_callTy call_intT fIntT_ok (f_int Z) (da_cons (dx_e (de_var 4)) da_nil)))) (dx_e de_int))))))) (dx_e de_int)))) da_nil)))) (dx_e de_int)))) nd)))) (pss_eq (m_law_pool_2.eq_1) (dss_one (ds_ret (dc_lst (ddc (de_frz (dc_bin op_modN fMod_ok (dx_e (de_frz (dc_callTy call_int1 fInt_ok (f_int Z) (da_cons (dx_e (de_frz (dc_bin op_addD fAdd_ok (dx_e (de_var 3)) (dx_e (de_frz (dc_bin op_mulD fMul_ok (dx_e (de_var 2)) (dx_e de_int))))))) da_nil)))) (dx_e de_int))) (ddc (de_frz (dc_if (dt_w (dw_or (dt_cmp op_lt fLt_ok (dx_e (de_var 2)) (dx_e de_int)) (dw_or1 (dt_cmp op_ge fGe_ok (dx_e (de_var 2)) (dx_e (de_frz (dc_bin op_pow fPow_ok (dx_e de_int) (dx_e de_int)))))))) (dc_callB call_abs fAbs_ok (f_abs Z) (da_cons (dx_e (de_var 2)) da_nil)) (dc_val de_int))) (ddc de_int ddn))))))))))
theorem ok_law_draw_iv (Z : ZZ K mg base) : ∃ fd, DefOk P w K mg base 2 "_law_draw" (top 47) fd ["pool", "many"] 2 [0] w_law_draw_iv := by
  obtain ⟨fd, F⟩ := Z.def_ 1 (d := d_law_draw)
  rw [w_law_draw_iv]
  refine ⟨fd, F, def_ok (k := 1) 2 [0] F sc_law_draw rfl fun cdv A outer s H F0 E ad hr tk => ?_, Z.glo 32, FunD.bindsN F fun _ _ _ _ _ _ us hl => match us, hl with | [_, _], _ => rfl⟩
  have nd := sc_law_draw.nd
  exact (dss_cons (ds_if (dt_cmp op_gt fGt_ok (dx_e (de_frz (dc_ix ix_seq fIx_ok (dx_s 0) (dx_e de_int)))) (dx_e de_int)) (dss_cons (ds_asg (dc_val (de_frz (dc_callB call_divmodW fDivmod_ok (f_divmod Z) (da_cons (dx_e (de_frz (dc_ix ix_seq fIx_ok (dx_s 0) (dx_e de_int)))) (da_cons (dx_e (de_var 1)) da_nil))))) (dg_tp rfl (dgs_cons (dg_sub 0 de_int) (dgs_cons (dg_nm 2 nd) dgs_nil)))) (dss_one (ds_ret (dc_val (de_var 2))))) dss_nil) (dss_cons (ds_asg (dc_val (de_frz (dc_bin op_addD fAdd_ok (dx_e (de_frz (dc_ix ix_seq fIx_ok (dx_s 0) (dx_e de_int)))) (dx_e de_int)))) (dg_sub 0 de_int)) (dss_cons (ds_set 3 (dc_val (de_frz (dc_callTy call_intT fIntT_ok (f_int Z) (da_cons (dx_e (de_frz (dc_ix ix_seq fIx_ok (dx_s 0) (dx_e de_int)))) da_nil)))) nd) (dss_cons (ds_asg (dc_val (de_frz (dc_bin op_modN fMod_ok (dx_e (de_frz (dc_callTy call_int1 fInt_ok (f_int Z) (da_cons (dx_e (de_frz (dc_bin op_addD fAdd_ok (dx_e (de_frz (dc_bin op_addD fAdd_ok (dx_e (de_frz (dc_bin op_mulD fMul_ok (dx_e (de_var 3)) (dx_e (de_frz (dc_bin op_addD fAdd_ok (dx_e (de_frz (dc_bin op_modN fMod_ok (dx_e (de_var 3)) (dx_e de_int)))) (dx_e de_int))))))) (dx_e (de_frz (dc_bin op_mulD fMul_ok (dx_e de_int) (dx_e (de_frz (dc_ix ix_seq fIx_ok (dx_s 0) (dx_e de_int)))))))))) (dx_e de_int)))) da_nil)))) (dx_e de_int)))) (dg_sub 0 de_int)) (dss_one (ds_ret (dc_bin op_modN fMod_ok (dx_e (de_frz (dc_callTy call_int1 fInt_ok (f_int Z) (da_cons (dx_e (de_frz (dc_bin op_fdivD fDiv_ok (dx_e (de_frz (dc_ix ix_seq fIx_ok (dx_s 0) (dx_e de_int)))) (dx_e de_int)))) da_nil)))) (dx_e (de_var 1)))))))))
theorem ok_law_pick_iv (Z : ZZ K mg base) : ∃ fd, DefOk P w K mg base 3 "_law_pick" (top 48) fd ["pool", "some"] 2 [0] w_law_pick_iv := by
  obtain ⟨_, D_law_draw_iv⟩ := ok_law_draw_iv (P := P) (w := w) Z
  obtain ⟨fd, F⟩ := Z.def_ 2 (d := d_law_pick)
  rw [w_law_pick_iv]
  refine ⟨fd, F, def_ok (k := 2) 2 [0] F sc_law_pick rfl fun cdv A outer s H F0 E ad hr tk => ?_, Z.glo 33, FunD.bindsN F fun _ _ _ _ _ _ us hl => match us, hl with | [_, _], _ => rfl⟩
  have nd := sc_law_pick.nd
  exact (dss_one (ds_ret (dc_ix ix_seq fIx_ok (dx_e (de_var 1)) (dx_e (de_frz (dc_callD D_law_draw_iv hr (by decide) tk (dkc (dk_s 0) (dkc (dk_e (de_frz (dc_callB call_len fLen_ok (f_len Z) (da_cons (dx_e (de_var 1)) da_nil)))) dkn))))))))
theorem ok_law_number_iv (Z : ZZ K mg base) : ∃ fd, DefOk P w K mg base 4 "_law_number" (top 56) fd ["pool", "way"] 2 [0] w_law_number_iv := by
  obtain ⟨_, D_law_draw_iv⟩ := ok_law_draw_iv (P := P) (w := w) Z
  obtain ⟨_, D_law_pick_iv⟩ := ok_law_pick_iv (P := P) (w := w) Z
  obtain ⟨fd, F⟩ := Z.def_ 3 (d := d_law_number)
  rw [w_law_number_iv]
  refine ⟨fd, F, def_ok (k := 3) 2 [0] F sc_law_number rfl fun cdv A outer s H F0 E ad hr tk => ?_, Z.glo 34, FunD.bindsN F fun _ _ _ _ _ _ us hl => match us, hl with | [_, _], _ => rfl⟩
  have nd := sc_law_number.nd
  exact (dss_cons (ds_if (dt_cmp (op_eqD hr.units) fEq_ok (dx_e (de_var 1)) (dx_e de_int)) (dss_one (ds_ret (dc_bin op_sub fSub_ok (dx_e (de_frz (dc_callD D_law_draw_iv hr (by decide) tk (dkc (dk_s 0) (dkc (dk_e de_int) dkn))))) (dx_e de_int)))) dss_nil) (dss_cons (ds_if (dt_cmp (op_eqD hr.units) fEq_ok (dx_e (de_var 1)) (dx_e de_int)) (dss_one (ds_ret (dc_bin op_sub fSub_ok (dx_e (de_frz (dc_callD D_law_draw_iv hr (by decide) tk (dkc (dk_s 0) (dkc (dk_e de_int) dkn))))) (dx_e de_int)))) dss_nil) (dss_one (ds_ret (dc_callD D_law_pick_iv hr (by decide) tk (dkc (dk_s 0) (dkc (dk_e (de_frz (dc_lst (ddc (de_frz (dc_bin op_sub fSub_ok (dx_e (de_frz (dc_callD D_law_draw_iv hr (by decide) tk (dkc (dk_s 0) (dkc (dk_e de_int) dkn))))) (dx_e de_int))) (ddc de_int (ddc (de_frz (dc_un un_neg fNeg_ok (dx_e de_int))) (ddc de_int (ddc de_int ddn)))))))) dkn)))))))
theorem ok_law_put (Z : ZZ K mg base) : ∃ fd, DefOk P w K mg base 2 "_law_put" (top 52) fd ["some", "at", "each"] 3 [] w_law_put := by
  obtain ⟨fd, F⟩ := Z.def_ 4 (d := d_law_put)
  rw [w_law_put]
  refine ⟨fd, F, def_ok (k := 1) 3 [] F sc_law_put rfl fun cdv A outer s H F0 E ad hr tk => ?_, Z.glo 35, FunD.bindsN F fun _ _ _ _ _ _ us hl => match us, hl with | [_, _, _], _ => rfl⟩
  have nd := sc_law_put.nd
  exact (dss_one (ds_ret (dc_bin op_addD fAdd_ok (dx_e (de_frz (dc_bin op_addD fAdd_ok (dx_e (de_frz (dc_slice (dx_e (de_var 0)) do_none (do_some (de_var 1))))) (dx_e (de_tup (ddc (de_var 2) ddn)))))) (dx_e (de_frz (dc_slice (dx_e (de_var 0)) (do_some (de_frz (dc_bin op_addD fAdd_ok (dx_e (de_var 1)) (dx_e de_int)))) do_none))))))
theorem ok_is_whole (Z : ZZ K mg base) : ∃ fd, DefOk P w K mg base 2 "is_whole" (top 8) fd ["value"] 1 [] w_is_whole := by
  obtain ⟨fd, F⟩ := Z.def_ 5 (d := d_is_whole)
  rw [w_is_whole]
  refine ⟨fd, F, def_ok (k := 1) 1 [] F sc_is_whole rfl fun cdv A outer s H F0 E ad hr tk => ?_, Z.glo 36, FunD.bindsN F fun _ _ _ _ _ _ us hl => match us, hl with | [_], _ => rfl⟩
  have nd := sc_is_whole.nd
  exact (dss_one (ds_ret (dc_and (dx_e (de_frz (dc_callB cr_isi fIsi_ok (f_isinstance Z) (da_cons (dx_e (de_var 0)) (da_cons (dx_e (de_ty (f_int Z))) da_nil))))) (dc_one (dc_val (de_not (dx_e (de_frz (dc_callB cr_isi fIsi_ok (f_isinstance Z) (da_cons (dx_e (de_var 0)) (da_cons (dx_e (de_ty (f_bool Z))) da_nil)))))))))))
theorem ok_is_tuple_of (Z : ZZ K mg base) : ∃ fd, DefOk P w K mg base 2 "is_tuple_of" (top 10) fd ["value", "many"] 2 [] w_is_tuple_of := by
  obtain ⟨fd, F⟩ := Z.def_ 6 (d := d_is_tuple_of)
  rw [w_is_tuple_of]
  refine ⟨fd, F, def_ok (k := 1) 2 [] F sc_is_tuple_of rfl fun cdv A outer s H F0 E ad hr tk => ?_, Z.glo 37, FunD.bindsN F fun _ _ _ _ _ _ us hl => match us, hl with | [_, _], _ => rfl⟩
  have nd := sc_is_tuple_of.nd
  exact (dss_one (ds_ret (dc_and (dx_e (de_frz (dc_callB cr_isi fIsi_ok (f_isinstance Z) (da_cons (dx_e (de_var 0)) (da_cons (dx_e (de_ty (f_tuple Z))) da_nil))))) (dc_one (dc_cmp (op_eqD hr.units) fEq_ok (dx_e (de_frz (dc_callB call_len fLen_ok (f_len Z) (da_cons (dx_e (de_var 0)) da_nil)))) (dx_e (de_var 1)))))))
theorem ok_are_wholes (Z : ZZ K mg base) : ∃ fd, DefOk P w K mg base 3 "are_wholes" (top 11) fd ["value", "many"] 2 [] w_are_wholes := by
  obtain ⟨_, D_is_whole⟩ := ok_is_whole (P := P) (w := w) Z
  obtain ⟨_, D_is_tuple_of⟩ := ok_is_tuple_of (P := P) (w := w) Z
  obtain ⟨fd, F⟩ := Z.def_ 7 (d := d_are_wholes)
  rw [w_are_wholes]
  refine ⟨fd, F, def_ok (k := 2) 2 [] F sc_are_wholes rfl fun cdv A outer s H F0 E ad hr tk => ?_, Z.glo 38, FunD.bindsN F fun _ _ _ _ _ _ us hl => match us, hl with | [_, _], _ => rfl⟩
  have nd := sc_are_wholes.nd
  exact (dss_one (ds_ret (dc_and (dx_e (de_frz (dc_callD D_is_tuple_of hr (by decide) tk (dkc (dk_e (de_var 0)) (dkc (dk_e (de_var 1)) dkn))))) (dc_one (dc_callB (cr_all rfl) fAll_ok (f_all Z) (da_cons (dx_e (de_frz (dc_lc [("each", 2)] rfl nd (di_sq (de_var 0)) (fun _ _ _ _ _ => (dp_nm 2 nd)) (fun _ _ _ _ _ => dts_nil) (fun _ _ _ _ _ => (de_frz (dc_callD D_is_whole hr (by decide) takes0 (dkc (dk_e (de_var 2)) dkn))))))) da_nil))))))
theorem ok_text_of_row (Z : ZZ K mg base) : ∃ fd, DefOk P w K mg base 2 "text_of_row" (top 33) fd ["row"] 1 [] w_text_of_row := by
  obtain ⟨fd, F⟩ := Z.def_ 8 (d := d_text_of_row)
  rw [w_text_of_row]
  refine ⟨fd, F, def_ok (k := 1) 1 [] F sc_text_of_row rfl fun cdv A outer s H F0 E ad hr tk => ?_, Z.glo 39, FunD.bindsN F fun _ _ _ _ _ _ us hl => match us, hl with | [_], _ => rfl⟩
  have nd := sc_text_of_row.nd
  exact (dss_one (ds_ret (dc_join (de_str' (c_BLANK Z)) (de_frz (dc_lc [("number", 1)] rfl nd (di_sq (de_var 0)) (fun _ _ _ _ _ => (dp_nm 1 nd)) (fun _ _ _ _ _ => dts_nil) (fun _ _ _ _ _ => (de_frz (dc_callTy call_str fStr_ok (f_str Z) (da_cons (dx_e (de_var 1)) da_nil)))))))))
theorem ok_row_text (Z : ZZ K mg base) : ∃ fd, DefOk P w K mg base 4 "row_text" (top 41) fd ["row"] 1 [] w_row_text := by
  obtain ⟨_, D_are_wholes⟩ := ok_are_wholes (P := P) (w := w) Z
  obtain ⟨_, D_text_of_row⟩ := ok_text_of_row (P := P) (w := w) Z
  obtain ⟨_, F_InvalidOrder, b_InvalidOrder⟩ := ini_InvalidOrder (P := P) (w := w) Z
  obtain ⟨fd, F⟩ := Z.def_ 9 (d := d_row_text)
  rw [w_row_text]
  refine ⟨fd, F, def_ok (k := 3) 1 [] F sc_row_text rfl fun cdv A outer s H F0 E ad hr tk => ?_, Z.glo 40, FunD.bindsN F fun _ _ _ _ _ _ us hl => match us, hl with | [_], _ => rfl⟩
  have nd := sc_row_text.nd
  exact (dss_cons (ds_if (dt_w (dw_or (dt_not (dt_tru (dx_e (de_frz (dc_callB cr_isi fIsi_ok (f_isinstance Z) (da_cons (dx_e (de_var 0)) (da_cons (dx_e (de_ty (f_tuple Z))) da_nil))))))) (dw_or (dt_cmp (op_eq0 hr.units) fEq0_ok (dx_e (de_var 0)) (dx_e (de_tup ddn))) (dw_or1 (dt_not (dt_tru (dx_e (de_frz (dc_callD D_are_wholes hr (by decide) tk (dkc (dk_e (de_var 0)) (dkc (dk_e (de_frz (dc_callB call_len fLen_ok (f_len Z) (da_cons (dx_e (de_var 0)) da_nil)))) dkn))))))))))) (dss_one (ds_raise rfl tk (o_InvalidOrder Z) F_InvalidOrder b_InvalidOrder (hr.mono (by decide)) (g_InvalidOrder Z) (de_var 0))) dss_nil) (dss_one (ds_ret (dc_callD D_text_of_row hr (by decide) tk (dkc (dk_e (de_var 0)) dkn)))))
theorem ok_law_figures (Z : ZZ K mg base) : ∃ fd, DefOk P w K mg base 2 "_law_figures" (top 58) fd ["word"] 1 [] w_law_figures := by
  obtain ⟨fd, F⟩ := Z.def_ 10 (d := d_law_figures)
  rw [w_law_figures]
  refine ⟨fd, F, def_ok (k := 1) 1 [] F sc_law_figures rfl fun cdv A outer s H F0 E ad hr tk => ?_, Z.glo 41, FunD.bindsN F fun _ _ _ _ _ _ us hl => match us, hl with | [_], _ => rfl⟩
  have nd := sc_law_figures.nd
  exact (dss_cons (ds_set 1 (dc_val (de_frz (dc_if (dt_cmp (op_eqD hr.units) fEq_ok (dx_e (de_frz (dc_slice (dx_e (de_var 0)) do_none (do_some de_int)))) (dx_e de_str)) (dc_slice (dx_e (de_var 0)) (do_some de_int) do_none) (dc_val (de_var 0))))) nd) (dss_cons (ds_if (dt_w (dw_or (dt_cmp (op_eqD hr.units) fEq_ok (dx_e (de_var 1)) (dx_e de_str)) (dw_or (dt_cmp (op_neD hr.units) fNe_ok (dx_e (de_frz (dc_lc [("sign", 2)] rfl nd (di_tx (de_var 1)) (fun _ _ _ _ _ => (dp_nm 2 nd)) (fun _ _ _ _ _ => (dts_one (dt_cmp op_ninT fInT_ok (dx_e (de_var 2)) (dx_e de_str)))) (fun _ _ _ _ _ => (de_var 2))))) (dx_e (de_frz (dc_lst ddn)))) (dw_or (dt_w (dw_and (dt_cmp op_gt fGt_ok (dx_e (de_frz (dc_callB call_len fLen_ok (f_len Z) (da_cons (dx_e (de_var 1)) da_nil)))) (dx_e de_int)) (dw_and1 (dt_cmp (op_eqD hr.units) fEq_ok (dx_e (de_frz (dc_ix ix_seq fIx_ok (dx_e (de_var 1)) (dx_e de_int)))) (dx_e de_str))))) (dw_or1 (dt_cmp (op_eqD hr.units) fEq_ok (dx_e (de_var 0)) (dx_e de_str))))))) (dss_one (ds_ret (dc_val de_non))) dss_nil) (dss_one (ds_ret (dc_if (dt_cmp (op_eqD hr.units) fEq_ok (dx_e (de_frz (dc_ix ix_seq fIx_ok (dx_e (de_var 0)) (dx_e de_int)))) (dx_e de_str)) (dc_un un_neg fNeg_ok (dx_e (de_frz (dc_callTy call_intT fIntT_ok (f_int Z) (da_cons (dx_e (de_var 1)) da_nil))))) (dc_callTy call_intT fIntT_ok (f_int Z) (da_cons (dx_e (de_var 1)) da_nil)))))))
theorem ok_law_read_row (Z : ZZ K mg base) : ∃ fd, DefOk P w K mg base 3 "_law_read_row" (top 60) fd ["text", "many"] 2 [] w_law_read_row := by
  obtain ⟨_, D_law_figures⟩ := ok_law_figures (P := P) (w := w) Z
  obtain ⟨fd, F⟩ := Z.def_ 11 (d := d_law_read_row)
  rw [w_law_read_row]
  refine ⟨fd, F, def_ok (k := 2) 2 [] F sc_law_read_row rfl fun cdv A outer s H F0 E ad hr tk => ?_, Z.glo 42, FunD.bindsN F fun _ _ _ _ _ _ us hl => match us, hl with | [_, _], _ => rfl⟩
  have nd := sc_law_read_row.nd
  exact (dss_cons (ds_setLcV 2 [("word", 3)] rfl nd (di_sq (de_frz (dc_split (de_var 0) de_str))) (fun _ _ _ _ _ => (dp_nm 3 nd)) (fun _ _ _ _ _ => dts_nil) (fun _ _ _ _ _ => (de_frz (dc_callD D_law_figures hr (by decide) takes0 (dkc (dk_e (de_var 3)) dkn))))) (dss_one (ds_ret (dc_if (dt_w (dw_and (dt_cmp (op_eqD hr.units) fEq_ok (dx_e (de_frz (dc_callB call_len fLen_ok (f_len Z) (da_cons (dx_e (de_var 2)) da_nil)))) (dx_e (de_var 1))) (dw_and1 (dt_cmp (op_ninA (units65 hr)) fNin_ok (dx_e de_non) (dx_e (de_var 2)))))) (dc_callTy call_tuple_of fTuple_ok (f_tuple Z) (da_cons (dx_e (de_var 2)) da_nil)) (dc_val de_non)))))
theorem ok_law_row_text (Z : ZZ K mg base) : ∃ fd, DefOk P w K mg base 2 "_law_row_text" (top 59) fd ["row"] 1 [] w_law_row_text := by
  obtain ⟨fd, F⟩ := Z.def_ 12 (d := d_law_row_text)
  rw [w_law_row_text]
  refine ⟨fd, F, def_ok (k := 1) 1 [] F sc_law_row_text rfl fun cdv A outer s H F0 E ad hr tk => ?_, Z.glo 43, FunD.bindsN F fun _ _ _ _ _ _ us hl => match us, hl with | [_], _ => rfl⟩
  have nd := sc_law_row_text.nd
  exact (dss_one (ds_ret (dc_join de_str (de_frz (dc_lc [("each", 1)] rfl nd (di_sq (de_var 0)) (fun _ _ _ _ _ => (dp_nm 1 nd)) (fun _ _ _ _ _ => dts_nil) (fun _ _ _ _ _ => (de_frz (dc_callTy call_str fStr_ok (f_str Z) (da_cons (dx_e (de_var 1)) da_nil)))))))))
theorem ok_law_ratio (Z : ZZ K mg base) : ∃ fd, DefOk P w K mg base 2 "_law_ratio" (top 49) fd ["top", "low"] 2 [] w_law_ratio := by
  obtain ⟨fd, F⟩ := Z.def_ 13 (d := d_law_ratio)
  rw [w_law_ratio]
  refine ⟨fd, F, def_ok (k := 1) 2 [] F sc_law_ratio rfl fun cdv A outer s H F0 E ad hr tk => ?_, Z.glo 44, FunD.bindsN F fun _ _ _ _ _ _ us hl => match us, hl with | [_, _], _ => rfl⟩
  have nd := sc_law_ratio.nd
  exact (dss_cons (ds_par2 2 3 rfl nd (dcs_cons (dc_val (de_frz (dc_callB call_abs fAbs_ok (f_abs Z) (da_cons (dx_e (de_var 0)) da_nil)))) (dcs_cons (dc_val (de_frz (dc_callB call_abs fAbs_ok (f_abs Z) (da_cons (dx_e (de_var 1)) da_nil)))) dcs_nil))) (dss_cons (ds_for (passes_of rfl) rfl (di_rg1 (f_range Z) (de_frz (dc_bin op_addD fAdd_ok (dx_e (de_frz (dc_bin op_mulD fMul_ok (dx_e de_int) (dx_e (de_frz (dc_val (de_bits (de_var 3)))))))) (dx_e de_int)))) (dg_nm 4 nd) (dss_cons (ds_if (dt_cmp (op_eqD hr.units) fEq_ok (dx_e (de_var 3)) (dx_e de_int)) (dss_one ds_break) dss_nil) (dss_one (ds_par2 2 3 rfl nd (dcs_cons (dc_val (de_var 3)) (dcs_cons (dc_val (de_frz (dc_bin op_modN fMod_ok (dx_e (de_frz (dc_callTy call_intT fIntT_ok (f_int Z) (da_cons (dx_e (de_var 2)) da_nil)))) (dx_e (de_var 3))))) dcs_nil)))))) (dss_one (ds_ret (dc_if (dt_cmp op_gt fGt_ok (dx_e (de_var 1)) (dx_e de_int)) (dc_val (de_tup (ddc (de_frz (dc_bin op_fdivD fDiv_ok (dx_e (de_var 0)) (dx_e (de_var 2)))) (ddc (de_frz (dc_bin op_fdivD fDiv_ok (dx_e (de_var 1)) (dx_e (de_var 2)))) ddn)))) (dc_val (de_tup (ddc (de_frz (dc_bin op_fdivD fDiv_ok (dx_e (de_frz (dc_un un_neg fNeg_ok (dx_e (de_var 0))))) (dx_e (de_var 2)))) (ddc (de_frz (dc_bin op_fdivD fDiv_ok (dx_e (de_frz (dc_un un_neg fNeg_ok (dx_e (de_var 1))))) (dx_e (de_var 2)))) ddn)))))))))
theorem ok_is_fraction (Z : ZZ K mg base) : ∃ fd, DefOk P w K mg base 4 "is_fraction" (top 13) fd ["value"] 1 [] w_is_fraction := by
  obtain ⟨_, D_are_wholes⟩ := ok_are_wholes (P := P) (w := w) Z
  obtain ⟨fd, F⟩ := Z.def_ 14 (d := d_is_fraction)
  rw [w_is_fraction]
  refine ⟨fd, F, def_ok (k := 3) 1 [] F sc_is_fraction rfl fun cdv A outer s H F0 E ad hr tk => ?_, Z.glo 45, FunD.bindsN F fun _ _ _ _ _ _ us hl => match us, hl with | [_], _ => rfl⟩
  have nd := sc_is_fraction.nd
  exact (dss_one (ds_ret (dc_and (dx_e (de_frz (dc_callD D_are_wholes hr (by decide) tk (dkc (dk_e (de_var 0)) (dkc (dk_e de_int) dkn))))) (dc_and (dx_e (de_frz (dc_cmp op_gt fGt_ok (dx_e (de_frz (dc_ix ix_seq fIx_ok (dx_e (de_var 0)) (dx_e de_int)))) (dx_e de_int)))) (dc_one (dc_cmp (op_eqD hr.units) fEq_ok (dx_e (de_frz (dc_callF cr_gcd fGcd_ok (gcd Z) (da_cons (dx_e (de_frz (dc_ix ix_seq fIx_ok (dx_e (de_var 0)) (dx_e de_int)))) (da_cons (dx_e (de_frz (dc_ix ix_seq fIx_ok (dx_e (de_var 0)) (dx_e de_int)))) da_nil))))) (dx_e de_int)))))))
theorem ok_text_of_fraction (Z : ZZ K mg base) : ∃ fd, DefOk P w K mg base 2 "text_of_fraction" (top 35) fd ["value"] 1 [] w_text_of_fraction := by
  obtain ⟨fd, F⟩ := Z.def_ 15 (d := d_text_of_fraction)
  rw [w_text_of_fraction]
  refine ⟨fd, F, def_ok (k := 1) 1 [] F sc_text_of_fraction rfl fun cdv A outer s H F0 E ad hr tk => ?_, Z.glo 46, FunD.bindsN F fun _ _ _ _ _ _ us hl => match us, hl with | [_], _ => rfl⟩
  have nd := sc_text_of_fraction.nd
  exact (dss_one (ds_ret (dc_if (dt_cmp (op_eqD hr.units) fEq_ok (dx_e (de_frz (dc_ix ix_seq fIx_ok (dx_e (de_var 0)) (dx_e de_int)))) (dx_e de_int)) (dc_callTy call_str fStr_ok (f_str Z) (da_cons (dx_e (de_frz (dc_ix ix_seq fIx_ok (dx_e (de_var 0)) (dx_e de_int)))) da_nil)) (dc_bin op_addD fAdd_ok (dx_e (de_frz (dc_bin op_addD fAdd_ok (dx_e (de_frz (dc_callTy call_str fStr_ok (f_str Z) (da_cons (dx_e (de_frz (dc_ix ix_seq fIx_ok (dx_e (de_var 0)) (dx_e de_int)))) da_nil)))) (dx_e de_str)))) (dx_e (de_frz (dc_callTy call_str fStr_ok (f_str Z) (da_cons (dx_e (de_frz (dc_ix ix_seq fIx_ok (dx_e (de_var 0)) (dx_e de_int)))) da_nil))))))))
theorem ok_fraction_text (Z : ZZ K mg base) : ∃ fd, DefOk P w K mg base 5 "fraction_text" (top 42) fd ["fraction"] 1 [] w_fraction_text := by
  obtain ⟨_, D_is_fraction⟩ := ok_is_fraction (P := P) (w := w) Z
  obtain ⟨_, D_text_of_fraction⟩ := ok_text_of_fraction (P := P) (w := w) Z
  obtain ⟨_, F_InvalidNumber, b_InvalidNumber⟩ := ini_InvalidNumber (P := P) (w := w) Z
  obtain ⟨fd, F⟩ := Z.def_ 16 (d := d_fraction_text)
  rw [w_fraction_text]
  refine ⟨fd, F, def_ok (k := 4) 1 [] F sc_fraction_text rfl fun cdv A outer s H F0 E ad hr tk => ?_, Z.glo 47, FunD.bindsN F fun _ _ _ _ _ _ us hl => match us, hl with | [_], _ => rfl⟩
  have nd := sc_fraction_text.nd
  exact (dss_cons (ds_if (dt_not (dt_tru (dx_e (de_frz (dc_callD D_is_fraction hr (by decide) tk (dkc (dk_e (de_var 0)) dkn)))))) (dss_one (ds_raise rfl tk (o_InvalidNumber Z) F_InvalidNumber b_InvalidNumber (hr.mono (by decide)) (g_InvalidNumber Z) (de_var 0))) dss_nil) (dss_one (ds_ret (dc_callD D_text_of_fraction hr (by decide) tk (dkc (dk_e (de_var 0)) dkn)))))
theorem ok_law_row_ivv (Z : ZZ K mg base) : ∃ fd, DefOk P w K mg base 5 "_law_row" (top 57) fd ["pool", "many", "way"] 3 [0] w_law_row_ivv := by
  obtain ⟨_, D_law_number_iv⟩ := ok_law_number_iv (P := P) (w := w) Z
  obtain ⟨fd, F⟩ := Z.def_ 17 (d := d_law_row)
  rw [w_law_row_ivv]
  refine ⟨fd, F, def_ok (k := 4) 3 [0] F sc_law_row rfl fun cdv A outer s H F0 E ad hr tk => ?_, Z.glo 48, FunD.bindsN F fun _ _ _ _ _ _ us hl => match us, hl with | [_, _, _], _ => rfl⟩
  have nd := sc_law_row.nd
  exact (dss_one (ds_ret (dc_callTy call_tuple_of fTuple_ok (f_tuple Z) (da_cons (dx_e (de_frz (dc_lc [("lap", 3)] rfl nd (di_rg1 (f_range Z) (de_var 1)) (fun _ _ _ _ _ => (dp_nm 3 nd)) (fun _ _ _ _ _ => dts_nil) (fun _ _ _ _ _ => (de_frz (dc_callD D_law_number_iv hr (by decide) takes0 (dkc (dk_s 0) (dkc (dk_e (de_var 2)) dkn)))))))) da_nil))))
theorem ok_law_not_number_i (Z : ZZ K mg base) : ∃ fd, DefOk P w K mg base 4 "_law_not_number" (top 63) fd ["pool"] 1 [0] w_law_not_number_i := by
  obtain ⟨_, D_law_pick_iv⟩ := ok_law_pick_iv (P := P) (w := w) Z
  obtain ⟨fd, F⟩ := Z.def_ 18 (d := d_law_not_number)
  rw [w_law_not_number_i]
  refine ⟨fd, F, def_ok (k := 3) 1 [0] F sc_law_not_number rfl fun cdv A outer s H F0 E ad hr tk => ?_, Z.glo 49, FunD.bindsN F fun _ _ _ _ _ _ us hl => match us, hl with | [_], _ => rfl⟩
  have nd := sc_law_not_number.nd
  exact (dss_one (ds_ret (dc_callD D_law_pick_iv hr (by decide) tk (dkc (dk_s 0) (dkc (dk_e (de_frz (dc_eq (x_law_not_number_i_1.eq_1) (dc_lst (ddc de_non (ddc de_bl (ddc de_bl (ddc de_str (ddc (de_tup (ddc de_int ddn)) (ddc (de_frz (dc_lst (ddc de_int ddn))) (ddc (de_tup ddn) (ddc de_dic0 (ddc de_str (ddc (de_tup (ddc de_int (ddc de_int ddn))) ddn)))))))))))))) dkn)))))
theorem ok_law_not_row_iv (Z : ZZ K mg base) : ∃ fd, DefOk P w K mg base 5 "_law_not_row" (top 64) fd ["pool", "row"] 2 [0] w_law_not_row_iv := by
  obtain ⟨_, D_law_draw_iv⟩ := ok_law_draw_iv (P := P) (w := w) Z
  obtain ⟨_, D_law_not_number_i⟩ := ok_law_not_number_i (P := P) (w := w) Z
  obtain ⟨_, D_law_put⟩ := ok_law_put (P := P) (w := w) Z
  obtain ⟨_, D_law_pick_iv⟩ := ok_law_pick_iv (P := P) (w := w) Z
  obtain ⟨fd, F⟩ := Z.def_ 19 (d := d_law_not_row)
  rw [w_law_not_row_iv]
  refine ⟨fd, F, def_ok (k := 4) 2 [0] F sc_law_not_row rfl fun cdv A outer s H F0 E ad hr tk => ?_, Z.glo 50, FunD.bindsN F fun _ _ _ _ _ _ us hl => match us, hl with | [_, _], _ => rfl⟩
  have nd := sc_law_not_row.nd
  exact (dss_cons (ds_set 2 (dc_val (de_frz (dc_callD D_law_draw_iv hr (by decide) tk (dkc (dk_s 0) (dkc (dk_e (de_frz (dc_callB call_len fLen_ok (f_len Z) (da_cons (dx_e (de_var 1)) da_nil)))) dkn))))) nd) (pss_eq (m_law_not_row_iv_2.eq_1) (dss_cons (ds_set 3 (dc_val (de_frz (dc_eq (x_law_not_row_iv_1.eq_1) (dc_lst (ddc de_non (ddc de_bl (ddc de_int (ddc de_str (ddc (de_frz (dc_callTy call_list_of fList_ok (f_list Z) (da_cons (dx_e (de_var 1)) da_nil))) (ddc de_dic0 (ddc (de_frz (dc_bin op_addD fAdd_ok (dx_e (de_var 1)) (dx_e (de_tup (ddc de_int ddn))))) (ddc (de_frz (dc_slice (dx_e (de_var 1)) (do_some de_int) do_none)) (ddc (de_tup (ddc (de_var 1) ddn)) (ddc (de_frz (dc_bin op_addD fAdd_ok (dx_e (de_frz (dc_bin op_addD fAdd_ok (dx_e (de_frz (dc_slice (dx_e (de_var 1)) do_none (do_some (de_var 2))))) (dx_e (de_tup (ddc de_non ddn)))))) (dx_e (de_frz (dc_slice (dx_e (de_var 1)) (do_some (de_frz (dc_bin op_addD fAdd_ok (dx_e (de_var 2)) (dx_e de_int)))) do_none))))) ddn)))))))))))))) nd) (pss_eq (m_law_not_row_iv_1.eq_1) (dss_one (ds_ret (dc_if (dt_cmp (op_eqD hr.units) fEq_ok (dx_e (de_frz (dc_callD D_law_draw_iv hr (by decide) tk (dkc (dk_s 0) (dkc (dk_e de_int) dkn))))) (dx_e de_int)) (dc_callD D_law_put hr (by decide) tk (dkc (dk_e (de_var 1)) (dkc (dk_e (de_var 2)) (dkc (dk_e (de_frz (dc_callD D_law_not_number_i hr (by decide) tk (dkc (dk_s 0) dkn)))) dkn)))) (dc_callD D_law_pick_iv hr (by decide) tk (dkc (dk_s 0) (dkc (dk_e (de_var 3)) dkn))))))))))
theorem ok_law_is_whole (Z : ZZ K mg base) : ∃ fd, DefOk P w K mg base 2 "_law_is_whole" (top 50) fd ["told"] 1 [] w_law_is_whole := by
  obtain ⟨fd, F⟩ := Z.def_ 20 (d := d_law_is_whole)
  rw [w_law_is_whole]
  refine ⟨fd, F, def_ok (k := 1) 1 [] F sc_law_is_whole rfl fun cdv A outer s H F0 E ad hr tk => ?_, Z.glo 51, FunD.bindsN F fun _ _ _ _ _ _ us hl => match us, hl with | [_], _ => rfl⟩
  have nd := sc_law_is_whole.nd
  exact (dss_one (ds_ret (dc_and (dx_e (de_frz (dc_callB cr_isi fIsi_ok (f_isinstance Z) (da_cons (dx_e (de_var 0)) (da_cons (dx_e (de_ty (f_int Z))) da_nil))))) (dc_one (dc_val (de_not (dx_e (de_frz (dc_callB cr_isi fIsi_ok (f_isinstance Z) (da_cons (dx_e (de_var 0)) (da_cons (dx_e (de_ty (f_bool Z))) da_nil)))))))))))
theorem ok_law_is_row (Z : ZZ K mg base) : ∃ fd, DefOk P w K mg base 3 "_law_is_row" (top 61) fd ["told", "many"] 2 [] w_law_is_row := by
  obtain ⟨_, D_law_is_whole⟩ := ok_law_is_whole (P := P) (w := w) Z
  obtain ⟨fd, F⟩ := Z.def_ 21 (d := d_law_is_row)
  rw [w_law_is_row]
  refine ⟨fd, F, def_ok (k := 2) 2 [] F sc_law_is_row rfl fun cdv A outer s H F0 E ad hr tk => ?_, Z.glo 52, FunD.bindsN F fun _ _ _ _ _ _ us hl => match us, hl with | [_, _], _ => rfl⟩
  have nd := sc_law_is_row.nd
  exact (dss_one (ds_ret (dc_and (dx_e (de_frz (dc_callB cr_isi fIsi_ok (f_isinstance Z) (da_cons (dx_e (de_var 0)) (da_cons (dx_e (de_ty (f_tuple Z))) da_nil))))) (dc_and (dx_e (de_frz (dc_cmp (op_eqD hr.units) fEq_ok (dx_e (de_frz (dc_callB call_len fLen_ok (f_len Z) (da_cons (dx_e (de_var 0)) da_nil)))) (dx_e (de_var 1))))) (dc_one (dc_cmp (op_eqN hr.units) fEqN_ok (dx_e (de_frz (dc_lc [("each", 2)] rfl nd (di_sq (de_var 0)) (fun _ _ _ _ _ => (dp_nm 2 nd)) (fun _ _ _ _ _ => (dts_one (dt_not (dt_tru (dx_e (de_frz (dc_callD D_law_is_whole hr (by decide) takes0 (dkc (dk_e (de_var 2)) dkn)))))))) (fun _ _ _ _ _ => (de_var 2))))) (dx_e (de_frz (dc_lst ddn)))))))))
theorem ok_law_wrong_given (Z : ZZ K mg base) : ∃ fd, DefOk P w K mg base 2 "_law_wrong_given" (top 55) fd ["word", "some"] 2 [] w_law_wrong_given := by
  obtain ⟨fd, F⟩ := Z.def_ 22 (d := d_law_wrong_given)
  rw [w_law_wrong_given]
  refine ⟨fd, F, def_ok (k := 1) 2 [] F sc_law_wrong_given rfl fun cdv A outer s H F0 E ad hr tk => ?_, Z.glo 53, FunD.bindsN F fun _ _ _ _ _ _ us hl => match us, hl with | [_, _], _ => rfl⟩
  have nd := sc_law_wrong_given.nd
  exact (dss_one (ds_ret (dc_lc [("each", 2)] rfl nd (di_sq (de_var 1)) (fun _ _ _ _ _ => (dp_nm 2 nd)) (fun _ _ _ _ _ => dts_nil) (fun _ _ _ _ _ => (de_tup (ddc (de_var 2) (ddc (de_frz (dc_lst (ddc (de_var 0) (ddc (de_var 2) ddn)))) ddn)))))))
theorem ok_is_between (Z : ZZ K mg base) : ∃ fd, DefOk P w K mg base 3 "is_between" (top 9) fd ["value", "low", "high"] 3 [] w_is_between := by
  obtain ⟨_, D_is_whole⟩ := ok_is_whole (P := P) (w := w) Z
  obtain ⟨fd, F⟩ := Z.def_ 23 (d := d_is_between)
  rw [w_is_between]
  refine ⟨fd, F, def_ok (k := 2) 3 [] F sc_is_between rfl fun cdv A outer s H F0 E ad hr tk => ?_, Z.glo 54, FunD.bindsN F fun _ _ _ _ _ _ us hl => match us, hl with | [_, _, _], _ => rfl⟩
  have nd := sc_is_between.nd
  exact (dss_one (ds_ret (dc_and (dx_e (de_frz (dc_callD D_is_whole hr (by decide) tk (dkc (dk_e (de_var 0)) dkn)))) (dc_one (dc_chain op_le op_le fLe_ok fLe_ok (dx_e (de_var 1)) (dx_e (de_var 0)) (dx_e (de_var 2)))))))
theorem ok_are_between (Z : ZZ K mg base) : ∃ fd, DefOk P w K mg base 4 "are_between" (top 12) fd ["value", "many", "low", "high"] 4 [] w_are_between := by
  obtain ⟨_, D_is_between⟩ := ok_is_between (P := P) (w := w) Z
  obtain ⟨_, D_is_tuple_of⟩ := ok_is_tuple_of (P := P) (w := w) Z
  obtain ⟨fd, F⟩ := Z.def_ 24 (d := d_are_between)
  rw [w_are_between]
  refine ⟨fd, F, def_ok (k := 3) 4 [] F sc_are_between rfl fun cdv A outer s H F0 E ad hr tk => ?_, Z.glo 55, FunD.bindsN F fun _ _ _ _ _ _ us hl => match us, hl with | [_, _, _, _], _ => rfl⟩
  have nd := sc_are_between.nd
  exact (dss_one (ds_ret (dc_and (dx_e (de_frz (dc_callD D_is_tuple_of hr (by decide) tk (dkc (dk_e (de_var 0)) (dkc (dk_e (de_var 1)) dkn))))) (dc_one (dc_callB (cr_all rfl) fAll_ok (f_all Z) (da_cons (dx_e (de_frz (dc_lc [("each", 4)] rfl nd (di_sq (de_var 0)) (fun _ _ _ _ _ => (dp_nm 4 nd)) (fun _ _ _ _ _ => dts_nil) (fun _ _ _ _ _ => (de_frz (dc_callD D_is_between hr (by decide) takes0 (dkc (dk_e (de_var 4)) (dkc (dk_e (de_var 2)) (dkc (dk_e (de_var 3)) dkn))))))))) da_nil))))))
theorem ok_is_pack (Z : ZZ K mg base) : ∃ fd, DefOk P w K mg base 5 "is_pack" (top 20) fd ["many", "value"] 2 [] w_is_pack := by
  obtain ⟨_, D_are_between⟩ := ok_are_between (P := P) (w := w) Z
  obtain ⟨fd, F⟩ := Z.def_ 25 (d := d_is_pack)
  rw [w_is_pack]
  refine ⟨fd, F, def_ok (k := 4) 2 [] F sc_is_pack rfl fun cdv A outer s H F0 E ad hr tk => ?_, Z.glo 56, FunD.bindsN F fun _ _ _ _ _ _ us hl => match us, hl with | [_, _], _ => rfl⟩
  have nd := sc_is_pack.nd
  exact (dss_one (ds_ret (dc_callD D_are_between hr (by decide) tk (dkc (dk_e (de_var 1)) (dkc (dk_e (de_var 0)) (dkc (dk_e (de_frz (dc_un un_neg fNeg_ok (dx_e (de_int' (c_MOST_IN_PACK Z)))))) (dkc (dk_e (de_int' (c_MOST_IN_PACK Z))) dkn)))))))
theorem ok_is_list_by (Z : ZZ K mg base) : ∃ fd, DefOk P w K mg base 6 "is_list_by" (top 21) fd ["value"] 1 [] w_is_list_by := by
  obtain ⟨_, D_is_between⟩ := ok_is_between (P := P) (w := w) Z
  obtain ⟨_, D_is_tuple_of⟩ := ok_is_tuple_of (P := P) (w := w) Z
  obtain ⟨_, D_is_pack⟩ := ok_is_pack (P := P) (w := w) Z
  obtain ⟨fd, F⟩ := Z.def_ 26 (d := d_is_list_by)
  rw [w_is_list_by]
  refine ⟨fd, F, def_ok (k := 5) 1 [] F sc_is_list_by rfl fun cdv A outer s H F0 E ad hr tk => ?_, Z.glo 57, FunD.bindsN F fun _ _ _ _ _ _ us hl => match us, hl with | [_], _ => rfl⟩
  have nd := sc_is_list_by.nd
  exact (dss_cons (ds_if (dt_w (dw_or (dt_not (dt_tru (dx_e (de_frz (dc_callD D_is_tuple_of hr (by decide) tk (dkc (dk_e (de_var 0)) (dkc (dk_e de_int) dkn))))))) (dw_or1 (dt_not (dt_tru (dx_e (de_frz (dc_callD D_is_between hr (by decide) tk (dkc (dk_e (de_frz (dc_ix ix_seq fIx_ok (dx_e (de_var 0)) (dx_e (de_int' (c_MANY Z)))))) (dkc (dk_e de_int) (dkc (dk_e (de_int' (c_MOST_GOODS Z))) dkn))))))))))) (dss_one (ds_ret (dc_val de_bl))) dss_nil) (dss_cons (ds_if (dt_w (dw_or (dt_not (dt_tru (dx_e (de_frz (dc_callB cr_isi fIsi_ok (f_isinstance Z) (da_cons (dx_e (de_frz (dc_ix ix_seq fIx_ok (dx_e (de_var 0)) (dx_e (de_int' (c_PACKS Z)))))) (da_cons (dx_e (de_ty (f_tuple Z))) da_nil))))))) (dw_or1 (dt_cmp op_gt fGt_ok (dx_e (de_frz (dc_callB call_len fLen_ok (f_len Z) (da_cons (dx_e (de_frz (dc_ix ix_seq fIx_ok (dx_e (de_var 0)) (dx_e (de_int' (c_PACKS Z)))))) da_nil)))) (dx_e (de_int' (c_MOST_PACKS Z))))))) (dss_one (ds_ret (dc_val de_bl))) dss_nil) (dss_one (ds_ret (dc_callB (cr_all rfl) fAll_ok (f_all Z) (da_cons (dx_e (de_frz (dc_lc [("each", 1)] rfl nd (di_sq (de_frz (dc_ix ix_seq fIx_ok (dx_e (de_var 0)) (dx_e (de_int' (c_PACKS Z)))))) (fun _ _ _ _ _ => (dp_nm 1 nd)) (fun _ _ _ _ _ => dts_nil) (fun _ _ _ _ _ => (de_frz (dc_callD D_is_pack hr (by decide) takes0 (dkc (dk_e (de_frz (dc_ix ix_seq fIx_ok (dx_e (de_var 0)) (dx_e (de_int' (c_MANY Z)))))) (dkc (dk_e (de_var 1)) dkn)))))))) da_nil))))))
theorem ok_check_list (Z : ZZ K mg base) : ∃ fd, DefOk P w K mg base 7 "check_list" (top 23) fd ["value"] 1 [] w_check_list := by
  obtain ⟨_, D_is_list_by⟩ := ok_is_list_by (P := P) (w := w) Z
  obtain ⟨_, F_NotAList, b_NotAList⟩ := ini_NotAList (P := P) (w := w) Z
  obtain ⟨fd, F⟩ := Z.def_ 27 (d := d_check_list)
  rw [w_check_list]
  refine ⟨fd, F, def_ok (k := 6) 1 [] F sc_check_list rfl fun cdv A outer s H F0 E ad hr tk => ?_, Z.glo 58, FunD.bindsN F fun _ _ _ _ _ _ us hl => match us, hl with | [_], _ => rfl⟩
  have nd := sc_check_list.nd
  exact (dss_one (ds_if (dt_not (dt_tru (dx_e (de_frz (dc_callD D_is_list_by hr (by decide) tk (dkc (dk_e (de_var 0)) dkn)))))) (dss_one (ds_raise rfl tk (o_NotAList Z) F_NotAList b_NotAList (hr.mono (by decide)) (g_NotAList Z) (de_var 0))) dss_nil))
theorem ok_text_of_list (Z : ZZ K mg base) : ∃ fd, DefOk P w K mg base 3 "text_of_list" (top 36) fd ["stock"] 1 [] w_text_of_list := by
  obtain ⟨_, D_text_of_row⟩ := ok_text_of_row (P := P) (w := w) Z
  obtain ⟨fd, F⟩ := Z.def_ 28 (d := d_text_of_list)
  rw [w_text_of_list]
  refine ⟨fd, F, def_ok (k := 2) 1 [] F sc_text_of_list rfl fun cdv A outer s H F0 E ad hr tk => ?_, Z.glo 59, FunD.bindsN F fun _ _ _ _ _ _ us hl => match us, hl with | [_], _ => rfl⟩
  have nd := sc_text_of_list.nd
  exact (dss_cons (ds_set 1 (dc_lst (ddc (de_frz (dc_bin op_addD fAdd_ok (dx_e (de_frz (dc_bin op_addD fAdd_ok (dx_e (de_str' (c_GOODS_WORD Z))) (dx_e (de_str' (c_BLANK Z)))))) (dx_e (de_frz (dc_callTy call_str fStr_ok (f_str Z) (da_cons (dx_e (de_frz (dc_ix ix_seq fIx_ok (dx_e (de_var 0)) (dx_e (de_int' (c_MANY Z)))))) da_nil)))))) ddn)) nd) (dss_cons (ds_for (passes_of rfl) rfl (di_sq (de_frz (dc_ix ix_seq fIx_ok (dx_e (de_var 0)) (dx_e (de_int' (c_PACKS Z)))))) (dg_nm 2 nd) (dss_one (ds_appB 1 (de_frz (dc_bin op_addD fAdd_ok (dx_e (de_frz (dc_bin op_addD fAdd_ok (dx_e (de_str' (c_PACK_WORD Z))) (dx_e (de_str' (c_BLANK Z)))))) (dx_e (de_frz (dc_callD D_text_of_row hr (by decide) tk (dkc (dk_e (de_var 2)) dkn))))))))) (dss_one (ds_ret (dc_join de_str (de_frz (dc_lc [("line", 3)] rfl nd (di_sq (de_still 1)) (fun _ _ _ _ _ => (dp_nm 3 nd)) (fun _ _ _ _ _ => dts_nil) (fun _ _ _ _ _ => (de_frz (dc_bin op_addD fAdd_ok (dx_e (de_var 3)) (dx_e (de_str' (c_END Z)))))))))))))
theorem ok_list_text (Z : ZZ K mg base) : ∃ fd, DefOk P w K mg base 8 "list_text" (top 43) fd ["stock"] 1 [] w_list_text := by
  obtain ⟨_, D_check_list⟩ := ok_check_list (P := P) (w := w) Z
  obtain ⟨_, D_text_of_list⟩ := ok_text_of_list (P := P) (w := w) Z
  obtain ⟨fd, F⟩ := Z.def_ 29 (d := d_list_text)
  rw [w_list_text]
  refine ⟨fd, F, def_ok (k := 7) 1 [] F sc_list_text rfl fun cdv A outer s H F0 E ad hr tk => ?_, Z.glo 60, FunD.bindsN F fun _ _ _ _ _ _ us hl => match us, hl with | [_], _ => rfl⟩
  have nd := sc_list_text.nd
  exact (dss_cons (ds_expr (dc_callD D_check_list hr (by decide) tk (dkc (dk_e (de_var 0)) dkn))) (dss_one (ds_ret (dc_callD D_text_of_list hr (by decide) tk (dkc (dk_e (de_var 0)) dkn)))))
theorem ok_is_figures (Z : ZZ K mg base) : ∃ fd, DefOk P w K mg base 2 "is_figures" (top 31) fd ["text"] 1 [] w_is_figures := by
  obtain ⟨fd, F⟩ := Z.def_ 30 (d := d_is_figures)
  rw [w_is_figures]
  refine ⟨fd, F, def_ok (k := 1) 1 [] F sc_is_figures rfl fun cdv A outer s H F0 E ad hr tk => ?_, Z.glo 61, FunD.bindsN F fun _ _ _ _ _ _ us hl => match us, hl with | [_], _ => rfl⟩
  have nd := sc_is_figures.nd
  exact (dss_cons (ds_if (dt_w (dw_or (dt_cmp (op_eqD hr.units) fEq_ok (dx_e (de_var 0)) (dx_e de_str)) (dw_or1 (dt_tru (dx_e (de_frz (dc_callB (cr_any rfl) fAny_ok (f_any Z) (da_cons (dx_e (de_frz (dc_lc [("sign", 1)] rfl nd (di_tx (de_var 0)) (fun _ _ _ _ _ => (dp_nm 1 nd)) (fun _ _ _ _ _ => dts_nil) (fun _ _ _ _ _ => (de_frz (dc_cmp op_ninT fInT_ok (dx_e (de_var 1)) (dx_e (de_str' (c_FIGURES Z))))))))) da_nil)))))))) (dss_one (ds_ret (dc_val de_bl))) dss_nil) (dss_one (ds_ret (dc_or (dx_e (de_frz (dc_cmp (op_eqD hr.units) fEq_ok (dx_e (de_var 0)) (dx_e de_str)))) (dc_one (dc_cmp (op_neD hr.units) fNe_ok (dx_e (de_frz (dc_ix ix_seq fIx_ok (dx_e (de_var 0)) (dx_e de_int)))) (dx_e de_str)))))))
theorem ok_is_number_text (Z : ZZ K mg base) : ∃ fd, DefOk P w K mg base 3 "is_number_text" (top 32) fd ["text"] 1 [] w_is_number_text := by
  obtain ⟨_, D_is_figures⟩ := ok_is_figures (P := P) (w := w) Z
  obtain ⟨fd, F⟩ := Z.def_ 31 (d := d_is_number_text)
  rw [w_is_number_text]
  refine ⟨fd, F, def_ok (k := 2) 1 [] F sc_is_number_text rfl fun cdv A outer s H F0 E ad hr tk => ?_, Z.glo 62, FunD.bindsN F fun _ _ _ _ _ _ us hl => match us, hl with | [_], _ => rfl⟩
  have nd := sc_is_number_text.nd
  exact (dss_cons (ds_if (dt_tru (dx_e (de_frz (dc_stw (de_var 0) (de_str' (c_MINUS Z)))))) (dss_one (ds_ret (dc_and (dx_e (de_frz (dc_callD D_is_figures hr (by decide) tk (dkc (dk_e (de_frz (dc_slice (dx_e (de_var 0)) (do_some de_int) do_none))) dkn)))) (dc_one (dc_cmp (op_neD hr.units) fNe_ok (dx_e (de_var 0)) (dx_e de_str)))))) dss_nil) (dss_one (ds_ret (dc_callD D_is_figures hr (by decide) tk (dkc (dk_e (de_var 0)) dkn)))))
theorem ok_read_numbers (Z : ZZ K mg base) : ∃ fd, DefOk P w K mg base 4 "read_numbers" (top 34) fd ["words"] 1 [] w_read_numbers := by
  obtain ⟨_, D_is_number_text⟩ := ok_is_number_text (P := P) (w := w) Z
  obtain ⟨fd, F⟩ := Z.def_ 32 (d := d_read_numbers)
  rw [w_read_numbers]
  refine ⟨fd, F, def_ok (k := 3) 1 [] F sc_read_numbers rfl fun cdv A outer s H F0 E ad hr tk => ?_, Z.glo 63, FunD.bindsN F fun _ _ _ _ _ _ us hl => match us, hl with | [_], _ => rfl⟩
  have nd := sc_read_numbers.nd
  exact (dss_cons (ds_if (dt_not (dt_tru (dx_e (de_frz (dc_callB (cr_all rfl) fAll_ok (f_all Z) (da_cons (dx_e (de_frz (dc_lc [("word", 1)] rfl nd (di_sq (de_var 0)) (fun _ _ _ _ _ => (dp_nm 1 nd)) (fun _ _ _ _ _ => dts_nil) (fun _ _ _ _ _ => (de_frz (dc_callD D_is_number_text hr (by decide) takes0 (dkc (dk_e (de_var 1)) dkn))))))) da_nil)))))) (dss_one (ds_ret (dc_lst ddn))) dss_nil) (dss_one (ds_ret (dc_lst (ddc (de_frz (dc_callTy call_tuple_of fTuple_ok (f_tuple Z) (da_cons (dx_e (de_frz (dc_lc [("word", 1)] rfl nd (di_sq (de_var 0)) (fun _ _ _ _ _ => (dp_nm 1 nd)) (fun _ _ _ _ _ => dts_nil) (fun _ _ _ _ _ => (de_frz (dc_callTy call_intT fIntT_ok (f_int Z) (da_cons (dx_e (de_var 1)) da_nil))))))) da_nil))) ddn)))))
theorem ok_read_line (Z : ZZ K mg base) : ∃ fd, DefOk P w K mg base 5 "read_line" (top 37) fd ["line", "word"] 2 [] w_read_line := by
  obtain ⟨_, D_read_numbers⟩ := ok_read_numbers (P := P) (w := w) Z
  obtain ⟨fd, F⟩ := Z.def_ 33 (d := d_read_line)
  rw [w_read_line]
  refine ⟨fd, F, def_ok (k := 4) 2 [] F sc_read_line rfl fun cdv A outer s H F0 E ad hr tk => ?_, Z.glo 64, FunD.bindsN F fun _ _ _ _ _ _ us hl => match us, hl with | [_, _], _ => rfl⟩
  have nd := sc_read_line.nd
  exact (dss_cons (ds_set 2 (dc_val (de_frz (dc_split (de_var 0) (de_str' (c_BLANK Z))))) nd) (dss_one (ds_ret (dc_if (dt_cmp (op_eqD hr.units) fEq_ok (dx_e (de_frz (dc_ix ix_seq fIx_ok (dx_e (de_var 2)) (dx_e de_int)))) (dx_e (de_var 1))) (dc_callD D_read_numbers hr (by decide) tk (dkc (dk_e (de_frz (dc_slice (dx_e (de_var 2)) (do_some de_int) do_none))) dkn)) (dc_lst ddn)))))
theorem ok_read_lines (Z : ZZ K mg base) : ∃ fd, DefOk P w K mg base 6 "read_lines" (top 38) fd ["lines"] 1 [] w_read_lines := by
  obtain ⟨_, D_read_line⟩ := ok_read_line (P := P) (w := w) Z
  obtain ⟨fd, F⟩ := Z.def_ 34 (d := d_read_lines)
  rw [w_read_lines]
  refine ⟨fd, F, def_ok (k := 5) 1 [] F sc_read_lines rfl fun cdv A outer s H F0 E ad hr tk => ?_, Z.glo 65, FunD.bindsN F fun _ _ _ _ _ _ us hl => match us, hl with | [_], _ => rfl⟩
  have nd := sc_read_lines.nd
  exact (dss_cons (ds_par2 1 2 rfl nd (dcs_cons (dc_val (de_frz (dc_callD D_read_line hr (by decide) tk (dkc (dk_e (de_frz (dc_ix ix_seq fIx_ok (dx_e (de_var 0)) (dx_e de_int)))) (dkc (dk_e (de_str' (c_GOODS_WORD Z))) dkn))))) (dcs_cons (dc_lst ddn) dcs_nil))) (dss_cons (ds_if (dt_w (dw_or (dt_cmp (op_eqD hr.units) fEq_ok (dx_e (de_var 1)) (dx_e (de_frz (dc_lst ddn)))) (dw_or1 (dt_cmp (op_neD hr.units) fNe_ok (dx_e (de_frz (dc_callB call_len fLen_ok (f_len Z) (da_cons (dx_e (de_frz (dc_ix ix_seq fIx_ok (dx_e (de_var 1)) (dx_e de_int)))) da_nil)))) (dx_e de_int))))) (dss_one (ds_ret (dc_lst ddn))) dss_nil) (dss_cons (ds_for (passes_of rfl) rfl (di_sq (de_frz (dc_slice (dx_e (de_var 0)) (do_some de_int) do_none))) (dg_nm 3 nd) (dss_cons (ds_set 4 (dc_val (de_frz (dc_callD D_read_line hr (by decide) tk (dkc (dk_e (de_var 3)) (dkc (dk_e (de_str' (c_PACK_WORD Z))) dkn))))) nd) (dss_cons (ds_if (dt_cmp (op_eqD hr.units) fEq_ok (dx_e (de_var 4)) (dx_e (de_frz (dc_lst ddn)))) (dss_one (ds_ret (dc_lst ddn))) dss_nil) (dss_one (ds_extB 2 (de_var 4)))))) (dss_one (ds_ret (dc_lst (ddc (de_tup (ddc (de_frz (dc_ix ix_seq fIx_ok (dx_e (de_frz (dc_ix ix_seq fIx_ok (dx_e (de_var 1)) (dx_e de_int)))) (dx_e de_int))) (ddc (de_frz (dc_callTy call_tuple_of fTuple_ok (f_tuple Z) (da_cons (dx_e (de_still 2)) da_nil))) ddn))) ddn)))))))
theorem ok_list_with_text (Z : ZZ K mg base) : ∃ fd, DefOk P w K mg base 7 "list_with_text" (top 39) fd ["text"] 1 [] w_list_with_text := by
  obtain ⟨_, D_read_lines⟩ := ok_read_lines (P := P) (w := w) Z
  obtain ⟨_, D_is_list_by⟩ := ok_is_list_by (P := P) (w := w) Z
  obtain ⟨fd, F⟩ := Z.def_ 35 (d := d_list_with_text)
  rw [w_list_with_text]
  refine ⟨fd, F, def_ok (k := 6) 1 [] F sc_list_with_text rfl fun cdv A outer s H F0 E ad hr tk => ?_, Z.glo 66, FunD.bindsN F fun _ _ _ _ _ _ us hl => match us, hl with | [_], _ => rfl⟩
  have nd := sc_list_with_text.nd
  exact (dss_cons (ds_if (dt_not (dt_tru (dx_e (de_frz (dc_enw (de_var 0) (de_str' (c_END Z))))))) (dss_one (ds_ret (dc_lst ddn))) dss_nil) (dss_one (ds_ret (dc_lc [("found", 1)] rfl nd (di_sq (de_frz (dc_callD D_read_lines hr (by decide) tk (dkc (dk_e (de_frz (dc_split (de_frz (dc_slice (dx_e (de_var 0)) do_none (do_some (de_frz (dc_un un_neg fNeg_ok (dx_e de_int)))))) (de_str' (c_END Z))))) dkn)))) (fun _ _ _ _ _ => (dp_nm 1 nd)) (fun _ _ _ _ _ => (dts_one (dt_tru (dx_e (de_frz (dc_callD D_is_list_by hr (by decide) takes0 (dkc (dk_e (de_var 1)) dkn))))))) (fun _ _ _ _ _ => (de_var 1))))))
theorem ok_read_list (Z : ZZ K mg base) : ∃ fd, DefOk P w K mg base 8 "read_list" (top 44) fd ["text"] 1 [] w_read_list := by
  obtain ⟨_, D_list_with_text⟩ := ok_list_with_text (P := P) (w := w) Z
  obtain ⟨_, F_InvalidText, b_InvalidText⟩ := ini_InvalidText (P := P) (w := w) Z
  obtain ⟨fd, F⟩ := Z.def_ 36 (d := d_read_list)
  rw [w_read_list]
  refine ⟨fd, F, def_ok (k := 7) 1 [] F sc_read_list rfl fun cdv A outer s H F0 E ad hr tk => ?_, Z.glo 67, FunD.bindsN F fun _ _ _ _ _ _ us hl => match us, hl with | [_], _ => rfl⟩
  have nd := sc_read_list.nd
  exact (dss_cons (ds_set 1 (dc_val (de_frz (dc_if (dt_tru (dx_e (de_frz (dc_callB cr_isi fIsi_ok (f_isinstance Z) (da_cons (dx_e (de_var 0)) (da_cons (dx_e (de_ty (f_str Z))) da_nil)))))) (dc_callD D_list_with_text hr (by decide) tk (dkc (dk_e (de_var 0)) dkn)) (dc_lst ddn)))) nd) (dss_cons (ds_if (dt_cmp (op_eqD hr.units) fEq_ok (dx_e (de_var 1)) (dx_e (de_frz (dc_lst ddn)))) (dss_one (ds_raise rfl tk (o_InvalidText Z) F_InvalidText b_InvalidText (hr.mono (by decide)) (g_InvalidText Z) (de_var 0))) dss_nil) (dss_one (ds_ret (dc_ix ix_seq fIx_ok (dx_e (de_var 1)) (dx_e de_int))))))
theorem ok_law_ask (Z : ZZ K mg base) : ∃ fd, DefOk P w K mg base 9 "_law_ask" (top 66) fd ["word", "args", "is_named"] 3 [] w_law_ask := by
  obtain ⟨_, D_row_text⟩ := ok_row_text (P := P) (w := w) Z
  obtain ⟨_, D_fraction_text⟩ := ok_fraction_text (P := P) (w := w) Z
  obtain ⟨_, D_list_text⟩ := ok_list_text (P := P) (w := w) Z
  obtain ⟨_, D_read_list⟩ := ok_read_list (P := P) (w := w) Z
  obtain ⟨fd, F⟩ := Z.def_ 37 (d := d_law_ask)
  rw [w_law_ask]
  refine ⟨fd, F, def_ok (k := 8) 3 [] F sc_law_ask rfl fun cdv A outer s H F0 E ad hr tk => ?_, Z.glo 68, FunD.bindsN F fun _ _ _ _ _ _ us hl => match us, hl with | [_, _, _], _ => rfl⟩
  have nd := sc_law_ask.nd
  exact (dss_cons (ds_if (dt_cmp (op_eqD hr.units) fEq_ok (dx_e (de_var 0)) (dx_e de_str)) (dss_one (ds_ret (dc_if (dt_tru (dx_e (de_var 2))) (dc_callKD D_row_text (kb_row_text_row D_row_text.fun_) hr (by decide) tk (dkkc (dk_e (de_frz (dc_ix ix_seq fIx_ok (dx_e (de_var 1)) (dx_e de_int)))) dkkn)) (dc_callD D_row_text hr (by decide) tk (dkc (dk_e (de_frz (dc_ix ix_seq fIx_ok (dx_e (de_var 1)) (dx_e de_int)))) dkn))))) dss_nil) (dss_cons (ds_if (dt_cmp (op_eqD hr.units) fEq_ok (dx_e (de_var 0)) (dx_e de_str)) (dss_one (ds_ret (dc_if (dt_tru (dx_e (de_var 2))) (dc_callKD D_fraction_text (kb_fraction_text_fraction D_fraction_text.fun_) hr (by decide) tk (dkkc (dk_e (de_frz (dc_ix ix_seq fIx_ok (dx_e (de_var 1)) (dx_e de_int)))) dkkn)) (dc_callD D_fraction_text hr (by decide) tk (dkc (dk_e (de_frz (dc_ix ix_seq fIx_ok (dx_e (de_var 1)) (dx_e de_int)))) dkn))))) dss_nil) (dss_cons (ds_if (dt_cmp (op_eqD hr.units) fEq_ok (dx_e (de_var 0)) (dx_e de_str)) (dss_one (ds_ret (dc_if (dt_tru (dx_e (de_var 2))) (dc_callKD D_list_text (kb_list_text_stock D_list_text.fun_) hr (by decide) tk (dkkc (dk_e (de_frz (dc_ix ix_seq fIx_ok (dx_e (de_var 1)) (dx_e de_int)))) dkkn)) (dc_callD D_list_text hr (by decide) tk (dkc (dk_e (de_frz (dc_ix ix_seq fIx_ok (dx_e (de_var 1)) (dx_e de_int)))) dkn))))) dss_nil) (dss_one (ds_ret (dc_if (dt_tru (dx_e (de_var 2))) (dc_callKD D_read_list (kb_read_list_text D_read_list.fun_) hr (by decide) tk (dkkc (dk_e (de_frz (dc_ix ix_seq fIx_ok (dx_e (de_var 1)) (dx_e de_int)))) dkkn)) (dc_callD D_read_list hr (by decide) tk (dkc (dk_e (de_frz (dc_ix ix_seq fIx_ok (dx_e (de_var 1)) (dx_e de_int)))) dkn))))))))
theorem ok_law_refused (Z : ZZ K mg base) : ∃ fd, DefOk P w K mg base 10 "_law_refused" (top 67) fd ["word", "args", "is_named"] 3 [] w_law_refused := by
  obtain ⟨_, D_law_ask⟩ := ok_law_ask (P := P) (w := w) Z
  obtain ⟨fd, F⟩ := Z.def_ 38 (d := d_law_refused)
  rw [w_law_refused]
  refine ⟨fd, F, def_ok (k := 9) 3 [] F sc_law_refused rfl fun cdv A outer s H F0 E ad hr tk => ?_, Z.glo 69, FunD.bindsN F fun _ _ _ _ _ _ us hl => match us, hl with | [_, _, _], _ => rfl⟩
  have nd := sc_law_refused.nd
  exact (dss_cons (ds_tryH rfl rfl nd tk (und_ok Z) (fun _ _ _ tk _ => (dss_one (ds_expr (dc_callD D_law_ask hr (by decide) tk (dkc (dk_e (de_var 0)) (dkc (dk_e (de_var 1)) (dkc (dk_e (de_var 2)) dkn))))))) (nm_of (g_PackError Z)) (fun hx ob more H1 F1 hc hfs hk hd hzc hff xb => (dss_cons (ds_set 3 (dc_val (de_frz (dc_if (dt_tru (dx_e (de_frz (dc_isE 4 xb hzc hff (isq_ok Z) (f_isinstance Z) (g_InvalidOrder Z))))) (dc_lst (ddc de_str (ddc (de_xf 4 xb hzc hff (xfs_given Z)) ddn))) (dc_lst ddn)))) nd) (dss_cons (ds_set 3 (dc_val (de_frz (dc_bin op_addD fAdd_ok (dx_e (de_var 3)) (dx_e (de_frz (dc_if (dt_tru (dx_e (de_frz (dc_isE 4 xb hzc hff (isq_ok Z) (f_isinstance Z) (g_InvalidNumber Z))))) (dc_lst (ddc de_str (ddc (de_xf 4 xb hzc hff (xfs_given Z)) ddn))) (dc_lst ddn))))))) nd) (dss_cons (ds_set 3 (dc_val (de_frz (dc_bin op_addD fAdd_ok (dx_e (de_var 3)) (dx_e (de_frz (dc_if (dt_tru (dx_e (de_frz (dc_isE 4 xb hzc hff (isq_ok Z) (f_isinstance Z) (g_NotAList Z))))) (dc_lst (ddc de_str (ddc (de_xf 4 xb hzc hff (xfs_given Z)) ddn))) (dc_lst ddn))))))) nd) (dss_cons (ds_set 3 (dc_val (de_frz (dc_bin op_addD fAdd_ok (dx_e (de_var 3)) (dx_e (de_frz (dc_if (dt_tru (dx_e (de_frz (dc_isE 4 xb hzc hff (isq_ok Z) (f_isinstance Z) (g_InvalidText Z))))) (dc_lst (ddc de_str (ddc (de_xf 4 xb hzc hff (xfs_given Z)) ddn))) (dc_lst ddn))))))) nd) (dss_one (ds_ret (dc_if (dt_tru (dx_e (de_frz (dc_isT 4 xb hzc hff (isqt_ok Z) (f_isinstance Z) (f_ValueError Z))))) (dc_val (de_var 3)) (dc_lst ddn)))))))))) (dss_one (ds_ret (dc_val de_non))))
theorem ok_law_ask_viv (Z : ZZ K mg base) : ∃ fd, DefOk P w K mg base 9 "_law_ask" (top 66) fd ["word", "args", "is_named"] 3 [1] w_law_ask_viv := by
  obtain ⟨_, D_row_text⟩ := ok_row_text (P := P) (w := w) Z
  obtain ⟨_, D_fraction_text⟩ := ok_fraction_text (P := P) (w := w) Z
  obtain ⟨_, D_list_text⟩ := ok_list_text (P := P) (w := w) Z
  obtain ⟨_, D_read_list⟩ := ok_read_list (P := P) (w := w) Z
  obtain ⟨fd, F⟩ := Z.def_ 37 (d := d_law_ask)
  rw [w_law_ask_viv]
  refine ⟨fd, F, def_ok (k := 8) 3 [1] F sc_law_ask rfl fun cdv A outer s H F0 E ad hr tk => ?_, Z.glo 68, FunD.bindsN F fun _ _ _ _ _ _ us hl => match us, hl with | [_, _, _], _ => rfl⟩
  have nd := sc_law_ask.nd
  exact (dss_cons (ds_if (dt_cmp (op_eqD hr.units) fEq_ok (dx_e (de_var 0)) (dx_e de_str)) (dss_one (ds_ret (dc_if (dt_tru (dx_e (de_var 2))) (dc_callKD D_row_text (kb_row_text_row D_row_text.fun_) hr (by decide) tk (dkkc (dk_e (de_frz (dc_ix ix_seq fIx_ok (dx_s 1) (dx_e de_int)))) dkkn)) (dc_callD D_row_text hr (by decide) tk (dkc (dk_e (de_frz (dc_ix ix_seq fIx_ok (dx_s 1) (dx_e de_int)))) dkn))))) dss_nil) (dss_cons (ds_if (dt_cmp (op_eqD hr.units) fEq_ok (dx_e (de_var 0)) (dx_e de_str)) (dss_one (ds_ret (dc_if (dt_tru (dx_e (de_var 2))) (dc_callKD D_fraction_text (kb_fraction_text_fraction D_fraction_text.fun_) hr (by decide) tk (dkkc (dk_e (de_frz (dc_ix ix_seq fIx_ok (dx_s 1) (dx_e de_int)))) dkkn)) (dc_callD D_fraction_text hr (by decide) tk (dkc (dk_e (de_frz (dc_ix ix_seq fIx_ok (dx_s 1) (dx_e de_int)))) dkn))))) dss_nil) (dss_cons (ds_if (dt_cmp (op_eqD hr.units) fEq_ok (dx_e (de_var 0)) (dx_e de_str)) (dss_one (ds_ret (dc_if (dt_tru (dx_e (de_var 2))) (dc_callKD D_list_text (kb_list_text_stock D_list_text.fun_) hr (by decide) tk (dkkc (dk_e (de_frz (dc_ix ix_seq fIx_ok (dx_s 1) (dx_e de_int)))) dkkn)) (dc_callD D_list_text hr (by decide) tk (dkc (dk_e (de_frz (dc_ix ix_seq fIx_ok (dx_s 1) (dx_e de_int)))) dkn))))) dss_nil) (dss_one (ds_ret (dc_if (dt_tru (dx_e (de_var 2))) (dc_callKD D_read_list (kb_read_list_text D_read_list.fun_) hr (by decide) tk (dkkc (dk_e (de_frz (dc_ix ix_seq fIx_ok (dx_s 1) (dx_e de_int)))) dkkn)) (dc_callD D_read_list hr (by decide) tk (dkc (dk_e (de_frz (dc_ix ix_seq fIx_ok (dx_s 1) (dx_e de_int)))) dkn))))))))
theorem ok_law_refused_viv (Z : ZZ K mg base) : ∃ fd, DefOk P w K mg base 10 "_law_refused" (top 67) fd ["word", "args", "is_named"] 3 [1] w_law_refused_viv := by
  obtain ⟨_, D_law_ask_viv⟩ := ok_law_ask_viv (P := P) (w := w) Z
  obtain ⟨fd, F⟩ := Z.def_ 38 (d := d_law_refused)
  rw [w_law_refused_viv]
  refine ⟨fd, F, def_ok (k := 9) 3 [1] F sc_law_refused rfl fun cdv A outer s H F0 E ad hr tk => ?_, Z.glo 69, FunD.bindsN F fun _ _ _ _ _ _ us hl => match us, hl with | [_, _, _], _ => rfl⟩
  have nd := sc_law_refused.nd
  exact (dss_cons (ds_tryH rfl rfl nd tk (und_ok Z) (fun _ _ _ tk _ => (dss_one (ds_expr (dc_callD D_law_ask_viv hr (by decide) tk (dkc (dk_e (de_var 0)) (dkc (dk_s 1) (dkc (dk_e (de_var 2)) dkn))))))) (nm_of (g_PackError Z)) (fun hx ob more H1 F1 hc hfs hk hd hzc hff xb => (dss_cons (ds_set 3 (dc_val (de_frz (dc_if (dt_tru (dx_e (de_frz (dc_isE 4 xb hzc hff (isq_ok Z) (f_isinstance Z) (g_InvalidOrder Z))))) (dc_lst (ddc de_str (ddc (de_xf 4 xb hzc hff (xfs_given Z)) ddn))) (dc_lst ddn)))) nd) (dss_cons (ds_set 3 (dc_val (de_frz (dc_bin op_addD fAdd_ok (dx_e (de_var 3)) (dx_e (de_frz (dc_if (dt_tru (dx_e (de_frz (dc_isE 4 xb hzc hff (isq_ok Z) (f_isinstance Z) (g_InvalidNumber Z))))) (dc_lst (ddc de_str (ddc (de_xf 4 xb hzc hff (xfs_given Z)) ddn))) (dc_lst ddn))))))) nd) (dss_cons (ds_set 3 (dc_val (de_frz (dc_bin op_addD fAdd_ok (dx_e (de_var 3)) (dx_e (de_frz (dc_if (dt_tru (dx_e (de_frz (dc_isE 4 xb hzc hff (isq_ok Z) (f_isinstance Z) (g_NotAList Z))))) (dc_lst (ddc de_str (ddc (de_xf 4 xb hzc hff (xfs_given Z)) ddn))) (dc_lst ddn))))))) nd) (dss_cons (ds_set 3 (dc_val (de_frz (dc_bin op_addD fAdd_ok (dx_e (de_var 3)) (dx_e (de_frz (dc_if (dt_tru (dx_e (de_frz (dc_isE 4 xb hzc hff (isq_ok Z) (f_isinstance Z) (g_InvalidText Z))))) (dc_lst (ddc de_str (ddc (de_xf 4 xb hzc hff (xfs_given Z)) ddn))) (dc_lst ddn))))))) nd) (dss_one (ds_ret (dc_if (dt_tru (dx_e (de_frz (dc_isT 4 xb hzc hff (isqt_ok Z) (f_isinstance Z) (f_ValueError Z))))) (dc_val (de_var 3)) (dc_lst ddn)))))))))) (dss_one (ds_ret (dc_val de_non))))
theorem ok_law_same (Z : ZZ K mg base) : ∀ r : Nat, ∃ fd, DefOk P w K mg base (2 + r) "_law_same" (top 51) fd ["one", "other"] 2 [] (w_law_same r)
  | 0 => by
    obtain ⟨fd, F⟩ := Z.def_ 39 (d := d_law_same)
    exact ⟨fd, F, ⟨fun vs H Q E h => by rw [spD_len _ _ _ _ h]; rfl, fun A outer s H args us vs Q E _ _ _ _ ⟨_, _, _, _, _, _, _, _, z, _⟩ => False.elim z⟩, Z.glo 70, FunD.bindsN F fun _ _ _ _ _ _ us hl => match us, hl with | [_, _], _ => rfl⟩
  | r + 1 => by
    obtain ⟨_, Dself⟩ := ok_law_same Z r
    obtain ⟨fd, F⟩ := Z.def_ 39 (d := d_law_same)
    refine ⟨fd, F, def_ok (k := 2 + r) 2 [] F sc_law_same rfl fun cdv A outer s H F0 E ad hr tk => ?_, Z.glo 70, FunD.bindsN F fun _ _ _ _ _ _ us hl => match us, hl with | [_, _], _ => rfl⟩
    have nd := sc_law_same.nd
    exact (dss_cons (ds_if (dt_tru (dx_e (de_frz (dc_callB cr_isi fIsi_ok (f_isinstance Z) (da_cons (dx_e (de_var 0)) (da_cons (dx_e (de_ty (f_tuple Z))) da_nil)))))) (dss_one (ds_ret (dc_and (dx_e (de_frz (dc_callB cr_isi fIsi_ok (f_isinstance Z) (da_cons (dx_e (de_var 1)) (da_cons (dx_e (de_ty (f_tuple Z))) da_nil))))) (dc_and (dx_e (de_frz (dc_cmp (op_eqD hr.units) fEq_ok (dx_e (de_frz (dc_callB call_len fLen_ok (f_len Z) (da_cons (dx_e (de_var 0)) da_nil)))) (dx_e (de_frz (dc_callB call_len fLen_ok (f_len Z) (da_cons (dx_e (de_var 1)) da_nil))))))) (dc_one (dc_cmp (op_eqD hr.units) fEq_ok (dx_e (de_frz (dc_lc [("k", 2)] rfl nd (di_rg1 (f_range Z) (de_frz (dc_callB call_len fLen_ok (f_len Z) (da_cons (dx_e (de_var 0)) da_nil)))) (fun _ _ _ _ _ => (dp_nm 2 nd)) (fun _ _ _ _ _ => (dts_one (dt_not (dt_tru (dx_e (de_frz (dc_callD Dself hr (by omega) takes0 (dkc (dk_e (de_frz (dc_ix ix_seq fIx_ok (dx_e (de_var 0)) (dx_e (de_var 2))))) (dkc (dk_e (de_frz (dc_ix ix_seq fIx_ok (dx_e (de_var 1)) (dx_e (de_var 2))))) dkn))))))))) (fun _ _ _ _ _ => (de_var 2))))) (dx_e (de_frz (dc_lst ddn))))))))) dss_nil) (dss_cons (ds_if (dt_w (dw_or (dt_tru (dx_e (de_frz (dc_callB cr_isi fIsi_ok (f_isinstance Z) (da_cons (dx_e (de_var 0)) (da_cons (dx_e (de_ty (f_bool Z))) da_nil)))))) (dw_or1 (dt_tru (dx_e (de_frz (dc_callB cr_isi fIsi_ok (f_isinstance Z) (da_cons (dx_e (de_var 1)) (da_cons (dx_e (de_ty (f_bool Z))) da_nil))))))))) (dss_one (ds_ret (dc_and (dx_e (de_frz (dc_callB cr_isi fIsi_ok (f_isinstance Z) (da_cons (dx_e (de_var 0)) (da_cons (dx_e (de_ty (f_bool Z))) da_nil))))) (dc_and (dx_e (de_frz (dc_callB cr_isi fIsi_ok (f_isinstance Z) (da_cons (dx_e (de_var 1)) (da_cons (dx_e (de_ty (f_bool Z))) da_nil))))) (dc_one (dc_cmp (op_eqX hr.units) fEqX_ok (dx_e (de_var 0)) (dx_e (de_var 1)))))))) dss_nil) (dss_one (ds_ret (dc_and (dx_e (de_frz (dc_cmp (op_eqD hr.units) fEq_ok (dx_e (de_frz (dc_callB cr_isi fIsi_ok (f_isinstance Z) (da_cons (dx_e (de_var 0)) (da_cons (dx_e (de_ty (f_int Z))) da_nil))))) (dx_e (de_frz (dc_callB cr_isi fIsi_ok (f_isinstance Z) (da_cons (dx_e (de_var 1)) (da_cons (dx_e (de_ty (f_int Z))) da_nil)))))))) (dc_and (dx_e (de_frz (dc_cmp (op_eqD hr.units) fEq_ok (dx_e (de_frz (dc_callB cr_isi fIsi_ok (f_isinstance Z) (da_cons (dx_e (de_var 0)) (da_cons (dx_e (de_ty (f_str Z))) da_nil))))) (dx_e (de_frz (dc_callB cr_isi fIsi_ok (f_isinstance Z) (da_cons (dx_e (de_var 1)) (da_cons (dx_e (de_ty (f_str Z))) da_nil)))))))) (dc_one (dc_cmp (op_eqX hr.units) fEqX_ok (dx_e (de_var 0)) (dx_e (de_var 1))))))))))
theorem okv_law_same (Z : ZZ K mg base) : ∃ fd, DefOk P w K mg base 10 "_law_same" (top 51) fd ["one", "other"] 2 [] v_law_same := by
  rw [v_law_same]
  exact ok_law_same Z 8
theorem ok_law_is_due (Z : ZZ K mg base) : ∃ fd, DefOk P w K mg base 11 "_law_is_due" (top 53) fd ["told", "due"] 2 [] w_law_is_due := by
  obtain ⟨_, D_law_same⟩ := okv_law_same (P := P) (w := w) Z
  obtain ⟨fd, F⟩ := Z.def_ 40 (d := d_law_is_due)
  rw [w_law_is_due]
  refine ⟨fd, F, def_ok (k := 10) 2 [] F sc_law_is_due rfl fun cdv A outer s H F0 E ad hr tk => ?_, Z.glo 71, FunD.bindsN F fun _ _ _ _ _ _ us hl => match us, hl with | [_, _], _ => rfl⟩
  have nd := sc_law_is_due.nd
  exact (dss_one (ds_ret (dc_and (dx_e (de_frz (dc_cmp op_notN fNotN_ok (dx_e (de_var 0)) (dx_e de_non)))) (dc_and (dx_e (de_frz (dc_cmp (op_eqD hr.units) fEq_ok (dx_e (de_frz (dc_callB call_len fLen_ok (f_len Z) (da_cons (dx_e (de_var 0)) da_nil)))) (dx_e de_int)))) (dc_and (dx_e (de_frz (dc_cmp (op_eqD hr.units) fEq_ok (dx_e (de_frz (dc_ix ix_seq fIx_ok (dx_e (de_var 0)) (dx_e de_int)))) (dx_e (de_frz (dc_ix ix_seq fIx_ok (dx_e (de_var 1)) (dx_e de_int))))))) (dc_one (dc_callD D_law_same hr (by decide) tk (dkc (dk_e (de_frz (dc_ix ix_seq fIx_ok (dx_e (de_var 0)) (dx_e de_int)))) (dkc (dk_e (de_frz (dc_ix ix_seq fIx_ok (dx_e (de_var 1)) (dx_e de_int)))) dkn)))))))))
theorem ok_law_refused_each_ivvv (Z : ZZ K mg base) : ∃ fd, DefOk P w K mg base 12 "_law_refused_each" (top 54) fd ["pool", "word", "right", "wrong"] 4 [0] w_law_refused_each_ivvv := by
  obtain ⟨_, D_law_refused⟩ := ok_law_refused (P := P) (w := w) Z
  obtain ⟨_, D_law_draw_iv⟩ := ok_law_draw_iv (P := P) (w := w) Z
  obtain ⟨_, D_law_pick_iv⟩ := ok_law_pick_iv (P := P) (w := w) Z
  obtain ⟨_, D_law_refused_viv⟩ := ok_law_refused_viv (P := P) (w := w) Z
  obtain ⟨_, D_law_is_due⟩ := ok_law_is_due (P := P) (w := w) Z
  obtain ⟨fd, F⟩ := Z.def_ 41 (d := d_law_refused_each)
  rw [w_law_refused_each_ivvv]
  refine ⟨fd, F, def_ok (k := 11) 4 [0] F sc_law_refused_each rfl fun cdv A outer s H F0 E ad hr tk => ?_, Z.glo 72, FunD.bindsN F fun _ _ _ _ _ _ us hl => match us, hl with | [_, _, _, _], _ => rfl⟩
  have nd := sc_law_refused_each.nd
  exact (dss_cons (ds_if (dt_w (dw_or (dt_cmp op_notN fNotN_ok (dx_e (de_frz (dc_callD D_law_refused hr (by decide) tk (dkc (dk_e (de_var 1)) (dkc (dk_e (de_var 2)) (dkc (dk_e de_bl) dkn)))))) (dx_e de_non)) (dw_or1 (dt_cmp op_notN fNotN_ok (dx_e (de_frz (dc_callD D_law_refused hr (by decide) tk (dkc (dk_e (de_var 1)) (dkc (dk_e (de_var 2)) (dkc (dk_e de_bl) dkn)))))) (dx_e de_non))))) (dss_one (ds_ret (dc_val de_bl))) dss_nil) (pss_eq (m_law_refused_each_ivvv_7.eq_1) (dss_cons (ds_for (passes_of rfl) rfl (di_rg1 (f_range Z) (de_frz (dc_callB call_len fLen_ok (f_len Z) (da_cons (dx_e (de_var 2)) da_nil)))) (dg_nm 4 nd) (pss_eq (m_law_refused_each_ivvv_5.eq_1) (dss_one (ds_for (passes_of rfl) rfl (di_sq (de_frz (dc_ix ix_seq fIx_ok (dx_e (de_var 3)) (dx_e (de_var 4))))) (dg_tp rfl (dgs_cons (dg_nm 5 nd) (dgs_cons (dg_nm 6 nd) dgs_nil))) (pss_eq (m_law_refused_each_ivvv_4.eq_1) (dss_cons (ds_set 7 (dc_bin op_addD fAdd_ok (dx_e (de_frz (dc_slice (dx_e (de_var 2)) do_none (do_some (de_var 4))))) (dx_e (de_frz (dc_lst (ddc (de_var 5) ddn))))) nd) (pss_eq (m_law_refused_each_ivvv_3.eq_1) (dss_cons (ds_for (passes_of rfl) rfl (di_rg2 (f_range Z) (de_frz (dc_bin op_addD fAdd_ok (dx_e (de_var 4)) (dx_e de_int))) (de_frz (dc_callB call_len fLen_ok (f_len Z) (da_cons (dx_e (de_var 2)) da_nil)))) (dg_nm 8 nd) (pss_eq (m_law_refused_each_ivvv_1.eq_1) (dss_one (ds_appB 7 (de_frz (dc_if (dt_w (dw_or (dt_cmp (op_eqD hr.units) fEq_ok (dx_e (de_frz (dc_ix ix_seq fIx_ok (dx_e (de_var 3)) (dx_e (de_var 8))))) (dx_e (de_frz (dc_lst ddn)))) (dw_or1 (dt_cmp (op_eqD hr.units) fEq_ok (dx_e (de_frz (dc_callD D_law_draw_iv hr (by decide) tk (dkc (dk_s 0) (dkc (dk_e de_int) dkn))))) (dx_e de_int))))) (dc_ix ix_seq fIx_ok (dx_e (de_var 2)) (dx_e (de_var 8))) (dc_ix ix_seq fIx_ok (dx_e (de_frz (dc_callD D_law_pick_iv hr (by decide) tk (dkc (dk_s 0) (dkc (dk_e (de_frz (dc_ix ix_seq fIx_ok (dx_e (de_var 3)) (dx_e (de_var 8))))) dkn))))) (dx_e de_int)))))))) (pss_eq (m_law_refused_each_ivvv_2.eq_1) (dss_one (ds_if (dt_not (dt_tru (dx_e (de_frz (dc_callD D_law_is_due hr (by decide) tk (dkc (dk_e (de_frz (dc_callD D_law_refused_viv hr (by decide) tk (dkc (dk_e (de_var 1)) (dkc (dk_s 7) (dkc (dk_e (de_frz (dc_cmp (op_eqD hr.units) fEq_ok (dx_e (de_frz (dc_callD D_law_draw_iv hr (by decide) tk (dkc (dk_s 0) (dkc (dk_e de_int) dkn))))) (dx_e de_int)))) dkn)))))) (dkc (dk_e (de_var 6)) dkn))))))) (dss_one (ds_ret (dc_val de_bl))) dss_nil))))))))))) (pss_eq (m_law_refused_each_ivvv_6.eq_1) (dss_one (ds_ret (dc_cmp op_isN fIsN_ok (dx_e (de_frz (dc_callD D_law_refused hr (by decide) tk (dkc (dk_e (de_var 1)) (dkc (dk_e (de_var 2)) (dkc (dk_e (de_frz (dc_cmp (op_eqD hr.units) fEq_ok (dx_e (de_frz (dc_callD D_law_draw_iv hr (by decide) tk (dkc (dk_s 0) (dkc (dk_e de_int) dkn))))) (dx_e de_int)))) dkn)))))) (dx_e de_non))))))))
theorem ok_law_not_fraction_i (Z : ZZ K mg base) : ∃ fd, DefOk P w K mg base 4 "_law_not_fraction" (top 68) fd ["pool"] 1 [0] w_law_not_fraction_i := by
  obtain ⟨_, D_law_pick_iv⟩ := ok_law_pick_iv (P := P) (w := w) Z
  obtain ⟨fd, F⟩ := Z.def_ 42 (d := d_law_not_fraction)
  rw [w_law_not_fraction_i]
  refine ⟨fd, F, def_ok (k := 3) 1 [0] F sc_law_not_fraction rfl fun cdv A outer s H F0 E ad hr tk => ?_, Z.glo 73, FunD.bindsN F fun _ _ _ _ _ _ us hl => match us, hl with | [_], _ => rfl⟩
  have nd := sc_law_not_fraction.nd
  exact (dss_cons (ds_set 1 (dc_val (de_frz (dc_eq (x_law_not_fraction_i_1.eq_1) (dc_lst (ddc de_non (ddc de_int (ddc de_str (ddc (de_tup ddn) (ddc (de_tup (ddc de_int ddn)) (ddc (de_tup (ddc de_int (ddc de_int (ddc de_int ddn)))) (ddc (de_frz (dc_lst (ddc de_int (ddc de_int ddn)))) (ddc (de_tup (ddc de_int (ddc de_int ddn))) (ddc (de_tup (ddc de_int (ddc de_int ddn))) (ddc (de_tup (ddc (de_frz (dc_un un_neg fNeg_ok (dx_e de_int))) (ddc de_int ddn))) (ddc (de_tup (ddc de_int (ddc de_int ddn))) (ddc (de_tup (ddc de_int (ddc de_int ddn))) (ddc (de_tup (ddc de_int (ddc (de_frz (dc_un un_neg fNeg_ok (dx_e de_int))) ddn))) (ddc (de_tup (ddc (de_frz (dc_un un_neg fNeg_ok (dx_e de_int))) (ddc (de_frz (dc_un un_neg fNeg_ok (dx_e de_int))) ddn))) (ddc (de_tup (ddc de_bl (ddc de_int ddn))) (ddc (de_tup (ddc de_int (ddc de_bl ddn))) (ddc (de_tup (ddc (de_tup (ddc de_int (ddc de_int ddn))) (ddc de_int ddn))) (ddc (de_tup (ddc de_str (ddc de_int ddn))) (ddc (de_tup (ddc de_int (ddc de_non ddn))) ddn))))))))))))))))))))))) nd) (pss_eq (m_law_not_fraction_i_1.eq_1) (dss_one (ds_ret (dc_callD D_law_pick_iv hr (by decide) tk (dkc (dk_s 0) (dkc (dk_e (de_frz (dc_bin op_addD fAdd_ok (dx_e (de_var 1)) (dx_e (de_frz (dc_eq (x_law_not_fraction_i_2.eq_1) (dc_lst (ddc de_dic0 (ddc de_bl (ddc (de_tup (ddc de_int (ddc (de_frz (dc_un un_neg fNeg_ok (dx_e de_int))) ddn))) (ddc (de_tup (ddc (de_frz (dc_bin op_pow fPow_ok (dx_e de_int) (dx_e de_int))) (ddc (de_frz (dc_bin op_pow fPow_ok (dx_e de_int) (dx_e de_int))) ddn))) ddn))))))))))) dkn)))))))
theorem ok_law_not_pack_iv (Z : ZZ K mg base) : ∃ fd, DefOk P w K mg base 6 "_law_not_pack" (top 65) fd ["pool", "row"] 2 [0] w_law_not_pack_iv := by
  obtain ⟨_, D_law_draw_iv⟩ := ok_law_draw_iv (P := P) (w := w) Z
  obtain ⟨_, D_law_pick_iv⟩ := ok_law_pick_iv (P := P) (w := w) Z
  obtain ⟨_, D_law_put⟩ := ok_law_put (P := P) (w := w) Z
  obtain ⟨_, D_law_not_row_iv⟩ := ok_law_not_row_iv (P := P) (w := w) Z
  obtain ⟨fd, F⟩ := Z.def_ 43 (d := d_law_not_pack)
  rw [w_law_not_pack_iv]
  refine ⟨fd, F, def_ok (k := 5) 2 [0] F sc_law_not_pack rfl fun cdv A outer s H F0 E ad hr tk => ?_, Z.glo 74, FunD.bindsN F fun _ _ _ _ _ _ us hl => match us, hl with | [_, _], _ => rfl⟩
  have nd := sc_law_not_pack.nd
  exact (dss_cons (ds_set 2 (dc_val (de_frz (dc_callD D_law_draw_iv hr (by decide) tk (dkc (dk_s 0) (dkc (dk_e (de_frz (dc_callB call_len fLen_ok (f_len Z) (da_cons (dx_e (de_var 1)) da_nil)))) dkn))))) nd) (dss_one (ds_ret (dc_if (dt_cmp (op_eqD hr.units) fEq_ok (dx_e (de_frz (dc_callD D_law_draw_iv hr (by decide) tk (dkc (dk_s 0) (dkc (dk_e de_int) dkn))))) (dx_e de_int)) (dc_callD D_law_put hr (by decide) tk (dkc (dk_e (de_var 1)) (dkc (dk_e (de_var 2)) (dkc (dk_e (de_frz (dc_callD D_law_pick_iv hr (by decide) tk (dkc (dk_s 0) (dkc (dk_e (de_frz (dc_lst (ddc de_int (ddc (de_frz (dc_un un_neg fNeg_ok (dx_e de_int))) (ddc (de_frz (dc_bin op_pow fPow_ok (dx_e de_int) (dx_e de_int))) ddn)))))) dkn))))) dkn)))) (dc_callD D_law_not_row_iv hr (by decide) tk (dkc (dk_s 0) (dkc (dk_e (de_var 1)) dkn)))))))
theorem ok_law_not_list_iv (Z : ZZ K mg base) : ∃ fd, DefOk P w K mg base 7 "_law_not_list" (top 69) fd ["pool", "stock"] 2 [0] w_law_not_list_iv := by
  obtain ⟨_, D_law_draw_iv⟩ := ok_law_draw_iv (P := P) (w := w) Z
  obtain ⟨_, D_law_not_pack_iv⟩ := ok_law_not_pack_iv (P := P) (w := w) Z
  obtain ⟨_, D_law_put⟩ := ok_law_put (P := P) (w := w) Z
  obtain ⟨_, D_law_pick_iv⟩ := ok_law_pick_iv (P := P) (w := w) Z
  obtain ⟨fd, F⟩ := Z.def_ 44 (d := d_law_not_list)
  rw [w_law_not_list_iv]
  refine ⟨fd, F, def_ok (k := 6) 2 [0] F sc_law_not_list rfl fun cdv A outer s H F0 E ad hr tk => ?_, Z.glo 75, FunD.bindsN F fun _ _ _ _ _ _ us hl => match us, hl with | [_, _], _ => rfl⟩
  have nd := sc_law_not_list.nd
  exact (dss_cons (ds_asg (dc_val (de_var 1)) (dg_tp rfl (dgs_cons (dg_nm 2 nd) (dgs_cons (dg_nm 3 nd) dgs_nil)))) (pss_eq (m_law_not_list_iv_6.eq_1) (dss_cons (ds_par2 4 5 rfl nd (dcs_cons (dc_val (de_frz (dc_callD D_law_draw_iv hr (by decide) tk (dkc (dk_s 0) (dkc (dk_e de_int) dkn))))) (dcs_cons (dc_val (de_frz (dc_callD D_law_draw_iv hr (by decide) tk (dkc (dk_s 0) (dkc (dk_e (de_frz (dc_callB call_len fLen_ok (f_len Z) (da_cons (dx_e (de_var 3)) da_nil)))) dkn))))) dcs_nil))) (pss_eq (m_law_not_list_iv_5.eq_1) (dss_cons (ds_if (dt_cmp op_lt fLt_ok (dx_e (de_var 4)) (dx_e de_int)) (dss_one (ds_ret (dc_val (de_tup (ddc (de_var 2) (ddc (de_frz (dc_callD D_law_put hr (by decide) tk (dkc (dk_e (de_var 3)) (dkc (dk_e (de_var 5)) (dkc (dk_e (de_frz (dc_callD D_law_not_pack_iv hr (by decide) tk (dkc (dk_s 0) (dkc (dk_e (de_frz (dc_ix ix_seq fIx_ok (dx_e (de_var 3)) (dx_e (de_var 5))))) dkn))))) dkn))))) ddn)))))) dss_nil) (pss_eq (m_law_not_list_iv_4.eq_1) (dss_cons (ds_if (dt_cmp (op_eqD hr.units) fEq_ok (dx_e (de_var 4)) (dx_e de_int)) (dss_one (ds_ret (dc_val (de_tup (ddc (de_var 2) (ddc (de_frz (dc_slice (dx_e (de_frz (dc_bin op_mulD fMul_ok (dx_e (de_var 3)) (dx_e de_int)))) do_none (do_some de_int))) ddn)))))) dss_nil) (pss_eq (m_law_not_list_iv_3.eq_1) (dss_cons (ds_if (dt_cmp (op_eqD hr.units) fEq_ok (dx_e (de_var 4)) (dx_e de_int)) (dss_one (ds_ret (dc_val (de_tup (ddc (de_frz (dc_callD D_law_pick_iv hr (by decide) tk (dkc (dk_s 0) (dkc (dk_e (de_frz (dc_eq (x_law_not_list_iv_1.eq_1) (dc_lst (ddc de_int (ddc de_int (ddc (de_frz (dc_un un_neg fNeg_ok (dx_e de_int))) (ddc de_bl (ddc de_non (ddc de_str (ddc (de_frz (dc_bin op_addD fAdd_ok (dx_e (de_var 2)) (dx_e de_int))) (ddc (de_tup (ddc (de_var 2) ddn)) ddn)))))))))))) dkn)))) (ddc (de_var 3) ddn)))))) dss_nil) (pss_eq (m_law_not_list_iv_2.eq_1) (dss_cons (ds_if (dt_cmp (op_eqD hr.units) fEq_ok (dx_e (de_var 4)) (dx_e de_int)) (dss_one (ds_ret (dc_callD D_law_pick_iv hr (by decide) tk (dkc (dk_s 0) (dkc (dk_e (de_frz (dc_eq (x_law_not_list_iv_2.eq_1) (dc_lst (ddc (de_tup (ddc de_int (ddc (de_tup ddn) ddn))) (ddc (de_tup (ddc de_int (ddc (de_tup ddn) ddn))) (ddc (de_tup (ddc (de_var 2) (ddc (de_frz (dc_bin op_addD fAdd_ok (dx_e (de_var 3)) (dx_e (de_tup (ddc (de_frz (dc_callTy call_tuple_of fTuple_ok (f_tuple Z) (da_cons (dx_e (de_frz (dc_bin op_mulD fMul_ok (dx_e (de_frz (dc_lst (ddc de_int ddn)))) (dx_e (de_frz (dc_bin op_addD fAdd_ok (dx_e (de_var 2)) (dx_e de_int))))))) da_nil))) ddn))))) ddn))) (ddc (de_tup (ddc (de_var 2) (ddc (de_tup (ddc (de_frz (dc_callTy call_tuple_of fTuple_ok (f_tuple Z) (da_cons (dx_e (de_frz (dc_bin op_mulD fMul_ok (dx_e (de_frz (dc_lst (ddc de_int ddn)))) (dx_e (de_var 2))))) da_nil))) ddn)) ddn))) ddn)))))))) dkn))))) dss_nil) (pss_eq (m_law_not_list_iv_1.eq_1) (dss_one (ds_ret (dc_callD D_law_pick_iv hr (by decide) tk (dkc (dk_s 0) (dkc (dk_e (de_frz (dc_eq (x_law_not_list_iv_3.eq_1) (dc_lst (ddc de_non (ddc (de_tup ddn) (ddc (de_frz (dc_callTy call_list_of fList_ok (f_list Z) (da_cons (dx_e (de_var 1)) da_nil))) (ddc (de_tup (ddc (de_var 2) ddn)) (ddc (de_frz (dc_bin op_addD fAdd_ok (dx_e (de_var 1)) (dx_e (de_tup (ddc (de_tup ddn) ddn))))) (ddc (de_tup (ddc (de_var 2) (ddc (de_frz (dc_callTy call_list_of fList_ok (f_list Z) (da_cons (dx_e (de_var 3)) da_nil))) ddn))) (ddc (de_tup (ddc (de_var 3) (ddc (de_var 2) ddn))) (ddc (de_var 3) (ddc (de_var 2) (ddc (de_tup (ddc (de_var 2) (ddc (de_frz (dc_ix ix_seq fIx_ok (dx_e (de_var 3)) (dx_e de_int))) ddn))) (ddc de_str (ddc de_bl (ddc de_dic0 ddn))))))))))))))))) dkn)))))))))))))))))
theorem ok_law_is_list (Z : ZZ K mg base) : ∃ fd, DefOk P w K mg base 4 "_law_is_list" (top 62) fd ["told"] 1 [] w_law_is_list := by
  obtain ⟨_, D_law_is_whole⟩ := ok_law_is_whole (P := P) (w := w) Z
  obtain ⟨_, D_law_is_row⟩ := ok_law_is_row (P := P) (w := w) Z
  obtain ⟨fd, F⟩ := Z.def_ 45 (d := d_law_is_list)
  rw [w_law_is_list]
  refine ⟨fd, F, def_ok (k := 3) 1 [] F sc_law_is_list rfl fun cdv A outer s H F0 E ad hr tk => ?_, Z.glo 76, FunD.bindsN F fun _ _ _ _ _ _ us hl => match us, hl with | [_], _ => rfl⟩
  have nd := sc_law_is_list.nd
  exact (dss_cons (ds_if (dt_w (dw_or (dt_not (dt_tru (dx_e (de_frz (dc_callB cr_isi fIsi_ok (f_isinstance Z) (da_cons (dx_e (de_var 0)) (da_cons (dx_e (de_ty (f_tuple Z))) da_nil))))))) (dw_or (dt_cmp (op_neD hr.units) fNe_ok (dx_e (de_frz (dc_callB call_len fLen_ok (f_len Z) (da_cons (dx_e (de_var 0)) da_nil)))) (dx_e de_int)) (dw_or (dt_not (dt_tru (dx_e (de_frz (dc_callD D_law_is_whole hr (by decide) tk (dkc (dk_e (de_frz (dc_ix ix_seq fIx_ok (dx_e (de_var 0)) (dx_e de_int)))) dkn)))))) (dw_or (dt_cmp op_lt fLt_ok (dx_e (de_frz (dc_ix ix_seq fIx_ok (dx_e (de_var 0)) (dx_e de_int)))) (dx_e de_int)) (dw_or (dt_cmp op_gt fGt_ok (dx_e (de_frz (dc_ix ix_seq fIx_ok (dx_e (de_var 0)) (dx_e de_int)))) (dx_e de_int)) (dw_or1 (dt_not (dt_tru (dx_e (de_frz (dc_callB cr_isi fIsi_ok (f_isinstance Z) (da_cons (dx_e (de_frz (dc_ix ix_seq fIx_ok (dx_e (de_var 0)) (dx_e de_int)))) (da_cons (dx_e (de_ty (f_tuple Z))) da_nil)))))))))))))) (dss_one (ds_ret (dc_val de_bl))) dss_nil) (pss_eq (m_law_is_list_2.eq_1) (dss_cons (ds_if (dt_w (dw_or (dt_cmp op_gt fGt_ok (dx_e (de_frz (dc_callB call_len fLen_ok (f_len Z) (da_cons (dx_e (de_frz (dc_ix ix_seq fIx_ok (dx_e (de_var 0)) (dx_e de_int)))) da_nil)))) (dx_e de_int)) (dw_or1 (dt_cmp (op_neN hr.units) fNeN_ok (dx_e (de_frz (dc_lc [("pack", 1)] rfl nd (di_sq (de_frz (dc_ix ix_seq fIx_ok (dx_e (de_var 0)) (dx_e de_int)))) (fun _ _ _ _ _ => (dp_nm 1 nd)) (fun _ _ _ _ _ => (dts_one (dt_not (dt_tru (dx_e (de_frz (dc_callD D_law_is_row hr (by decide) takes0 (dkc (dk_e (de_var 1)) (dkc (dk_e (de_frz (dc_ix ix_seq fIx_ok (dx_e (de_var 0)) (dx_e de_int)))) dkn))))))))) (fun _ _ _ _ _ => (de_var 1))))) (dx_e (de_frz (dc_lst ddn))))))) (dss_one (ds_ret (dc_val de_bl))) dss_nil) (pss_eq (m_law_is_list_1.eq_1) (dss_one (ds_ret (dc_cmp (op_eqN hr.units) fEqN_ok (dx_e (de_frz (dc_lc [("pack", 1)] rfl nd (di_sq (de_frz (dc_ix ix_seq fIx_ok (dx_e (de_var 0)) (dx_e de_int)))) (fun _ _ _ _ _ => (dp_nm 1 nd)) (fun _ _ _ _ _ => (dts_one (dt_w (dw_or (dt_cmp op_gt fGt_ok (dx_e (de_frz (dc_callB (cr_maxT hr.units rfl) fMaxT_ok (f_max Z) (da_cons (dx_e (de_var 1)) da_nil)))) (dx_e de_int)) (dw_or1 (dt_cmp op_lt fLt_ok (dx_e (de_frz (dc_callB (cr_minT hr.units rfl) fMinT_ok (f_min Z) (da_cons (dx_e (de_var 1)) da_nil)))) (dx_e (de_frz (dc_un un_neg fNeg_ok (dx_e de_int)))))))))) (fun _ _ _ _ _ => (de_var 1))))) (dx_e (de_frz (dc_lst ddn))))))))))
theorem ok_law_right_i (Z : ZZ K mg base) : ∃ fd, DefOk P w K mg base 13 "_law_right" (top 70) fd ["pool"] 1 [0] w_law_right_i := by
  obtain ⟨_, D_law_draw_iv⟩ := ok_law_draw_iv (P := P) (w := w) Z
  obtain ⟨_, D_law_number_iv⟩ := ok_law_number_iv (P := P) (w := w) Z
  obtain ⟨_, D_law_put⟩ := ok_law_put (P := P) (w := w) Z
  obtain ⟨_, D_row_text⟩ := ok_row_text (P := P) (w := w) Z
  obtain ⟨_, D_law_read_row⟩ := ok_law_read_row (P := P) (w := w) Z
  obtain ⟨_, D_law_row_text⟩ := ok_law_row_text (P := P) (w := w) Z
  obtain ⟨_, D_law_pick_iv⟩ := ok_law_pick_iv (P := P) (w := w) Z
  obtain ⟨_, D_law_ratio⟩ := ok_law_ratio (P := P) (w := w) Z
  obtain ⟨_, D_fraction_text⟩ := ok_fraction_text (P := P) (w := w) Z
  obtain ⟨_, D_law_row_ivv⟩ := ok_law_row_ivv (P := P) (w := w) Z
  obtain ⟨_, D_law_not_row_iv⟩ := ok_law_not_row_iv (P := P) (w := w) Z
  obtain ⟨_, D_law_is_row⟩ := ok_law_is_row (P := P) (w := w) Z
  obtain ⟨_, D_law_wrong_given⟩ := ok_law_wrong_given (P := P) (w := w) Z
  obtain ⟨_, D_law_refused_each_ivvv⟩ := ok_law_refused_each_ivvv (P := P) (w := w) Z
  obtain ⟨_, D_law_not_fraction_i⟩ := ok_law_not_fraction_i (P := P) (w := w) Z
  obtain ⟨_, D_law_not_list_iv⟩ := ok_law_not_list_iv (P := P) (w := w) Z
  obtain ⟨_, D_law_is_list⟩ := ok_law_is_list (P := P) (w := w) Z
  obtain ⟨fd, F⟩ := Z.def_ 46 (d := d_law_right)
  rw [w_law_right_i]
  refine ⟨fd, F, def_ok (k := 12) 1 [0] F sc_law_right rfl fun cdv A outer s H F0 E ad hr tk => ?_, Z.glo 77, FunD.bindsN F fun _ _ _ _ _ _ us hl => match us, hl with | [_], _ => rfl⟩
  have nd := sc_law_right.nd
  exact (dss_cons (ds_for (passes_of rfl) rfl (di_rg1 (f_range Z) de_int) (dg_nm 1 nd) (pss_eq (m_law_right_i_8.eq_1) (dss_cons (ds_set 2 (dc_val (de_frz (dc_callTy call_tuple_of fTuple_ok (f_tuple Z) (da_cons (dx_e (de_frz (dc_lc [("each", 13)] rfl nd (di_rg1 (f_range Z) (de_frz (dc_bin op_addD fAdd_ok (dx_e de_int) (dx_e (de_frz (dc_callD D_law_draw_iv hr (by decide) tk (dkc (dk_s 0) (dkc (dk_e de_int) dkn)))))))) (fun _ _ _ _ _ => (dp_nm 13 nd)) (fun _ _ _ _ _ => dts_nil) (fun _ _ _ _ _ => (de_frz (dc_callD D_law_number_iv hr (by decide) takes0 (dkc (dk_s 0) (dkc (dk_e (de_frz (dc_callD D_law_draw_iv hr (by decide) takes0 (dkc (dk_s 0) (dkc (dk_e de_int) dkn))))) dkn)))))))) da_nil)))) nd) (pss_eq (m_law_right_i_7.eq_1) (dss_cons (ds_set 2 (dc_val (de_frz (dc_if (dt_cmp (op_eqD hr.units) fEq_ok (dx_e (de_frz (dc_callD D_law_draw_iv hr (by decide) tk (dkc (dk_s 0) (dkc (dk_e de_int) dkn))))) (dx_e de_int)) (dc_callD D_law_put hr (by decide) tk (dkc (dk_e (de_var 2)) (dkc (dk_e de_int) (dkc (dk_e (de_frz (dc_bin op_sub fSub_ok (dx_e (de_frz (dc_callD D_law_draw_iv hr (by decide) tk (dkc (dk_s 0) (dkc (dk_e (de_frz (dc_bin op_pow fPow_ok (dx_e de_int) (dx_e de_int)))) dkn))))) (dx_e (de_frz (dc_bin op_mulD fMul_ok (dx_e de_int) (dx_e (de_frz (dc_bin op_pow fPow_ok (dx_e de_int) (dx_e de_int)))))))))) dkn)))) (dc_val (de_var 2))))) nd) (pss_eq (m_law_right_i_6.eq_1) (dss_cons (ds_set 3 (dc_val (de_frz (dc_if (dt_cmp (op_eqD hr.units) fEq_ok (dx_e (de_frz (dc_callD D_law_draw_iv hr (by decide) tk (dkc (dk_s 0) (dkc (dk_e de_int) dkn))))) (dx_e de_int)) (dc_callKD D_row_text (kb_row_text_row D_row_text.fun_) hr (by decide) tk (dkkc (dk_e (de_var 2)) dkkn)) (dc_callD D_row_text hr (by decide) tk (dkc (dk_e (de_var 2)) dkn))))) nd) (pss_eq (m_law_right_i_5.eq_1) (dss_cons (ds_if (dt_w (dw_or (dt_not (dt_tru (dx_e (de_frz (dc_callB cr_isi fIsi_ok (f_isinstance Z) (da_cons (dx_e (de_var 3)) (da_cons (dx_e (de_ty (f_str Z))) da_nil))))))) (dw_or (dt_cmp (op_neD hr.units) fNe_ok (dx_e (de_var 3)) (dx_e (de_frz (dc_callD D_law_row_text hr (by decide) tk (dkc (dk_e (de_var 2)) dkn))))) (dw_or1 (dt_cmp (op_neD hr.units) fNe_ok (dx_e (de_frz (dc_callD D_law_read_row hr (by decide) tk (dkc (dk_e (de_var 3)) (dkc (dk_e (de_frz (dc_callB call_len fLen_ok (f_len Z) (da_cons (dx_e (de_var 2)) da_nil)))) dkn))))) (dx_e (de_var 2))))))) (dss_one (ds_ret (dc_val de_bl))) dss_nil) (pss_eq (m_law_right_i_4.eq_1) (dss_cons (ds_par2 4 5 rfl nd (dcs_cons (dc_val (de_frz (dc_callD D_law_number_iv hr (by decide) tk (dkc (dk_s 0) (dkc (dk_e (de_frz (dc_callD D_law_draw_iv hr (by decide) tk (dkc (dk_s 0) (dkc (dk_e de_int) dkn))))) dkn))))) (dcs_cons (dc_val (de_frz (dc_bin op_addD fAdd_ok (dx_e de_int) (dx_e (de_frz (dc_callD D_law_draw_iv hr (by decide) tk (dkc (dk_s 0) (dkc (dk_e (de_frz (dc_callD D_law_pick_iv hr (by decide) tk (dkc (dk_s 0) (dkc (dk_e (de_frz (dc_lst (ddc de_int (ddc de_int (ddc (de_frz (dc_bin op_pow fPow_ok (dx_e de_int) (dx_e de_int))) ddn)))))) dkn))))) dkn)))))))) dcs_nil))) (pss_eq (m_law_right_i_3.eq_1) (dss_cons (ds_set 6 (dc_val (de_frz (dc_callD D_law_ratio hr (by decide) tk (dkc (dk_e (de_var 4)) (dkc (dk_e (de_var 5)) dkn))))) nd) (pss_eq (m_law_right_i_2.eq_1) (dss_cons (ds_set 3 (dc_val (de_frz (dc_if (dt_cmp (op_eqD hr.units) fEq_ok (dx_e (de_frz (dc_callD D_law_draw_iv hr (by decide) tk (dkc (dk_s 0) (dkc (dk_e de_int) dkn))))) (dx_e de_int)) (dc_callKD D_fraction_text (kb_fraction_text_fraction D_fraction_text.fun_) hr (by decide) tk (dkkc (dk_e (de_var 6)) dkkn)) (dc_callD D_fraction_text hr (by decide) tk (dkc (dk_e (de_var 6)) dkn))))) nd) (pss_eq (m_law_right_i_1.eq_1) (dss_one (ds_if (dt_w (dw_or (dt_not (dt_tru (dx_e (de_frz (dc_callB cr_isi fIsi_ok (f_isinstance Z) (da_cons (dx_e (de_var 3)) (da_cons (dx_e (de_ty (f_str Z))) da_nil))))))) (dw_or1 (dt_cmp (op_neD hr.units) fNe_ok (dx_e (de_var 3)) (dx_e (de_frz (dc_if (dt_cmp (op_eqD hr.units) fEq_ok (dx_e (de_frz (dc_ix ix_seq fIx_ok (dx_e (de_var 6)) (dx_e de_int)))) (dx_e de_int)) (dc_callTy call_str fStr_ok (f_str Z) (da_cons (dx_e (de_frz (dc_ix ix_seq fIx_ok (dx_e (de_var 6)) (dx_e de_int)))) da_nil)) (dc_bin op_addD fAdd_ok (dx_e (de_frz (dc_bin op_addD fAdd_ok (dx_e (de_frz (dc_callTy call_str fStr_ok (f_str Z) (da_cons (dx_e (de_frz (dc_ix ix_seq fIx_ok (dx_e (de_var 6)) (dx_e de_int)))) da_nil)))) (dx_e de_str)))) (dx_e (de_frz (dc_callTy call_str fStr_ok (f_str Z) (da_cons (dx_e (de_frz (dc_ix ix_seq fIx_ok (dx_e (de_var 6)) (dx_e de_int)))) da_nil)))))))))))) (dss_one (ds_ret (dc_val de_bl))) dss_nil)))))))))))))))))) (pss_eq (m_law_right_i_21.eq_1) (dss_cons (ds_set 2 (dc_val (de_frz (dc_callD D_law_row_ivv hr (by decide) tk (dkc (dk_s 0) (dkc (dk_e (de_frz (dc_bin op_addD fAdd_ok (dx_e de_int) (dx_e (de_frz (dc_callD D_law_draw_iv hr (by decide) tk (dkc (dk_s 0) (dkc (dk_e de_int) dkn)))))))) (dkc (dk_e (de_frz (dc_callD D_law_draw_iv hr (by decide) tk (dkc (dk_s 0) (dkc (dk_e de_int) dkn))))) dkn)))))) nd) (pss_eq (m_law_right_i_20.eq_1) (dss_cons (ds_setLcV 7 [("value", 12)] rfl nd (di_sq (de_frz (dc_lc [("turn", 1)] rfl nd (di_rg1 (f_range Z) de_int) (fun _ _ _ _ _ => (dp_nm 1 nd)) (fun _ _ _ _ _ => dts_nil) (fun _ _ _ _ _ => (de_frz (dc_callD D_law_not_row_iv hr (by decide) takes0 (dkc (dk_s 0) (dkc (dk_e (de_var 2)) dkn)))))))) (fun _ _ _ _ _ => (dp_nm 12 nd)) (fun _ _ _ _ _ => (dts_one (dt_w (dw_or (dt_w (dw_and (dt_not (dt_tru (dx_e (de_frz (dc_callD D_law_is_row hr (by decide) takes0 (dkc (dk_e (de_var 12)) (dkc (dk_e (de_frz (dc_bin op_addD fAdd_ok (dx_e (de_frz (dc_callB call_len fLen_ok (f_len Z) (da_cons (dx_e (de_var 2)) da_nil)))) (dx_e de_int)))) dkn))))))) (dw_and1 (dt_not (dt_tru (dx_e (de_frz (dc_callD D_law_is_row hr (by decide) takes0 (dkc (dk_e (de_var 12)) (dkc (dk_e (de_frz (dc_bin op_sub fSub_ok (dx_e (de_frz (dc_callB call_len fLen_ok (f_len Z) (da_cons (dx_e (de_var 2)) da_nil)))) (dx_e de_int)))) dkn)))))))))) (dw_or1 (dt_cmp (op_eq0 hr.units) fEq0_ok (dx_e (de_var 12)) (dx_e (de_tup ddn)))))))) (fun _ _ _ _ _ => (de_var 12))) (pss_eq (m_law_right_i_19.eq_1) (dss_cons (ds_set 7 (dc_val (de_frz (dc_bin op_addD fAdd_ok (dx_e (de_var 7)) (dx_e (de_frz (dc_eq (x_law_right_i_1.eq_1) (dc_lst (ddc (de_tup ddn) (ddc de_non (ddc (de_tup (ddc de_non ddn)) (ddc (de_tup (ddc de_bl ddn)) (ddc (de_tup (ddc de_str ddn)) (ddc (de_frz (dc_lst (ddc de_int ddn))) (ddc (de_tup (ddc (de_tup (ddc de_int ddn)) ddn)) (ddc (de_tup (ddc de_int (ddc de_bl ddn))) (ddc de_int (ddc de_str ddn))))))))))))))))) nd) (pss_eq (m_law_right_i_18.eq_1) (dss_cons (ds_if (dt_not (dt_tru (dx_e (de_frz (dc_callD D_law_refused_each_ivvv hr (by decide) tk (dkc (dk_s 0) (dkc (dk_e de_str) (dkc (dk_e (de_frz (dc_lst (ddc (de_var 2) ddn)))) (dkc (dk_e (de_frz (dc_lst (ddc (de_frz (dc_callD D_law_wrong_given hr (by decide) tk (dkc (dk_e de_str) (dkc (dk_e (de_var 7)) dkn)))) ddn)))) dkn))))))))) (dss_one (ds_ret (dc_val de_bl))) dss_nil) (pss_eq (m_law_right_i_17.eq_1) (dss_cons (ds_if (dt_not (dt_tru (dx_e (de_frz (dc_callD D_law_refused_each_ivvv hr (by decide) tk (dkc (dk_s 0) (dkc (dk_e de_str) (dkc (dk_e (de_frz (dc_lst (ddc (de_tup (ddc (de_frz (dc_un un_neg fNeg_ok (dx_e de_int))) (ddc de_int ddn))) ddn)))) (dkc (dk_e (de_frz (dc_lst (ddc (de_frz (dc_callD D_law_wrong_given hr (by decide) tk (dkc (dk_e de_str) (dkc (dk_e (de_frz (dc_lc [("turn", 1)] rfl nd (di_rg1 (f_range Z) de_int) (fun _ _ _ _ _ => (dp_nm 1 nd)) (fun _ _ _ _ _ => dts_nil) (fun _ _ _ _ _ => (de_frz (dc_callD D_law_not_fraction_i hr (by decide) takes0 (dkc (dk_s 0) dkn))))))) dkn)))) ddn)))) dkn))))))))) (dss_one (ds_ret (dc_val de_bl))) dss_nil) (pss_eq (m_law_right_i_16.eq_1) (dss_cons (ds_set 8 (dc_val (de_frz (dc_bin op_addD fAdd_ok (dx_e de_int) (dx_e (de_frz (dc_callD D_law_draw_iv hr (by decide) tk (dkc (dk_s 0) (dkc (dk_e de_int) dkn)))))))) nd) (pss_eq (m_law_right_i_15.eq_1) (dss_cons (ds_set 9 (dc_val (de_tup (ddc (de_var 8) (ddc (de_frz (dc_callTy call_tuple_of fTuple_ok (f_tuple Z) (da_cons (dx_e (de_frz (dc_lc [("turn", 1)] rfl nd (di_rg1 (f_range Z) (de_frz (dc_bin op_addD fAdd_ok (dx_e de_int) (dx_e (de_frz (dc_callD D_law_draw_iv hr (by decide) tk (dkc (dk_s 0) (dkc (dk_e de_int) dkn)))))))) (fun _ _ _ _ _ => (dp_nm 1 nd)) (fun _ _ _ _ _ => dts_nil) (fun _ _ _ _ _ => (de_frz (dc_callD D_law_row_ivv hr (by decide) takes0 (dkc (dk_s 0) (dkc (dk_e (de_var 8)) (dkc (dk_e (de_frz (dc_callD D_law_draw_iv hr (by decide) takes0 (dkc (dk_s 0) (dkc (dk_e de_int) dkn))))) dkn))))))))) da_nil))) ddn)))) nd) (pss_eq (m_law_right_i_14.eq_1) (dss_cons (ds_setLcV 10 [("turn", 1)] rfl nd (di_rg1 (f_range Z) de_int) (fun _ _ _ _ _ => (dp_nm 1 nd)) (fun _ _ _ _ _ => dts_nil) (fun _ _ _ _ _ => (de_frz (dc_callD D_law_not_list_iv hr (by decide) takes0 (dkc (dk_s 0) (dkc (dk_e (de_var 9)) dkn)))))) (pss_eq (m_law_right_i_13.eq_1) (dss_cons (ds_setLcV 10 [("value", 12)] rfl nd (di_sq (de_var 10)) (fun _ _ _ _ _ => (dp_nm 12 nd)) (fun _ _ _ _ _ => (dts_one (dt_not (dt_tru (dx_e (de_frz (dc_callD D_law_is_list hr (by decide) takes0 (dkc (dk_e (de_var 12)) dkn)))))))) (fun _ _ _ _ _ => (de_var 12))) (pss_eq (m_law_right_i_12.eq_1) (dss_cons (ds_if (dt_not (dt_tru (dx_e (de_frz (dc_callD D_law_refused_each_ivvv hr (by decide) tk (dkc (dk_s 0) (dkc (dk_e de_str) (dkc (dk_e (de_frz (dc_lst (ddc (de_var 9) ddn)))) (dkc (dk_e (de_frz (dc_lst (ddc (de_frz (dc_callD D_law_wrong_given hr (by decide) tk (dkc (dk_e de_str) (dkc (dk_e (de_var 10)) dkn)))) ddn)))) dkn))))))))) (dss_one (ds_ret (dc_val de_bl))) dss_nil) (pss_eq (m_law_right_i_11.eq_1) (dss_cons (ds_set 11 (dc_val (de_frz (dc_callD D_law_wrong_given hr (by decide) tk (dkc (dk_e de_str) (dkc (dk_e (de_frz (dc_eq (x_law_right_i_2.eq_1) (dc_lst (ddc de_non (ddc de_bl (ddc de_int (ddc (de_tup ddn) (ddc (de_frz (dc_lst (ddc de_str ddn))) (ddc (de_tup (ddc de_str ddn)) (ddc de_dic0 (ddc (de_frz (dc_bin op_pow fPow_ok (dx_e de_int) (dx_e de_int))) (ddc (de_var 9) (ddc de_str (ddc de_str (ddc de_str (ddc de_str (ddc de_str ddn)))))))))))))))))) dkn))))) nd) (pss_eq (m_law_right_i_10.eq_1) (dss_cons (ds_if (dt_not (dt_tru (dx_e (de_frz (dc_callD D_law_refused_each_ivvv hr (by decide) tk (dkc (dk_s 0) (dkc (dk_e de_str) (dkc (dk_e (de_frz (dc_lst (ddc (de_frz (dc_bin op_addD fAdd_ok (dx_e (de_frz (dc_bin op_addD fAdd_ok (dx_e de_str) (dx_e (de_frz (dc_callTy call_str fStr_ok (f_str Z) (da_cons (dx_e (de_var 8)) da_nil))))))) (dx_e de_str))) ddn)))) (dkc (dk_e (de_frz (dc_lst (ddc (de_var 11) ddn)))) dkn))))))))) (dss_one (ds_ret (dc_val de_bl))) dss_nil) (pss_eq (m_law_right_i_9.eq_1) (dss_one (ds_ret (dc_and (dx_e (de_frz (dc_cmp (op_eqD hr.units) fEq_ok (dx_e (de_frz (dc_callD D_row_text hr (by decide) tk (dkc (dk_e (de_tup (ddc de_int ddn))) dkn)))) (dx_e de_str)))) (dc_and (dx_e (de_frz (dc_cmp (op_eqD hr.units) fEq_ok (dx_e (de_frz (dc_callD D_row_text hr (by decide) tk (dkc (dk_e (de_tup (ddc (de_frz (dc_un un_neg fNeg_ok (dx_e de_int))) (ddc de_int ddn)))) dkn)))) (dx_e de_str)))) (dc_and (dx_e (de_frz (dc_cmp (op_eqD hr.units) fEq_ok (dx_e (de_frz (dc_callD D_fraction_text hr (by decide) tk (dkc (dk_e (de_tup (ddc de_int (ddc de_int ddn)))) dkn)))) (dx_e de_str)))) (dc_one (dc_cmp (op_eqD hr.units) fEq_ok (dx_e (de_frz (dc_callD D_fraction_text hr (by decide) tk (dkc (dk_e (de_tup (ddc (de_frz (dc_un un_neg fNeg_ok (dx_e de_int))) (ddc de_int ddn)))) dkn)))) (dx_e de_str))))))))))))))))))))))))))))))))))
theorem ok_law (Z : ZZ K mg base) : ∃ fd, DefOk P w K mg base 14 "law" (top 71) fd ["script"] 1 [] w_law := by
  obtain ⟨_, D_law_pool⟩ := ok_law_pool (P := P) (w := w) Z
  obtain ⟨_, D_law_right_i⟩ := ok_law_right_i (P := P) (w := w) Z
  obtain ⟨fd, F⟩ := Z.def_ 47 (d := d_law)
  rw [w_law]
  refine ⟨fd, F, def_ok (k := 13) 1 [] F sc_law rfl fun cdv A outer s H F0 E ad hr tk => ?_, Z.glo 78, FunD.bindsN F fun _ _ _ _ _ _ us hl => match us, hl with | [_], _ => rfl⟩
  have nd := sc_law.nd
  exact (dss_cons (ds_for (passes_of rfl) rfl (di_rg1 (f_range Z) (de_frz (dc_callB (cr_maxD rfl) fMax_ok (f_max Z) (da_cons (dx_e de_int) (da_cons (dx_e (de_frz (dc_callB (cr_minD rfl) fMin_ok (f_min Z) (da_cons (dx_e (de_frz (dc_callB call_len fLen_ok (f_len Z) (da_cons (dx_e (de_var 0)) da_nil)))) (da_cons (dx_e de_int) da_nil))))) da_nil))))) (dg_nm 1 nd) (dss_one (ds_if (dt_not (dt_tru (dx_e (de_frz (dc_callD D_law_right_i hr (by decide) tk (dkc (dk_t (dc_callD D_law_pool hr (by decide) tk (dkc (dk_e (de_var 0)) (dkc (dk_e (de_var 1)) dkn)))) dkn)))))) (dss_one (ds_ret (dc_val de_bl))) dss_nil))) (dss_one (ds_ret (dc_val de_bl))))
end
end Lk80
namespace Lk80
open PySem PySem.Spec PyProof.Rows L2 DL
abbrev R : PySem.W.OpenRow := PySem.W.OpenLaw.row PySem.Challenge.rw_packtags_k80_whole_texts_of_rows_and_fra
abbrev hk : PySem.W.Hook := hookF 4 fa fn (exAll exs)
def ob (s : PySem.W.SharedT) : He.AlD := obsF 4 fa fn (exAll exs) (HandSHeadRun.getT s)
theorem ob_eq (s : PySem.W.SharedT) : ob s = hk.obs s.abs := obsF_eq (HandSHeadRun.getT_eq s)
def loose : List PySem.Str := (["gcd", "PackError", "NotAList", "InvalidOrder", "InvalidNumber", "InvalidText", "is_whole", "is_between", "is_tuple_of", "are_wholes", "are_between", "is_fraction", "MOST_GOODS", "MOST_PACKS", "MOST_IN_PACK", "MANY", "PACKS", "is_pack", "is_list_by", "check_list", "FIGURES", "BLANK", "END", "MINUS", "GOODS_WORD", "PACK_WORD", "is_figures", "is_number_text", "text_of_row", "read_numbers", "text_of_fraction", "text_of_list", "read_line", "read_lines", "list_with_text", "row_text", "fraction_text", "list_text", "read_list", "_law_pool", "_law_draw", "_law_pick", "_law_ratio", "_law_is_whole", "_law_same", "_law_put", "_law_is_due", "_law_refused_each", "_law_wrong_given", "_law_number", "_law_row", "_law_figures", "_law_row_text", "_law_read_row", "_law_is_row", "_law_is_list", "_law_not_number", "_law_not_row", "_law_not_pack", "_law_ask", "_law_refused", "_law_not_fraction", "_law_not_list", "_law_right"] : List String).map PySem.Str.ofString
noncomputable abbrev whole (w : World) := HandSHeadRun.wholeF (fun p => HandSHeadRun.stepQ (HandSHeadRun.denQ HandSHeadRun.tabQ) p w) HandSHeadRun.fenceQ 5000 R.prog
theorem run1 (w : World) : (whole w).map (fun x => HandSHeadRun.looksF R.prog x.1.heap x.2.abs) = some true := by
  kernel_rfl
theorem run2 (w : World) : (whole w).map (fun x => HandSHeadRun.seenQ (PySem.W.view R.prog [71]) loose (PySem.importedModules R.prog.main.body) (fun s => PySem.W.xlAt (PySem.W.view R.prog [71]) [] s && PySem.W.recOk R.toRowW.records s) x.2.abs) = some (PySem.W.openGood (PySem.W.view R.prog [71]) loose) := by
  kernel_rfl
theorem run3 (w : World) : (whole w).map (fun x => ob x.2) = some (hk.val w) := by
  kernel_rfl
theorem opt3 {α β γ δ : Type} {o : Option α} {f : α → β} {g : α → γ} {h : α → δ} {b : β} {c : γ} {d : δ} (h1 : o.map f = some b) (h2 : o.map g = some c) (h3 : o.map h = some d) : o.map (fun x => (f x, g x, h x)) = some (b, c, d) := by
  cases o with
  | none => cases h1
  | some x =>
    injection h1 with h1
    injection h2 with h2
    injection h3 with h3
    show some (f x, g x, h x) = _
    rw [h1, h2, h3]
theorem run (w : World) : HandSHeadRun.RunEqI R (PySem.W.view R.prog [71]) hk ob 5000 loose w := by
  delta HandSHeadRun.RunEqI
  exact opt3 (run1 w) (run2 w) (run3 w)
end Lk80
/-! The plain side: how mirrors are read. -/
namespace DL
open PySem PySem.Spec PyProof.Rows L2
/-- a def that changes nothing and tells r -/
def Ret (w : DSp) (cs : List Cell) (r : D) : Prop := ∀ Qd Ed, (∀ o, Qd (.val r) o) → w cs Qd Ed
/-- .. tells a new list -/
def RetO (w : DSp) (cs : List Cell) (r : List D) : Prop := ∀ Qd Ed, (∀ o, Qd (.own r) o) → w cs Qd Ed
/-- one turn of a comprehension -/
def stp (p : Pt) (tt : DT) (te : DE) (vs : List Nat) (d : D) (ρ : En) (Kt : D → En → Prop) (Kf : En → Prop) : Prop :=
  ptGo p d ρ fun ρ1 => tt ρ1 (fun b ρ2 => if b = true then te ρ2 (fun x ρ3 => Kt x (wipeE ρ3 vs)) noX else Kf (wipeE ρ2 vs)) noX
theorem lcGo_cons {p : Pt} {tt : DT} {te : DE} {vs : List Nat} {d : D} {ds acc : List D} {ρ : En} {Q : List D → En → Prop}
    (h : stp p tt te vs d ρ (fun x ρ' => acc.length < sizeLine ∧ lcGo p tt te vs ds (acc ++ [x]) ρ' Q) fun ρ' => lcGo p tt te vs ds acc ρ' Q) : lcGo p tt te vs (d :: ds) acc ρ Q := h
/-- each item by itself, the names as they were -/
theorem lcGo_enc {α : Type} {p : Pt} {tt : DT} {te : DE} {vs : List Nat} (e g : α → D) {ρ : En} {Q : List D → En → Prop} : ∀ (zs : List α) (acc : List D), (∀ z ∈ zs, ∀ Kt Kf, Kt (g z) ρ → stp p tt te vs (e z) ρ Kt Kf) → acc.length + zs.length ≤ sizeLine →
    Q (acc ++ zs.map g) ρ → lcGo p tt te vs (zs.map e) acc ρ Q
  | [], acc, _, _, q => by
    rw [List.map_nil, List.append_nil] at q
    exact q
  | z :: zs, acc, h, hl, q => by
    refine lcGo_cons (h z List.mem_cons_self _ _ ⟨?_, ?_⟩)
    · rw [List.length_cons] at hl; omega
    · refine lcGo_enc e g zs _ (fun y hy => h y (List.mem_cons_of_mem _ hy)) ?_ ?_
      · rw [List.length_append, List.length_cons, List.length_nil]; rw [List.length_cons] at hl; omega
      · rw [List.append_assoc]; exact q
/-- .. with a test: some items are left out -/
theorem lcGo_fil {α : Type} {p : Pt} {tt : DT} {te : DE} {vs : List Nat} (e : α → D) (g : α → Option D) {ρ : En} {Q : List D → En → Prop} : ∀ (zs : List α) (acc : List D), (∀ z ∈ zs, ∀ Kt Kf, (∀ x, g z = some x → Kt x ρ) → (g z = none → Kf ρ) → stp p tt te vs (e z) ρ Kt Kf) → acc.length + zs.length ≤ sizeLine →
    Q (acc ++ zs.filterMap g) ρ → lcGo p tt te vs (zs.map e) acc ρ Q
  | [], acc, _, _, q => by
    rw [List.filterMap_nil, List.append_nil] at q
    exact q
  | z :: zs, acc, h, hl, q => by
    rw [List.length_cons] at hl
    refine lcGo_cons (h z List.mem_cons_self _ _ (fun x hx => ⟨by omega, ?_⟩) (fun hx => ?_))
    · refine lcGo_fil e g zs _ (fun y hy => h y (List.mem_cons_of_mem _ hy)) ?_ ?_
      · rw [List.length_append, List.length_cons, List.length_nil]; omega
      · rw [List.filterMap_cons, hx] at q
        rw [List.append_assoc]; exact q
    · refine lcGo_fil e g zs _ (fun y hy => h y (List.mem_cons_of_mem _ hy)) (by omega) ?_
      rw [List.filterMap_cons, hx] at q
      exact q
/-- .. with a state: I what is true behind some items -/
theorem lcGo_inv {p : Pt} {tt : DT} {te : DE} {vs : List Nat} {Q : List D → En → Prop} (I : List D → En → Prop) : ∀ (items acc : List D) (ρ : En), acc.length + items.length ≤ sizeLine →
    (∀ d ∈ items, ∀ acc' ρ', acc'.length < acc.length + items.length → I acc' ρ' → ∀ Kt Kf, (∀ x ρ'', I (acc' ++ [x]) ρ'' → Kt x ρ'') → stp p tt te vs d ρ' Kt Kf) → I acc ρ → (∀ acc' ρ', acc'.length = acc.length + items.length → I acc' ρ' → Q acc' ρ') → lcGo p tt te vs items acc ρ Q
  | [], acc, ρ, _, _, i, q => q acc ρ rfl i
  | d :: ds, acc, ρ, hl, h, i, q => by
    rw [List.length_cons] at hl
    refine lcGo_cons (h d List.mem_cons_self acc ρ (by rw [List.length_cons]; omega) i _ _ fun x ρ' i' => ⟨by omega, ?_⟩)
    refine lcGo_inv I ds _ ρ' ?_ (fun y hy acc' ρ'' hl' => h y (List.mem_cons_of_mem _ hy) acc' ρ'' ?_) i' fun acc' ρ'' hl' i'' => q acc' ρ'' ?_ i''
    · rw [List.length_append, List.length_cons, List.length_nil]; omega
    · rw [List.length_append, List.length_cons, List.length_nil] at hl'; rw [List.length_cons]; omega
    · rw [hl', List.length_append, List.length_cons, List.length_cons, List.length_nil]; omega
theorem lcGo_ix {p : Pt} {tt : DT} {te : DE} {vs : List Nat} {Q : List D → En → Prop} (I : List D → En → Prop) : ∀ (items acc : List D) (ρ : En), acc.length + items.length ≤ sizeLine →
    (∀ (i : Nat) d, items[i]? = some d → ∀ acc' ρ', acc'.length = acc.length + i → I acc' ρ' → ∀ Kt Kf, (∀ x ρ'', I (acc' ++ [x]) ρ'' → Kt x ρ'') → stp p tt te vs d ρ' Kt Kf) → I acc ρ → (∀ acc' ρ', acc'.length = acc.length + items.length → I acc' ρ' → Q acc' ρ') → lcGo p tt te vs items acc ρ Q
  | [], acc, ρ, _, _, i, q => q acc ρ rfl i
  | d :: ds, acc, ρ, hl, h, i, q => by
    rw [List.length_cons] at hl
    refine lcGo_cons (h 0 d rfl acc ρ rfl i _ _ fun x ρ' i' => ⟨by omega, ?_⟩)
    refine lcGo_ix I ds _ ρ' ?_ (fun j y hy acc' ρ'' hl' => h (j + 1) y (by simpa using hy) acc' ρ'' ?_) i' fun acc' ρ'' hl' i'' => q acc' ρ'' ?_ i''
    · rw [List.length_append, List.length_cons, List.length_nil]; omega
    · rw [List.length_append, List.length_cons, List.length_nil] at hl'; omega
    · rw [hl', List.length_append, List.length_cons, List.length_cons, List.length_nil]; omega
/-- for: I what is true ahead of the items that are left -/
theorem forGo_ind {tg : Tg} {tb : DS} {D : DEnds} (I : List DL.D → En → Prop) (done : ∀ ρ, I [] ρ → D.nx ρ) (step : ∀ d ds ρ, I (d :: ds) ρ → ∀ N : En → Prop, (∀ ρ', I ds ρ' → N ρ') → tgGo tg (.val d) ρ (fun ρ1 => tb { D with nx := N, ct := N, bk := D.nx } ρ1) D.ex) :
    ∀ items ρ, I items ρ → forGo tg tb items D ρ
  | [], ρ, i => done ρ i
  | d :: ds, ρ, i => step d ds ρ i _ fun ρ' i' => forGo_ind I done step ds ρ' i'
/-! ### data of whole numbers -/
abbrev ti (xs : List Int) : D := .tup (xs.map D.int)
abbrev tt (xss : List (List Int)) : D := .tup (xss.map ti)
theorem zipD2_map {α β : Type} (f : α → D) (g : β → D) : ∀ (xs : List α) (ys : List β), zipD2 (xs.map f) (ys.map g) = (xs.zip ys).map fun p => D.tup [f p.1, g p.2]
  | [], _ => by simp [zipD2]
  | _ :: _, [] => by simp [zipD2]
  | x :: xs, y :: ys => by
    have := zipD2_map f g xs ys
    simp only [zipD2] at this
    simp [zipD2, this]
theorem zipD3_map {α β γ : Type} (f : α → D) (g : β → D) (h : γ → D) : ∀ (xs : List α) (ys : List β) (zs : List γ), zipD3 (xs.map f) (ys.map g) (zs.map h) = (xs.zip (ys.zip zs)).map fun p => D.tup [f p.1, g p.2.1, h p.2.2]
  | [], _, _ => by simp [zipD3]
  | _ :: _, [], _ => by simp [zipD3]
  | _ :: _, _ :: _, [] => by simp [zipD3]
  | x :: xs, y :: ys, z :: zs => by
    have := zipD3_map f g h xs ys zs
    simp [zipD3, this]
theorem enumD_map {α : Type} (f : α → D) (xs : List α) : enumD (xs.map f) = xs.zipIdx.map fun p => D.tup [.int (p.2 : Nat), f p.1] := by
  unfold enumD
  rw [List.zipIdx_map, List.map_map]
  rfl
theorem all_true {ds : List D} (h : ∀ d ∈ ds, d = .bl true) : gAll (.lst ds) = some (.val (.bl true)) := by
  have e : ds = (ds.map fun _ => true).map D.bl := by
    rw [List.map_map]
    conv => lhs; rw [← List.map_id ds]
    exact List.map_congr_left fun d hd => h d hd
  have : gAll (.lst ds) = (bls ds).map fun ns => Cell.val (.bl (ns.all id)) := rfl
  rw [this, e, bls_map]
  simp
theorem all_map_true {α : Type} (zs : List α) : gAll (.lst ([] ++ zs.map fun _ => D.bl true)) = some (.val (.bl true)) := all_true fun d hd => by
  rw [List.nil_append] at hd
  obtain ⟨z, _, e⟩ := List.mem_map.mp hd
  exact e.symm
theorem gAll_bls (bs : List Bool) : gAll (.lst (bs.map D.bl)) = some (.val (.bl (bs.all id))) := by
  have : gAll (.lst (bs.map D.bl)) = (bls (bs.map D.bl)).map fun ns => Cell.val (.bl (ns.all id)) := rfl
  rw [this, bls_map]
  rfl
theorem gSum_ints (ns : List Int) : gSum (.lst (ns.map D.int)) = some (.val (.int ns.sum)) := by
  have : gSum (.lst (ns.map D.int)) = (numsD (ns.map D.int)).map fun ms => Cell.val (.int ms.sum) := rfl
  rw [this, ints_map]
  rfl
theorem mulB_ok {i j : Int} {a b : Nat} (hi : i.natAbs < 2 ^ a) (hj : j.natAbs < 2 ^ b) (h : a + b ≤ 134217728) : CMulB i j = true := by
  unfold CMulB
  have h1 := PyProof.Rows.intBits_le hi
  have h2 := PyProof.Rows.intBits_le hj
  exact decide_eq_true (by omega)
theorem fMul_int {i j : Int} (h : CMulB i j = true) : fMul (.int i) (.int j) = some (.val (.int (i * j))) := by
  show (if CMulB i j = true then _ else _) = _
  rw [if_pos h]
theorem ixN_nat {n k : Nat} (h : k < n) : ixN n (k : Int) = some k := by
  unfold ixN
  rw [if_pos (by omega), if_pos (by omega), Int.toNat_natCast]
theorem atI_nat {α : Type} {xs : List α} {k : Nat} (h : k < xs.length) : atI xs (k : Int) = some xs[k] := by
  unfold atI
  rw [ixN_nat h]
  exact List.getElem?_eq_getElem h
/-! ### the pool of draws: [what is told, a stir, a count] -/
structure Pool (k : Nat) (ds : List D) : Prop where
  ex : ∃ a s n : Int, ds = [.int a, .int s, .int n] ∧ 0 ≤ a ∧ (0 ≤ s ∧ s < 2147483648) ∧ (0 ≤ n ∧ n ≤ k)
theorem Pool.mono {j k : Nat} {ds : List D} (p : Pool j ds) (h : j ≤ k) : Pool k ds := by
  obtain ⟨a, s, n, e, h1, h2, h3, h4⟩ := p.ex
  exact ⟨a, s, n, e, h1, h2, h3, by omega⟩
theorem abs_lt {i : Int} {k : Nat} (h0 : 0 ≤ i) (h : i < 2 ^ k) : i.natAbs < 2 ^ k := by
  have : (i.natAbs : Int) = i := by omega
  have h2 : (i.natAbs : Int) < ((2 ^ k : Nat) : Int) := by
    rw [this]
    simpa using h
  exact_mod_cast h2
theorem noPy {i j : Int} {k : Nat} (h : j.natAbs < 2 ^ k) (hk : k ≤ 9000) : Builtin.divisionGoesByPylong i j = false := by
  unfold Builtin.divisionGoesByPylong
  simp only
  have key : (if (j == 0) = true then 0 else j.natAbs.log2 / 30 + 1) ≤ 300 := by
    split
    · omega
    · rename_i hj
      have h0 : j.natAbs ≠ 0 := by
        have : j ≠ 0 := by simpa using hj
        omega
      have := (Nat.log2_lt h0).mpr h
      omega
  rw [show decide ((if (j == 0) = true then 0 else j.natAbs.log2 / 30 + 1) > 300) = false from decide_eq_false (by omega)]
  rfl
theorem divB_ok {i j : Int} {k : Nat} (h0 : j ≠ 0) (h : j.natAbs < 2 ^ k) (hk : k ≤ 9000) : CDivB i j = true := by
  unfold CDivB
  rw [noPy h hk, decide_eq_true h0]
  rfl
theorem fDiv_int {i j : Int} (h : CDivB i j = true) : fDiv (.int i) (.int j) = some (.val (.int (i.fdiv j))) := by
  show (if CDivB i j = true then _ else _) = _
  rw [if_pos h]
theorem fMod_int {i j : Int} (h : 0 < j) : fMod (.int i) (.int j) = some (.val (.int (i % j))) := by
  show (if decide (j ≠ 0) = true then some (Cell.val (.int (i.fmod j))) else none) = _
  rw [if_pos (decide_eq_true (by omega)), Int.fmod_eq_emod_of_nonneg i (by omega)]
theorem eqD_int (i j : Int) : eqD (.int i) (.int j) = decide (i = j) := by
  show PyData.eqv (.int i) (.int j) = _
  simp only [PyData.eqv]
  rw [Bool.eq_iff_iff]
  simp
theorem fEq_int (i j : Int) : fEq (.int i) (.int j) = some (.val (.bl (decide (i = j)))) := by
  rw [← eqD_int]
  exact if_pos ⟨rfl, rfl⟩
theorem fNe_int (i j : Int) : fNe (.int i) (.int j) = some (.val (.bl (!decide (i = j)))) := by
  rw [← eqD_int]
  exact if_pos ⟨rfl, rfl⟩
theorem fDivmod_int {i j : Int} (h : 0 < j) (h2 : Builtin.divisionGoesByPylong i j = false) : fDivmod [.int i, .int j] = some (.val (.tup [.int (i / j), .int (i % j)])) := if_pos ⟨h, h2⟩
theorem fAdd_tup {xs ys : List D} (h : xs.length + ys.length ≤ sizeLine) : fAdd (.tup xs) (.tup ys) = some (.val (.tup (xs ++ ys))) := if_pos h
theorem fAdd_lst {xs ys : List D} (h : xs.length + ys.length ≤ sizeLine) : fAdd (.lst xs) (.lst ys) = some (.own (xs ++ ys)) := if_pos h
theorem fIx_tup {xs : List D} {k : Nat} {d : D} (h : xs[k]? = some d) : fIx (.tup xs) (.int (k : Nat)) = some (.val d) := by
  have hk := (List.getElem?_eq_some_iff.mp h).1
  show (atI xs (k : Int)).map Cell.val = _
  rw [atI_nat hk]
  rw [List.getElem?_eq_getElem hk] at h
  cases h
  rfl
theorem fIx_lst {xs : List D} {k : Nat} {d : D} (h : xs[k]? = some d) : fIx (.lst xs) (.int (k : Nat)) = some (.val d) := fIx_tup h
theorem fIx_fix {xs : List D} {k : Nat} {d : D} (h : xs[k]? = some d) : fIx (.fix xs) (.int (k : Nat)) = some (.val d) := fIx_tup h
/-! comparisons whose answer is known -/
theorem fLe_t {a b : Int} (h : a ≤ b) : fLe (.int a) (.int b) = some (.val (.bl true)) := by
  show some (Cell.val (.bl (decide (a ≤ b)))) = _
  rw [decide_eq_true h]
theorem fLe_f {a b : Int} (h : ¬ a ≤ b) : fLe (.int a) (.int b) = some (.val (.bl false)) := by
  show some (Cell.val (.bl (decide (a ≤ b)))) = _
  rw [decide_eq_false h]
theorem fLt_t {a b : Int} (h : a < b) : fLt (.int a) (.int b) = some (.val (.bl true)) := by
  show some (Cell.val (.bl (decide (a < b)))) = _
  rw [decide_eq_true h]
theorem fLt_f {a b : Int} (h : ¬ a < b) : fLt (.int a) (.int b) = some (.val (.bl false)) := by
  show some (Cell.val (.bl (decide (a < b)))) = _
  rw [decide_eq_false h]
theorem fGe_t {a b : Int} (h : b ≤ a) : fGe (.int a) (.int b) = some (.val (.bl true)) := by
  show some (Cell.val (.bl (decide (b ≤ a)))) = _
  rw [decide_eq_true h]
theorem fGe_f {a b : Int} (h : ¬ b ≤ a) : fGe (.int a) (.int b) = some (.val (.bl false)) := by
  show some (Cell.val (.bl (decide (b ≤ a)))) = _
  rw [decide_eq_false h]
theorem fGt_t {a b : Int} (h : b < a) : fGt (.int a) (.int b) = some (.val (.bl true)) := by
  show some (Cell.val (.bl (decide (b < a)))) = _
  rw [decide_eq_true h]
theorem fGt_f {a b : Int} (h : ¬ b < a) : fGt (.int a) (.int b) = some (.val (.bl false)) := by
  show some (Cell.val (.bl (decide (b < a)))) = _
  rw [decide_eq_false h]
theorem fEq_t {a b : Int} (h : a = b) : fEq (.int a) (.int b) = some (.val (.bl true)) := by
  rw [fEq_int, decide_eq_true h]
theorem fEq_f {a b : Int} (h : a ≠ b) : fEq (.int a) (.int b) = some (.val (.bl false)) := by
  rw [fEq_int, decide_eq_false h]
theorem zipWith_zip {α β γ : Type} (f : α → β → γ) : ∀ (a : List α) (b : List β), List.zipWith f a b = (a.zip b).map fun p => f p.1 p.2
  | [], _ => by simp
  | _ :: _, [] => by simp
  | x :: a, y :: b => by simp [zipWith_zip f a b]
/-- for, over coded items: I by the place -/
theorem forGo_ix {α : Type} {tg : Tg} {tb : DS} {D : DEnds} (e : α → DL.D) (I : Nat → En → Prop) (zs : List α) : ∀ (i : Nat) ρ, i ≤ zs.length → (∀ ρ, I zs.length ρ → D.nx ρ) → (∀ (i : Nat) z ρ, zs[i]? = some z → I i ρ → ∀ N : En → Prop, (∀ ρ', I (i + 1) ρ' → N ρ') → tgGo tg (.val (e z)) ρ (fun ρ1 => tb { D with nx := N, ct := N, bk := D.nx } ρ1) D.ex) →
    I i ρ → forGo tg tb ((zs.drop i).map e) D ρ := by
  intro i ρ hi done step h
  refine forGo_ind (fun ds ρ => ∃ j, j ≤ zs.length ∧ ds = (zs.drop j).map e ∧ I j ρ) ?_ ?_ _ _ ⟨i, hi, rfl, h⟩
  · rintro ρ ⟨j, hj, ed, h⟩
    have : zs.length ≤ j := by
      have := congrArg List.length ed
      rw [List.length_map, List.length_drop, List.length_nil] at this
      omega
    have ej : j = zs.length := by omega
    subst ej
    exact done ρ h
  · rintro d ds ρ ⟨j, hj, ed, h⟩ N hN
    have hlt : j < zs.length := by
      have := congrArg List.length ed
      rw [List.length_map, List.length_drop, List.length_cons] at this
      omega
    rw [List.drop_eq_getElem_cons hlt, List.map_cons] at ed
    injection ed with e1 e2
    subst e1
    exact step j zs[j] ρ (List.getElem?_eq_getElem hlt) h N fun ρ' h' => hN ρ' ⟨j + 1, hlt, e2, h'⟩
theorem fIx_tup0 {xs : List D} {k : Nat} {d : D} (h : xs[k]? = some d) : fIx (.tup xs) (.int (0 + (k : Nat))) = some (.val d) := by
  rw [Int.zero_add]
  exact fIx_tup h
theorem fIx_lst0 {xs : List D} {k : Nat} {d : D} (h : xs[k]? = some d) : fIx (.lst xs) (.int (0 + (k : Nat))) = some (.val d) := fIx_tup0 h
/-- data of numbers, tuples, lists, not deeper than that -/
def Sm : Nat → D → Prop
  | 0, _ => False
  | _ + 1, .int _ => True
  | n + 1, .tup ds => ds.length < 1000000 ∧ ∀ d ∈ ds, Sm n d
  | n + 1, .lst ds => ds.length < 1000000 ∧ ∀ d ∈ ds, Sm n d
  | _ + 1, _ => False
theorem Sm.ti (n : Nat) {xs : List Int} (h : xs.length < 1000000) : Sm (n + 2) (ti xs) := by
  refine ⟨by rw [List.length_map]; exact h, fun d hd => ?_⟩
  obtain ⟨x, _, rfl⟩ := List.mem_map.mp hd
  trivial
theorem Sm.tt (n : Nat) {xs : List (List Int)} (h : xs.length < 1000000) (h2 : ∀ x ∈ xs, x.length < 1000000) : Sm (n + 3) (tt xs) := by
  refine ⟨by rw [List.length_map]; exact h, fun d hd => ?_⟩
  obtain ⟨x, hx, rfl⟩ := List.mem_map.mp hd
  exact Sm.ti n (h2 x hx)
theorem big_line {n : Nat} (h : n < 1000000) : n ≤ sizeLine := by
  rw [sizeLine_eq]
  omega
/-! rows of whole numbers by == -/
theorem toPyL_ints : ∀ xs : List Int, toPyL (xs.map D.int) = xs.map PyData.int
  | [] => rfl
  | x :: xs => by
    rw [List.map_cons, List.map_cons, ← toPyL_ints xs]
    rfl
theorem lay_ints : ∀ xs : List Int, PyData.canLayAll0 (xs.map PyData.int) = true
  | [] => rfl
  | x :: xs => by
    show (PyData.canLay0 (.int x) && PyData.canLayAll0 (xs.map PyData.int)) = true
    rw [lay_ints xs]
    rfl
theorem eqvAll_ints : ∀ xs ys : List Int, PyData.eqvAll (xs.map PyData.int) (ys.map PyData.int) = decide (xs = ys)
  | [], [] => rfl
  | [], _ :: _ => rfl
  | _ :: _, [] => rfl
  | x :: xs, y :: ys => by
    show (PyData.eqv (.int x) (.int y) && PyData.eqvAll (xs.map PyData.int) (ys.map PyData.int)) = _
    rw [eqvAll_ints xs ys, show PyData.eqv (.int x) (.int y) = decide (x = y) from eqD_int x y]
    rw [Bool.eq_iff_iff]
    simp
theorem depth_ints : ∀ xs : List Int, PyData.depthAll (xs.map PyData.int) = 0
  | [] => rfl
  | x :: xs => by
    show max (PyData.depth (.int x)) (PyData.depthAll (xs.map PyData.int)) = 0
    rw [depth_ints xs]
    rfl
theorem eqOk_ti (xs : List Int) : eqOk (ti xs) = true := by
  show (PyData.canLayAll0 (toPyL (xs.map D.int)) && decide (PyData.depthAll (toPyL (xs.map D.int)) + 1 ≤ 64)) = true
  rw [toPyL_ints, lay_ints, depth_ints]
  rfl
theorem eqD_ti (xs ys : List Int) : eqD (ti xs) (ti ys) = decide (xs = ys) := by
  show PyData.eqvAll (toPyL (xs.map D.int)) (toPyL (ys.map D.int)) = _
  rw [toPyL_ints, toPyL_ints, eqvAll_ints]
theorem fNe_ti (xs ys : List Int) : fNe (ti xs) (ti ys) = some (.val (.bl (!decide (xs = ys)))) := by
  rw [← eqD_ti]
  exact if_pos ⟨eqOk_ti xs, eqOk_ti ys⟩
theorem fEq_ti (xs ys : List Int) : fEq (ti xs) (ti ys) = some (.val (.bl (decide (xs = ys)))) := by
  rw [← eqD_ti]
  exact if_pos ⟨eqOk_ti xs, eqOk_ti ys⟩
end DL
set_option exponentiation.threshold 10000000
namespace Lk80
open PySem PySem.Spec PyProof.Rows L2 DL
/-- the pool: a stirred number, figures, a count -/
structure Pl (k : Nat) (ds : List D) : Prop where
  ex : ∃ s a n : Int, ds = [.int s, .int a, .int n] ∧ (0 ≤ s ∧ s < 2147483648) ∧ 0 ≤ a ∧ (0 ≤ n ∧ n ≤ k)
theorem Pl.mono {j k : Nat} {ds : List D} (p : Pl j ds) (h : j ≤ k) : Pl k ds := by
  obtain ⟨s, a, n, e, h1, h2, h3, h4⟩ := p.ex
  exact ⟨s, a, n, e, h1, h2, h3, by omega⟩
theorem fmod_rng {z m : Int} (hm : 0 < m) (h2 : m ≤ 2147483648) : 0 ≤ z.fmod m ∧ z.fmod m < 2147483648 := by
  rw [Int.fmod_eq_emod_of_nonneg _ (by omega)]
  have h1 := Int.emod_nonneg z (show m ≠ 0 by omega)
  have h3 := Int.emod_lt_of_pos z hm
  exact ⟨h1, by omega⟩
theorem s_draw {k : Nat} {many : Int} {ds : List D} (hp : Pl k ds) (hk : k < 2 ^ 60) (hm : 1 ≤ many) (hm2 : many.natAbs < 2 ^ 9000) {Qd : Cell → Outs → Prop} {Ed : Str → List (Str × D) → Outs → Prop}
    (h : ∀ r (o : Outs), 0 ≤ r → r < many → Pl (k + 1) (o 0) → Qd (.val (.int r)) o) : w_law_draw_iv [.own ds, .val (.int many)] Qd Ed := by
  obtain ⟨s, a, n, rfl, ⟨hs0, hs1⟩, ha, hn0, hn1⟩ := hp.ex
  unfold w_law_draw_iv m_law_draw_iv
  conv => whnf
  repeat (refine ⟨_, rfl, ?_⟩; conv => whnf)
  by_cases h0 : 0 < a
  · rw [decide_eq_true h0]
    conv => whnf
    repeat (refine ⟨_, rfl, ?_⟩; conv => whnf)
    refine ⟨_, fDivmod_int (by omega) (noPy hm2 (by omega)), ?_⟩
    conv => whnf
    refine ⟨rfl, ?_⟩
    conv => whnf
    repeat (refine ⟨_, rfl, ?_⟩; conv => whnf)
    exact h _ _ (Int.emod_nonneg _ (by omega)) (Int.emod_lt_of_pos _ (by omega)) ⟨_, _, _, rfl, ⟨hs0, hs1⟩, Int.ediv_nonneg ha (by omega), hn0, by omega⟩
  · rw [decide_eq_false h0]
    unfold m_law_draw_iv_4 m_law_draw_iv_3
    conv => whnf
    repeat (refine ⟨_, rfl, ?_⟩; conv => whnf)
    have em : (s.fmod 20011) = s % 20011 := Int.fmod_eq_emod_of_nonneg s (by decide)
    have h1 := Int.emod_nonneg s (show (20011 : Int) ≠ 0 by decide)
    have h2 := Int.emod_lt_of_pos s (show (0 : Int) < 20011 by decide)
    have e1 : fMul (.int s) (.int (s.fmod 20011 + 30011)) = some (.val (.int (s * (s.fmod 20011 + 30011)))) := fMul_int (mulB_ok (a := 31) (b := 31) (abs_lt hs0 (by omega)) (abs_lt (by omega) (by omega)) (by decide))
    refine ⟨_, e1, ?_⟩
    conv => whnf
    repeat (refine ⟨_, rfl, ?_⟩; conv => whnf)
    have e2 : fMul (.int 70001) (.int (n + 1)) = some (.val (.int (70001 * (n + 1)))) := fMul_int (mulB_ok (a := 20) (b := 62) (by decide) (abs_lt (by omega) (by omega)) (by decide))
    refine ⟨_, e2, ?_⟩
    conv => whnf
    repeat (refine ⟨_, rfl, ?_⟩; conv => whnf)
    generalize s * (s.fmod 20011 + 30011) + 70001 * (n + 1) + 9 = z
    have hz := fmod_rng (z := z) (m := 2147483629) (by decide) (by decide)
    refine ⟨_, fDiv_int (i := z.fmod 2147483629) (j := 128) (divB_ok (k := 12) (by decide) (by decide) (by decide)), ?_⟩
    conv => whnf
    repeat (refine ⟨_, rfl, ?_⟩; conv => whnf)
    refine ⟨_, fMod_int (i := (z.fmod 2147483629).fdiv 128) (j := many) (by omega), ?_⟩
    exact h _ _ (Int.emod_nonneg _ (by omega)) (Int.emod_lt_of_pos _ (by omega)) ⟨z.fmod 2147483629, a, n + 1, rfl, hz, ha, by omega, by omega⟩
theorem many_pow {m : Int} (h0 : 0 ≤ m) (h : m < 2 ^ 60) : m.natAbs < 2 ^ 9000 := Nat.lt_of_lt_of_le (abs_lt h0 h) (Nat.pow_le_pow_right (by decide) (by decide))
theorem bits_pow {i : Int} (h : Builtin.Int.intBits i ≤ 1048576) : i.natAbs < 2 ^ 1048576 := by
  unfold Builtin.Int.intBits at h
  by_cases h0 : i = 0
  · subst h0
    exact Nat.two_pow_pos _
  · rw [if_neg (by simpa using h0)] at h
    exact (Nat.log2_lt (by omega)).mp (by omega)
theorem s_pool1 {c0 c1 c2 : Option Cell} {s i : Int} (hs : 0 ≤ s ∧ s < 2147483648) {Dd : DEnds} (hD : ∀ t : Int, 0 ≤ t ∧ t < 2147483648 → Dd.nx [c0, c1, c2, some (.val (.int t)), some (.val (.int i))]) :
    m_law_pool_1 Dd [c0, c1, c2, some (.val (.int s)), some (.val (.int i))] := by
  unfold m_law_pool_1
  conv => whnf
  have e1 : fMul (.int s) (.int 48271) = some (.val (.int (s * 48271))) := fMul_int (mulB_ok (a := 31) (b := 20) (abs_lt hs.1 (by omega)) (by decide) (by decide))
  refine ⟨_, e1, ?_⟩
  conv => whnf
  repeat (refine ⟨_, rfl, ?_⟩; conv => whnf)
  exact hD _ (fmod_rng (by decide) (by decide))
theorem s_pool3 (ns : List Int) (lap : Nat) (hlap : lap < 64) (own st : Int) (ho : own.natAbs < 2 ^ 1048576) (hs : 0 ≤ st ∧ st < 2147483648) {Dd : DEnds} (hD : ∀ ds ρ, Pl 0 ds → Dd.rt (.own ds) ρ) :
    m_law_pool_3 Dd [some (.val (.fix (ns.map D.int))), some (.val (.int (lap : Nat))), some (.val (.int own)), some (.val (.int st)), none] := by
  unfold m_law_pool_3
  conv => whnf
  repeat (refine ⟨_, rfl, ?_⟩; conv => whnf)
  have hin : ∀ d ∈ DL.cutD (ns.map D.int) none (some 63), ∃ i, d = D.int i := fun d hd => by
    have := List.mem_of_mem_drop (List.mem_of_mem_take hd)
    obtain ⟨i, _, e⟩ := List.mem_map.mp this
    exact ⟨i, e.symm⟩
  generalize DL.cutD (ns.map D.int) none (some 63) = items at *
  refine forGo_ind (fun ds ρ => (∃ s c4, ρ = [some (.val (.fix (ns.map D.int))), some (.val (.int (lap : Nat))), some (.val (.int own)), some (.val (.int s)), c4] ∧ (0 ≤ s ∧ s < 2147483648)) ∧ ∀ d ∈ ds, ∃ i, d = D.int i) ?_ ?_ items _ ⟨⟨st, none, rfl, hs⟩, hin⟩
  · rintro ρ ⟨⟨s, c4, rfl, h0, h1⟩, _⟩
    unfold m_law_pool_2
    conv => whnf
    have e1 : fMul (.int own) (.int 1013) = some (.val (.int (own * 1013))) := fMul_int (mulB_ok (a := 1048576) (b := 20) ho (by decide) (by decide))
    refine ⟨_, e1, ?_⟩
    conv => whnf
    repeat (refine ⟨_, rfl, ?_⟩; conv => whnf)
    have hz := fmod_rng (z := s + own * 1013) (m := 2147483629) (by decide) (by decide)
    have fin : ∀ a : Int, 0 ≤ a → ∀ ρ, Dd.rt (.own [.int ((s + own * 1013).fmod 2147483629), .int a, .int 0]) ρ := fun a ha ρ => hD _ ρ ⟨_, a, 0, rfl, hz, ha, by omega, by omega⟩
    by_cases n0 : own < 0
    · rw [decide_eq_true n0]
      conv => whnf
      repeat (refine ⟨_, rfl, ?_⟩; conv => whnf)
      refine ⟨small64 (by simp), ?_⟩
      exact fin (if own < 0 then -own else own) (by rw [if_pos n0]; omega) _
    · rw [decide_eq_false n0]
      conv => whnf
      repeat (refine ⟨_, rfl, ?_⟩; conv => whnf)
      by_cases n1 : 10 ^ 18 ≤ own
      · rw [show decide ((10 : Int) ^ Int.toNat 18 ≤ own) = true from decide_eq_true n1]
        conv => whnf
        repeat (refine ⟨_, rfl, ?_⟩; conv => whnf)
        refine ⟨small64 (by simp), ?_⟩
        exact fin (if own < 0 then -own else own) (by rw [if_neg n0]; omega) _
      · rw [show decide ((10 : Int) ^ Int.toNat 18 ≤ own) = false from decide_eq_false n1]
        conv => whnf
        repeat (refine ⟨_, rfl, ?_⟩; conv => whnf)
        refine ⟨small64 (by simp), ?_⟩
        exact fin 0 (by omega) _
  · rintro d ds ρ ⟨⟨s, c4, rfl, h0, h1⟩, hi⟩ N hN
    obtain ⟨i, rfl⟩ := hi d List.mem_cons_self
    conv => whnf
    refine s_pool1 ⟨h0, h1⟩ fun t ht => hN _ ⟨⟨t, _, rfl, ht⟩, fun d hd => hi d (List.mem_cons_of_mem _ hd)⟩
theorem s_pool (ns : List Int) (lap : Nat) (hlap : lap < 64) (hb : ∀ i ∈ ns, Builtin.Int.intBits i ≤ 1048576) {Qd : Cell → Outs → Prop} {Ed : Str → List (Str × D) → Outs → Prop}
    (h : ∀ ds o, Pl 0 ds → Qd (.own ds) o) : w_law_pool [.val (.fix (ns.map D.int)), .val (.int (lap : Nat))] Qd Ed := by
  have em : fMul (.int 5087) (.int (lap : Nat)) = some (.val (.int (5087 * (lap : Nat)))) := fMul_int (mulB_ok (a := 20) (b := 62) (by decide) (abs_lt (by omega) (by omega)) (by decide))
  have eo : fMul (.int 70001) (.int (lap : Nat)) = some (.val (.int (70001 * (lap : Nat)))) := fMul_int (mulB_ok (a := 20) (b := 62) (by decide) (abs_lt (by omega) (by omega)) (by decide))
  unfold w_law_pool m_law_pool
  conv => whnf
  repeat (refine ⟨_, rfl, ?_⟩; conv => whnf)
  by_cases h0 : lap < ns.length
  · have e0 : decide (((lap : Nat) : Int) < (((ns.map D.int).length : Nat) : Int)) = true := decide_eq_true (by rw [List.length_map]; omega)
    rw [e0]
    conv => whnf
    refine ⟨_, fIx_fix (d := .int ns[lap]) (by rw [List.getElem?_map, List.getElem?_eq_getElem h0]; rfl), ?_⟩
    conv => whnf
    repeat (refine ⟨_, rfl, ?_⟩; conv => whnf)
    refine ⟨_, em, ?_⟩
    conv => whnf
    repeat (refine ⟨_, rfl, ?_⟩; conv => whnf)
    refine ⟨rfl, ?_⟩
    refine s_pool3 ns lap hlap ns[lap] _ (bits_pow (hb _ (List.getElem_mem _))) (by omega) ?_
    exact fun ds ρ hp => h ds _ hp
  · have e0 : decide (((lap : Nat) : Int) < (((ns.map D.int).length : Nat) : Int)) = false := decide_eq_false (by rw [List.length_map]; omega)
    rw [e0]
    conv => whnf
    refine ⟨_, eo, ?_⟩
    conv => whnf
    repeat (refine ⟨_, rfl, ?_⟩; conv => whnf)
    refine ⟨_, em, ?_⟩
    conv => whnf
    repeat (refine ⟨_, rfl, ?_⟩; conv => whnf)
    refine ⟨rfl, ?_⟩
    refine s_pool3 ns lap hlap (70001 * (lap : Nat) + 3460) _ (Nat.lt_of_lt_of_le (abs_lt (k := 60) (by omega) (by omega)) (Nat.pow_le_pow_right (by decide) (by decide))) (by omega) ?_
    exact fun ds ρ hp => h ds _ hp
end Lk80
namespace DL
open PySem PySem.Spec PyProof.Rows L2
/-- one item of the first source -/
def stp2 (p : Pt) (tt : DT) (it1 : DI) (p1 : Pt) (tt1 : DT) (te : DE) (vs vs1 : List Nat) (d : D) (acc : List D) (ρ : En) (K : List D → En → Prop) : Prop :=
  ptGo p d ρ fun ρ1 => tt ρ1 (fun b ρ2 => if b = true then it1 ρ2 (fun items ρ3 => lcGo p1 tt1 te vs1 items acc (wipeE ρ3 vs1) fun acc2 ρ4 => K acc2 (wipeE ρ4 vs)) noX else K acc (wipeE ρ2 vs)) noX
theorem lcGo2_cons {p : Pt} {tt : DT} {it1 : DI} {p1 : Pt} {tt1 : DT} {te : DE} {vs vs1 : List Nat} {d : D} {ds acc : List D} {ρ : En} {Q : List D → En → Prop}
    (h : stp2 p tt it1 p1 tt1 te vs vs1 d acc ρ fun acc2 ρ2 => lcGo2 p tt it1 p1 tt1 te vs vs1 ds acc2 ρ2 Q) : lcGo2 p tt it1 p1 tt1 te vs vs1 (d :: ds) acc ρ Q := h
theorem lcGo2_enc {α : Type} {p : Pt} {tt : DT} {it1 : DI} {p1 : Pt} {tt1 : DT} {te : DE} {vs vs1 : List Nat} (e : α → D) (g : α → List D) {ρ : En} {Q : List D → En → Prop} : ∀ (zs : List α) (acc : List D), (∀ z ∈ zs, ∀ acc' K, acc'.length + (g z).length ≤ sizeLine → K (acc' ++ g z) ρ → stp2 p tt it1 p1 tt1 te vs vs1 (e z) acc' ρ K) → acc.length + (zs.flatMap g).length ≤ sizeLine →
    Q (acc ++ zs.flatMap g) ρ → lcGo2 p tt it1 p1 tt1 te vs vs1 (zs.map e) acc ρ Q
  | [], acc, _, _, q => by
    rw [List.flatMap_nil, List.append_nil] at q
    exact q
  | z :: zs, acc, h, hl, q => by
    rw [List.flatMap_cons, List.length_append] at hl
    refine lcGo2_cons (h z List.mem_cons_self _ _ (by omega) ?_)
    refine lcGo2_enc e g zs _ (fun y hy => h y (List.mem_cons_of_mem _ hy)) ?_ ?_
    · rw [List.length_append]; omega
    · rw [List.append_assoc]
      rw [List.flatMap_cons] at q
      exact q
end DL
namespace DL
open PySem PySem.Spec PyProof.Rows L2
def stpD (p : Pt) (tt : DT) (tk tv : DE) (vs : List Nat) (d : D) (acc : List (Key × D)) (ρ : En) (K : List (Key × D) → En → Prop) : Prop :=
  ptGo p d ρ fun ρ1 => tt ρ1 (fun b ρ2 => if b = true then tk ρ2 (fun x ρ3 => tv ρ3 (fun y ρ4 => ∃ k, keyD x = some k ∧ acc.length < sizeLine ∧ K (putD acc k y) (wipeE ρ4 vs)) noX) noX else K acc (wipeE ρ2 vs)) noX
theorem dcGo_cons {p : Pt} {tt : DT} {tk tv : DE} {vs : List Nat} {d : D} {ds : List D} {acc : List (Key × D)} {ρ : En} {Q : List (Key × D) → En → Prop}
    (h : stpD p tt tk tv vs d acc ρ fun acc2 ρ2 => dcGo p tt tk tv vs ds acc2 ρ2 Q) : dcGo p tt tk tv vs (d :: ds) acc ρ Q := h
/-- a dict made over coded items: I by the place -/
theorem dcGo_ix {α : Type} {p : Pt} {tt : DT} {tk tv : DE} {vs : List Nat} (e : α → D) (I : Nat → List (Key × D) → Prop) {ρ : En} {Q : List (Key × D) → En → Prop} (zs : List α)
    (step : ∀ (i : Nat) z acc, zs[i]? = some z → I i acc → ∀ K, (∀ acc2, I (i + 1) acc2 → K acc2 ρ) → stpD p tt tk tv vs (e z) acc ρ K) (q : ∀ acc, I zs.length acc → Q acc ρ) :
    ∀ (n i : Nat) acc, zs.length = i + n → I i acc → dcGo p tt tk tv vs ((zs.drop i).map e) acc ρ Q
  | 0, i, acc, hn, h => by
    rw [List.drop_of_length_le (by omega)]
    have : i = zs.length := by omega
    subst this
    exact q acc h
  | n + 1, i, acc, hn, h => by
    have hlt : i < zs.length := by omega
    rw [List.drop_eq_getElem_cons hlt, List.map_cons]
    refine dcGo_cons (step i zs[i] acc (List.getElem?_eq_getElem hlt) h _ fun acc2 h2 => ?_)
    exact dcGo_ix e I zs step q n (i + 1) acc2 (by omega) h2
abbrev lookA (acc : List (Key × D)) (k : Key) : Option D := lookK (acc.map (·.1)) (acc.map (·.2)) k
theorem lookA_any {acc : List (Key × D)} {k : Key} : (acc.any fun p => decide (p.1 = k)) = (lookA acc k).isSome := by
  induction acc with
  | nil => rfl
  | cons p acc ih =>
    rw [List.any_cons, ih]
    show _ = (if p.1 = k then some p.2 else lookA acc k).isSome
    by_cases h : p.1 = k
    · rw [if_pos h, decide_eq_true h]
      rfl
    · rw [if_neg h, decide_eq_false h]
      rfl
theorem lookA_map {k : Key} {d : D} (j : Key) : ∀ acc : List (Key × D), lookA (acc.map fun p => if p.1 = k then (p.1, d) else p) j = (lookA acc j).map fun x => if j = k then d else x
  | [] => rfl
  | p :: acc => by
    have ih := lookA_map (k := k) (d := d) j acc
    by_cases h : p.1 = k
    · show (if (if p.1 = k then (p.1, d) else p).1 = j then some (if p.1 = k then (p.1, d) else p).2 else lookA (acc.map fun p => if p.1 = k then (p.1, d) else p) j) = (if p.1 = j then some p.2 else lookA acc j).map _
      rw [if_pos h, ih]
      by_cases h2 : p.1 = j
      · rw [if_pos h2, if_pos h2]
        show some d = some (if j = k then d else p.2)
        rw [if_pos (h2.symm.trans h)]
      · rw [if_neg h2, if_neg h2]
    · show (if (if p.1 = k then (p.1, d) else p).1 = j then some (if p.1 = k then (p.1, d) else p).2 else lookA (acc.map fun p => if p.1 = k then (p.1, d) else p) j) = (if p.1 = j then some p.2 else lookA acc j).map _
      rw [if_neg h, ih]
      by_cases h2 : p.1 = j
      · rw [if_pos h2, if_pos h2]
        show some p.2 = some (if j = k then d else p.2)
        rw [if_neg (fun e => h (h2.trans e))]
      · rw [if_neg h2, if_neg h2]
theorem lookA_snoc {k : Key} {d : D} (j : Key) : ∀ acc : List (Key × D), lookA acc k = none → lookA (acc ++ [(k, d)]) j = if j = k then some d else lookA acc j
  | [], _ => by
    show (if k = j then some d else none) = if j = k then some d else none
    by_cases h : k = j
    · rw [if_pos h, if_pos h.symm]
    · rw [if_neg h, if_neg (Ne.symm h)]
  | p :: acc, hn => by
    have hn : (if p.1 = k then some p.2 else lookA acc k) = none := hn
    by_cases h : p.1 = k
    · rw [if_pos h] at hn; cases hn
    · rw [if_neg h] at hn
      have ih := lookA_snoc (k := k) (d := d) j acc hn
      show (if p.1 = j then some p.2 else lookA (acc ++ [(k, d)]) j) = if j = k then some d else (if p.1 = j then some p.2 else lookA acc j)
      rw [ih]
      by_cases h2 : p.1 = j
      · rw [if_pos h2, if_pos h2, if_neg (fun e => h (h2.trans e))]
      · rw [if_neg h2, if_neg h2]
theorem lookA_put (acc : List (Key × D)) (k j : Key) (d : D) : lookA (putD acc k d) j = if j = k then some d else lookA acc j := by
  unfold putD
  rw [lookA_any]
  cases h : lookA acc k with
  | none =>
    rw [show (none : Option D).isSome = false from rfl, if_neg (by decide)]
    exact lookA_snoc j acc h
  | some x =>
    rw [show (some x).isSome = true from rfl, if_pos rfl, lookA_map]
    by_cases hj : j = k
    · subst hj
      rw [h]
      show some (if j = j then d else x) = _
      rw [if_pos rfl, if_pos rfl]
    · rw [if_neg hj]
      cases lookA acc j with
      | none => rfl
      | some y =>
        show some (if j = k then d else y) = _
        rw [if_neg hj]
theorem putD_len (acc : List (Key × D)) (k : Key) (d : D) : (putD acc k d).length ≤ acc.length + 1 := by
  unfold putD
  split
  · rw [List.length_map]; omega
  · rw [List.length_append]; exact Nat.le_refl _
end DL
/-! fractions as pairs in lowest terms -/
namespace DL
open PySem PySem.Spec PyProof.Rows L2
abbrev qD (q : Rat) : D := .tup [.int q.num, .int (q.den : Nat)]
abbrev tq (qs : List Rat) : D := .tup (qs.map qD)
theorem gcd_pos {a b : Int} (hb : b ≠ 0) : 0 < b.gcd a := Int.gcd_pos_of_ne_zero_left a hb
theorem q_num_pos {a b : Int} (hb : 0 < b) : a / (b.gcd a : Nat) = (Rat.divInt a b).num := by
  rw [Rat.num_divInt, Int.sign_eq_one_of_pos hb, Int.one_mul]
theorem q_num_neg {a b : Int} (hb : b < 0) : 0 - a / (b.gcd a : Nat) = (Rat.divInt a b).num := by
  rw [Rat.num_divInt, Int.sign_eq_neg_one_of_neg hb, Int.neg_mul, Int.one_mul, Int.neg_ediv_of_dvd (Int.gcd_dvd_right b a)]
  omega
theorem q_den_pos {a b : Int} (hb : 0 < b) : b / (b.gcd a : Nat) = ((Rat.divInt a b).den : Nat) := by
  rw [Rat.den_divInt, if_neg (by omega), Int.natCast_ediv]
  congr 1
  omega
theorem q_den_neg {a b : Int} (hb : b < 0) : 0 - b / (b.gcd a : Nat) = ((Rat.divInt a b).den : Nat) := by
  rw [Rat.den_divInt, if_neg (by omega), Int.natCast_ediv]
  have : (b.natAbs : Int) = - b := by omega
  rw [this, Int.neg_ediv_of_dvd (Int.gcd_dvd_left b a)]
  omega
/-- the size of what a fraction is of -/
theorem q_num_le {a b : Int} (hb : b ≠ 0) : (Rat.divInt a b).num.natAbs ≤ a.natAbs := by
  rw [Rat.num_divInt]
  refine Nat.le_trans (Int.natAbs_ediv_le_natAbs _ _) ?_
  rw [Int.natAbs_mul, Int.natAbs_sign_of_ne_zero hb, Nat.one_mul]
  exact Nat.le_refl _
theorem q_den_le {a b : Int} (hb : b ≠ 0) : (Rat.divInt a b).den ≤ b.natAbs := by
  rw [Rat.den_divInt, if_neg hb]
  exact Nat.div_le_self _ _
/-! lists of rows by == -/
theorem lay_rows : ∀ rows : List (List Int), PyData.canLayAll0 (toPyL (rows.map ti)) = true
  | [] => rfl
  | r :: rows => by
    show (PyData.canLayAll0 (toPyL (r.map D.int)) && PyData.canLayAll0 (toPyL (rows.map ti))) = true
    rw [lay_rows rows, toPyL_ints, lay_ints]
    rfl
theorem depth_rows : ∀ rows : List (List Int), PyData.depthAll (toPyL (rows.map ti)) ≤ 1
  | [] => by decide
  | r :: rows => by
    show max (PyData.depthAll (toPyL (r.map D.int)) + 1) (PyData.depthAll (toPyL (rows.map ti))) ≤ 1
    have := depth_rows rows
    rw [toPyL_ints, depth_ints]
    omega
theorem eqOk_rows (rows : List (List Int)) : eqOk (.lst (rows.map ti)) = true := by
  show (PyData.canLayAll0 (toPyL (rows.map ti)) && decide (PyData.depthAll (toPyL (rows.map ti)) + 1 ≤ 64)) = true
  have := depth_rows rows
  rw [lay_rows, decide_eq_true (by omega)]
  rfl
theorem fNe_rows0 (rows : List (List Int)) : fNe (.lst (rows.map ti)) (.lst []) = some (.val (.bl (!decide (rows = [])))) := by
  have e : eqD (.lst (rows.map ti)) (.lst []) = decide (rows = []) := by
    cases rows with
    | nil => rfl
    | cons r rows => rfl
  rw [← e]
  exact if_pos ⟨eqOk_rows rows, rfl⟩
/-- bits of a fraction -/
structure Qs (a d : Nat) (q : Rat) : Prop where
  n : q.num.natAbs ≤ 2 ^ a
  d : q.den ≤ 2 ^ d
theorem Qs.mono {a d a' d' : Nat} {q : Rat} (h : Qs a d q) (ha : a ≤ a') (hd : d ≤ d') : Qs a' d' q := ⟨Nat.le_trans h.n (Nat.pow_le_pow_right (by decide) ha), Nat.le_trans h.d (Nat.pow_le_pow_right (by decide) hd)⟩
theorem den_ne (q : Rat) : ((q.den : Nat) : Int) ≠ 0 := by
  have := q.den_nz
  omega
theorem q_add (p q : Rat) : Rat.divInt (p.num * q.den + q.num * p.den) (p.den * q.den) = p + q := by
  conv => rhs; rw [← Rat.num_divInt_den p, ← Rat.num_divInt_den q]
  rw [Rat.divInt_add_divInt _ _ (den_ne p) (den_ne q)]
theorem q_mul (p q : Rat) : Rat.divInt (p.num * q.num) (p.den * q.den) = p * q := by
  conv => rhs; rw [← Rat.num_divInt_den p, ← Rat.num_divInt_den q]
  rw [Rat.divInt_mul_divInt]
theorem q_mulz (p : Rat) (z : Int) : Rat.divInt (p.num * z) p.den = p * (z : Rat) := by
  rw [← q_mul]
  simp
theorem pow_mul_le {x y a b : Nat} (h : x ≤ 2 ^ a) (h2 : y ≤ 2 ^ b) : x * y ≤ 2 ^ (a + b) := by
  rw [Nat.pow_add]
  exact Nat.mul_le_mul h h2
theorem Qs.add {a d a2 d2 c : Nat} {p q : Rat} (h : Qs a d p) (h2 : Qs a2 d2 q) (h3 : a + d2 ≤ c) (h4 : a2 + d ≤ c) : Qs (c + 1) (d + d2) (p + q) := by
  have hd : ((p.den : Nat) : Int) * ((q.den : Nat) : Int) ≠ 0 := Int.mul_ne_zero (den_ne p) (den_ne q)
  rw [← q_add]
  refine ⟨Nat.le_trans (q_num_le hd) ?_, Nat.le_trans (q_den_le hd) ?_⟩
  · refine Nat.le_trans (Int.natAbs_add_le _ _) ?_
    rw [Int.natAbs_mul, Int.natAbs_mul, Int.natAbs_natCast, Int.natAbs_natCast, Nat.pow_succ, Nat.mul_two]
    exact Nat.add_le_add (Nat.le_trans (pow_mul_le h.n h2.d) (Nat.pow_le_pow_right (by decide) h3)) (Nat.le_trans (pow_mul_le h2.n h.d) (Nat.pow_le_pow_right (by decide) h4))
  · rw [Int.natAbs_mul, Int.natAbs_natCast, Int.natAbs_natCast]
    exact pow_mul_le h.d h2.d
theorem Qs.mulz {a d m : Nat} {p : Rat} {z : Int} (h : Qs a d p) (hz : z.natAbs ≤ 2 ^ m) : Qs (a + m) d (p * (z : Rat)) := by
  rw [← q_mulz]
  refine ⟨Nat.le_trans (q_num_le (den_ne p)) ?_, Nat.le_trans (q_den_le (den_ne p)) ?_⟩
  · rw [Int.natAbs_mul]
    exact pow_mul_le h.n hz
  · rw [Int.natAbs_natCast]
    exact h.d
end DL
namespace DL
open PySem PySem.Spec PyProof.Rows L2
/-- data that may be compared, not deeper than that -/
def Sz : Nat → D → Prop
  | 0, _ => False
  | _ + 1, .non => True
  | _ + 1, .int _ => True
  | _ + 1, .bl _ => True
  | _ + 1, .str x => (toPy (.str x)).canLay0 = true
  | n + 1, .tup ds => ∀ d ∈ ds, Sz n d
  | n + 1, .lst ds => ∀ d ∈ ds, Sz n d
  | _ + 1, _ => False
theorem sz_all {n : Nat} (ih : ∀ d, Sz n d → (toPy d).canLay0 = true ∧ (toPy d).depth ≤ n) : ∀ ds : List D, (∀ d ∈ ds, Sz n d) → PyData.canLayAll0 (toPyL ds) = true ∧ PyData.depthAll (toPyL ds) ≤ n
  | [], _ => ⟨rfl, Nat.zero_le _⟩
  | d :: ds, h => by
    obtain ⟨h1, h2⟩ := ih d (h d List.mem_cons_self)
    obtain ⟨h3, h4⟩ := sz_all ih ds fun x hx => h x (List.mem_cons_of_mem _ hx)
    refine ⟨?_, ?_⟩
    · show ((toPy d).canLay0 && PyData.canLayAll0 (toPyL ds)) = true
      rw [h1, h3]
      rfl
    · show max (toPy d).depth (PyData.depthAll (toPyL ds)) ≤ n
      omega
theorem sz_ok : ∀ (n : Nat) (d : D), Sz n d → (toPy d).canLay0 = true ∧ (toPy d).depth ≤ n
  | 0, _, h => h.elim
  | n + 1, .non, _ => ⟨rfl, Nat.zero_le _⟩
  | n + 1, .int _, _ => ⟨rfl, Nat.zero_le _⟩
  | n + 1, .bl _, _ => ⟨rfl, Nat.zero_le _⟩
  | n + 1, .str _, h => ⟨h, Nat.zero_le _⟩
  | n + 1, .tup ds, h => by
    obtain ⟨h1, h2⟩ := sz_all (sz_ok n) ds h
    exact ⟨h1, Nat.succ_le_succ h2⟩
  | n + 1, .lst ds, h => by
    obtain ⟨h1, h2⟩ := sz_all (sz_ok n) ds h
    exact ⟨h1, Nat.succ_le_succ h2⟩
  | n + 1, .fix _, h => h.elim
  | n + 1, .ty _, h => h.elim
  | n + 1, .dic _ _, h => h.elim
  | n + 1, .obj _ _ _, h => h.elim
  | n + 1, .adr _, h => h.elim
  | n + 1, .rng _ _, h => h.elim
theorem sz_eqOk {n : Nat} {d : D} (hn : n ≤ 64) (h : Sz n d) : eqOk d = true := by
  obtain ⟨h1, h2⟩ := sz_ok n d h
  show ((toPy d).canLay0 && decide ((toPy d).depth ≤ 64)) = true
  rw [h1, decide_eq_true (by omega)]
  rfl
theorem eqD_self {n : Nat} {d : D} (h : Sz n d) : eqD d d = true := PySem.SeqAt.eqv_refl (toPy d) (sz_ok n d h).1
theorem fEq_self {n : Nat} {d : D} (hn : n ≤ 64) (h : Sz n d) : fEq d d = some (.val (.bl true)) := by
  rw [← eqD_self h]
  exact if_pos ⟨sz_eqOk hn h, sz_eqOk hn h⟩
theorem fNe_self {n : Nat} {d : D} (hn : n ≤ 64) (h : Sz n d) : fNe d d = some (.val (.bl false)) := by
  have e : (false : Bool) = !eqD d d := by rw [eqD_self h]; rfl
  rw [e]
  exact if_pos ⟨sz_eqOk hn h, sz_eqOk hn h⟩
theorem sz_ti (n : Nat) (v : List Int) : Sz (n + 2) (ti v) := fun d hd => by
  obtain ⟨x, _, rfl⟩ := List.mem_map.mp hd
  exact trivial
theorem sz_tt (n : Nat) (L : List (List Int)) : Sz (n + 3) (tt L) := fun d hd => by
  obtain ⟨x, _, rfl⟩ := List.mem_map.mp hd
  exact sz_ti n x
theorem sz_lt (n : Nat) (L : List (List Int)) : Sz (n + 3) (.lst (L.map ti)) := fun d hd => by
  obtain ⟨x, _, rfl⟩ := List.mem_map.mp hd
  exact sz_ti n x
theorem fNe_q (p q : Rat) : fNe (qD p) (qD q) = some (.val (.bl (!decide (p = q)))) := by
  have e : fNe (qD p) (qD q) = some (.val (.bl (!decide ([p.num, (p.den : Int)] = [q.num, (q.den : Int)])))) := fNe_ti [p.num, (p.den : Int)] [q.num, (q.den : Int)]
  rw [e]
  by_cases h : p = q
  · rw [h, decide_eq_true rfl, decide_eq_true rfl]
  · rw [decide_eq_false h, decide_eq_false fun z => h ?_]
    simp only [List.cons.injEq, and_true] at z
    have h2 : p.den = q.den := by have := z.2; omega
    exact Rat.ext z.1 h2
theorem fEq_rows0 (rows : List (List Int)) : fEq (.lst (rows.map ti)) (.lst []) = some (.val (.bl (decide (rows = [])))) := by
  have e : eqD (.lst (rows.map ti)) (.lst []) = decide (rows = []) := by
    cases rows with
    | nil => rfl
    | cons r rows => rfl
  rw [← e]
  exact if_pos ⟨eqOk_rows rows, rfl⟩
theorem eqOk_tt (rows : List (List Int)) : eqOk (tt rows) = true := sz_eqOk (n := 3) (by decide) (sz_tt 0 rows)
theorem fEq_tt0 (rows : List (List Int)) : fEq (tt rows) (.tup []) = some (.val (.bl (decide (rows = [])))) := by
  have e : eqD (tt rows) (.tup []) = decide (rows = []) := by
    cases rows with
    | nil => rfl
    | cons r rows => rfl
  rw [← e]
  exact if_pos ⟨eqOk_tt rows, rfl⟩
end DL
/-! Anything: data of any kind, and what own looks tell of it. -/
namespace DL
open PySem PySem.Spec PyProof.Rows L2
mutual
def okA : D → Bool
  | .non => true
  | .bl _ => true
  | .int _ => true
  | .str _ => true
  | .tup ds => decide (ds.length ≤ 1000) && okAs ds
  | .lst ds => decide (ds.length ≤ 1000) && okAs ds
  | .dic _ _ => true
  | .fix _ => false
  | .ty _ => false
  | .obj _ _ _ => false
  | .adr _ => false
  | .rng _ _ => false
def okAs : List D → Bool
  | [] => true
  | d :: ds => okA d && okAs ds
end
theorem okAs_iff : ∀ ds : List D, okAs ds = true ↔ ∀ d ∈ ds, okA d = true
  | [] => by simp [okAs]
  | d :: ds => by
    unfold okAs
    rw [Bool.and_eq_true, okAs_iff ds]
    simp
theorem okA_tup {ds : List D} : okA (.tup ds) = true ↔ ds.length ≤ 1000 ∧ ∀ d ∈ ds, okA d = true := by
  show (decide _ && okAs ds) = true ↔ _
  rw [Bool.and_eq_true, decide_eq_true_eq, okAs_iff]
theorem okA_lst {ds : List D} : okA (.lst ds) = true ↔ ds.length ≤ 1000 ∧ ∀ d ∈ ds, okA d = true := by
  show (decide _ && okAs ds) = true ↔ _
  rw [Bool.and_eq_true, decide_eq_true_eq, okAs_iff]
def isI : D → Bool
  | .int _ => true
  | _ => false
def wholes (n : Int) : D → Bool
  | .tup ds => decide (((ds.length : Nat) : Int) = n) && ds.all isI
  | _ => false
def inB (lo hi : Int) : D → Bool
  | .int i => decide (lo ≤ i) && decide (i ≤ hi)
  | _ => false
def betw (n lo hi : Int) : D → Bool
  | .tup ds => decide (((ds.length : Nat) : Int) = n) && ds.all (inB lo hi)
  | _ => false
def tupN (n : Int) : D → Bool
  | .tup ds => decide (((ds.length : Nat) : Int) = n)
  | _ => false
theorem all_mapB {α : Type} (f : α → Bool) (zs : List α) : gAll (.lst ([] ++ zs.map fun z => D.bl (f z))) = some (.val (.bl (zs.all f))) := by
  have e : ([] : List D) ++ zs.map (fun z => D.bl (f z)) = (zs.map f).map D.bl := by
    rw [List.nil_append, List.map_map]
    rfl
  rw [e, gAll_bls, List.all_map]
  rfl
theorem ok_lineA {n : Nat} (h : n ≤ 1000) : ([] : List D).length + n ≤ sizeLine := by
  rw [sizeLine_eq, List.length_nil]
  omega
theorem lcGo_self {p : Pt} {tt : DT} {te : DE} {vs : List Nat} (g : D → D) {ρ : En} {Q : List D → En → Prop} (zs acc : List D) (h : ∀ z ∈ zs, ∀ Kt Kf, Kt (g z) ρ → stp p tt te vs z ρ Kt Kf) (hl : acc.length + zs.length ≤ sizeLine) (q : Q (acc ++ zs.map g) ρ) : lcGo p tt te vs zs acc ρ Q := by
  have := lcGo_enc (p := p) (tt := tt) (te := te) (vs := vs) (fun d => d) g (ρ := ρ) (Q := Q) zs acc h hl q
  rwa [show zs.map (fun d => d) = zs from List.map_id' zs] at this
theorem inB_int {lo hi : Int} {d : D} (h : inB lo hi d = true) : ∃ i, d = .int i ∧ lo ≤ i ∧ i ≤ hi := by
  cases d <;> first | (cases h; done) | skip
  rename_i i
  have h : (decide (lo ≤ i) && decide (i ≤ hi)) = true := h
  rw [Bool.and_eq_true, decide_eq_true_eq, decide_eq_true_eq] at h
  exact ⟨i, rfl, h.1, h.2⟩
theorem isI_int {d : D} (h : isI d = true) : ∃ i, d = .int i := by
  cases d <;> first | (cases h; done) | skip
  exact ⟨_, rfl⟩
theorem oIx_some (n : Nat) (d i : Nat) (h : i ≤ n) : HT.sIx n d (some (i : Int)) = i := by
  simp only [HT.sIx]
  split
  · omega
  · omega
theorem oCut_lo {α : Type} (xs : List α) (i : Nat) (h : i ≤ xs.length) : DL.cutD xs (some (i : Int)) none = xs.drop i := by
  unfold DL.cutD
  rw [oIx_some _ _ _ h]
  have : HT.sIx xs.length xs.length none = xs.length := rfl
  rw [this, List.take_of_length_le]
  rw [List.length_drop]
  omega
theorem oCut_le {α : Type} (xs : List α) (i : Nat) (h : i ≤ xs.length) : DL.cutD xs none (some (i : Int)) = xs.take i := by
  unfold DL.cutD
  rw [oIx_some _ _ _ h]
  have : HT.sIx xs.length 0 none = 0 := rfl
  rw [this, List.drop_zero]
  rfl
theorem oCut_all {α : Type} (xs : List α) (i : Nat) (h : xs.length ≤ i) : DL.cutD xs none (some (i : Int)) = xs := by
  unfold DL.cutD
  have e : HT.sIx xs.length xs.length (some (i : Int)) = xs.length := by
    simp only [HT.sIx]
    split <;> omega
  have e2 : HT.sIx xs.length 0 none = 0 := rfl
  rw [e, e2, List.drop_zero]
  exact List.take_of_length_le (by omega)
theorem oCut_hi {α : Type} (xs : List α) (i : Nat) : DL.cutD xs none (some (i : Int)) = xs.take i := by
  by_cases h : i ≤ xs.length
  · exact oCut_le xs i h
  · rw [List.take_of_length_le (by omega)]
    exact oCut_all xs i (by omega)
end DL
set_option exponentiation.threshold 100000
namespace Lk80
open PySem PySem.Spec PyProof.Rows L2 DL
/-- a list by the document -/
structure Lst (n : Nat) (rows : List (List Int)) : Prop where
  g : 1 ≤ n ∧ n ≤ 6
  r : rows.length ≤ 8
  x : ∀ r ∈ rows, r.length = n ∧ ∀ x ∈ r, -9999 ≤ x ∧ x ≤ 9999
abbrev lsD (n : Nat) (rows : List (List Int)) : D := .tup [.int (n : Nat), tt rows]
def Rw (n : Nat) (r : List Int) : Prop := r.length = n ∧ ∀ x ∈ r, -9999 ≤ x ∧ x ≤ 9999
theorem s_pick {k : Nat} {p ths : List D} (hp : Pl k p) (hk : k < 2 ^ 50) (h1 : 1 ≤ ths.length) (h2 : ths.length < 2 ^ 30) {Qd : Cell → Outs → Prop} {Ed : Str → List (Str × D) → Outs → Prop}
    (h : ∀ d o, d ∈ ths → Pl (k + 1) (o 0) → Qd (.val d) o) : w_law_pick_iv [.own p, .val (.lst ths)] Qd Ed := by
  unfold w_law_pick_iv m_law_pick_iv
  conv => whnf
  repeat (refine ⟨_, rfl, ?_⟩; conv => whnf)
  refine s_draw hp (by omega) (by omega) (many_pow (by omega) (by omega)) fun r o h0 h3 hp2 => ?_
  conv => whnf
  obtain ⟨j, rfl⟩ := Int.eq_ofNat_of_zero_le h0
  have hj : j < ths.length := by omega
  refine ⟨_, fIx_lst (List.getElem?_eq_getElem hj), ?_⟩
  exact h _ _ (List.getElem_mem hj) hp2
theorem s_number {k : Nat} {p : List D} {way : Int} (hp : Pl k p) (hk : k < 2 ^ 49) {Qd : Cell → Outs → Prop} {Ed : Str → List (Str × D) → Outs → Prop}
    (h : ∀ (x : Int) o, -9999 ≤ x → x ≤ 9999 → Pl (k + 2) (o 0) → Qd (.val (.int x)) o) : w_law_number_iv [.own p, .val (.int way)] Qd Ed := by
  unfold w_law_number_iv m_law_number_iv
  conv => whnf
  refine ⟨_, fEq_int way 0, ?_⟩
  by_cases w0 : way = 0
  · rw [decide_eq_true w0]
    conv => whnf
    refine s_draw hp (by omega) (by decide) (many_pow (by decide) (by decide)) fun r o h0 h3 hp2 => ?_
    conv => whnf
    repeat (refine ⟨_, rfl, ?_⟩; conv => whnf)
    exact h _ _ (by omega) (by omega) (hp2.mono (by omega))
  · rw [decide_eq_false w0]
    unfold m_law_number_iv_2
    conv => whnf
    refine ⟨_, fEq_int way 1, ?_⟩
    by_cases w1 : way = 1
    · rw [decide_eq_true w1]
      conv => whnf
      refine s_draw hp (by omega) (by decide) (many_pow (by decide) (by decide)) fun r o h0 h3 hp2 => ?_
      conv => whnf
      repeat (refine ⟨_, rfl, ?_⟩; conv => whnf)
      exact h _ _ (by omega) (by omega) (hp2.mono (by omega))
    · rw [decide_eq_false w1]
      unfold m_law_number_iv_1
      conv => whnf
      refine s_draw hp (by omega) (by decide) (many_pow (by decide) (by decide)) fun r o h0 h3 hp2 => ?_
      conv => whnf
      repeat ((first | refine ⟨_, rfl, ?_⟩ | refine ⟨small64 (by simp), ?_⟩); conv => whnf)
      refine s_pick hp2 (by omega) (by simp) (by simp) fun d o2 hd hp3 => ?_
      conv => whnf
      obtain ⟨x, rfl, hx⟩ : ∃ x : Int, d = .int x ∧ -9999 ≤ x ∧ x ≤ 9999 := by
        simp only [List.mem_cons, List.not_mem_nil, or_false] at hd
        rcases hd with rfl | rfl | rfl | rfl | rfl
        · exact ⟨r - 9999, rfl, by omega, by omega⟩
        · exact ⟨9999, rfl, by decide, by decide⟩
        · exact ⟨-9999, rfl, by decide, by decide⟩
        · exact ⟨0, rfl, by decide, by decide⟩
        · exact ⟨1, rfl, by decide, by decide⟩
      exact h _ _ hx.1 hx.2 hp3
theorem s_row {k n : Nat} {p : List D} {way : Int} (hp : Pl k p) (hk : k < 2 ^ 48) (hn : n ≤ 6) {Qd : Cell → Outs → Prop} {Ed : Str → List (Str × D) → Outs → Prop}
    (h : ∀ r o, Rw n r → Pl (k + 12) (o 0) → Qd (.val (ti r)) o) : w_law_row_ivv [.own p, .val (.int (n : Nat)), .val (.int way)] Qd Ed := by
  unfold w_law_row_ivv m_law_row_ivv
  conv => whnf
  refine ⟨⟨by omega, by omega⟩, ?_⟩
  refine ⟨rfl, ?_⟩
  refine lcGo_inv (fun acc ρ => ∃ p' xs, ρ = [some (.own p'), some (.val (.int (n : Nat))), some (.val (.int way)), none] ∧ acc = xs.map D.int ∧ Pl (k + 2 * acc.length) p' ∧ ∀ x ∈ xs, -9999 ≤ x ∧ x ≤ 9999) (rangeD 0 ((n : Nat) : Int).toNat) [] _ ?_ ?_ ⟨p, [], rfl, rfl, hp, fun x hx => by cases hx⟩ ?_
  · rw [rangeD_len]
    exact small64 (by simp; omega)
  · rintro d hd acc ρ hla ⟨p', xs, rfl, rfl, hp2, hx⟩ Kt Kf hK
    rw [rangeD_len] at hla
    simp only [List.length_nil, List.length_map, Nat.zero_add] at hla
    conv => whnf
    refine s_number hp2 (by rw [List.length_map]; omega) fun x o h1 h2 hp3 => ?_
    conv => whnf
    refine hK _ _ ⟨_, xs ++ [x], rfl, by rw [List.map_append]; rfl, ?_, ?_⟩
    · rw [List.length_append]
      exact hp3.mono (by simp only [List.length_cons, List.length_nil]; omega)
    · intro y hy
      rcases List.mem_append.mp hy with z | z
      · exact hx y z
      · have : y = x := by simpa using z
        rw [this]
        exact ⟨h1, h2⟩
  · rintro acc ρ hla ⟨p', xs, rfl, rfl, hp2, hx⟩
    rw [rangeD_len, List.length_map] at hla
    rw [List.length_map] at hp2
    simp only [List.length_nil, Nat.zero_add, Int.toNat_natCast] at hla
    conv => whnf
    repeat (refine ⟨_, rfl, ?_⟩; conv => whnf)
    exact h xs _ ⟨hla, hx⟩ (hp2.mono (by omega))
theorem a_whole {d : D} (hd : okA d = true) : Ret w_is_whole [.val d] (.bl (isI d)) := by
  intro Qd Ed h
  unfold w_is_whole m_is_whole
  cases d <;> first | (cases hd; done) | skip
  all_goals
    conv => whnf
    repeat (refine ⟨_, rfl, ?_⟩; conv => whnf)
    exact h _
theorem a_tuple_of {d : D} {n : Int} (hd : okA d = true) : Ret w_is_tuple_of [.val d, .val (.int n)] (.bl (tupN n d)) := by
  intro Qd Ed h
  unfold w_is_tuple_of m_is_tuple_of
  cases d <;> first | (cases hd; done) | skip
  case tup ds =>
    conv => whnf
    repeat (refine ⟨_, rfl, ?_⟩; conv => whnf)
    rw [show eqD (Cell.val (D.int ((ds.length : Nat) : Int))).toD (D.int n) = decide (((ds.length : Nat) : Int) = n) from eqD_int _ _]
    exact h _
  all_goals
    conv => whnf
    repeat (refine ⟨_, rfl, ?_⟩; conv => whnf)
    exact h _
theorem a_between {d : D} {lo hi : Int} (hd : okA d = true) : Ret w_is_between [.val d, .val (.int lo), .val (.int hi)] (.bl (inB lo hi d)) := by
  intro Qd Ed h
  have aw := a_whole hd
  unfold w_is_between m_is_between
  revert aw
  generalize w_is_whole = W1
  revert W1
  refine id ?_
  intro W1 aw
  conv => whnf
  refine aw _ _ fun o => ?_
  cases d <;> first | (cases hd; done) | skip
  case int i =>
    have e : inB lo hi (.int i) = (decide (lo ≤ i) && decide (i ≤ hi)) := rfl
    rw [e] at h
    conv => whnf
    (refine ⟨_, rfl, ?_⟩; conv => whnf)
    by_cases h1 : lo ≤ i
    · rw [decide_eq_true h1, Bool.true_and] at h
      refine ⟨_, fLe_t h1, ?_⟩
      conv => whnf
      repeat (refine ⟨_, rfl, ?_⟩; conv => whnf)
      exact h _
    · rw [decide_eq_false h1, Bool.false_and] at h
      refine ⟨_, fLe_f h1, ?_⟩
      conv => whnf
      exact h _
  all_goals
    conv => whnf
    repeat (refine ⟨_, rfl, ?_⟩; conv => whnf)
    exact h _
theorem a_are_wholes {d : D} {n : Int} (hd : okA d = true) : Ret w_are_wholes [.val d, .val (.int n)] (.bl (wholes n d)) := by
  intro Qd Ed h
  have at_ := a_tuple_of (n := n) hd
  have aw := fun (z : D) (hz : okA z = true) => a_whole hz
  unfold w_are_wholes m_are_wholes
  revert at_ aw
  generalize w_is_tuple_of = W1
  generalize w_is_whole = W2
  revert W1 W2
  refine id ?_
  intro W1 W2 at_ aw
  conv => whnf
  refine at_ _ _ fun o => ?_
  cases d <;> first | (cases hd; done) | skip
  case tup ds =>
    have e : wholes n (.tup ds) = (tupN n (.tup ds) && ds.all isI) := rfl
    rw [e] at h
    cases ht : tupN n (.tup ds) with
    | false =>
      rw [ht, Bool.false_and] at h
      conv => whnf
      repeat (refine ⟨_, rfl, ?_⟩; conv => whnf)
      exact h _
    | true =>
      rw [ht, Bool.true_and] at h
      conv => whnf
      (refine ⟨_, rfl, ?_⟩; conv => whnf)
      have hd2 := okA_tup.mp hd
      refine ⟨rfl, ?_⟩
      refine lcGo_self (fun d => D.bl (isI d)) ds [] (fun z hz Kt Kf hK => ?_) (ok_lineA hd2.1) ?_
      · conv => whnf
        refine aw z (hd2.2 z hz) _ _ fun o => ?_
        exact hK
      · conv => whnf
        refine ⟨_, all_mapB _ _, ?_⟩
        exact h _
  all_goals
    conv => whnf
    repeat (refine ⟨_, rfl, ?_⟩; conv => whnf)
    exact h _
theorem a_are_between {d : D} {n lo hi : Int} (hd : okA d = true) : Ret w_are_between [.val d, .val (.int n), .val (.int lo), .val (.int hi)] (.bl (betw n lo hi d)) := by
  intro Qd Ed h
  have at_ := a_tuple_of (n := n) hd
  have aw := fun (z : D) (hz : okA z = true) => a_between (lo := lo) (hi := hi) hz
  unfold w_are_between m_are_between
  revert at_ aw
  generalize w_is_tuple_of = W1
  generalize w_is_between = W2
  revert W1 W2
  refine id ?_
  intro W1 W2 at_ aw
  conv => whnf
  refine at_ _ _ fun o => ?_
  cases d <;> first | (cases hd; done) | skip
  case tup ds =>
    have e : betw n lo hi (.tup ds) = (tupN n (.tup ds) && ds.all (inB lo hi)) := rfl
    rw [e] at h
    cases ht : tupN n (.tup ds) with
    | false =>
      rw [ht, Bool.false_and] at h
      conv => whnf
      repeat (refine ⟨_, rfl, ?_⟩; conv => whnf)
      exact h _
    | true =>
      rw [ht, Bool.true_and] at h
      conv => whnf
      (refine ⟨_, rfl, ?_⟩; conv => whnf)
      have hd2 := okA_tup.mp hd
      refine ⟨rfl, ?_⟩
      refine lcGo_self (fun d => D.bl (inB lo hi d)) ds [] (fun z hz Kt Kf hK => ?_) (ok_lineA hd2.1) ?_
      · conv => whnf
        refine aw z (hd2.2 z hz) _ _ fun o => ?_
        exact hK
      · conv => whnf
        refine ⟨_, all_mapB _ _, ?_⟩
        exact h _
  all_goals
    conv => whnf
    repeat (refine ⟨_, rfl, ?_⟩; conv => whnf)
    exact h _
end Lk80
/-! Texts: numbers, rows. -/
namespace DL
open PySem PySem.Spec PyProof.Rows L2 TL
/-- the text of a number -/
abbrev numT (x : Int) : Str := (toString x : String)
/-- its signs -/
def numS (x : Int) : List Nat := (if x < 0 then [45] else []) ++ numL x.natAbs
theorem tl_numT (x : Int) : tl (numT x) = numS x := by
  unfold numS
  cases x with
  | ofNat n =>
    rw [if_neg (by show ¬ ((n : Nat) : Int) < 0; omega), List.nil_append]
    exact tl_num n
  | negSucc n =>
    rw [if_pos (Int.negSucc_lt_zero n)]
    have h := tl_num (n + 1)
    rw [tl_ofString] at h
    show tl (Str.ofString (toString (Int.negSucc n))) = _
    rw [tl_ofString]
    have e : toString (Int.negSucc n) = "-" ++ toString (((n + 1 : Nat)) : Int) := rfl
    rw [e, String.toList_append, List.map_append, h]
    rfl
theorem numS_len {x : Int} {k : Nat} (hk : 0 < k) (h : x.natAbs < 10 ^ k) : (numS x).length ≤ k + 1 := by
  unfold numS
  have := numL_len hk h
  rw [List.length_append]
  split <;> simp <;> omega
theorem numL_head : ∀ n : Nat, 1 ≤ n → ∃ c cs, numL n = c :: cs ∧ c ≠ 48 := by
  intro n
  induction n using Nat.strongRecOn with
  | _ n ih =>
    intro h1
    by_cases h : n < 10
    · exact ⟨48 + n, [], numL_lt h, by omega⟩
    · obtain ⟨c, cs, e, hc⟩ := ih (n / 10) (by omega) (by omega)
      exact ⟨c, cs ++ [48 + n % 10], by rw [numL_step (by omega), e]; rfl, hc⟩
theorem numS_free {x : Int} {s : Nat} (h : s < 45) : s ∉ numS x := fun hm => by
  unfold numS at hm
  rcases List.mem_append.mp hm with z | z
  · split at z
    · have : s = 45 := by simpa using z
      omega
    · cases z
  · exact numL_free (.inl (by omega)) z
theorem numT_int {x : Int} (h : x.natAbs < 10 ^ 600) : PySem.intText? (numT x) = some x := by
  have hl := numL_len (k := 600) (by decide) h
  have hlen : (numT x).length ≤ 4300 := by
    have := numS_len (k := 600) (by decide) h
    rw [len_tl, tl_numT]
    omega
  have ht := tl_numT x
  unfold numS at ht
  by_cases h0 : x < 0
  · rw [if_pos h0] at ht
    have := intText_neg (x := numT x) (cs := numL x.natAbs) ht (numL_digits _) (numL_ne _) hlen
    rw [numL_val] at this
    rw [this]
    congr 1
    omega
  · rw [if_neg h0, List.nil_append] at ht
    have := intText_digits (x := numT x) (by rw [show (numT x).cps.toList = numL x.natAbs from ht]; exact numL_digits _) (by rw [show (numT x).cps.toList = numL x.natAbs from ht]; exact numL_ne _) hlen
    rw [show (numT x).cps.toList = numL x.natAbs from ht, numL_val] at this
    rw [this]
    congr 1
    omega
theorem numT_inj {x y : Int} (h1 : x.natAbs < 10 ^ 600) (h2 : y.natAbs < 10 ^ 600) (h : numT x = numT y) : x = y := by
  have a := numT_int h1
  rw [h, numT_int h2] at a
  exact (Option.some.inj a).symm
/-! comparing texts -/
def okT (x : Str) : Prop := (toPy (.str x)).canLay0 = true
theorem okT_iff {x : Str} : okT x ↔ ∀ c ∈ tl x, c < 0x110000 := by
  unfold okT
  show PyData.canLay0 (.str x) = true ↔ _
  have e : PyData.canLay0 (.str x) = PyData.strOk x := by simp [PyData.canLay0]
  rw [e]
  unfold PyData.strOk
  rw [Array.all_eq_true_iff_forall_mem]
  constructor
  · intro h c hc
    have := h c (by simpa [tl] using hc)
    simpa using this
  · intro h c hc
    have := h c (by simpa [tl] using hc)
    simpa using this
theorem okT_append {x y : Str} (h1 : okT x) (h2 : okT y) : okT (x ++ y) := by
  rw [okT_iff] at *
  intro c hc
  rw [tl_append] at hc
  exact (List.mem_append.mp hc).elim (h1 c) (h2 c)
theorem okT_num (x : Int) : okT (numT x) := by
  rw [okT_iff, tl_numT]
  intro c hc
  unfold numS at hc
  rcases List.mem_append.mp hc with z | z
  · split at z
    · have : c = 45 := by simpa using z
      omega
    · cases z
  · have := numL_digits _ c z
    omega
theorem fEq_str {x y : Str} (h1 : okT x) (h2 : okT y) : fEq (.str x) (.str y) = some (.val (.bl (decide (x = y)))) := by
  have e : eqD (.str x) (.str y) = decide (x = y) := by
    show PyData.eqv (.str x) (.str y) = _
    simp [PyData.eqv]
    exact Bool.eq_iff_iff.mpr (by rw [beq_iff_eq, decide_eq_true_eq])
  have o1 : eqOk (.str x) = true := sz_eqOk (n := 1) (by decide) h1
  have o2 : eqOk (.str y) = true := sz_eqOk (n := 1) (by decide) h2
  rw [← e]
  exact if_pos ⟨o1, o2⟩
theorem fNe_str {x y : Str} (h1 : okT x) (h2 : okT y) : fNe (.str x) (.str y) = some (.val (.bl (!decide (x = y)))) := by
  have e : eqD (.str x) (.str y) = decide (x = y) := by
    show PyData.eqv (.str x) (.str y) = _
    simp [PyData.eqv]
    exact Bool.eq_iff_iff.mpr (by rw [beq_iff_eq, decide_eq_true_eq])
  have o1 : eqOk (.str x) = true := sz_eqOk (n := 1) (by decide) h1
  have o2 : eqOk (.str y) = true := sz_eqOk (n := 1) (by decide) h2
  rw [← e]
  exact if_pos ⟨o1, o2⟩
/-! cuts -/
theorem tl_cut (z : Str) (lo hi : Option Int) : tl (cutS z lo hi) = DL.cutD (tl z) lo hi := by
  unfold cutS DL.cutD
  rw [tl_mk, len_tl]
theorem subAt_eq (a b : Str) (i : Nat) : Builtin.Str.subAt a b i = decide (((tl a).drop i).take (tl b).length = tl b) := by
  unfold Builtin.Str.subAt
  have e : (a.cps.extract i (i + b.length)).toList = ((tl a).drop i).take (tl b).length := by
    rw [len_tl b, Array.toList_extract, List.extract_eq_take_drop]
    congr 1
    omega
  refine Bool.eq_iff_iff.mpr ?_
  rw [beq_iff_eq, decide_eq_true_eq, ← e]
  exact ⟨fun h => by rw [h], fun h => Array.toList_inj.mp h⟩
theorem startswith_eq (a b : Str) : Txt.startswith a b = decide ((tl b).length ≤ (tl a).length ∧ (tl a).take (tl b).length = tl b) := by
  unfold Txt.startswith
  rw [subAt_eq, List.drop_zero, len_tl, len_tl, Nat.zero_add, ← Bool.decide_and]
theorem endswith_eq (a b : Str) : Txt.endswith a b = decide ((tl b).length ≤ (tl a).length ∧ ((tl a).drop ((tl a).length - (tl b).length)).take (tl b).length = tl b) := by
  unfold Txt.endswith
  rw [subAt_eq, len_tl, len_tl, Nat.zero_add, ← Bool.decide_and]
/-- a text within a text -/
theorem found_in {x y : Str} {a b : List Nat} (h : tl y = a ++ (tl x ++ b)) : (!(Builtin.Str.occurrences y x 0 y.length 1).isEmpty) = true := by
  rw [PySem.StrLaws.found_iff]
  refine ⟨a.length, ?_, ?_⟩
  · rw [len_tl y, h, len_tl x, List.length_append, List.length_append]
    omega
  · rw [subAt_eq, h, List.drop_left, List.take_left]
    exact decide_eq_true rfl
theorem tl_minus : tl (Str.ofString "-") = [45] := by decide
theorem tl_none : tl (Str.ofString "") = [] := by decide
theorem tl_blank : tl (Str.ofString " ") = [32] := by decide
theorem tl_end : tl (Str.ofString "\n") = [10] := by decide
theorem tl_zero : tl (Str.ofString "0") = [48] := by decide
theorem tl_mzero : tl (Str.ofString "-0") = [45, 48] := by decide
theorem tl_figs : tl (Str.ofString "0123456789") = [48, 49, 50, 51, 52, 53, 54, 55, 56, 57] := by decide
theorem fig_in {c : Nat} (h : 48 ≤ c ∧ c ≤ 57) : c ∈ tl (Str.ofString "0123456789") := by
  rw [tl_figs]
  simp only [List.mem_cons, List.not_mem_nil, or_false]
  omega
theorem fInT_fig {c : Nat} (h : 48 ≤ c ∧ c ≤ 57) : fInT true (.str ⟨#[c]⟩) (.str (Str.ofString "0123456789")) = some (.val (.bl false)) := by
  show some (Cell.val (.bl (!decide (c ∈ tl (Str.ofString "0123456789"))))) = _
  rw [decide_eq_true (fig_in h)]
  rfl
/-- the signs ahead cut off -/
theorem abs_cut (x : Int) : (if x < 0 then cutS (numT x) (some 1) none else numT x) = numT (x.natAbs : Int) := by
  refine ext_tl ?_
  have e2 : tl (numT (x.natAbs : Int)) = numL x.natAbs := tl_num x.natAbs
  rw [e2]
  by_cases h : x < 0
  · rw [if_pos h, tl_cut, tl_numT]
    have := oCut_lo (numS x) 1 (by unfold numS; rw [if_pos h]; simp)
    rw [show (some (1 : Int)) = some (((1 : Nat)) : Int) from rfl, this]
    unfold numS
    rw [if_pos h]
    rfl
  · rw [if_neg h, tl_numT]
    unfold numS
    rw [if_neg h]
    rfl
theorem numL_cons (n : Nat) : ∃ c cs, numL n = c :: cs ∧ (48 ≤ c ∧ c ≤ 57) ∧ (c = 48 → n = 0) := by
  cases e : numL n with
  | nil => exact absurd e (numL_ne n)
  | cons c cs =>
    refine ⟨c, cs, rfl, numL_digits n c (by rw [e]; exact List.mem_cons_self), fun h => ?_⟩
    rcases Nat.eq_zero_or_pos n with z | z
    · exact z
    · obtain ⟨c2, cs2, e2, hc⟩ := numL_head n z
      rw [e] at e2
      cases e2
      exact absurd h hc
theorem head_minus (x : Int) : decide (cutS (numT x) none (some 1) = Str.ofString "-") = decide (x < 0) := by
  have e : tl (cutS (numT x) none (some 1)) = (numS x).take 1 := by
    rw [tl_cut, tl_numT]
    exact oCut_hi _ 1
  obtain ⟨c, cs, ec, hc, _⟩ := numL_cons x.natAbs
  refine decide_eq_decide.mpr ⟨fun h => ?_, fun h => ext_tl ?_⟩
  · rw [h, tl_minus] at e
    unfold numS at e
    by_cases h0 : x < 0
    · exact h0
    · rw [if_neg h0, List.nil_append, ec] at e
      have : 45 = c := by simpa using e
      omega
  · rw [e, tl_minus]
    unfold numS
    rw [if_pos h]
    rfl
theorem okT_cut {z : Str} (h : okT z) (lo hi : Option Int) : okT (cutS z lo hi) := by
  rw [okT_iff] at *
  intro c hc
  rw [tl_cut] at hc
  exact h c (List.mem_of_mem_drop (List.mem_of_mem_take hc))
theorem fIx0_str {z : Str} {c : Nat} {cs : List Nat} (h : tl z = c :: cs) (hl : z.length ≤ sizeLine) : fIx (.str z) (.int 0) = some (.val (.str ⟨#[c]⟩)) := by
  show (if z.length ≤ sizeLine then (atI (tl z) 0).map fun c => Cell.val (.str ⟨#[c]⟩) else none) = _
  rw [if_pos hl, h]
  have := DL.atI_nat (xs := c :: cs) (k := 0) (by simp)
  show Option.map _ (atI (c :: cs) ((0 : Nat) : Int)) = _
  rw [this]
  rfl
theorem gIntT_num {x : Int} (h : x.natAbs < 10 ^ 600) : gIntT (.str (numT x)) = some (.val (.int x)) := by
  have hl : (numT x).length ≤ 640 := by
    have := numS_len (k := 600) (by decide) h
    rw [len_tl, tl_numT]
    omega
  show (if (numT x).length ≤ 640 then (PySem.intText? (numT x)).map fun n => Cell.val (.int n) else none) = _
  rw [if_pos hl, numT_int h]
  rfl
theorem one_sign {c : Nat} {y : Str} {d : Nat} (h : tl y = [d]) : ((⟨#[c]⟩ : Str) = y) ↔ c = d := by
  constructor
  · intro e
    have : tl (⟨#[c]⟩ : Str) = tl y := by rw [e]
    rw [h] at this
    simpa [tl] using this
  · intro e
    refine ext_tl ?_
    rw [h, e]
theorem okT_sign {c : Nat} (h : c < 0x110000) : okT ⟨#[c]⟩ := by
  rw [okT_iff]
  intro d hd
  have : d = c := by simpa [tl] using hd
  omega
theorem okT_lit {y : Str} (h : (tl y).all (fun c => decide (c < 0x110000)) = true) : okT y := by
  rw [okT_iff]
  intro c hc
  simpa using List.all_eq_true.mp h c hc
end DL
set_option exponentiation.threshold 10000
/-! Texts cut at a sign; what is read of a list's text. -/
namespace DL
open PySem PySem.Spec PyProof.Rows L2 TL
def cutAt (s : Nat) : List Nat → List (List Nat)
  | [] => [[]]
  | c :: r => if c = s then [] :: cutAt s r else match cutAt s r with
    | [] => [[c]]
    | h :: t => (c :: h) :: t
theorem cutAt_ne (s : Nat) : ∀ l, cutAt s l ≠ []
  | [] => by simp [cutAt]
  | c :: r => by
    unfold cutAt
    split
    · simp
    · split <;> simp
theorem pre1 (s c : Nat) (r : List Nat) : pre [s] (c :: r) = decide (c = s) := by
  unfold pre
  rw [List.length_singleton, List.take_succ_cons, List.take_zero]
  refine Bool.eq_iff_iff.mpr ?_
  rw [beq_iff_eq, decide_eq_true_eq]
  simp
theorem spl_cut (s : Nat) : ∀ (l acc : List Nat), spl [s] 0 acc l = match cutAt s l with
    | [] => [acc]
    | h :: t => (acc ++ h) :: t
  | [], acc => by
    rw [spl_nil]
    simp [cutAt]
  | c :: r, acc => by
    unfold cutAt
    by_cases h : c = s
    · rw [if_pos h, spl_hit (by rw [pre1, decide_eq_true h])]
      show acc :: spl [s] 0 [] r = _
      rw [spl_cut s r []]
      have := cutAt_ne s r
      cases hc : cutAt s r with
      | nil => exact absurd hc this
      | cons a b => simp
    · rw [if_neg h, spl_miss (by rw [pre1, decide_eq_false h]), spl_cut s r (acc ++ [c])]
      cases hc : cutAt s r with
      | nil => rfl
      | cons a b => simp
theorem cut_join (s : Nat) : ∀ l, joinL [s] (cutAt s l) = l
  | [] => rfl
  | c :: r => by
    have ih := cut_join s r
    have hn := cutAt_ne s r
    unfold cutAt
    cases hc : cutAt s r with
    | nil => exact absurd hc hn
    | cons a b =>
      rw [hc] at ih
      by_cases h : c = s
      · rw [if_pos h]
        show [] ++ ([s] ++ joinL [s] (a :: b)) = _
        rw [ih, h]
        rfl
      · rw [if_neg h]
        cases b with
        | nil =>
          have : a = r := ih
          show c :: a = _
          rw [this]
        | cons d e =>
          have ih' : a ++ ([s] ++ joinL [s] (d :: e)) = r := ih
          show (c :: a) ++ ([s] ++ joinL [s] (d :: e)) = _
          rw [List.cons_append, ih']
theorem cut_free (s : Nat) : ∀ l, ∀ p ∈ cutAt s l, s ∉ p
  | [], p, h => by
    have : p = [] := by simpa [cutAt] using h
    rw [this]
    simp
  | c :: r, p, h => by
    have ih := cut_free s r
    unfold cutAt at h
    split at h
    · rcases List.mem_cons.mp h with e | h
      · rw [e]; simp
      · exact ih p h
    · rename_i hc
      cases e : cutAt s r with
      | nil => exact absurd e (cutAt_ne s r)
      | cons a b =>
        rw [e] at h ih
        rcases List.mem_cons.mp h with e2 | h
        · rw [e2]
          intro hm
          rcases List.mem_cons.mp hm with z | z
          · exact hc z.symm
          · exact ih a List.mem_cons_self z
        · exact ih p (List.mem_cons_of_mem _ h)
theorem cut_of_join {s : Nat} {ps : List (List Nat)} (hn : ps ≠ []) (hp : ∀ p ∈ ps, s ∉ p) : cutAt s (joinL [s] ps) = ps := by
  have h1 := spl_join (S := []) hn hp
  rw [spl_cut] at h1
  cases e : cutAt s (joinL [s] ps) with
  | nil => exact absurd e (cutAt_ne _ _)
  | cons a b =>
    rw [e] at h1
    simpa using h1
theorem split_map {x y : Str} {s : Nat} (ey : tl y = [s]) (hk : y.cps.all (· < 256) = true) : (Txt.split x y).map tl = cutAt s (tl x) := by
  rw [split_spl x y (by rw [ey]; simp) (kind_ok hk), ey, spl_cut]
  have := cutAt_ne s (tl x)
  cases e : cutAt s (tl x) with
  | nil => exact absurd e this
  | cons a b => simp
abbrev bl1 : Str := Str.ofString " "
abbrev nl1 : Str := Str.ofString "\n"
theorem words_map (x : Str) : (Txt.split x bl1).map tl = cutAt 32 (tl x) := split_map tl_blank (by decide +kernel)
theorem rows_map (x : Str) : (Txt.split x nl1).map tl = cutAt 10 (tl x) := split_map tl_end (by decide +kernel)
theorem split_ne {x y : Str} {s : Nat} (ey : tl y = [s]) (hk : y.cps.all (· < 256) = true) : Txt.split x y ≠ [] := fun e => by
  have := split_map (x := x) ey hk
  rw [e] at this
  exact cutAt_ne s (tl x) this.symm
/-! numbers -/
def isFig (l : List Nat) : Bool := !l.isEmpty && (l.all (fun c => decide (48 ≤ c ∧ c ≤ 57)) && (decide (l = [48]) || decide (l.head? ≠ some 48)))
def isNum (x : Str) : Bool := match tl x with
  | 45 :: r => isFig r && decide (r ≠ [48])
  | l => isFig l
def numV (x : Str) : Int := (PySem.intText? x).getD 0
theorem isFig_of {l : List Nat} (h : isFig l = true) : l ≠ [] ∧ NumText.AllDigits l ∧ (l = [48] ∨ l.head? ≠ some 48) := by
  unfold isFig at h
  rw [Bool.and_eq_true, Bool.and_eq_true, Bool.or_eq_true, decide_eq_true_eq, decide_eq_true_eq] at h
  obtain ⟨h1, h2, h3⟩ := h
  refine ⟨by simpa using h1, fun c hc => ?_, h3⟩
  have := List.all_eq_true.mp h2 c hc
  simpa using this
theorem digs_int {x : Str} (h1 : tl x ≠ []) (h2 : NumText.AllDigits (tl x)) (hl : x.length ≤ 640) : PySem.intText? x = some ((NumText.digitsVal (tl x) : Nat) : Int) := PySem.intText_digits (x := x) h2 h1 (by omega)
theorem num_cases {x : Str} (h : isNum x = true) (hl : x.length ≤ 640) : (isFig (tl x) = true ∧ PySem.intText? x = some ((NumText.digitsVal (tl x) : Nat) : Int)) ∨ ∃ r, tl x = 45 :: r ∧ isFig r = true ∧ r ≠ [48] ∧ PySem.intText? x = some (-((NumText.digitsVal r : Nat) : Int)) := by
  unfold isNum at h
  split at h
  · rename_i r e
    rw [Bool.and_eq_true, decide_eq_true_eq] at h
    obtain ⟨h1, h2, h3⟩ := isFig_of h.1
    exact .inr ⟨r, e, h.1, h.2, PySem.intText_neg (x := x) e h2 h1 (by omega)⟩
  · obtain ⟨h1, h2, h3⟩ := isFig_of h
    exact .inl ⟨h, digs_int h1 h2 hl⟩
theorem num_int {x : Str} (h : isNum x = true) (hl : x.length ≤ 640) : PySem.intText? x = some (numV x) := by
  rcases num_cases h hl with ⟨_, e⟩ | ⟨r, _, _, _, e⟩ <;> (unfold numV; rw [e]; rfl)
theorem gIntT_is {x : Str} (h : isNum x = true) (hl : x.length ≤ 640) : gIntT (.str x) = some (.val (.int (numV x))) := by
  show (if x.length ≤ 640 then (PySem.intText? x).map fun n => Cell.val (.int n) else none) = _
  rw [if_pos hl, num_int h hl]
  rfl
theorem fold_ge : ∀ (l : List Nat) (a : Nat), a * 10 ^ l.length ≤ l.foldl (fun acc c => acc * 10 + (c - 48)) a
  | [], a => by simp
  | c :: l, a => by
    rw [List.foldl_cons, List.length_cons]
    refine Nat.le_trans ?_ (fold_ge l _)
    rw [Nat.pow_succ, Nat.mul_comm (10 ^ l.length) 10, ← Nat.mul_assoc]
    exact Nat.mul_le_mul_right _ (by omega)
theorem fig_small {l : List Nat} {m : Nat} (h : isFig l = true) (hv : NumText.digitsVal l = m) (hm : m < 10) : l = [48 + m] := by
  obtain ⟨h1, h2, h3⟩ := isFig_of h
  cases l with
  | nil => exact absurd rfl h1
  | cons c cs =>
    have hc := h2 c List.mem_cons_self
    have hd : NumText.digitsVal (c :: cs) = cs.foldl (fun acc c => acc * 10 + (c - 48)) (0 * 10 + (c - 48)) := rfl
    cases cs with
    | nil =>
      have : c - 48 = m := by rw [← hv, hd]; simp
      have : c = 48 + m := by omega
      rw [this]
    | cons d ds =>
      have := fold_ge (d :: ds) (0 * 10 + (c - 48))
      rw [← hd, hv] at this
      have h4 : c ≠ 48 := by
        rcases h3 with h3 | h3
        · simp at h3
        · simpa using h3
      have h5 : 1 ≤ 10 ^ ds.length := Nat.one_le_pow _ _ (by decide)
      rw [List.length_cons, Nat.pow_succ] at this
      have h6 : 1 * (1 * 10) ≤ (0 * 10 + (c - 48)) * (10 ^ ds.length * 10) := Nat.mul_le_mul (by omega) (Nat.mul_le_mul_right _ h5)
      omega
/-! what is read -/
abbrev goodsW : Str := Str.ofString "goods"
abbrev packW : Str := Str.ofString "pack"
def headI (y : Str) : Option Int := match Txt.split y bl1 with
  | w0 :: ws => if w0 = goodsW ∧ ws.all isNum = true ∧ ws.length = 1 then some (numV (ws.headD bl1)) else none
  | [] => none
def rowI (y : Str) : Option (List Int) := match Txt.split y bl1 with
  | w0 :: ws => if w0 = packW ∧ ws.all isNum = true then some (ws.map numV) else none
  | [] => none
def allR : List Str → Option (List (List Int))
  | [] => some []
  | y :: ys => match rowI y, allR ys with
    | some r, some rs => some (r :: rs)
    | _, _ => none
def isP (m : Int) (p : List Int) : Bool := decide ((p.length : Int) = m) && p.all fun x => decide (-9999 ≤ x ∧ x ≤ 9999)
def isL (m : Int) (ps : List (List Int)) : Bool := decide (1 ≤ m ∧ m ≤ 6) && (decide (ps.length ≤ 8) && ps.all (isP m))
def progC : Option Int → Option (List (List Int)) → Option (Int × List (List Int))
  | some m, some ps => if isL m ps = true then some (m, ps) else none
  | _, _ => none
def progR : List Str → Option (Int × List (List Int))
  | [] => none
  | y :: ys => progC (headI y) (allR ys)
def lrow (m : Int) (y : Str) : Option (List Int) := if cutS y none (some 5) = Str.ofString "pack " then
    (if ((Txt.split (cutS y (some 5) none) bl1).length : Int) = m ∧ (Txt.split (cutS y (some 5) none) bl1).all isNum = true then some ((Txt.split (cutS y (some 5) none) bl1).map numV) else none) else none
def lall (m : Int) : List Str → Option (List (List Int))
  | [] => some []
  | y :: ys => match lrow m y with
    | some r => if r.all (fun x => decide (-9999 ≤ x ∧ x ≤ 9999)) = true then (lall m ys).map (r :: ·) else none
    | none => none
theorem len1_of {m : Int} {r : List Int} (hm : 1 ≤ m) (h : isP m r = true) : r ≠ [] := fun e => by
  rw [e] at h
  unfold isP at h
  rw [Bool.and_eq_true, decide_eq_true_eq] at h
  have := h.1
  simp at this
  omega
theorem tl_pack5 : tl (Str.ofString "pack ") = tl packW ++ [32] := by decide
theorem lrow_eq {m : Int} (hm : 1 ≤ m) (y : Str) : (lrow m y).filter (isP m) = (rowI y).filter (isP m) := by
  have hw := words_map y
  have hj := cut_join 32 (tl y)
  have hf := cut_free 32 (tl y)
  rw [← hw] at hj hf
  unfold rowI lrow
  cases hs : Txt.split y bl1 with
  | nil => exact absurd hs (split_ne tl_blank (by decide +kernel))
  | cons w0 ws =>
    rw [hs] at hw hj hf
    have f0 : 32 ∉ tl w0 := hf _ (by simp)
    cases ws with
    | nil =>
      have hy : tl y = tl w0 := by rw [← hj]; rfl
      have n5 : cutS y none (some 5) ≠ Str.ofString "pack " := fun e => by
        have e2 : tl (cutS y none (some 5)) = (tl y).take 5 := by rw [tl_cut]; exact oCut_hi _ 5
        rw [e, tl_pack5] at e2
        have : 32 ∈ (tl y).take 5 := by rw [← e2]; simp
        rw [hy] at this
        exact f0 (List.mem_of_mem_take this)
      rw [if_neg n5]
      show none = (Option.filter (isP m) (if w0 = packW ∧ ([] : List Str).all isNum = true then some [] else none))
      split
      · have : isP m [] = false := by
          cases h : isP m [] with
          | false => rfl
          | true => exact absurd rfl (len1_of hm h)
        simp [Option.filter, this]
      · rfl
    | cons w1 ws =>
      have hy : tl y = tl w0 ++ ([32] ++ joinL [32] ((w1 :: ws).map tl)) := by rw [← hj]; rfl
      have hc : cutS y none (some 5) = Str.ofString "pack " ↔ w0 = packW := by
        have e2 : tl (cutS y none (some 5)) = (tl y).take 5 := by rw [tl_cut]; exact oCut_hi _ 5
        have l4 : (tl packW).length = 4 := by decide
        constructor
        · intro e
          rw [e, tl_pack5] at e2
          refine ext_tl ?_
          have h1 : cutAt 32 (tl y) = tl w0 :: (w1 :: ws).map tl := hw.symm
          have h2 : tl y = tl packW ++ ([32] ++ (tl y).drop 5) := by
            have := (List.take_append_drop 5 (tl y)).symm
            rw [← e2] at this
            rw [← List.append_assoc]
            exact this
          have hp : 32 ∉ tl packW := by decide
          have h3 : spl [32] 0 [] (tl y) = (tl packW) :: spl [32] 0 [] ((tl y).drop 5) := by
            have := spl_part1 (s := 32) (S := []) (p := tl packW) (rest := (tl y).drop 5) (acc := []) hp
            rw [← h2, List.nil_append] at this
            exact this
          rw [spl_cut, h1] at h3
          have h4 := (List.cons.inj h3).1
          rw [List.nil_append] at h4
          exact h4
        · intro e
          refine ext_tl ?_
          rw [e2, tl_pack5, hy, e]
          rw [show tl packW ++ ([32] ++ joinL [32] ((w1 :: ws).map tl)) = (tl packW ++ [32]) ++ joinL [32] ((w1 :: ws).map tl) from by simp]
          have l5 : (tl packW ++ [32]).length = 5 := by decide
          have := List.take_left (l₁ := tl packW ++ [32]) (l₂ := joinL [32] ((w1 :: ws).map tl))
          rw [l5] at this
          exact this
      by_cases hp : w0 = packW
      · rw [if_pos (hc.mpr hp)]
        have l4 : (tl packW).length = 4 := by decide
        have hd : tl (cutS y (some 5) none) = joinL [32] ((w1 :: ws).map tl) := by
          have hle : 5 ≤ (tl y).length := by rw [hy, hp, List.length_append, List.length_append, l4]; simp; omega
          rw [tl_cut, show (some (5 : Int)) = some (((5 : Nat)) : Int) from rfl, oCut_lo _ 5 hle, hy, hp]
          rw [show tl packW ++ ([32] ++ joinL [32] ((w1 :: ws).map tl)) = (tl packW ++ [32]) ++ joinL [32] ((w1 :: ws).map tl) from by simp]
          have l5 : (tl packW ++ [32]).length = 5 := by decide
          have := List.drop_left (l₁ := tl packW ++ [32]) (l₂ := joinL [32] ((w1 :: ws).map tl))
          rw [l5] at this
          exact this
        have hs2 : Txt.split (cutS y (some 5) none) bl1 = w1 :: ws := by
          refine map_tl_inj ?_
          rw [words_map, hd]
          exact cut_of_join (by simp) fun p hp2 => hf p (by rw [List.map_cons]; exact List.mem_cons_of_mem _ hp2)
        rw [hs2]
        by_cases ha : (w1 :: ws).all isNum = true
        · show Option.filter (isP m) (if ((w1 :: ws).length : Int) = m ∧ (w1 :: ws).all isNum = true then some ((w1 :: ws).map numV) else none) = Option.filter (isP m) (if w0 = packW ∧ (w1 :: ws).all isNum = true then some ((w1 :: ws).map numV) else none)
          rw [if_pos (show w0 = packW ∧ (w1 :: ws).all isNum = true from ⟨hp, ha⟩)]
          by_cases hl : ((w1 :: ws).length : Int) = m
          · rw [if_pos ⟨hl, ha⟩]
          · rw [if_neg fun h => hl h.1]
            have : isP m ((w1 :: ws).map numV) = false := by
              unfold isP
              rw [List.length_map, decide_eq_false hl]
              rfl
            simp only [Option.filter, this]
            rfl
        · show Option.filter (isP m) (if ((w1 :: ws).length : Int) = m ∧ (w1 :: ws).all isNum = true then some ((w1 :: ws).map numV) else none) = Option.filter (isP m) (if w0 = packW ∧ (w1 :: ws).all isNum = true then some ((w1 :: ws).map numV) else none)
          rw [if_neg fun h => ha h.2, if_neg fun h => ha h.2]
      · rw [if_neg fun h => hp (hc.mp h)]
        show none = Option.filter (isP m) (if w0 = packW ∧ (w1 :: ws).all isNum = true then some ((w1 :: ws).map numV) else none)
        rw [if_neg fun h => hp h.1]
        rfl
theorem lrow_P {m : Int} {y : Str} {r : List Int} (h : lrow m y = some r) : isP m r = r.all (fun x => decide (-9999 ≤ x ∧ x ≤ 9999)) := by
  unfold lrow at h
  split at h
  · split at h
    · rename_i h2
      cases h
      unfold isP
      rw [List.length_map, decide_eq_true h2.1, Bool.true_and]
    · cases h
  · cases h
theorem lall_eq {m : Int} (hm : 1 ≤ m) : ∀ ys, lall m ys = (allR ys).filter fun ps : List (List Int) => ps.all (isP m)
  | [] => rfl
  | y :: ys => by
    have ih := lall_eq hm ys
    have he := lrow_eq hm y
    have key : ∀ o : Option (List (List Int)), (match rowI y, o with | some r, some rs => some (r :: rs) | _, _ => none).filter (fun ps : List (List Int) => ps.all (isP m)) = match (rowI y).filter (isP m) with
        | some r => (o.filter fun ps : List (List Int) => ps.all (isP m)).map (r :: ·)
        | none => none := by
      intro o
      cases hr : rowI y with
      | none => rfl
      | some r =>
        cases hp : isP m r with
        | true =>
          have e1 : (some r).filter (isP m) = some r := by simp [Option.filter, hp]
          rw [e1]
          cases o with
          | none => rfl
          | some rs =>
            show Option.filter (fun ps : List (List Int) => ps.all (isP m)) (some (r :: rs)) = Option.map (r :: ·) (Option.filter (fun ps : List (List Int) => ps.all (isP m)) (some rs))
            simp only [Option.filter, List.all_cons, hp, Bool.true_and]
            split <;> rfl
        | false =>
          have e1 : (some r).filter (isP m) = none := by simp [Option.filter, hp]
          rw [e1]
          cases o with
          | none => rfl
          | some rs =>
            show Option.filter (fun ps : List (List Int) => ps.all (isP m)) (some (r :: rs)) = none
            simp only [Option.filter, List.all_cons, hp, Bool.false_and]
            rfl
    unfold lall allR
    rw [key (allR ys), ← he, ← ih]
    cases hl : lrow m y with
    | none => rfl
    | some r =>
      have hp := lrow_P hl
      show (if r.all (fun x => decide (-9999 ≤ x ∧ x ≤ 9999)) = true then (lall m ys).map (r :: ·) else none) = match (some r).filter (isP m) with | some r => (lall m ys).map (r :: ·) | none => none
      rw [← hp]
      cases hb : isP m r <;> simp [Option.filter, hb]
theorem allR_len : ∀ {ys : List Str} {ps : List (List Int)}, allR ys = some ps → ps.length = ys.length
  | [], _, h => by cases h; rfl
  | y :: ys, ps, h => by
    unfold allR at h
    split at h
    · rename_i r rs e1 e2
      cases h
      rw [List.length_cons, List.length_cons, allR_len e2]
    · cases h
abbrev goodsL (m : Nat) : Str := Str.ofString "goods " ++ (toString ((m : Nat) : Int) : String)
theorem tl_goods6 : tl (Str.ofString "goods ") = tl goodsW ++ [32] := by decide
theorem split_goodsL {m : Nat} (h : m < 10) : Txt.split (goodsL m) bl1 = [goodsW, numT (m : Nat)] := by
  refine map_tl_inj ?_
  rw [words_map]
  have e : tl (goodsL m) = joinL [32] ([goodsW, numT (m : Nat)].map tl) := by
    unfold goodsL
    rw [tl_append, tl_goods6, List.append_assoc]
    rfl
  rw [e]
  refine cut_of_join (by simp) fun p hp => ?_
  simp only [List.map_cons, List.map_nil, List.mem_cons, List.not_mem_nil, or_false] at hp
  rcases hp with rfl | rfl
  · decide
  · rw [tl_numT]
    exact numS_free (by decide)
theorem isNum_small {m : Nat} (h : m < 10) : isNum (numT (m : Nat)) = true := by
  have e : tl (numT (m : Nat)) = [48 + m] := (tl_num m).trans (numL_lt h)
  unfold isNum
  rw [e]
  split
  · rename_i r e2
    injection e2
    omega
  · unfold isFig
    have h1 : ([48 + m].all fun c => decide (48 ≤ c ∧ c ≤ 57)) = true := by
      simp
      omega
    rw [h1]
    by_cases h0 : m = 0
    · subst h0; decide
    · have h2 : ([48 + m].head? ≠ some 48) := by simp; omega
      rw [decide_eq_true h2]
      simp
theorem numV_small {m : Nat} (h : m < 10) : numV (numT (m : Nat)) = m := by
  unfold numV
  rw [numT_int (by
    have : (10 : Nat) ≤ 10 ^ 600 := Nat.le_trans (by decide) (Nat.pow_le_pow_right (n := 10) (by decide) (show 1 ≤ 600 by decide))
    omega)]
  rfl
theorem headI_goods {m : Nat} (h : m < 10) : headI (goodsL m) = some (m : Int) := by
  unfold headI
  rw [split_goodsL h]
  show (if goodsW = goodsW ∧ [numT (m : Nat)].all isNum = true ∧ [numT (m : Nat)].length = 1 then some (numV (numT (m : Nat))) else none) = _
  rw [if_pos ⟨rfl, by rw [List.all_cons, isNum_small h]; rfl, rfl⟩, numV_small h]
theorem headI_inv {y : Str} {i : Int} (hl : y.length ≤ 640) (h : headI y = some i) (h1 : 1 ≤ i) (h2 : i ≤ 6) : ∃ m : Nat, i = m ∧ y = goodsL m := by
  have hw := words_map y
  have hj := cut_join 32 (tl y)
  rw [← hw] at hj
  unfold headI at h
  split at h
  · rename_i w0 ws e
    split at h
    · rename_i hc
      obtain ⟨e0, hn, hl1⟩ := hc
      obtain ⟨w, rfl⟩ : ∃ w, ws = [w] := by
        match ws, hl1 with
        | [w], _ => exact ⟨w, rfl⟩
      rw [e, e0] at hj
      have hy : tl y = tl goodsW ++ ([32] ++ tl w) := by rw [← hj]; rfl
      have hv : numV w = i := by simpa using h
      have hnw : isNum w = true := by simpa using hn
      have hlw : w.length ≤ 640 := by
        have := congrArg List.length hy
        rw [← len_tl, List.length_append, List.length_append, ← len_tl w] at this
        omega
      rcases num_cases hnw hlw with ⟨hf, ev⟩ | ⟨r, _, _, _, ev⟩
      · have e2 := num_int hnw hlw
        rw [ev] at e2
        have e3 : ((NumText.digitsVal (tl w) : Nat) : Int) = i := by rw [← hv]; exact Option.some.inj e2
        have hs := fig_small (m := NumText.digitsVal (tl w)) hf rfl (by omega)
        refine ⟨NumText.digitsVal (tl w), e3.symm, ext_tl ?_⟩
        rw [hy]
        unfold goodsL
        rw [tl_append, tl_goods6, List.append_assoc]
        have ed : NumText.digitsVal (tl w) < 10 := by omega
        have : tl (numT ((NumText.digitsVal (tl w) : Nat) : Int)) = tl w := ((tl_num _).trans (numL_lt ed)).trans hs.symm
        exact congrArg (fun z => tl goodsW ++ ([32] ++ z)) this.symm
      · have e2 := num_int hnw hlw
        rw [ev] at e2
        have e3 : -((NumText.digitsVal r : Nat) : Int) = i := by rw [← hv]; exact Option.some.inj e2
        omega
    · cases h
  · cases h
/-- what the law's own reader tells of the rows -/
def lawR (rows : List Str) (y : Str) (mid : List Str) (m : Int) : Option (Int × List (List Int)) := (lall m mid).map fun ps => (m, ps)
theorem law_prog {y : Str} {mid : List Str} {m : Nat} (hm : 1 ≤ m ∧ m ≤ 6) (e : y = goodsL m) (hl : mid.length ≤ 8) : progR (y :: mid) = (lall (m : Int) mid).map fun ps => ((m : Int), ps) := by
  show progC (headI y) (allR mid) = _
  rw [e, headI_goods (by omega), lall_eq (by omega)]
  cases ha : allR mid with
  | none => rfl
  | some ps =>
    have hlen := allR_len ha
    show (if isL m ps = true then some ((m : Int), ps) else none) = Option.map (fun ps => ((m : Int), ps)) ((some ps).filter fun ps : List (List Int) => ps.all (isP m))
    have e2 : isL m ps = ps.all (isP m) := by
      unfold isL
      rw [decide_eq_true (by omega), decide_eq_true (by omega), Bool.true_and, Bool.true_and]
    rw [e2]
    cases hb : ps.all (isP m) <;> simp [Option.filter, hb]
theorem none_long {y : Str} {mid : List Str} (h : 8 < mid.length) : progR (y :: mid) = none := by
  show progC (headI y) (allR mid) = none
  unfold progC
  split
  · rename_i m ps h1 h2
    have := allR_len h2
    refine if_neg fun hL => ?_
    unfold isL at hL
    rw [Bool.and_eq_true, Bool.and_eq_true, decide_eq_true_eq, decide_eq_true_eq] at hL
    omega
  · rfl
theorem none_head {y : Str} {mid : List Str} (hl : y.length ≤ 640) (h : ∀ m : Nat, 1 ≤ m → m ≤ 6 → y ≠ goodsL m) : progR (y :: mid) = none := by
  show progC (headI y) (allR mid) = none
  unfold progC
  split
  · rename_i i ps h1 h2
    refine if_neg fun hL => ?_
    unfold isL at hL
    rw [Bool.and_eq_true, decide_eq_true_eq] at hL
    obtain ⟨m, em, ey⟩ := headI_inv hl h1 hL.1.1 hL.1.2
    exact h m (by omega) (by omega) ey
  · rfl
end DL
set_option exponentiation.threshold 100000
namespace Lk80
open PySem PySem.Spec PyProof.Rows L2 DL TL
theorem ok1 : okT (Str.ofString "-") := okT_lit (by decide)
theorem ok2 : okT (Str.ofString "") := okT_lit (by decide)
theorem ok3 : okT (Str.ofString "0") := okT_lit (by decide)
theorem ok4 : okT (Str.ofString "-0") := okT_lit (by decide)
theorem fSl_str {z : Str} (lo hi : Option Int) (h : z.length ≤ sizeLine) : fSl lo hi (.str z) = some (.val (.str (cutS z lo hi))) := if_pos h
theorem fLen_str {z : Str} (h : z.length ≤ sizeLine) : fLen [.str z] = some (.val (.int ((tl z).length : Nat))) := by
  have e : z.length = (tl z).length := len_tl z
  rw [← e]
  exact if_pos h
theorem fAdd_str {x y : Str} (h : x.length + y.length ≤ sizeLine) : fAdd (.str x) (.str y) = some (.val (.str (x ++ y))) := if_pos h
theorem str_len (x y : Str) : (x ++ y).length = x.length + y.length := by rw [len_tl, tl_append, List.length_append, ← len_tl, ← len_tl]
theorem fSplit_str {a b : Str} (h : (b.length == 0) = false) (h2 : a.length + 2 ≤ sizeLine) : fSplit (.str a) (.str b) = some (.own ((Txt.split a b).map D.str)) := if_pos ⟨h, h2⟩
theorem big64 {n : Nat} (h : n < 1000000) : n ≤ sizeLine := big_line (by omega)
theorem fSl_lst {xs : List D} (lo hi : Option Int) : fSl lo hi (.lst xs) = some (.own (DL.cutD xs lo hi)) := rfl
theorem signs_eq (z : Str) : signsD z = (tl z).map fun c => D.str ⟨#[c]⟩ := rfl
abbrev figB (c : Nat) : Bool := decide (48 ≤ c ∧ c ≤ 57)
theorem fInT_any (c : Nat) : fInT true (.str ⟨#[c]⟩) (.str (Str.ofString "0123456789")) = some (.val (.bl (!figB c))) := by
  show some (Cell.val (.bl (!decide (c ∈ tl (Str.ofString "0123456789"))))) = _
  rw [tl_figs]
  congr 4
  refine decide_eq_decide.mpr ?_
  simp only [List.mem_cons, List.not_mem_nil, or_false]
  omega
theorem sz_strs {ys : List Str} (h : ∀ y ∈ ys, okT y) : Sz 2 (.lst (ys.map D.str)) := fun d hd => by
  obtain ⟨y, hy, rfl⟩ := List.mem_map.mp hd
  exact h y hy
theorem eqOk_strs {ys : List Str} (h : ∀ y ∈ ys, okT y) : eqOk (.lst (ys.map D.str)) = true := sz_eqOk (n := 2) (by decide) (sz_strs h)
theorem fNe_strs0 {ys : List Str} (h : ∀ y ∈ ys, okT y) : fNe (.lst (ys.map D.str)) (.lst []) = some (.val (.bl (!decide (ys = [])))) := by
  refine (if_pos ⟨eqOk_strs h, rfl⟩).trans ?_
  cases ys with
  | nil => rfl
  | cons y ys => rfl
theorem line640 {x : Str} (h : x.length ≤ 640) : x.length ≤ sizeLine := big64 (by omega)
theorem okT_mem {x : Str} (h : okT x) {c : Nat} (hc : c ∈ tl x) : c < 0x110000 := okT_iff.mp h c hc
theorem all_any (l : List Nat) : (l.any fun c => !figB c) = !(l.all figB) := by
  induction l with
  | nil => rfl
  | cons c l ih => rw [List.any_cons, List.all_cons, ih, Bool.not_and]
theorem s_is_figures {x : Str} (ho : okT x) (hl : x.length ≤ 640) : Ret w_is_figures [.val (.str x)] (.bl (isFig (tl x))) := by
  intro Qd Ed k
  have hs := line640 hl
  unfold w_is_figures m_is_figures m_is_figures_1
  conv => whnf
  refine ⟨_, fEq_str ho ok2, ?_⟩
  by_cases h0 : x = Str.ofString ""
  · rw [decide_eq_true h0]
    have e : isFig (tl x) = false := by rw [h0, tl_none]; rfl
    rw [e] at k
    conv => whnf
    exact k _
  rw [decide_eq_false h0]
  have hne : tl x ≠ [] := fun e => h0 (ext_tl (e.trans tl_none.symm))
  obtain ⟨c, cs, et⟩ : ∃ c cs, tl x = c :: cs := by
    cases h : tl x with
    | nil => exact absurd h hne
    | cons c cs => exact ⟨c, cs, rfl⟩
  have hc : c < 0x110000 := okT_mem ho (by rw [et]; exact List.mem_cons_self)
  conv => whnf
  refine ⟨rfl, ?_⟩
  rw [signs_eq]
  refine lcGo_enc (fun c => D.str ⟨#[c]⟩) (fun c => D.bl (!figB c)) (tl x) [] (fun d hd Kt Kf hK => ?_) ?_ ?_
  · conv => whnf
    refine ⟨_, fInT_any d, ?_⟩
    exact hK
  · rw [len_tl] at hl
    exact big64 (by rw [List.length_nil]; omega)
  have ea : fAny [.lst ([] ++ (tl x).map fun c => D.bl (!figB c))] = some (.val (.bl (!((tl x).all figB)))) := by
    have e1 : ([] : List D) ++ (tl x).map (fun c => D.bl (!figB c)) = ((tl x).map fun c => !figB c).map D.bl := by
      rw [List.nil_append, List.map_map]
      rfl
    rw [e1]
    have e2 : fAny [.lst (((tl x).map fun c => !figB c).map D.bl)] = (bls (((tl x).map fun c => !figB c).map D.bl)).map fun ns => Cell.val (.bl (ns.any id)) := rfl
    rw [e2, bls_map]
    show some (Cell.val (.bl (((tl x).map fun c => !figB c).any id))) = _
    rw [← all_any, List.any_map]
    rfl
  conv => whnf
  refine ⟨_, ea, ?_⟩
  by_cases ha : (tl x).all figB = true
  · rw [ha]
    conv => whnf
    repeat (refine ⟨_, rfl, ?_⟩; conv => whnf)
    refine ⟨_, fEq_str ho ok3, ?_⟩
    have ef : isFig (tl x) = (decide (tl x = [48]) || decide ((tl x).head? ≠ some 48)) := by
      unfold isFig
      rw [ha, et]
      rfl
    by_cases q : x = Str.ofString "0"
    · rw [decide_eq_true q]
      have e : isFig (tl x) = true := by rw [ef, decide_eq_true (by rw [q, tl_zero])]; rfl
      rw [e] at k
      conv => whnf
      repeat (refine ⟨_, rfl, ?_⟩; conv => whnf)
      exact k _
    · rw [decide_eq_false q]
      have q2 : tl x ≠ [48] := fun e => q (ext_tl (e.trans tl_zero.symm))
      have e : isFig (tl x) = !decide ((⟨#[c]⟩ : Str) = Str.ofString "0") := by
        rw [ef, decide_eq_false q2, Bool.false_or, et]
        by_cases h48 : c = 48
        · rw [decide_eq_true ((one_sign tl_zero).mpr h48), h48]
          rfl
        · rw [decide_eq_false (fun h => h48 ((one_sign tl_zero).mp h))]
          refine decide_eq_true ?_
          simpa using h48
      rw [e] at k
      conv => whnf
      repeat (refine ⟨_, rfl, ?_⟩; conv => whnf)
      refine ⟨_, fIx0_str et hs, ?_⟩
      conv => whnf
      refine ⟨_, fNe_str (okT_sign hc) ok3, ?_⟩
      exact k _
  · have ha' : (tl x).all figB = false := by simpa using ha
    rw [ha']
    have e : isFig (tl x) = false := by
      unfold isFig
      rw [show ((tl x).all fun c => decide (48 ≤ c ∧ c ≤ 57)) = false from ha']
      simp
    rw [e] at k
    conv => whnf
    repeat (refine ⟨_, rfl, ?_⟩; conv => whnf)
    exact k _
theorem cut1 (x : Str) {c : Nat} {r : List Nat} (e : tl x = c :: r) : tl (cutS x (some 1) none) = r := by
  rw [tl_cut, show (some (1 : Int)) = some (((1 : Nat)) : Int) from rfl, oCut_lo _ 1 (by rw [e]; simp), e]
  rfl
theorem isNum_m {x : Str} {r : List Nat} (e : tl x = 45 :: r) : isNum x = (isFig r && decide (r ≠ [48])) := by
  unfold isNum
  rw [e]
  rfl
theorem isNum_p {x : Str} (h : ∀ r, tl x ≠ 45 :: r) : isNum x = isFig (tl x) := by
  unfold isNum
  split
  · rename_i r e
    exact absurd e (h r)
  · rfl
theorem stw (x : Str) : fStw (.str x) (.str (Str.ofString "-")) = some (.val (.bl (decide ((tl x).head? = some 45)))) := by
  show some (Cell.val (.bl (Txt.startswith _ _))) = _
  rw [startswith_eq, tl_minus]
  congr 3
  refine decide_eq_decide.mpr ?_
  cases tl x with
  | nil => simp
  | cons c cs => simp
theorem mz_iff {x : Str} {r : List Nat} (e : tl x = 45 :: r) : x = Str.ofString "-0" ↔ r = [48] := by
  constructor
  · intro h
    rw [h, tl_mzero] at e
    injection e with _ e2
    exact e2.symm
  · intro h
    refine ext_tl ?_
    rw [tl_mzero, e, h]
theorem s_is_number {x : Str} (ho : okT x) (hl : x.length ≤ 640) : Ret w_is_number_text [.val (.str x)] (.bl (isNum x)) := by
  intro Qd Ed k
  have hs := line640 hl
  have f := fun (y : Str) (h1 : okT y) (h2 : y.length ≤ 640) => s_is_figures h1 h2
  unfold w_is_number_text m_is_number_text
  revert f
  generalize w_is_figures = W1
  revert W1
  refine id ?_
  intro W1 f
  conv => whnf
  refine ⟨_, stw x, ?_⟩
  by_cases h : (tl x).head? = some 45
  · rw [decide_eq_true h]
    obtain ⟨r, e⟩ : ∃ r, tl x = 45 :: r := by
      cases ht : tl x with
      | nil => rw [ht] at h; cases h
      | cons c r =>
        rw [ht] at h
        have : c = 45 := by simpa using h
        exact ⟨r, by rw [this]⟩
    conv => whnf
    repeat (refine ⟨_, rfl, ?_⟩; conv => whnf)
    refine ⟨_, fSl_str _ _ hs, ?_⟩
    conv => whnf
    refine f _ (okT_cut ho _ _) (Nat.le_trans (L2.cutS_length _ _ _) hl) _ _ fun o => ?_
    rw [cut1 x e]
    rw [isNum_m e] at k
    cases hf : isFig r with
    | true =>
      rw [hf] at k
      conv => whnf
      repeat (refine ⟨_, rfl, ?_⟩; conv => whnf)
      refine ⟨_, fNe_str ho ok4, ?_⟩
      rw [decide_eq_decide.mpr (mz_iff e)]
      have : (true && decide (r ≠ [48])) = !decide (r = [48]) := by
        by_cases q : r = [48] <;> simp [q]
      rw [this] at k
      exact k _
    | false =>
      rw [hf] at k
      conv => whnf
      repeat (refine ⟨_, rfl, ?_⟩; conv => whnf)
      exact k _
  · rw [decide_eq_false h]
    rw [isNum_p (fun r e => h (by rw [e]; rfl))] at k
    conv => whnf
    repeat (refine ⟨_, rfl, ?_⟩; conv => whnf)
    refine f _ ho hl _ _ fun o => ?_
    exact k _
end Lk80
set_option exponentiation.threshold 100000
namespace Lk80
open PySem PySem.Spec PyProof.Rows L2 DL TL
/-- a number's text or nothing -/
def figD (x : Str) : D := if isNum x = true then .int (numV x) else .non
theorem fil_signs (l : List Nat) : (l.filterMap fun c => if figB c = true then none else some (D.str ⟨#[c]⟩)) = ((l.filter fun c => !figB c).map fun c => (⟨#[c]⟩ : Str)).map D.str := by
  induction l with
  | nil => rfl
  | cons c l ih =>
    rw [List.filterMap_cons, List.filter_cons]
    cases h : figB c with
    | true => exact ih
    | false =>
      show D.str ⟨#[c]⟩ :: _ = D.str ⟨#[c]⟩ :: _
      rw [ih]
theorem filter_nil (l : List Nat) : ((l.filter fun c => !figB c).map fun c => (⟨#[c]⟩ : Str)) = [] ↔ l.all figB = true := by
  rw [List.map_eq_nil_iff, List.filter_eq_nil_iff, List.all_eq_true]
  constructor
  · intro h c hc
    have := h c hc
    simpa using this
  · intro h c hc
    have := h c hc
    simpa using this
section
variable {x p : Str} {Dd : DEnds}
theorem lf1 (ho : okT x) (hl : x.length ≤ 640) (hop : okT p) (hlp : p.length ≤ 640) (hn : isNum x = true) (hp : (∃ r, tl x = 45 :: r ∧ tl p = r) ∨ ((∀ r, tl x ≠ 45 :: r) ∧ p = x)) (hD : ∀ ρ', Dd.rt (.val (.int (numV x))) ρ') :
    m_law_figures_1 Dd [some (.val (.str x)), some (.val (.str p)), none] := by
  have hs := line640 hl
  unfold m_law_figures_1
  have hne : tl x ≠ [] := fun e => by
    have : isNum x = false := by
      unfold isNum
      rw [e]
      rfl
    rw [this] at hn
    cases hn
  obtain ⟨c, cs, et⟩ : ∃ c cs, tl x = c :: cs := by
    cases h : tl x with
    | nil => exact absurd h hne
    | cons c cs => exact ⟨c, cs, rfl⟩
  have hc : c < 0x110000 := okT_mem ho (by rw [et]; exact List.mem_cons_self)
  conv => whnf
  refine ⟨_, fIx0_str et hs, ?_⟩
  conv => whnf
  refine ⟨_, fEq_str (okT_sign hc) ok1, ?_⟩
  rcases hp with ⟨r, e1, e2⟩ | ⟨h1, e2⟩
  · have ec : c = 45 := by rw [e1] at et; injection et with a b; exact a.symm
    rw [decide_eq_true ((one_sign tl_minus).mpr ec)]
    have hr : isFig r = true := by
      rw [isNum_m e1, Bool.and_eq_true] at hn
      exact hn.1
    obtain ⟨f1, f2, _⟩ := isFig_of hr
    have ip := digs_int (x := p) (by rw [e2]; exact f1) (by rw [e2]; exact f2) hlp
    have ix : PySem.intText? x = some (-((NumText.digitsVal r : Nat) : Int)) := PySem.intText_neg (x := x) e1 f2 f1 (by omega)
    have ev : numV x = -((NumText.digitsVal (tl p) : Nat) : Int) := by
      unfold numV
      rw [ix, e2]
      rfl
    conv => whnf
    have ig : gIntT (.str p) = some (.val (.int ((NumText.digitsVal (tl p) : Nat) : Int))) := by
      show (if p.length ≤ 640 then (PySem.intText? p).map fun n => Cell.val (.int n) else none) = _
      rw [if_pos hlp, ip]
      rfl
    refine ⟨_, ig, ?_⟩
    conv => whnf
    repeat (refine ⟨_, rfl, ?_⟩; conv => whnf)
    rw [← ev]
    exact hD _
  · subst e2
    have ec : c ≠ 45 := fun z => h1 cs (by rw [et, z])
    rw [decide_eq_false (fun h => ec ((one_sign tl_minus).mp h))]
    conv => whnf
    refine ⟨_, gIntT_is hn hl, ?_⟩
    exact hD _
theorem isFig_no {l : List Nat} (h : l.all figB = false) : isFig l = false := by
  unfold isFig
  rw [show (l.all fun c => decide (48 ≤ c ∧ c ≤ 57)) = false from h]
  simp
theorem lf2 (ho : okT x) (hl : x.length ≤ 640) (hop : okT p) (hlp : p.length ≤ 640) (hp : (∃ r, tl x = 45 :: r ∧ tl p = r) ∨ ((∀ r, tl x ≠ 45 :: r) ∧ p = x)) (hD : ∀ ρ', Dd.rt (.val (figD x)) ρ') :
    m_law_figures_2 Dd [some (.val (.str x)), some (.val (.str p)), none] := by
  have hs := line640 hl
  have hsp := line640 hlp
  have en : isNum x = (isFig (tl p) && !decide (x = Str.ofString "-0")) := by
    rcases hp with ⟨r, e1, e2⟩ | ⟨h1, e2⟩
    · have hd : decide (x = Str.ofString "-0") = decide (r = [48]) := decide_eq_decide.mpr (mz_iff e1)
      rw [isNum_m e1, e2, hd]
      by_cases q : r = [48] <;> simp [q]
    · rw [isNum_p h1, e2, decide_eq_false (fun h => h1 [48] (by rw [h, tl_mzero]))]
      simp
  have no : isNum x = false → ∀ ρ', Dd.rt (.val .non) ρ' := fun h => by
    have : figD x = .non := by unfold figD; rw [h]; rfl
    rw [this] at hD
    exact hD
  have yes : isNum x = true → ∀ ρ', Dd.rt (.val (.int (numV x))) ρ' := fun h => by
    have : figD x = .int (numV x) := by unfold figD; rw [h]; rfl
    rw [this] at hD
    exact hD
  unfold m_law_figures_2
  conv => whnf
  refine ⟨_, fEq_str hop ok2, ?_⟩
  by_cases h0 : p = Str.ofString ""
  · rw [decide_eq_true h0]
    have := no (by rw [en, h0, tl_none]; rfl)
    conv => whnf
    exact this _
  rw [decide_eq_false h0]
  have hne : tl p ≠ [] := fun e => h0 (ext_tl (e.trans tl_none.symm))
  obtain ⟨c, cs, et⟩ : ∃ c cs, tl p = c :: cs := by
    cases h : tl p with
    | nil => exact absurd h hne
    | cons c cs => exact ⟨c, cs, rfl⟩
  have hc : c < 0x110000 := okT_mem hop (by rw [et]; exact List.mem_cons_self)
  conv => whnf
  refine ⟨rfl, ?_⟩
  rw [signs_eq]
  refine lcGo_fil (fun c => D.str ⟨#[c]⟩) (fun c => if figB c = true then none else some (D.str ⟨#[c]⟩)) (tl p) [] (fun d hd Kt Kf h1 h2 => ?_) ?_ ?_
  · conv => whnf
    refine ⟨_, fInT_any d, ?_⟩
    by_cases hf : figB d = true
    · rw [hf]
      conv => whnf
      exact h2 (by rw [if_pos hf])
    · have hf' : figB d = false := by simpa using hf
      rw [hf']
      conv => whnf
      exact h1 _ (by rw [if_neg hf])
  · rw [len_tl] at hlp
    exact big64 (by rw [List.length_nil]; omega)
  rw [List.nil_append, fil_signs]
  have hsig : ∀ y ∈ ((tl p).filter fun c => !figB c).map (fun c => (⟨#[c]⟩ : Str)), okT y := fun y hy => by
    obtain ⟨d, hd, rfl⟩ := List.mem_map.mp hy
    exact okT_sign (okT_mem hop (List.mem_filter.mp hd).1)
  conv => whnf
  refine ⟨small64 (by simp), ?_⟩
  conv => whnf
  refine ⟨_, fNe_strs0 hsig, ?_⟩
  rw [decide_eq_decide.mpr (filter_nil (tl p))]
  by_cases ha : (tl p).all figB = true
  · rw [decide_eq_true ha]
    have ef : isFig (tl p) = (decide (tl p = [48]) || decide ((tl p).head? ≠ some 48)) := by
      unfold isFig
      rw [ha, et]
      rfl
    conv => whnf
    refine ⟨_, fLen_str hsp, ?_⟩
    rw [et]
    by_cases g1 : (1 : Int) < ((c :: cs).length : Nat)
    · refine ⟨_, fGt_t (a := (((c :: cs).length : Nat) : Int)) (b := 1) g1, ?_⟩
      conv => whnf
      refine ⟨_, fIx0_str et hsp, ?_⟩
      conv => whnf
      refine ⟨_, fEq_str (okT_sign hc) ok3, ?_⟩
      by_cases h48 : c = 48
      · rw [decide_eq_true ((one_sign tl_zero).mpr h48)]
        have ef0 : isFig (tl p) = false := by
          rw [ef, et, h48]
          have : (48 :: cs : List Nat) ≠ [48] := fun z => by
            have := congrArg List.length z
            rw [h48, this] at g1
            simp at g1
          rw [decide_eq_false this]
          simp
        have := no (by rw [en, ef0]; rfl)
        conv => whnf
        exact this _
      · rw [decide_eq_false (fun h => h48 ((one_sign tl_zero).mp h))]
        have ef1 : isFig (tl p) = true := by
          rw [ef, et, decide_eq_true (p := (c :: cs).head? ≠ some 48) (by simpa using h48)]
          simp
        conv => whnf
        refine ⟨_, fEq_str ho ok4, ?_⟩
        by_cases hm : x = Str.ofString "-0"
        · rw [decide_eq_true hm]
          have := no (by rw [en, decide_eq_true hm]; simp)
          conv => whnf
          exact this _
        · rw [decide_eq_false hm]
          have hn : isNum x = true := by rw [en, ef1, decide_eq_false hm]; rfl
          conv => whnf
          exact lf1 ho hl hop hlp hn hp (yes hn)
    · refine ⟨_, fGt_f (a := (((c :: cs).length : Nat) : Int)) (b := 1) g1, ?_⟩
      have hcs : cs = [] := by
        cases cs with
        | nil => rfl
        | cons d ds => exact absurd (by rw [List.length_cons, List.length_cons]; omega) g1
      have ef1 : isFig (tl p) = true := by
        rw [ef, et, hcs]
        by_cases h48 : c = 48
        · rw [h48]; rfl
        · rw [decide_eq_true (p := [c].head? ≠ some 48) (by simpa using h48)]
          simp
      conv => whnf
      refine ⟨_, fEq_str ho ok4, ?_⟩
      by_cases hm : x = Str.ofString "-0"
      · rw [decide_eq_true hm]
        have := no (by rw [en, decide_eq_true hm]; simp)
        conv => whnf
        exact this _
      · rw [decide_eq_false hm]
        have hn : isNum x = true := by rw [en, ef1, decide_eq_false hm]; rfl
        conv => whnf
        exact lf1 ho hl hop hlp hn hp (yes hn)
  · have ha' : (tl p).all figB = false := by simpa using ha
    rw [decide_eq_false ha]
    have := no (by rw [en, isFig_no ha']; rfl)
    conv => whnf
    exact this _
theorem s_law_figures (ho : okT x) (hl : x.length ≤ 640) : Ret w_law_figures [.val (.str x)] (figD x) := by
  intro Qd Ed k
  have hs := line640 hl
  unfold w_law_figures m_law_figures
  conv => whnf
  refine ⟨_, fSl_str _ _ hs, ?_⟩
  conv => whnf
  refine ⟨_, fEq_str (okT_cut ho _ _) ok1, ?_⟩
  have e1 : tl (cutS x none (some 1)) = (tl x).take 1 := by rw [tl_cut]; exact oCut_hi _ 1
  have hiff : cutS x none (some 1) = Str.ofString "-" ↔ (tl x).head? = some 45 := by
    constructor
    · intro h
      rw [h, tl_minus] at e1
      cases ht : tl x with
      | nil => rw [ht] at e1; cases e1
      | cons c r =>
        rw [ht] at e1
        have : 45 = c := by simpa using e1
        rw [← this]
        rfl
    · intro h
      refine ext_tl ?_
      rw [e1, tl_minus]
      cases ht : tl x with
      | nil => rw [ht] at h; cases h
      | cons c r =>
        rw [ht] at h
        have : c = 45 := by simpa using h
        rw [this]
        rfl
  rw [decide_eq_decide.mpr hiff]
  by_cases h : (tl x).head? = some 45
  · rw [decide_eq_true h]
    obtain ⟨r, e⟩ : ∃ r, tl x = 45 :: r := by
      cases ht : tl x with
      | nil => rw [ht] at h; cases h
      | cons c r =>
        rw [ht] at h
        have : c = 45 := by simpa using h
        exact ⟨r, by rw [this]⟩
    conv => whnf
    refine ⟨_, fSl_str _ _ hs, ?_⟩
    conv => whnf
    refine lf2 ho hl (okT_cut ho _ _) (Nat.le_trans (L2.cutS_length _ _ _) hl) (.inl ⟨r, e, cut1 x e⟩) fun ρ' => k _
  · rw [decide_eq_false h]
    conv => whnf
    refine lf2 ho hl ho hl (.inr ⟨fun r e => h (by rw [e]; rfl), rfl⟩) fun ρ' => k _
end
end Lk80
set_option exponentiation.threshold 100000
namespace Lk80
open PySem PySem.Spec PyProof.Rows L2 DL TL
/-- a row that may be read -/
structure Rk (y : Str) : Prop where
  o : okT y
  l : y.length ≤ 640
theorem joinL_mem {S : List Nat} {c : Nat} {p : List Nat} : ∀ {ps : List (List Nat)}, p ∈ ps → c ∈ p → c ∈ joinL S ps
  | [q], h, hc => by
    have : p = q := by simpa using h
    rw [← this]
    exact hc
  | q :: r :: ps, h, hc => by
    show c ∈ q ++ (S ++ joinL S (r :: ps))
    rcases List.mem_cons.mp h with e | h
    · rw [← e]; exact List.mem_append_left _ hc
    · exact List.mem_append_right _ (List.mem_append_right _ (joinL_mem h hc))
theorem joinL_len {S : List Nat} {p : List Nat} : ∀ {ps : List (List Nat)}, p ∈ ps → p.length ≤ (joinL S ps).length
  | [q], h => by
    have : p = q := by simpa using h
    rw [← this]
    exact Nat.le_refl _
  | q :: r :: ps, h => by
    show p.length ≤ (q ++ (S ++ joinL S (r :: ps))).length
    rw [List.length_append, List.length_append]
    rcases List.mem_cons.mp h with e | h
    · rw [← e]; omega
    · have := joinL_len (S := S) h
      omega
theorem joinL_many {S : List Nat} (hS : 1 ≤ S.length) : ∀ {ps : List (List Nat)}, ps ≠ [] → ps.length ≤ (joinL S ps).length + 1
  | [], h => absurd rfl h
  | [q], _ => by simp
  | q :: r :: ps, _ => by
    have := joinL_many hS (ps := r :: ps) (by simp)
    show _ ≤ (q ++ (S ++ joinL S (r :: ps))).length + 1
    rw [List.length_append, List.length_append, List.length_cons]
    omega
section
variable {x y : Str} {s : Nat}
theorem part_ok (ey : tl y = [s]) (hk : y.cps.all (· < 256) = true) (ho : okT x) {w : Str} (hw : w ∈ Txt.split x y) : okT w := by
  rw [okT_iff]
  intro c hc
  have hm := split_map (x := x) ey hk
  have : tl w ∈ cutAt s (tl x) := by rw [← hm]; exact List.mem_map_of_mem hw
  have h2 := joinL_mem (S := [s]) this hc
  rw [cut_join] at h2
  exact okT_mem ho h2
theorem part_len (ey : tl y = [s]) (hk : y.cps.all (· < 256) = true) {w : Str} (hw : w ∈ Txt.split x y) : w.length ≤ x.length := by
  have hm := split_map (x := x) ey hk
  have : tl w ∈ cutAt s (tl x) := by rw [← hm]; exact List.mem_map_of_mem hw
  have h2 := joinL_len (S := [s]) this
  rw [cut_join] at h2
  rw [len_tl, len_tl]
  exact h2
theorem split_many (ey : tl y = [s]) (hk : y.cps.all (· < 256) = true) : (Txt.split x y).length ≤ x.length + 1 := by
  have hm := split_map (x := x) ey hk
  have h2 := joinL_many (S := [s]) (by simp) (cutAt_ne s (tl x))
  rw [cut_join, ← hm, List.length_map, ← len_tl] at h2
  exact h2
end
theorem word_ok {y w : Str} (h : Rk y) (hw : w ∈ Txt.split y bl1) : Rk w := ⟨part_ok tl_blank (by decide +kernel) h.o hw, Nat.le_trans (part_len tl_blank (by decide +kernel) hw) h.l⟩
theorem words_many {y : Str} (h : Rk y) : (Txt.split y bl1).length ≤ 641 := Nat.le_trans (split_many tl_blank (by decide +kernel)) (by have := h.l; omega)
/-- what read_numbers tells -/
def numsO (ws : List Str) : List D := if ws.all isNum = true then [ti (ws.map numV)] else []
theorem all_nums (ws : List Str) : gAll (.lst ([] ++ ws.map fun w => D.bl (isNum w))) = some (.val (.bl (ws.all isNum))) := all_mapB isNum ws
theorem s_read_numbers {ws : List Str} (hl : ws.length ≤ 1000) (h : ∀ w ∈ ws, Rk w) : RetO w_read_numbers [.val (.lst (ws.map D.str))] (numsO ws) := by
  intro Qd Ed k
  have nt := fun (w : Str) (hw : w ∈ ws) => s_is_number (h w hw).o (h w hw).l
  unfold w_read_numbers m_read_numbers m_read_numbers_1
  revert nt
  generalize w_is_number_text = W1
  revert W1
  refine id ?_
  intro W1 nt
  conv => whnf
  refine ⟨rfl, ?_⟩
  refine lcGo_enc D.str (fun w => D.bl (isNum w)) ws [] (fun w hw Kt Kf hK => ?_) (big64 (by rw [List.length_nil]; omega)) ?_
  · conv => whnf
    refine nt w hw _ _ fun o => ?_
    exact hK
  conv => whnf
  refine ⟨_, all_nums ws, ?_⟩
  cases ha : ws.all isNum with
  | true =>
    have e : numsO ws = [ti (ws.map numV)] := by unfold numsO; rw [if_pos ha]
    rw [e] at k
    conv => whnf
    repeat (refine ⟨_, rfl, ?_⟩; conv => whnf)
    refine ⟨rfl, ?_⟩
    refine lcGo_enc D.str (fun w => D.int (numV w)) ws [] (fun w hw Kt Kf hK => ?_) (big64 (by rw [List.length_nil]; omega)) ?_
    · conv => whnf
      refine ⟨_, gIntT_is (List.all_eq_true.mp ha w hw) (h w hw).l, ?_⟩
      exact hK
    have e2 : ([] : List D) ++ ws.map (fun w => D.int (numV w)) = (ws.map numV).map D.int := by
      rw [List.nil_append, List.map_map]
      rfl
    rw [e2]
    conv => whnf
    repeat (refine ⟨_, rfl, ?_⟩; conv => whnf)
    refine ⟨small64 (by simp), ?_⟩
    exact k _
  | false =>
    have e : numsO ws = [] := by unfold numsO; rw [if_neg (by rw [ha]; simp)]
    rw [e] at k
    conv => whnf
    repeat (refine ⟨_, rfl, ?_⟩; conv => whnf)
    refine ⟨small64 (by simp), ?_⟩
    exact k _
/-- what read_line tells -/
def lineO (w y : Str) : List D := match Txt.split y bl1 with
  | w0 :: ws => if w0 = w then numsO ws else []
  | [] => []
theorem s_read_line {w y : Str} (ow : okT w) (h : Rk y) : RetO w_read_line [.val (.str y), .val (.str w)] (lineO w y) := by
  intro Qd Ed k
  have hm := words_many h
  have hw := fun (u : Str) (hu : u ∈ Txt.split y bl1) => word_ok h hu
  have rn := fun (ws : List Str) (h1 : ws.length ≤ 1000) (h2 : ∀ w ∈ ws, Rk w) => s_read_numbers h1 h2
  have hl := h.l
  unfold w_read_line m_read_line m_read_line_1
  revert rn
  generalize w_read_numbers = W1
  revert W1
  refine id ?_
  intro W1 rn
  conv => whnf
  refine ⟨_, fSplit_str (by decide) (big64 (by omega)), ?_⟩
  unfold lineO at k
  cases hs : Txt.split y bl1 with
  | nil => exact absurd hs (split_ne tl_blank (by decide +kernel))
  | cons w0 ws =>
    rw [hs] at k hm hw
    rw [List.map_cons]
    conv => whnf
    refine ⟨_, fIx_lst (k := 0) (d := .str w0) rfl, ?_⟩
    conv => whnf
    refine ⟨_, fEq_str (hw w0 List.mem_cons_self).o ow, ?_⟩
    by_cases q : w0 = w
    · rw [decide_eq_true q]
      have e : DL.cutD (D.str w0 :: ws.map D.str) (some 1) none = ws.map D.str := by
        have := oCut_lo (D.str w0 :: ws.map D.str) 1 (by simp)
        rw [show (some (1 : Int)) = some (((1 : Nat)) : Int) from rfl, this]
        rfl
      conv => whnf
      refine ⟨_, fSl_lst _ _, ?_⟩
      rw [e]
      conv => whnf
      refine rn ws (by rw [List.length_cons] at hm; omega) (fun u hu => hw u (List.mem_cons_of_mem _ hu)) _ _ fun o => ?_
      have k2 : ∀ o, Qd (.own (numsO ws)) o := fun o => by
        have := k o
        rw [show (match w0 :: ws with | w0 :: ws => if w0 = w then numsO ws else [] | [] => []) = numsO ws from if_pos q] at this
        exact this
      exact k2 _
    · rw [decide_eq_false q]
      have k2 : ∀ o, Qd (.own []) o := fun o => by
        have := k o
        rw [show (match w0 :: ws with | w0 :: ws => if w0 = w then numsO ws else [] | [] => []) = [] from if_neg q] at this
        exact this
      conv => whnf
      refine ⟨small64 (by simp), ?_⟩
      exact k2 _
/-- by rows -/
theorem lineO_pack (y : Str) : lineO packW y = match rowI y with | some r => [ti r] | none => [] := by
  unfold lineO rowI
  cases hs : Txt.split y bl1 with
  | nil => rfl
  | cons w0 ws =>
    show (if w0 = packW then numsO ws else []) = match (if w0 = packW ∧ ws.all isNum = true then some (ws.map numV) else none) with | some r => [ti r] | none => []
    unfold numsO
    by_cases q : w0 = packW
    · by_cases a : ws.all isNum = true
      · rw [if_pos q, if_pos a, if_pos ⟨q, a⟩]
      · rw [if_pos q, if_neg a, if_neg (fun h => a h.2)]
    · rw [if_neg q, if_neg (fun h => q h.1)]
/-- the first row -/
theorem lineO_head (y : Str) : (lineO goodsW y = [] ∧ headI y = none) ∨ ∃ v : List Int, lineO goodsW y = [ti v] ∧ headI y = if v.length = 1 then some (v.headD 0) else none := by
  unfold lineO headI
  cases hs : Txt.split y bl1 with
  | nil => exact .inl ⟨rfl, rfl⟩
  | cons w0 ws =>
    show ((if w0 = goodsW then numsO ws else []) = [] ∧ (if w0 = goodsW ∧ ws.all isNum = true ∧ ws.length = 1 then some (numV (ws.headD bl1)) else none) = none) ∨ ∃ v : List Int, (if w0 = goodsW then numsO ws else []) = [ti v] ∧ (if w0 = goodsW ∧ ws.all isNum = true ∧ ws.length = 1 then some (numV (ws.headD bl1)) else none) = if v.length = 1 then some (v.headD 0) else none
    unfold numsO
    by_cases q : w0 = goodsW
    · by_cases a : ws.all isNum = true
      · refine .inr ⟨ws.map numV, by rw [if_pos q, if_pos a], ?_⟩
        rw [List.length_map]
        by_cases l : ws.length = 1
        · rw [if_pos ⟨q, a, l⟩, if_pos l]
          match ws, l with
          | [w], _ => rfl
        · rw [if_neg (fun h => l h.2.2), if_neg l]
      · exact .inl ⟨by rw [if_pos q, if_neg a], if_neg fun h => a h.2.1⟩
    · exact .inl ⟨by rw [if_neg q], if_neg fun h => q h.1⟩
end Lk80
set_option exponentiation.threshold 100000
namespace Lk80
open PySem PySem.Spec PyProof.Rows L2 DL TL
/-- a list as it is read -/
abbrev rdD (m : Int) (ps : List (List Int)) : D := .tup [.int m, tt ps]
def readC : Option Int → Option (List (List Int)) → List D
  | some m, some ps => [rdD m ps]
  | _, _ => []
theorem readC_none (o : Option Int) : readC o none = [] := by cases o <;> rfl
theorem allR_cons (y : Str) (ys : List Str) : allR (y :: ys) = match rowI y with | some r => (allR ys).map (r :: ·) | none => none := by
  show (match rowI y, allR ys with | some r, some rs => some (r :: rs) | _, _ => none) = _
  cases rowI y <;> cases allR ys <;> rfl
theorem s_read_lines {y : Str} {ys : List Str} (hm : ys.length < 900000) (h : ∀ z ∈ y :: ys, Rk z) : RetO w_read_lines [.val (.lst ((y :: ys).map D.str))] (readC (headI y) (allR ys)) := by
  intro Qd Ed k
  have okg : okT goodsW := okT_lit (by decide)
  have okp : okT packW := okT_lit (by decide)
  have rl := fun (w z : Str) (h1 : okT w) (h2 : Rk z) => s_read_line h1 h2
  have hy := h y List.mem_cons_self
  have hys := fun z (hz : z ∈ ys) => h z (List.mem_cons_of_mem _ hz)
  rw [List.map_cons]
  unfold w_read_lines m_read_lines m_read_lines_5 m_read_lines_4 m_read_lines_2 m_read_lines_1
  revert rl
  generalize w_read_line = W1
  revert W1
  refine id ?_
  intro W1 rl
  conv => whnf
  refine ⟨_, fIx_lst (k := 0) (d := .str y) rfl, ?_⟩
  conv => whnf
  refine rl goodsW y okg hy _ _ fun o => ?_
  conv => whnf
  refine ⟨small64 (by simp), ?_⟩
  conv => whnf
  refine ⟨rfl, ?_⟩
  conv => whnf
  refine ⟨small64 (by simp), ?_⟩
  rcases lineO_head y with ⟨e1, e2⟩ | ⟨v, e1, e2⟩
  · rw [e1]
    rw [e2] at k
    conv => whnf
    refine ⟨_, fEq_rows0 [], ?_⟩
    conv => whnf
    repeat (refine ⟨_, rfl, ?_⟩; conv => whnf)
    refine ⟨small64 (by simp), ?_⟩
    exact k _
  rw [e1]
  rw [e2] at k
  conv => whnf
  refine ⟨_, fEq_rows0 [v], ?_⟩
  conv => whnf
  (refine ⟨_, rfl, ?_⟩; conv => whnf)
  (refine ⟨_, rfl, ?_⟩; conv => whnf)
  rw [List.length_map]
  refine ⟨_, fNe_int ((v.length : Nat) : Int) 1, ?_⟩
  by_cases hv : ¬ v.length = 1
  · rw [decide_eq_false (by omega : ¬ ((v.length : Nat) : Int) = 1)]
    rw [if_neg hv] at k
    conv => whnf
    repeat (refine ⟨_, rfl, ?_⟩; conv => whnf)
    refine ⟨small64 (by simp), ?_⟩
    exact k _
  have hv : v.length = 1 := by omega
  rw [decide_eq_true (by omega : ((v.length : Nat) : Int) = 1)]
  rw [if_pos hv] at k
  obtain ⟨m, rfl⟩ : ∃ m, v = [m] := by
    match v, hv with
    | [m], _ => exact ⟨m, rfl⟩
  conv => whnf
  repeat (refine ⟨_, rfl, ?_⟩; conv => whnf)
  have ec : DL.cutD (D.str y :: ys.map D.str) (some 1) none = ys.map D.str := by
    have := oCut_lo (D.str y :: ys.map D.str) 1 (by simp)
    rw [show (some (1 : Int)) = some (((1 : Nat)) : Int) from rfl, this]
    rfl
  rw [ec]
  refine forGo_ind (fun ds ρ => ∃ zs ps c3 c4, ds = zs.map D.str ∧ (∀ z ∈ zs, Rk z) ∧ ps.length + zs.length < 900000 ∧ allR ys = (allR zs).map (ps ++ ·) ∧ ρ = [some (.val (.lst (D.str y :: ys.map D.str))), some (.val (.lst [ti [m]])), some (.own (ps.map ti)), c3, c4]) ?_ ?_ _ _ ⟨ys, [], _, _, rfl, hys, by simpa using hm, by simp, rfl⟩
  · rintro ρ ⟨zs, ps, c3, c4, ez, _, hl, ea, rfl⟩
    have ez2 : zs = [] := by simpa using ez.symm
    subst ez2
    have ea2 : allR ys = some ps := by rw [ea]; simp [allR]
    rw [ea2] at k
    unfold m_read_lines_3
    conv => whnf
    repeat ((first | refine ⟨_, rfl, ?_⟩ | refine ⟨small64 (by simp), ?_⟩); conv => whnf)
    exact k _
  · rintro d ds ρ ⟨zs, ps, c3, c4, ez, hz, hl, ea, rfl⟩ N hN
    cases zs with
    | nil => cases ez
    | cons z zs =>
      rw [List.map_cons] at ez
      injection ez with e1 e2
      subst e1
      conv => whnf
      refine rl packW z okp (hz z List.mem_cons_self) _ _ fun o => ?_
      rw [lineO_pack]
      rw [allR_cons] at ea
      cases hr : rowI z with
      | none =>
        rw [hr] at ea
        rw [ea, show (Option.map (ps ++ ·) (match (none : Option (List Int)) with | some r => (allR zs).map (r :: ·) | none => none)) = none from rfl, readC_none] at k
        conv => whnf
        refine ⟨small64 (by simp), ?_⟩
        conv => whnf
        refine ⟨_, fEq_rows0 [], ?_⟩
        conv => whnf
        repeat (refine ⟨_, rfl, ?_⟩; conv => whnf)
        refine ⟨small64 (by simp), ?_⟩
        exact k _
      | some r =>
        rw [hr] at ea
        conv => whnf
        refine ⟨small64 (by simp), ?_⟩
        conv => whnf
        refine ⟨_, fEq_rows0 [r], ?_⟩
        conv => whnf
        rw [List.length_cons] at hl
        refine ⟨big64 (by rw [List.length_map]; simp; omega), ?_⟩
        refine hN _ ⟨zs, ps ++ [r], some (.val (.str z)), some (.val (.lst [ti r])), e2, fun u hu => hz u (List.mem_cons_of_mem _ hu), by rw [List.length_append, List.length_singleton]; omega, ?_, ?_⟩
        · rw [ea]
          show Option.map (ps ++ ·) (Option.map (r :: ·) (allR zs)) = Option.map (ps ++ [r] ++ ·) (allR zs)
          rw [Option.map_map]
          congr 1
          funext a
          show ps ++ r :: a = ps ++ [r] ++ a
          rw [List.append_assoc]
          rfl
        · rw [List.map_append]
          rfl
end Lk80
set_option exponentiation.threshold 100000
namespace Lk80
open PySem PySem.Spec PyProof.Rows L2 DL TL
theorem s_is_whole (i : Int) : Ret w_is_whole [.val (.int i)] (.bl true) := by
  intro Qd Ed h
  unfold w_is_whole m_is_whole
  conv => whnf
  repeat (refine ⟨_, rfl, ?_⟩; conv => whnf)
  exact h _
theorem s_is_between (i a b : Int) : Ret w_is_between [.val (.int i), .val (.int a), .val (.int b)] (.bl (decide (a ≤ i ∧ i ≤ b))) := by
  intro Qd Ed h
  unfold w_is_between m_is_between
  conv => whnf
  refine s_is_whole i _ _ fun o => ?_
  conv => whnf
  (refine ⟨_, rfl, ?_⟩; conv => whnf)
  by_cases h1 : a ≤ i
  · refine ⟨_, fLe_t h1, ?_⟩
    conv => whnf
    by_cases h2 : i ≤ b
    · rw [decide_eq_true ⟨h1, h2⟩] at h
      refine ⟨_, fLe_t h2, ?_⟩
      exact h _
    · rw [decide_eq_false fun z => h2 z.2] at h
      refine ⟨_, fLe_f h2, ?_⟩
      exact h _
  · rw [decide_eq_false fun z => h1 z.1] at h
    refine ⟨_, fLe_f h1, ?_⟩
    exact h _
theorem s_is_tuple_of (ds : List D) (n : Int) : Ret w_is_tuple_of [.val (.tup ds), .val (.int n)] (.bl (decide (((ds.length : Nat) : Int) = n))) := by
  intro Qd Ed h
  unfold w_is_tuple_of m_is_tuple_of
  conv => whnf
  (refine ⟨_, rfl, ?_⟩; conv => whnf)
  (refine ⟨_, rfl, ?_⟩; conv => whnf)
  (refine ⟨_, rfl, ?_⟩; conv => whnf)
  refine ⟨_, fEq_int ((ds.length : Nat) : Int) n, ?_⟩
  exact h _
section
variable {m : Int} {ps : List (List Int)} {r : List Int}
theorem s_is_pack (hr : r.length < 900000) : Ret w_is_pack [.val (.int m), .val (ti r)] (.bl (isP m r)) := by
  intro Qd Ed k
  unfold w_is_pack m_is_pack w_are_between m_are_between
  conv => whnf
  repeat (refine ⟨_, rfl, ?_⟩; conv => whnf)
  refine s_is_tuple_of (r.map D.int) m _ _ fun o => ?_
  rw [List.length_map]
  unfold isP at k
  by_cases hl : ((r.length : Nat) : Int) = m
  · rw [decide_eq_true hl]
    rw [decide_eq_true hl, Bool.true_and] at k
    conv => whnf
    (refine ⟨_, rfl, ?_⟩; conv => whnf)
    refine ⟨rfl, ?_⟩
    refine lcGo_enc D.int (fun x => D.bl (decide (-9999 ≤ x ∧ x ≤ 9999))) r [] (fun x hx Kt Kf hK => ?_) (big64 (by rw [List.length_nil]; omega)) ?_
    · conv => whnf
      refine s_is_between x (-9999) 9999 _ _ fun o => ?_
      exact hK
    · conv => whnf
      refine ⟨_, all_mapB _ r, ?_⟩
      exact k _
  · rw [decide_eq_false hl]
    rw [decide_eq_false hl, Bool.false_and] at k
    conv => whnf
    repeat (refine ⟨_, rfl, ?_⟩; conv => whnf)
    exact k _
theorem s_is_list (hp : ps.length < 900000) (hr : ∀ r ∈ ps, r.length < 900000) : Ret w_is_list_by [.val (rdD m ps)] (.bl (isL m ps)) := by
  intro Qd Ed k
  have pk := fun (r : List Int) (h : r ∈ ps) => s_is_pack (m := m) (hr r h)
  have bt := s_is_between m 1 6
  have tf := s_is_tuple_of [.int m, tt ps] 2
  unfold isL at k
  unfold w_is_list_by m_is_list_by m_is_list_by_2 m_is_list_by_1
  revert pk bt tf
  generalize w_is_pack = W1
  generalize w_is_between = W2
  generalize w_is_tuple_of = W3
  revert W1 W2 W3
  refine id ?_
  intro W1 W2 W3 pk bt tf
  conv => whnf
  refine tf _ _ fun o => ?_
  conv => whnf
  repeat (refine ⟨_, rfl, ?_⟩; conv => whnf)
  refine bt _ _ fun o => ?_
  by_cases h1 : 1 ≤ m ∧ m ≤ 6
  · rw [decide_eq_true h1]
    rw [decide_eq_true h1, Bool.true_and] at k
    conv => whnf
    (refine ⟨_, rfl, ?_⟩; conv => whnf)
    (refine ⟨_, rfl, ?_⟩; conv => whnf)
    (refine ⟨_, rfl, ?_⟩; conv => whnf)
    (refine ⟨_, rfl, ?_⟩; conv => whnf)
    (refine ⟨_, rfl, ?_⟩; conv => whnf)
    (refine ⟨_, rfl, ?_⟩; conv => whnf)
    rw [List.length_map]
    by_cases h8 : (8 : Int) < ((ps.length : Nat) : Int)
    · refine ⟨_, fGt_t (a := ((ps.length : Nat) : Int)) (b := 8) h8, ?_⟩
      rw [decide_eq_false (by omega : ¬ ps.length ≤ 8), Bool.false_and] at k
      conv => whnf
      repeat (refine ⟨_, rfl, ?_⟩; conv => whnf)
      exact k _
    · refine ⟨_, fGt_f (a := ((ps.length : Nat) : Int)) (b := 8) h8, ?_⟩
      rw [decide_eq_true (by omega : ps.length ≤ 8), Bool.true_and] at k
      conv => whnf
      repeat (refine ⟨_, rfl, ?_⟩; conv => whnf)
      refine ⟨rfl, ?_⟩
      refine lcGo_enc ti (fun r => D.bl (isP m r)) ps [] (fun r hr2 Kt Kf hK => ?_) (big64 (by rw [List.length_nil]; omega)) ?_
      · conv => whnf
        repeat (refine ⟨_, rfl, ?_⟩; conv => whnf)
        refine pk r hr2 _ _ fun o => ?_
        exact hK
      · conv => whnf
        refine ⟨_, all_mapB _ ps, ?_⟩
        exact k _
  · rw [decide_eq_false h1]
    rw [decide_eq_false h1, Bool.false_and] at k
    conv => whnf
    repeat (refine ⟨_, rfl, ?_⟩; conv => whnf)
    exact k _
end
/-! the end of a text -/
theorem endsw (x : Str) : Txt.endswith x nl1 = decide ((tl x).getLast? = some 10) := by
  rw [endswith_eq, tl_end]
  refine decide_eq_decide.mpr ?_
  rcases List.eq_nil_or_concat (tl x) with h | ⟨L, b, h⟩
  · rw [h]
    simp
  · rw [h]
    simp
theorem joinL_snoc {s : Nat} {q : List Nat} : ∀ {ps : List (List Nat)}, ps ≠ [] → joinL [s] (ps ++ [q]) = joinL [s] ps ++ ([s] ++ q)
  | [], h => absurd rfl h
  | [p], _ => rfl
  | p :: r :: ps, _ => by
    have ih := joinL_snoc (s := s) (q := q) (ps := r :: ps) (by simp)
    show p ++ ([s] ++ joinL [s] ((r :: ps) ++ [q])) = (p ++ ([s] ++ joinL [s] (r :: ps))) ++ ([s] ++ q)
    rw [ih]
    simp
/-- a text that may be read -/
structure Tk (x : Str) : Prop where
  o : okT x
  l : x.length < 800000
  r : ∀ y ∈ Txt.split x nl1, y.length ≤ 640
theorem rows_ok {x : Str} (h : Tk x) : ∀ y ∈ Txt.split x nl1, Rk y := fun y hy => ⟨part_ok tl_end (by decide +kernel) h.o hy, h.r y hy⟩
theorem rows_many {x : Str} (h : Tk x) : (Txt.split x nl1).length ≤ 800000 := Nat.le_trans (split_many tl_end (by decide +kernel)) (by have := h.l; omega)
abbrev no1 : Str := Str.ofString ""
theorem ends_cases (x : Str) : (Txt.endswith x nl1 = false ∧ ((Txt.split x nl1).length < 2 ∨ (Txt.split x nl1).getLast? ≠ some no1)) ∨ ∃ y ys, Txt.endswith x nl1 = true ∧ Txt.split x nl1 = (y :: ys) ++ [no1] ∧ Txt.split (cutS x none (some (-1))) nl1 = y :: ys := by
  have hm := rows_map x
  have hj := cut_join 10 (tl x)
  have hf := cut_free 10 (tl x)
  rw [← hm] at hj hf
  rcases List.eq_nil_or_concat (Txt.split x nl1) with h | ⟨L, q, h⟩
  · exact absurd h (split_ne tl_end (by decide +kernel))
  have fq : 10 ∉ tl q := hf _ (by rw [h]; simp)
  rw [endsw]
  cases L with
  | nil =>
    left
    rw [h] at hj ⊢
    have e : tl q = tl x := hj
    refine ⟨decide_eq_false fun z => ?_, .inl (by simp)⟩
    exact fq (by rw [e]; exact List.mem_of_getLast? z)
  | cons y ys =>
    have hj2 : tl x = joinL [10] ((y :: ys).map tl) ++ ([10] ++ tl q) := by
      rw [← hj, h, List.concat_eq_append, List.map_append]
      exact joinL_snoc (by simp)
    by_cases hq : q = no1
    · right
      refine ⟨y, ys, decide_eq_true ?_, by rw [h, hq, List.concat_eq_append], ?_⟩
      · rw [hj2, hq, tl_none]
        simp
      · refine map_tl_inj ?_
        rw [rows_map]
        have e : tl (cutS x none (some (-1))) = joinL [10] ((y :: ys).map tl) := by
          rw [tl_cut, hj2, hq, tl_none, List.append_nil]
          unfold DL.cutD
          have e1 : HT.sIx (joinL [10] ((y :: ys).map tl) ++ [10]).length (joinL [10] ((y :: ys).map tl) ++ [10]).length (some (-1)) = (joinL [10] ((y :: ys).map tl)).length := by
            rw [List.length_append, List.length_singleton]
            simp only [HT.sIx]
            split <;> omega
          rw [e1]
          show List.take ((joinL [10] ((y :: ys).map tl)).length - 0) ((joinL [10] ((y :: ys).map tl) ++ [10]).drop 0) = _
          rw [List.drop_zero]
          exact List.take_left
        rw [e]
        exact cut_of_join (by simp) fun p hp => hf p (by rw [h, List.concat_eq_append, List.map_append]; exact List.mem_append_left _ hp)
    · left
      have hne : tl q ≠ [] := fun e => hq (ext_tl (e.trans tl_none.symm))
      refine ⟨decide_eq_false fun z => ?_, .inr ?_⟩
      · rw [hj2] at z
        rw [List.getLast?_append, List.getLast?_append] at z
        cases hl : (tl q).getLast? with
        | none => exact hne (List.getLast?_eq_none_iff.mp hl)
        | some b =>
          rw [hl] at z
          have : b = 10 := by simpa using z
          exact fq (by rw [← this]; exact List.mem_of_getLast? hl)
      · rw [h, List.concat_eq_append, List.getLast?_concat]
        intro z
        exact hq (Option.some.inj z)
/-- what the program reads -/
def progX (x : Str) : Option (Int × List (List Int)) := if Txt.endswith x nl1 = true then progR (Txt.split (cutS x none (some (-1))) nl1) else none
def outX : Option (Int × List (List Int)) → List D
  | some (m, ps) => [rdD m ps]
  | none => []
theorem fEnw_x (x : Str) : fEnw (.str x) (.str nl1) = some (.val (.bl (Txt.endswith x nl1))) := rfl
theorem allR_row : ∀ {ys : List Str} {ps : List (List Int)}, allR ys = some ps → (∀ y ∈ ys, Rk y) → ∀ r ∈ ps, r.length < 900000
  | [], _, h, _ => by cases h; simp
  | y :: ys, ps, h, hk => by
    rw [allR_cons] at h
    cases hr : rowI y with
    | none => rw [hr] at h; cases h
    | some r =>
      rw [hr] at h
      cases hs : allR ys with
      | none => rw [hs] at h; cases h
      | some rs =>
        rw [hs] at h
        cases h
        intro z hz
        rcases List.mem_cons.mp hz with e | hz
        · subst e
          have hw := words_many (hk y List.mem_cons_self)
          unfold rowI at hr
          cases hy : Txt.split y bl1 with
          | nil => rw [hy] at hr; cases hr
          | cons w0 ws =>
            rw [hy] at hr hw
            have hr2 : (if w0 = packW ∧ ws.all isNum = true then some (ws.map numV) else none) = some z := hr
            split at hr2
            · cases hr2
              rw [List.length_map]
              rw [List.length_cons] at hw
              omega
            · cases hr2
        · exact allR_row hs (fun u hu => hk u (List.mem_cons_of_mem _ hu)) z hz
theorem s_with_text {x : Str} (h : Tk x) : RetO w_list_with_text [.val (.str x)] (outX (progX x)) := by
  intro Qd Ed k
  have hl := h.l
  have rl := fun (y : Str) (ys : List Str) (h1 : ys.length < 900000) (h2 : ∀ z ∈ y :: ys, Rk z) => s_read_lines h1 h2
  have il := fun (m : Int) (ps : List (List Int)) (h1 : ps.length < 900000) (h2 : ∀ r ∈ ps, r.length < 900000) => s_is_list (m := m) h1 h2
  have hro := rows_ok h
  have hrm := rows_many h
  unfold progX at k
  unfold w_list_with_text m_list_with_text m_list_with_text_1
  revert rl il
  generalize w_read_lines = W1
  generalize w_is_list_by = W2
  revert W1 W2
  refine id ?_
  intro W1 W2 rl il
  conv => whnf
  refine ⟨_, fEnw_x x, ?_⟩
  rcases ends_cases x with ⟨e, _⟩ | ⟨y, ys, e, e2, e3⟩
  · rw [e] at k ⊢
    conv => whnf
    repeat (refine ⟨_, rfl, ?_⟩; conv => whnf)
    refine ⟨small64 (by simp), ?_⟩
    exact k _
  rw [e] at k ⊢
  rw [e3] at k
  rw [e2] at hro hrm
  rw [List.length_append, List.length_cons] at hrm
  have hk2 : ∀ z ∈ y :: ys, Rk z := fun z hz => hro z (List.mem_append_left _ hz)
  have k2 : ∀ o, Qd (.own (outX (progC (headI y) (allR ys)))) o := k
  conv => whnf
  repeat (refine ⟨_, rfl, ?_⟩; conv => whnf)
  refine ⟨_, fSl_str _ _ (big64 (by omega)), ?_⟩
  conv => whnf
  have hc : (cutS x none (some (-1))).length ≤ x.length := L2.cutS_length _ _ _
  refine ⟨_, fSplit_str (by decide) (big64 (by omega)), ?_⟩
  rw [e3]
  conv => whnf
  refine rl y ys (by omega) hk2 _ _ fun o => ?_
  cases hh : headI y with
  | none =>
    rw [hh] at k2
    conv => whnf
    refine ⟨rfl, ?_⟩
    exact k2 _
  | some m =>
    rw [hh] at k2
    cases ha : allR ys with
    | none =>
      rw [ha] at k2
      conv => whnf
      refine ⟨rfl, ?_⟩
      exact k2 _
    | some ps =>
      rw [ha] at k2
      have hlen := allR_len ha
      have hrow := allR_row ha fun u hu => hk2 u (List.mem_cons_of_mem _ hu)
      conv => whnf
      refine ⟨rfl, ?_⟩
      refine lcGo_fil (fun d => d) (fun d => if isL m ps = true then some d else none) [rdD m ps] [] (fun d hd Kt Kf h1 h2 => ?_) (small64 (by simp)) ?_
      · have : d = rdD m ps := by simpa using hd
        subst this
        conv => whnf
        refine il m ps (by omega) hrow _ _ fun o => ?_
        cases hb : isL m ps with
        | true =>
          conv => whnf
          repeat (refine ⟨_, rfl, ?_⟩; conv => whnf)
          exact h1 _ (by rw [if_pos hb])
        | false =>
          conv => whnf
          repeat (refine ⟨_, rfl, ?_⟩; conv => whnf)
          exact h2 (by rw [if_neg (by rw [hb]; simp)])
      · have e4 : ([] : List D) ++ [rdD m ps].filterMap (fun d => if isL m ps = true then some d else none) = outX (progC (some m) (some ps)) := by
          show List.filterMap (fun d => if isL m ps = true then some d else none) [rdD m ps] = outX (if isL m ps = true then some (m, ps) else none)
          cases isL m ps <;> rfl
        rw [e4]
        exact k2 _
end Lk80
set_option exponentiation.threshold 100000
namespace Lk80
open PySem PySem.Spec PyProof.Rows L2 DL TL
def rowD : Option (List Int) → D
  | some r => ti r
  | none => .non
def rdO : Option (Int × List (List Int)) → D
  | some (m, ps) => rdD m ps
  | none => .non
theorem eqOk_li (xs : List Int) : eqOk (.lst (xs.map D.int)) = true := sz_eqOk (n := 2) (by decide) (fun d hd => by
  obtain ⟨x, _, rfl⟩ := List.mem_map.mp hd
  trivial)
theorem fNe_ints0 (xs : List Int) : fNe (.lst (xs.map D.int)) (.lst []) = some (.val (.bl (!decide (xs = [])))) := by
  refine (if_pos ⟨eqOk_li xs, rfl⟩).trans ?_
  cases xs with
  | nil => rfl
  | cons y ys => rfl
theorem figD_is {w : Str} (h : isNum w = true) : figD w = .int (numV w) := by unfold figD; rw [if_pos h]
theorem figD_no {w : Str} (h : isNum w = false) : figD w = .non := by unfold figD; rw [if_neg (by rw [h]; simp)]
theorem toPyL_map : ∀ l : List D, toPyL l = l.map toPy
  | [] => rfl
  | d :: l => by
    show toPy d :: toPyL l = _
    rw [toPyL_map l]
    rfl
theorem fNin_figs (ws : List Str) : fNin .non (.lst (ws.map figD)) = some (.val (.bl (ws.all isNum))) := by
  have o2 : eqOk (.lst (ws.map figD)) = true := sz_eqOk (n := 2) (by decide) (fun d hd => by
    obtain ⟨w, _, rfl⟩ := List.mem_map.mp hd
    cases h : isNum w with
    | true => rw [figD_is h]; trivial
    | false => rw [figD_no h]; trivial)
  have e : fNin .non (.lst (ws.map figD)) = some (.val (.bl (!((toPyL (ws.map figD)).any fun z => PyData.eqv z (toPy .non))))) := if_pos ⟨rfl, o2⟩
  rw [e, toPyL_map]
  have key : ∀ ws : List Str, (!((ws.map figD).map toPy).any fun z => PyData.eqv z (toPy .non)) = ws.all isNum := by
    intro ws
    induction ws with
    | nil => rfl
    | cons w ws ih =>
      rw [List.map_cons, List.map_cons, List.any_cons, List.all_cons, Bool.not_or, ih]
      cases h : isNum w with
      | true =>
        rw [figD_is h]
        simp [toPy, PyData.eqv]
      | false =>
        rw [figD_no h]
        simp [toPy, PyData.eqv]
  rw [key]
theorem figs_all {ws : List Str} (h : ws.all isNum = true) : ws.map figD = (ws.map numV).map D.int := by
  rw [List.map_map]
  exact List.map_congr_left fun w hw => figD_is (List.all_eq_true.mp h w hw)
theorem s_law_read_row {y : Str} {m : Int} (h : Rk y) : Ret w_law_read_row [.val (.str y), .val (.int m)] (rowD (if ((Txt.split y bl1).length : Int) = m ∧ (Txt.split y bl1).all isNum = true then some ((Txt.split y bl1).map numV) else none)) := by
  intro Qd Ed k
  have hl := h.l
  have hm := words_many h
  have hw := fun (u : Str) (hu : u ∈ Txt.split y bl1) => word_ok h hu
  have fg := fun (w : Str) (hw : Rk w) => s_law_figures hw.o hw.l
  unfold w_law_read_row m_law_read_row m_law_read_row_1
  revert fg
  generalize w_law_figures = W1
  revert W1
  refine id ?_
  intro W1 fg
  conv => whnf
  refine ⟨_, fSplit_str (by decide) (big64 (by omega)), ?_⟩
  generalize Txt.split y bl1 = ws at *
  conv => whnf
  refine ⟨rfl, ?_⟩
  refine lcGo_enc D.str figD ws [] (fun w hw2 Kt Kf hK => ?_) (big64 (by rw [List.length_nil]; omega)) ?_
  · conv => whnf
    refine fg w (hw w hw2) _ _ fun o => ?_
    exact hK
  rw [List.nil_append]
  conv => whnf
  (refine ⟨_, rfl, ?_⟩; conv => whnf)
  rw [List.length_map]
  refine ⟨_, fEq_int ((ws.length : Nat) : Int) m, ?_⟩
  by_cases hlm : ((ws.length : Nat) : Int) = m
  · rw [decide_eq_true hlm]
    conv => whnf
    refine ⟨_, fNin_figs ws, ?_⟩
    cases ha : ws.all isNum with
    | true =>
      rw [if_pos ⟨hlm, ha⟩] at k
      rw [figs_all ha]
      conv => whnf
      repeat (refine ⟨_, rfl, ?_⟩; conv => whnf)
      exact k _
    | false =>
      rw [if_neg (fun z => by rw [ha] at z; cases z.2)] at k
      conv => whnf
      repeat (refine ⟨_, rfl, ?_⟩; conv => whnf)
      exact k _
  · rw [decide_eq_false hlm]
    rw [if_neg (fun z => hlm z.1)] at k
    conv => whnf
    repeat (refine ⟨_, rfl, ?_⟩; conv => whnf)
    exact k _
end Lk80
set_option exponentiation.threshold 10000
/-! Texts bent: how long their rows may be. -/
namespace DL
open PySem PySem.Spec PyProof.Rows L2 TL
/-- no row longer than r -/
def Seg (r : Nat) (l : List Nat) : Prop := ∀ i n, i + n ≤ l.length → (∀ k, k < n → l[i + k]? ≠ some 10) → n ≤ r
theorem Seg.mono {r r' : Nat} {l : List Nat} (h : Seg r l) (hr : r ≤ r') : Seg r' l := fun i n h1 h2 => Nat.le_trans (h i n h1 h2) hr
theorem seg_small {r : Nat} {l : List Nat} (h : l.length ≤ r) : Seg r l := fun i n h1 _ => by omega
theorem seg_take {r k : Nat} {l : List Nat} (h : Seg r l) : Seg r (l.take k) := fun i n h1 h2 => by
  rw [List.length_take] at h1
  refine h i n (by omega) fun j hj => ?_
  have := h2 j hj
  rw [List.getElem?_take_of_lt (by omega)] at this
  exact this
theorem seg_join {r : Nat} : ∀ {ps : List (List Nat)}, (∀ p ∈ ps, p.length ≤ r) → Seg r (joinL [10] ps)
  | [], _ => seg_small (by simp [joinL])
  | [p], h => seg_small (h p List.mem_cons_self)
  | p :: q :: ps, h => by
    have ih := seg_join (ps := q :: ps) fun z hz => h z (List.mem_cons_of_mem _ hz)
    have hp := h p List.mem_cons_self
    have e : joinL [10] (p :: q :: ps) = p ++ (10 :: joinL [10] (q :: ps)) := rfl
    rw [e]
    intro i n h1 h2
    rw [List.length_append, List.length_cons] at h1
    by_cases a1 : i + n ≤ p.length
    · omega
    by_cases a2 : p.length < i
    · refine ih (i - (p.length + 1)) n (by omega) fun k hk => ?_
      have := h2 k hk
      rw [List.getElem?_append_right (by omega)] at this
      rw [show i + k - p.length = (i - (p.length + 1) + k) + 1 by omega, List.getElem?_cons_succ] at this
      exact this
    · have := h2 (p.length - i) (by omega)
      rw [List.getElem?_append_right (by omega), show i + (p.length - i) - p.length = 0 by omega] at this
      exact absurd rfl this
theorem part_at {p : List Nat} : ∀ {ps : List (List Nat)}, p ∈ ps → ∃ i, i + p.length ≤ (joinL [10] ps).length ∧ ∀ k, k < p.length → (joinL [10] ps)[i + k]? = p[k]?
  | [q], h => by
    have : p = q := by simpa using h
    subst this
    exact ⟨0, by show 0 + p.length ≤ p.length; omega, fun k _ => by rw [Nat.zero_add]; rfl⟩
  | q :: r :: ps, h => by
    have e : joinL [10] (q :: r :: ps) = q ++ (10 :: joinL [10] (r :: ps)) := rfl
    rw [e]
    by_cases hq : p = q
    · subst hq
      refine ⟨0, by rw [List.length_append]; omega, fun k hk => ?_⟩
      rw [Nat.zero_add, List.getElem?_append_left hk]
    · have h2 : p ∈ r :: ps := (List.mem_cons.mp h).resolve_left hq
      obtain ⟨i, h3, h4⟩ := part_at h2
      refine ⟨q.length + 1 + i, by rw [List.length_append, List.length_cons]; omega, fun k hk => ?_⟩
      rw [List.getElem?_append_right (by omega), show q.length + 1 + i + k - q.length = (i + k) + 1 by omega, List.getElem?_cons_succ]
      exact h4 k hk
theorem seg_part {r : Nat} {l p : List Nat} (h : Seg r l) (hp : p ∈ cutAt 10 l) : p.length ≤ r := by
  have hf := cut_free 10 l p hp
  obtain ⟨i, h1, h2⟩ := part_at hp
  rw [cut_join] at h1 h2
  refine h i p.length h1 fun k hk => ?_
  rw [h2 k hk]
  intro e
  exact hf (List.mem_of_getElem? e)
theorem rows_le {r : Nat} {x : Str} (h : Seg r (tl x)) {y : Str} (hy : y ∈ Txt.split x nl1) : y.length ≤ r := by
  rw [len_tl]
  exact seg_part h (by rw [← rows_map]; exact List.mem_map_of_mem hy)
/-- how long a join may be -/
def wt (ps : List Str) : Nat := (ps.map (·.length)).sum + ps.length
theorem wt_append (a b : List Str) : wt (a ++ b) = wt a + wt b := by
  unfold wt
  rw [List.map_append, List.sum_append, List.length_append]
  omega
theorem wt_one (a : Str) : wt [a] = a.length + 1 := by
  unfold wt
  simp
theorem wt_take_drop (k : Nat) (a : List Str) : wt (a.take k) + wt (a.drop k) = wt a := by
  rw [← wt_append, List.take_append_drop]
theorem wt_take (k : Nat) (a : List Str) : wt (a.take k) ≤ wt a := by
  have := wt_take_drop k a
  omega
theorem wt_drop (k : Nat) (a : List Str) : wt (a.drop k) ≤ wt a := by
  have := wt_take_drop k a
  omega
theorem wt_mem {a : Str} {ps : List Str} (h : a ∈ ps) : a.length + 1 ≤ wt ps := by
  obtain ⟨s, t, e⟩ := List.append_of_mem h
  rw [e, wt_append, show a :: t = [a] ++ t from rfl, wt_append, wt_one]
  omega
theorem wt_skip (k : Nat) (a : List Str) : wt (a.take k) + wt (a.drop (k + 1)) ≤ wt a := by
  have h1 := wt_take_drop k a
  have h2 := wt_take_drop 1 (a.drop k)
  rw [List.drop_drop] at h2
  omega
theorem wt_set (k : Nat) (b : Str) (a : List Str) (hk : k < a.length) : wt (a.set k b) ≤ wt a + b.length + 1 := by
  have e : a.set k b = a.take k ++ b :: a.drop (k + 1) := List.set_eq_take_append_cons_drop.trans (if_pos hk)
  have h1 := wt_skip k a
  rw [e, wt_append, show b :: a.drop (k + 1) = [b] ++ a.drop (k + 1) from rfl, wt_append, wt_one]
  omega
theorem join_wt {y : Str} (hy : y.length = 1) (ps : List Str) : (Txt.join y ps).length ≤ wt ps := by
  rw [join_eq]
  have := PySem.StrLaws.join_length_le y ps
  rw [hy] at this
  unfold wt
  omega
theorem joinL_full {s : Nat} : ∀ {ps : List (List Nat)}, ps ≠ [] → (joinL [s] ps).length + 1 = (ps.map List.length).sum + ps.length
  | [], h => absurd rfl h
  | [p], _ => by simp [joinL]
  | p :: q :: ps, _ => by
    have ih := joinL_full (s := s) (ps := q :: ps) (by simp)
    show (p ++ ([s] ++ joinL [s] (q :: ps))).length + 1 = _
    rw [List.length_append, List.length_append, List.map_cons, List.sum_cons, List.length_cons (as := q :: ps)]
    simp only [List.length_singleton]
    omega
theorem wt_split {x y : Str} {s : Nat} (ey : tl y = [s]) (hk : y.cps.all (· < 256) = true) : wt (Txt.split x y) = x.length + 1 := by
  have hm := split_map (x := x) ey hk
  have h1 := joinL_full (s := s) (cutAt_ne s (tl x))
  rw [cut_join, ← hm, List.map_map, List.length_map, ← len_tl] at h1
  unfold wt
  have e : (Txt.split x y).map (fun p => p.length) = (Txt.split x y).map (List.length ∘ tl) := List.map_congr_left fun z _ => len_tl z
  rw [e]
  omega
theorem okT_joinL {s : Nat} (hs : s < 0x110000) : ∀ {ps : List Str}, (∀ p ∈ ps, okT p) → ∀ c ∈ joinL [s] (ps.map tl), c < 0x110000
  | [], _, c, hc => by cases hc
  | [p], h, c, hc => okT_iff.mp (h p List.mem_cons_self) c hc
  | p :: q :: ps, h, c, hc => by
    have hc' : c ∈ tl p ++ ([s] ++ joinL [s] ((q :: ps).map tl)) := hc
    rcases List.mem_append.mp hc' with z | z
    · exact okT_iff.mp (h p List.mem_cons_self) c z
    · rcases List.mem_append.mp z with z | z
      · have : c = s := by simpa using z
        omega
      · exact okT_joinL hs (fun u hu => h u (List.mem_cons_of_mem _ hu)) c z
theorem okT_join {y : Str} {s : Nat} (ey : tl y = [s]) (hs : s < 0x110000) {ps : List Str} (h : ∀ p ∈ ps, okT p) : okT (Txt.join y ps) := by
  rw [okT_iff, join_eq, tl_join, ey]
  exact okT_joinL hs h
theorem seg_rows {r : Nat} {ps : List Str} (h : ∀ p ∈ ps, p.length ≤ r) : Seg r (tl (Txt.join nl1 ps)) := by
  rw [join_eq, tl_join, tl_end]
  refine seg_join fun p hp => ?_
  obtain ⟨q, hq, rfl⟩ := List.mem_map.mp hp
  rw [← len_tl]
  exact h q hq
/-! a number's text reads back -/
theorem fig_num (n : Nat) : isFig (numL n) = true := by
  have h1 : (numL n).all (fun c => decide (48 ≤ c ∧ c ≤ 57)) = true := List.all_eq_true.mpr fun c hc => decide_eq_true (numL_digits n c hc)
  unfold isFig
  rw [h1]
  obtain ⟨c, cs, e, hc, h0⟩ := numL_cons n
  rw [e]
  by_cases q : c = 48
  · have := h0 q
    subst this
    have e2 : numL 0 = [48] := numL_lt (by decide)
    rw [e] at e2
    rw [e2]
    rfl
  · have : (c :: cs).head? ≠ some 48 := by simpa using q
    rw [decide_eq_true this]
    simp
theorem num_ne {n : Nat} (h : 1 ≤ n) : numL n ≠ [48] := fun e => by
  have h1 := numL_val n
  rw [e] at h1
  have : NumText.digitsVal [48] = 0 := by decide
  omega
theorem isNum_num (x : Int) : isNum (numT x) = true := by
  have e := tl_numT x
  unfold numS at e
  unfold isNum
  by_cases h : x < 0
  · rw [if_pos h] at e
    rw [show tl (numT x) = 45 :: numL x.natAbs from e]
    show (isFig (numL x.natAbs) && decide (numL x.natAbs ≠ [48])) = true
    rw [fig_num, decide_eq_true (num_ne (by omega))]
    rfl
  · rw [if_neg h, List.nil_append] at e
    rw [e]
    split
    · rename_i r e2
      have := numL_digits x.natAbs 45 (by rw [e2]; exact List.mem_cons_self)
      omega
    · exact fig_num _
theorem numV_num {x : Int} (h : x.natAbs < 10 ^ 600) : numV (numT x) = x := by
  unfold numV
  rw [numT_int h]
  rfl
end DL
set_option exponentiation.threshold 100000
namespace Lk80
open PySem PySem.Spec PyProof.Rows L2 DL TL
/-- a row for a text -/
structure Rb (r : List Int) : Prop where
  l : r.length ≤ 8
  n : r ≠ []
  x : ∀ x ∈ r, x.natAbs < 10 ^ 41
theorem Rw.rb {n : Nat} {r : List Int} (h : Rw n r) (hn : 1 ≤ n ∧ n ≤ 6) : Rb r := ⟨by rw [h.1]; omega, fun e => by
  have := h.1
  rw [e] at this
  simp at this
  omega, fun x hx => Nat.lt_of_le_of_lt (m := 9999) (by have := h.2 x hx; omega) (by decide)⟩
abbrev sBl : Str := Str.ofString " "
abbrev sNl : Str := Str.ofString "\n"
abbrev sNo : Str := Str.ofString ""
def rowT (r : List Int) : Str := Txt.join sBl (r.map numT)
def lines (n : Nat) (rows : List (List Int)) : List Str := (Str.ofString "goods " ++ numT (n : Nat)) :: rows.map fun r => Str.ofString "pack " ++ rowT r
def listT (n : Nat) (rows : List (List Int)) : Str := Txt.join sNo ((lines n rows).map fun l => l ++ sNl)
theorem tl_rowT (r : List Int) : tl (rowT r) = joinL [32] (r.map numS) := by
  unfold rowT
  rw [join_eq, tl_join, tl_blank, List.map_map]
  congr 1
  exact List.map_congr_left fun x _ => tl_numT x
section
variable {n : Nat} {rows : List (List Int)} {r : List Int}
theorem split_row (h : Rb r) : Txt.split (rowT r) sBl = r.map numT := by
  unfold rowT
  refine split_join (s := 32) (S := []) tl_blank (by decide +kernel) (fun e => h.n (by simpa using e)) fun p hp => ?_
  obtain ⟨x, _, rfl⟩ := List.mem_map.mp hp
  rw [tl_numT]
  exact numS_free (by decide)
end
theorem big41 {x : Int} (hx : x.natAbs < 10 ^ 41) : x.natAbs < 10 ^ 600 := Nat.lt_of_lt_of_le hx (Nat.pow_le_pow_right (by decide) (by decide))
theorem gStr_num {x : Int} (hx : x.natAbs < 10 ^ 41) : gStr (.int x) = some (.val (.str (numT x))) := by
  refine if_pos ?_
  rcases Nat.eq_zero_or_pos x.natAbs with z | z
  · rw [z]
    decide
  · have : x.natAbs.log2 < 140 := (Nat.log2_lt (by omega)).mpr (Nat.lt_trans hx (by decide))
    omega
theorem len_numB {x : Int} (hx : x.natAbs < 10 ^ 41) : (numT x).length ≤ 42 := by
  rw [len_tl, tl_numT]
  exact numS_len (by decide) hx
theorem sum_small {α : Type} (f : α → Nat) (m : Nat) : ∀ l : List α, (∀ x ∈ l, f x ≤ m) → (l.map f).sum ≤ l.length * m
  | [], _ => by simp
  | x :: l, h => by
    have := sum_small f m l fun y hy => h y (List.mem_cons_of_mem _ hy)
    have := h x List.mem_cons_self
    rw [List.map_cons, List.sum_cons, List.length_cons, Nat.succ_mul]
    omega
theorem join_len (sep : Str) (ps : List Str) (m : Nat) (h : ∀ p ∈ ps, p.length ≤ m) : (Txt.join sep ps).length ≤ ps.length * m + ps.length * sep.length := by
  rw [join_eq]
  have := PySem.StrLaws.join_length_le sep ps
  have := sum_small (·.length) m ps h
  omega
section
variable {n : Nat} {rows : List (List Int)} {r : List Int}
theorem rowT_len (h : Rb r) : (rowT r).length ≤ 344 := by
  have h1 := join_len sBl (r.map numT) 42 fun p hp => by
    obtain ⟨x, hx, rfl⟩ := List.mem_map.mp hp
    exact len_numB (h.x x hx)
  have e : sBl.length = 1 := by decide
  have h2 := h.l
  rw [List.length_map, e] at h1
  unfold rowT
  omega
theorem okT_rowT (r : List Int) : okT (rowT r) := okT_join tl_blank (by decide) fun p hp => by
  obtain ⟨x, _, rfl⟩ := List.mem_map.mp hp
  exact okT_num x
theorem rk_row (h : Rb r) : Rk (rowT r) := ⟨okT_rowT r, by have := rowT_len h; omega⟩
theorem join_row (h : Rb r) : joinC sBl (r.map fun x => D.str (numT x)) = some (.val (.str (rowT r))) := by
  have e : (r.map fun x => D.str (numT x)) = (r.map numT).map D.str := by rw [List.map_map]; rfl
  rw [e, joinC_of ?_]
  · rfl
  · unfold joinOk
    have h1 := sum_small (·.length) 42 (r.map numT) fun p hp => by
      obtain ⟨x, hx, rfl⟩ := List.mem_map.mp hp
      exact len_numB (h.x x hx)
    have e : sBl.length = 1 := by decide
    have h2 := h.l
    rw [List.length_map] at h1
    rw [e, List.length_map]
    omega
theorem s_text_of_row (h : Rb r) : Ret w_text_of_row [.val (ti r)] (.str (rowT r)) := by
  intro Qd Ed k
  have hl := h.l
  unfold w_text_of_row m_text_of_row
  conv => whnf
  refine ⟨rfl, ?_⟩
  refine lcGo_enc D.int (fun x => D.str (numT x)) r [] (fun x hx Kt Kf hK => ?_) (small64 (by rw [List.length_nil]; omega)) ?_
  · conv => whnf
    refine ⟨_, gStr_num (h.x x hx), ?_⟩
    exact hK
  rw [List.nil_append]
  conv => whnf
  refine ⟨_, join_row h, ?_⟩
  exact k _
theorem s_law_row_text (h : Rb r) : Ret w_law_row_text [.val (ti r)] (.str (rowT r)) := by
  intro Qd Ed k
  have hl := h.l
  unfold w_law_row_text m_law_row_text
  conv => whnf
  refine ⟨rfl, ?_⟩
  refine lcGo_enc D.int (fun x => D.str (numT x)) r [] (fun x hx Kt Kf hK => ?_) (small64 (by rw [List.length_nil]; omega)) ?_
  · conv => whnf
    refine ⟨_, gStr_num (h.x x hx), ?_⟩
    exact hK
  rw [List.nil_append]
  conv => whnf
  refine ⟨_, join_row h, ?_⟩
  exact k _
theorem read_rowT (h : Rb r) : (if ((Txt.split (rowT r) bl1).length : Int) = (r.length : Nat) ∧ (Txt.split (rowT r) bl1).all isNum = true then some ((Txt.split (rowT r) bl1).map numV) else none) = some r := by
  have e : Txt.split (rowT r) bl1 = r.map numT := split_row h
  rw [e, if_pos ⟨by rw [List.length_map], by
    rw [List.all_map, List.all_eq_true]
    exact fun x _ => isNum_num x⟩, List.map_map]
  congr 1
  exact (List.map_congr_left fun x hx => numV_num (big41 (h.x x hx))).trans (List.map_id r)
theorem s_read_back (h : Rb r) : Ret w_law_read_row [.val (.str (rowT r)), .val (.int (r.length : Nat))] (ti r) := by
  have := s_law_read_row (m := (r.length : Nat)) (rk_row h)
  rw [read_rowT h] at this
  exact this
theorem lit_goods : (Str.ofString "goods ").length = 6 := by decide
theorem lit_pack : (Str.ofString "pack ").length = 5 := by decide
theorem line_len (hl : Lst n rows) : ∀ l ∈ lines n rows, l.length ≤ 350 := fun l h => by
  have hg := hl.g
  unfold lines at h
  rcases List.mem_cons.mp h with rfl | h
  · rw [str_len, lit_goods]
    have := len_numB (x := (n : Nat)) (Nat.lt_of_le_of_lt (m := 9) (by omega) (by decide))
    omega
  · obtain ⟨r, hr, rfl⟩ := List.mem_map.mp h
    rw [str_len, lit_pack]
    have := rowT_len (Rw.rb (hl.x r hr) hg)
    omega
theorem lines_len (hl : Lst n rows) : (lines n rows).length ≤ 9 := by
  have := hl.r
  unfold lines
  rw [List.length_cons, List.length_map]
  omega
theorem join_list (hl : Lst n rows) : joinC sNo ((lines n rows).map fun l => D.str (l ++ sNl)) = some (.val (.str (listT n rows))) := by
  have e : ((lines n rows).map fun l => D.str (l ++ sNl)) = ((lines n rows).map fun l => l ++ sNl).map D.str := by rw [List.map_map]; rfl
  rw [e, joinC_of ?_]
  · rfl
  · unfold joinOk
    have e1 : sNl.length = 1 := by decide
    have := sum_small (·.length) 351 ((lines n rows).map fun l => l ++ sNl) fun p hp => by
      obtain ⟨l, hl2, rfl⟩ := List.mem_map.mp hp
      show (l ++ sNl).length ≤ 351
      rw [str_len, e1]
      have := line_len hl l hl2
      omega
    have h9 := lines_len hl
    have e0 : sNo.length = 0 := by decide
    rw [e0, List.length_map] at *
    omega
end
end Lk80
set_option exponentiation.threshold 100000
namespace Lk80
open PySem PySem.Spec PyProof.Rows L2 DL TL
section
variable {n : Nat} {rows : List (List Int)} {r : List Int}
theorem lit1 : Str.ofString "goods" ++ Str.ofString " " = Str.ofString "goods " := ext_tl (by decide)
theorem lit2 : Str.ofString "pack" ++ Str.ofString " " = Str.ofString "pack " := ext_tl (by decide)
theorem lines_snoc (i : Nat) (hi : i < rows.length) : lines n (rows.take (i + 1)) = lines n (rows.take i) ++ [Str.ofString "pack " ++ rowT rows[i]] := by
  unfold lines
  rw [List.take_succ_eq_append_getElem hi, List.map_append]
  rfl
theorem s_text_of_list (hl : Lst n rows) : Ret w_text_of_list [.val (lsD n rows)] (.str (listT n rows)) := by
  intro Qd Ed k
  have hg := hl.g
  have hr8 := hl.r
  have rt := fun (r : List Int) (hr : r ∈ rows) => s_text_of_row (Rw.rb (hl.x r hr) hg)
  have hn5 : ((n : Nat) : Int).natAbs < 10 ^ 41 := Nat.lt_of_le_of_lt (m := 9) (by omega) (by decide)
  have ln := len_numB hn5
  have e1 : fAdd (.str (Str.ofString "goods")) (.str (Str.ofString " ")) = some (.val (.str (Str.ofString "goods "))) := by
    rw [← lit1]
    exact fAdd_str (big64 (by decide))
  have e2 : fAdd (.str (Str.ofString "pack")) (.str (Str.ofString " ")) = some (.val (.str (Str.ofString "pack "))) := by
    rw [← lit2]
    exact fAdd_str (big64 (by decide))
  unfold w_text_of_list m_text_of_list m_text_of_list_3 m_text_of_list_2 m_text_of_list_1
  revert rt e2
  generalize w_text_of_row = W1
  revert W1
  refine id ?_
  intro W1 rt e2
  conv => whnf
  refine ⟨_, e1, ?_⟩
  conv => whnf
  repeat (refine ⟨_, rfl, ?_⟩; conv => whnf)
  refine ⟨_, gStr_num hn5, ?_⟩
  conv => whnf
  refine ⟨_, fAdd_str (big64 (by rw [lit_goods]; omega)), ?_⟩
  conv => whnf
  refine ⟨small64 (by simp), ?_⟩
  conv => whnf
  repeat (refine ⟨_, rfl, ?_⟩; conv => whnf)
  refine forGo_ix ti (fun i ρ => ∃ c2, ρ = [some (.val (lsD n rows)), some (.own ((lines n (rows.take i)).map D.str)), c2, none]) rows 0 _ (Nat.zero_le _) ?_ ?_ ⟨_, rfl⟩
  · rintro ρ ⟨c2, rfl⟩
    rw [List.take_length]
    conv => whnf
    repeat (refine ⟨_, rfl, ?_⟩; conv => whnf)
    refine ⟨rfl, ?_⟩
    refine lcGo_enc D.str (fun l => D.str (l ++ sNl)) (lines n rows) [] (fun l hl2 Kt Kf hK => ?_) (small64 (by rw [List.length_nil]; have := lines_len hl; omega)) ?_
    · have := line_len hl l hl2
      have e1 : sNl.length = 1 := by decide
      conv => whnf
      refine ⟨_, fAdd_str (big64 (by rw [e1]; omega)), ?_⟩
      exact hK
    rw [List.nil_append]
    conv => whnf
    refine ⟨_, join_list hl, ?_⟩
    exact k _
  · rintro i z ρ hz ⟨c2, rfl⟩ N hN
    have hi := (List.getElem?_eq_some_iff.mp hz).1
    have ez : z = rows[i] := (List.getElem?_eq_some_iff.mp hz).2.symm
    have hr := List.mem_of_getElem? hz
    have hlen := rowT_len (Rw.rb (hl.x z hr) hg)
    conv => whnf
    refine ⟨_, e2, ?_⟩
    conv => whnf
    refine rt z hr _ _ fun o => ?_
    conv => whnf
    refine ⟨_, fAdd_str (big64 (by rw [lit_pack]; omega)), ?_⟩
    conv => whnf
    refine ⟨small64 ?_, ?_⟩
    · rw [List.length_map]
      unfold lines
      rw [List.length_cons, List.length_map, List.length_take]
      omega
    refine hN _ ⟨some (.val (ti z)), ?_⟩
    rw [lines_snoc i hi, List.map_append, ez]
    rfl
end
end Lk80
set_option exponentiation.threshold 100000
namespace Lk80
open PySem PySem.Spec PyProof.Rows L2 DL TL
theorem a_lwhole {d : D} (hd : okA d = true) : Ret w_law_is_whole [.val d] (.bl (isI d)) := by
  intro Qd Ed h
  unfold w_law_is_whole m_law_is_whole
  cases d <;> first | (cases hd; done) | skip
  all_goals
    conv => whnf
    repeat (refine ⟨_, rfl, ?_⟩; conv => whnf)
    exact h _
def isLst2 : D → D → Bool
  | .int n, .tup ps => decide (1 ≤ n) && decide (n ≤ 6) && decide (ps.length ≤ 8) && ps.all (betw n (-9999) 9999)
  | _, _ => false
def isLstL : List D → Bool
  | [a, b] => isLst2 a b
  | _ => false
def isLst : D → Bool
  | .tup ds => isLstL ds
  | _ => false
theorem isLst_len {ds : List D} (h : ds.length ≠ 2) : isLst (.tup ds) = false := by
  match ds, h with
  | [], _ => rfl
  | [_], _ => rfl
  | [_, _], h => exact absurd rfl h
  | _ :: _ :: _ :: _, _ => rfl
theorem isLst_n {a b : D} (h : inB 1 6 a = false) : isLst (.tup [a, b]) = false := by
  cases a <;> first | rfl | skip
  cases b <;> first | rfl | skip
  rename_i n ps
  have e : inB 1 6 (.int n) = (decide (1 ≤ n) && decide (n ≤ 6)) := rfl
  rw [e] at h
  show (decide (1 ≤ n) && decide (n ≤ 6) && _ && _) = false
  rw [h, Bool.false_and, Bool.false_and]
theorem two_of {ds : List D} (h : ds.length = 2) : ∃ a b, ds = [a, b] := by
  match ds, h with
  | [a, b], _ => exact ⟨a, b, rfl⟩
theorem a_list_by {d : D} (hd : okA d = true) : Ret w_is_list_by [.val d] (.bl (isLst d)) := by
  intro Qd Ed h
  unfold w_is_list_by m_is_list_by
  conv => whnf
  refine a_tuple_of hd _ _ fun o => ?_
  cases d with
  | tup ds =>
    by_cases hl : ds.length = 2
    · obtain ⟨a, b, rfl⟩ := two_of hl
      have hd2 := (okA_tup.mp hd).2
      have ha : okA a = true := hd2 a (by simp)
      have hb : okA b = true := hd2 b (by simp)
      rw [show tupN 2 (.tup [a, b]) = true from rfl]
      conv => whnf
      repeat (refine ⟨_, rfl, ?_⟩; conv => whnf)
      refine a_between ha _ _ fun o => ?_
      cases hi : inB 1 6 a with
      | false =>
        rw [isLst_n hi] at h
        conv => whnf
        repeat (refine ⟨_, rfl, ?_⟩; conv => whnf)
        exact h _
      | true =>
        cases a <;> first | (cases hi; done) | skip
        rename_i n
        have e : inB 1 6 (.int n) = (decide (1 ≤ n) && decide (n ≤ 6)) := rfl
        rw [e] at hi
        conv => whnf
        (refine ⟨_, rfl, ?_⟩; conv => whnf)
        try unfold m_is_list_by_2
        cases b with
        | tup ps =>
          have hp := okA_tup.mp hb
          have e2 : isLst (.tup [.int n, .tup ps]) = (decide (ps.length ≤ 8) && ps.all (betw n (-9999) 9999)) := by
            show (decide (1 ≤ n) && decide (n ≤ 6) && _ && _) = _
            rw [hi, Bool.true_and]
          rw [e2] at h
          conv => whnf
          (refine ⟨_, rfl, ?_⟩; conv => whnf)
          (refine ⟨_, rfl, ?_⟩; conv => whnf)
          (refine ⟨_, rfl, ?_⟩; conv => whnf)
          (refine ⟨_, rfl, ?_⟩; conv => whnf)
          (refine ⟨_, rfl, ?_⟩; conv => whnf)
          by_cases h8 : ps.length ≤ 8
          · rw [decide_eq_true h8, Bool.true_and] at h
            refine ⟨_, fGt_f (a := ((ps.length : Nat) : Int)) (b := 8) (by omega), ?_⟩
            conv => whnf
            try unfold m_is_list_by_1
            conv => whnf
            (refine ⟨_, rfl, ?_⟩; conv => whnf)
            refine ⟨rfl, ?_⟩
            refine lcGo_self (fun d => D.bl (betw n (-9999) 9999 d)) ps [] (fun z hz Kt Kf hK => ?_) (ok_lineA hp.1) ?_
            · conv => whnf
              (refine ⟨_, rfl, ?_⟩; conv => whnf)
              unfold w_is_pack m_is_pack
              conv => whnf
              (refine ⟨_, rfl, ?_⟩; conv => whnf)
              refine a_are_between (hp.2 z hz) _ _ fun o => ?_
              exact hK
            · conv => whnf
              refine ⟨_, all_mapB _ _, ?_⟩
              exact h _
          · rw [decide_eq_false h8, Bool.false_and] at h
            refine ⟨_, fGt_t (a := ((ps.length : Nat) : Int)) (b := 8) (by omega), ?_⟩
            conv => whnf
            repeat (refine ⟨_, rfl, ?_⟩; conv => whnf)
            exact h _
        | fix _ => cases hb
        | ty _ => cases hb
        | obj _ _ _ => cases hb
        | adr _ => cases hb
        | rng _ _ => cases hb
        | _ =>
          conv => whnf
          repeat (refine ⟨_, rfl, ?_⟩; conv => whnf)
          exact h _
    · rw [isLst_len hl] at h
      rw [show tupN 2 (.tup ds) = false from decide_eq_false (by omega)]
      conv => whnf
      repeat (refine ⟨_, rfl, ?_⟩; conv => whnf)
      exact h _
  | fix _ => cases hd
  | ty _ => cases hd
  | obj _ _ _ => cases hd
  | adr _ => cases hd
  | rng _ _ => cases hd
  | _ =>
    conv => whnf
    repeat (refine ⟨_, rfl, ?_⟩; conv => whnf)
    exact h _
theorem maxI_ex : ∀ ns : List Int, ns ≠ [] → ∃ m, maxI ns = some m ∧ m ∈ ns ∧ ∀ n ∈ ns, n ≤ m
  | [], h => absurd rfl h
  | [n], _ => ⟨n, rfl, by simp, by simp⟩
  | n :: k :: ns, _ => by
    obtain ⟨m, e, h1, h2⟩ := maxI_ex (k :: ns) (by simp)
    refine ⟨if m > n then m else n, ?_, ?_, ?_⟩
    · show (maxI (k :: ns)).map _ = _
      rw [e]
      rfl
    · split
      · exact List.mem_cons_of_mem _ h1
      · exact List.mem_cons_self
    · intro x hx
      rcases List.mem_cons.mp hx with rfl | hx
      · split <;> omega
      · have := h2 x hx
        split <;> omega
theorem ints_of : ∀ ds : List D, ds.all isI = true → ∃ xs : List Int, ds = xs.map D.int
  | [], _ => ⟨[], rfl⟩
  | d :: ds, h => by
    rw [List.all_cons, Bool.and_eq_true] at h
    obtain ⟨xs, rfl⟩ := ints_of ds h.2
    cases d <;> first | (cases h.1; done) | skip
    rename_i i
    exact ⟨i :: xs, rfl⟩
theorem all_inB (lo hi : Int) (xs : List Int) : (xs.map D.int).all (inB lo hi) = decide (∀ x ∈ xs, lo ≤ x ∧ x ≤ hi) := by
  rw [Bool.eq_iff_iff, List.all_eq_true, decide_eq_true_eq]
  constructor
  · intro h x hx
    have := h _ (List.mem_map_of_mem hx)
    have e : inB lo hi (.int x) = (decide (lo ≤ x) && decide (x ≤ hi)) := rfl
    rw [e, Bool.and_eq_true, decide_eq_true_eq, decide_eq_true_eq] at this
    exact this
  · intro h d hd
    obtain ⟨x, hx, rfl⟩ := List.mem_map.mp hd
    have e : inB lo hi (.int x) = (decide (lo ≤ x) && decide (x ≤ hi)) := rfl
    rw [e, Bool.and_eq_true, decide_eq_true_eq, decide_eq_true_eq]
    exact h x hx
theorem betw_f {n lo hi : Int} {z : D} (h : wholes n z = false) : betw n lo hi z = false := by
  cases z <;> first | rfl | skip
  rename_i ds
  have e : wholes n (.tup ds) = (decide (((ds.length : Nat) : Int) = n) && ds.all isI) := rfl
  show (decide (((ds.length : Nat) : Int) = n) && ds.all (inB lo hi)) = false
  rw [e] at h
  cases hl : decide (((ds.length : Nat) : Int) = n) with
  | false => rfl
  | true =>
    rw [hl, Bool.true_and] at h
    rw [Bool.true_and, ← Bool.not_eq_true, List.all_eq_true]
    intro hc
    rw [← Bool.not_eq_true, List.all_eq_true] at h
    refine h fun d hd => ?_
    have := hc d hd
    cases d <;> first | rfl | (cases this; done)
theorem betw_t {n : Int} {xs : List Int} (h : ((xs.length : Nat) : Int) = n) : betw n (-9999) 9999 (ti xs) = decide (∀ x ∈ xs, -9999 ≤ x ∧ x ≤ 9999) := by
  show (decide ((((xs.map D.int).length : Nat) : Int) = n) && (xs.map D.int).all (inB (-9999) 9999)) = _
  rw [List.length_map, decide_eq_true h, Bool.true_and, all_inB]
theorem wholes_t {n : Int} {z : D} (h : wholes n z = true) : ∃ xs : List Int, z = ti xs ∧ ((xs.length : Nat) : Int) = n := by
  cases z <;> first | (cases h; done) | skip
  rename_i ds
  have e : wholes n (.tup ds) = (decide (((ds.length : Nat) : Int) = n) && ds.all isI) := rfl
  rw [e, Bool.and_eq_true, decide_eq_true_eq] at h
  obtain ⟨xs, rfl⟩ := ints_of ds h.2
  exact ⟨xs, rfl, by rw [← h.1, List.length_map]⟩
def isFr2 : D → D → Bool
  | .int a, .int b => decide (0 < b) && decide (Nat.gcd a.natAbs b.natAbs = 1)
  | _, _ => false
def isFrL : List D → Bool
  | [a, b] => isFr2 a b
  | _ => false
def isFr : D → Bool
  | .tup ds => isFrL ds
  | _ => false
theorem two_ints {z : D} (h : wholes 2 z = true) : ∃ a b : Int, z = ti [a, b] := by
  obtain ⟨xs, rfl, hx⟩ := wholes_t h
  have : xs.length = 2 := by omega
  match xs, this with
  | [a, b], _ => exact ⟨a, b, rfl⟩
theorem isFr_w {z : D} (h : wholes 2 z = false) : isFr z = false := by
  cases z <;> first | rfl | skip
  rename_i ds
  match ds with
  | [] => rfl
  | [_] => rfl
  | [a, b] =>
    cases a <;> first | rfl | skip
    cases b <;> first | rfl | skip
    cases h
  | _ :: _ :: _ :: _ => rfl
theorem isFr_t (a b : Int) : isFr (ti [a, b]) = (decide (0 < b) && decide (Nat.gcd a.natAbs b.natAbs = 1)) := rfl
theorem a_is_fraction {d : D} (hd : okA d = true) : Ret w_is_fraction [.val d] (.bl (isFr d)) := by
  intro Qd Ed h
  unfold w_is_fraction m_is_fraction
  conv => whnf
  refine a_are_wholes hd _ _ fun o => ?_
  cases hw : wholes 2 d with
  | false =>
    rw [isFr_w hw] at h
    conv => whnf
    repeat (refine ⟨_, rfl, ?_⟩; conv => whnf)
    exact h _
  | true =>
    obtain ⟨a, b, rfl⟩ := two_ints hw
    rw [isFr_t] at h
    conv => whnf
    (refine ⟨_, rfl, ?_⟩; conv => whnf)
    (refine ⟨_, rfl, ?_⟩; conv => whnf)
    by_cases hb : 0 < b
    · rw [decide_eq_true hb, Bool.true_and] at h
      refine ⟨_, fGt_t hb, ?_⟩
      conv => whnf
      (refine ⟨_, rfl, ?_⟩; conv => whnf)
      (refine ⟨_, rfl, ?_⟩; conv => whnf)
      (refine ⟨_, rfl, ?_⟩; conv => whnf)
      (refine ⟨_, rfl, ?_⟩; conv => whnf)
      have e : decide (((Nat.gcd a.natAbs b.natAbs : Nat) : Int) = 1) = decide (Nat.gcd a.natAbs b.natAbs = 1) := by
        rw [decide_eq_decide]
        omega
      refine ⟨_, fEq_int ((Nat.gcd a.natAbs b.natAbs : Nat) : Int) 1, ?_⟩
      rw [e]
      exact h _
    · rw [decide_eq_false hb, Bool.false_and] at h
      refine ⟨_, fGt_f hb, ?_⟩
      conv => whnf
      repeat (refine ⟨_, rfl, ?_⟩; conv => whnf)
      exact h _
theorem fil_bad (ds : List D) : (ds.filterMap fun d => if isI d = true then none else some d).isEmpty = ds.all isI := by
  induction ds with
  | nil => rfl
  | cons d ds ih =>
    rw [List.filterMap_cons, List.all_cons]
    cases h : isI d with
    | true => rw [if_pos rfl, Bool.true_and]; exact ih
    | false => rw [if_neg (by decide)]; rfl
theorem lcGo_filS {p : Pt} {tt : DT} {te : DE} {vs : List Nat} (g : D → Option D) {ρ : En} {Q : List D → En → Prop} (zs acc : List D) (h : ∀ z ∈ zs, ∀ Kt Kf, (∀ y, g z = some y → Kt y ρ) → (g z = none → Kf ρ) → stp p tt te vs z ρ Kt Kf) (hl : acc.length + zs.length ≤ sizeLine) (q : Q (acc ++ zs.filterMap g) ρ) : lcGo p tt te vs zs acc ρ Q := by
  have := lcGo_fil (p := p) (tt := tt) (te := te) (vs := vs) (fun d => d) g (ρ := ρ) (Q := Q) zs acc h hl q
  rwa [show zs.map (fun d => d) = zs from List.map_id' zs] at this
theorem a_law_row {d : D} {n : Int} (hd : okA d = true) : Ret w_law_is_row [.val d, .val (.int n)] (.bl (wholes n d)) := by
  intro Qd Ed h
  unfold w_law_is_row m_law_is_row
  cases d with
  | tup ds =>
    have e : wholes n (.tup ds) = (decide (((ds.length : Nat) : Int) = n) && ds.all isI) := rfl
    rw [e] at h
    conv => whnf
    (refine ⟨_, rfl, ?_⟩; conv => whnf)
    (refine ⟨_, rfl, ?_⟩; conv => whnf)
    (refine ⟨_, rfl, ?_⟩; conv => whnf)
    refine ⟨_, fEq_int ((ds.length : Nat) : Int) n, ?_⟩
    cases ht : decide (((ds.length : Nat) : Int) = n) with
    | false =>
      rw [ht, Bool.false_and] at h
      conv => whnf
      repeat (refine ⟨_, rfl, ?_⟩; conv => whnf)
      exact h _
    | true =>
      rw [ht, Bool.true_and] at h
      conv => whnf
      (refine ⟨_, rfl, ?_⟩; conv => whnf)
      have hd2 := okA_tup.mp hd
      refine ⟨rfl, ?_⟩
      refine lcGo_filS (fun d => if isI d = true then none else some d) ds [] (fun z hz Kt Kf h1 h2 => ?_) (ok_lineA hd2.1) ?_
      · conv => whnf
        refine a_lwhole (hd2.2 z hz) _ _ fun o => ?_
        cases hi : isI z with
        | true =>
          conv => whnf
          repeat (refine ⟨_, rfl, ?_⟩; conv => whnf)
          exact h2 (by rw [hi]; rfl)
        | false =>
          conv => whnf
          repeat (refine ⟨_, rfl, ?_⟩; conv => whnf)
          exact h1 _ (by rw [hi]; rfl)
      · rw [List.nil_append]
        conv => whnf
        refine ⟨small64 (by simp), ?_⟩
        conv => whnf
        refine ⟨_, rfl, ?_⟩
        rw [fil_bad]
        exact h _
  | fix _ => cases hd
  | ty _ => cases hd
  | obj _ _ _ => cases hd
  | adr _ => cases hd
  | rng _ _ => cases hd
  | _ =>
    conv => whnf
    repeat (refine ⟨_, rfl, ?_⟩; conv => whnf)
    exact h _
theorem fil_rows (n : Int) (ps : List D) : (ps.filterMap fun d => if wholes n d = true then none else some d).isEmpty = ps.all (wholes n) := by
  induction ps with
  | nil => rfl
  | cons d ds ih =>
    rw [List.filterMap_cons, List.all_cons]
    cases h : wholes n d with
    | true => rw [if_pos rfl, Bool.true_and]; exact ih
    | false => rw [if_neg (by decide)]; rfl
theorem fil_betw (n : Int) (ps : List D) : (ps.filterMap fun d => if betw n (-9999) 9999 d = true then none else some d).isEmpty = ps.all (betw n (-9999) 9999) := by
  induction ps with
  | nil => rfl
  | cons d ds ih =>
    rw [List.filterMap_cons, List.all_cons]
    cases h : betw n (-9999) 9999 d with
    | true => rw [if_pos rfl, Bool.true_and]; exact ih
    | false => rw [if_neg (by decide)]; rfl
end Lk80
set_option exponentiation.threshold 100000
namespace Lk80
open PySem PySem.Spec PyProof.Rows L2 DL TL
theorem isLst_notI {a b : D} (h : isI a = false) : isLst (.tup [a, b]) = false := by
  cases a <;> first | rfl | cases h
theorem lwhole_int {d : D} (h : isI d = true) : ∃ i, d = .int i := isI_int h
theorem wholes_in {n : Int} {ps : List D} (h : ps.all (wholes n) = true) : ∀ z ∈ ps, wholes n z = true := List.all_eq_true.mp h
theorem all_betw {n : Int} {ps : List D} (h : ps.all (wholes n) = false) : ps.all (betw n (-9999) 9999) = false := by
  rw [← Bool.not_eq_true, List.all_eq_true] at h ⊢
  intro z
  refine h fun d hd => ?_
  have := z d hd
  cases hw : wholes n d with
  | true => rfl
  | false => rw [betw_f hw] at this; cases this
/-- the last look: each pack's numbers within the bounds -/
theorem ll1 {n : Int} {ps : List D} (hn : 1 ≤ n) (hp : okA (.tup ps) = true) (hw : ps.all (wholes n) = true) {Dd : DEnds} (hD : ∀ ρ, Dd.rt (.val (.bl (ps.all (betw n (-9999) 9999)))) ρ) :
    m_law_is_list_1 Dd [some (.val (.tup [.int n, .tup ps])), none] := by
  have hp2 := okA_tup.mp hp
  unfold m_law_is_list_1
  conv => whnf
  (refine ⟨_, rfl, ?_⟩; conv => whnf)
  refine ⟨rfl, ?_⟩
  refine lcGo_filS (fun d => if betw n (-9999) 9999 d = true then none else some d) ps [] (fun z hz Kt Kf h1 h2 => ?_) (ok_lineA hp2.1) ?_
  · obtain ⟨xs, rfl, hx⟩ := wholes_t (wholes_in hw z hz)
    rw [betw_t hx] at h1 h2
    have hne : xs ≠ [] := fun e => by
      rw [e] at hx
      simp at hx
      omega
    obtain ⟨m, em, hm1, hm2⟩ := maxI_ex xs hne
    obtain ⟨u, eu, hu1, hu2⟩ : ∃ u, minI xs = some u ∧ u ∈ xs ∧ ∀ y ∈ xs, u ≤ y := by
      have : ∀ ns : List Int, ns ≠ [] → ∃ u, u ∈ ns ∧ ∀ y ∈ ns, u ≤ y := by
        intro ns
        induction ns with
        | nil => exact fun h => absurd rfl h
        | cons a ns ih =>
          intro _
          by_cases q : ns = []
          · rw [q]
            exact ⟨a, by simp, by simp⟩
          · obtain ⟨u, h1, h2⟩ := ih q
            by_cases c : a ≤ u
            · exact ⟨a, List.mem_cons_self, fun y hy => by
                rcases List.mem_cons.mp hy with rfl | hy
                · omega
                · have := h2 y hy
                  omega⟩
            · exact ⟨u, List.mem_cons_of_mem _ h1, fun y hy => by
                rcases List.mem_cons.mp hy with rfl | hy
                · omega
                · exact h2 y hy⟩
      obtain ⟨u, h1, h2⟩ := this xs hne
      exact ⟨u, minI_eq h1 h2, h1, h2⟩
    have e1 : fMaxT [ti xs] = some (.val (.int m)) := by
      show ((numsD (xs.map D.int)).bind fun ns => (maxI ns).map fun m => Cell.val (.int m)) = _
      rw [DL.ints_map]
      show (maxI xs).map _ = _
      rw [em]
      rfl
    have e2 : fMinT [ti xs] = some (.val (.int u)) := by
      show ((numsD (xs.map D.int)).bind fun ns => (minI ns).map fun m => Cell.val (.int m)) = _
      rw [DL.ints_map]
      show (minI xs).map _ = _
      rw [eu]
      rfl
    have key : (∀ x ∈ xs, -9999 ≤ x ∧ x ≤ 9999) ↔ (¬ 9999 < m ∧ ¬ u < -9999) := by
      constructor
      · intro h
        have := h m hm1
        have := h u hu1
        omega
      · rintro ⟨g1, g2⟩ x hx
        have := hm2 x hx
        have := hu2 x hx
        omega
    conv => whnf
    refine ⟨_, e1, ?_⟩
    conv => whnf
    by_cases c1 : 9999 < m
    · refine ⟨_, fGt_t (a := m) (b := 9999) c1, ?_⟩
      conv => whnf
      exact h1 _ (if_neg (by rw [decide_eq_true_eq, key]; exact fun z => z.1 c1))
    · refine ⟨_, fGt_f (a := m) (b := 9999) c1, ?_⟩
      conv => whnf
      refine ⟨_, e2, ?_⟩
      conv => whnf
      (refine ⟨_, rfl, ?_⟩; conv => whnf)
      by_cases c2 : u < -9999
      · refine ⟨_, fLt_t (a := u) (b := -9999) c2, ?_⟩
        conv => whnf
        exact h1 _ (if_neg (by rw [decide_eq_true_eq, key]; exact fun z => z.2 c2))
      · refine ⟨_, fLt_f (a := u) (b := -9999) c2, ?_⟩
        conv => whnf
        exact h2 (if_pos (by rw [decide_eq_true_eq, key]; exact ⟨c1, c2⟩))
  · rw [List.nil_append]
    conv => whnf
    refine ⟨small64 (by simp), ?_⟩
    conv => whnf
    refine ⟨_, rfl, ?_⟩
    rw [fil_betw]
    exact hD _
theorem ll2 {n : Int} {ps : List D} (hn : 1 ≤ n) (hp : okA (.tup ps) = true) {Dd : DEnds} (hD : ∀ ρ, Dd.rt (.val (.bl (decide (ps.length ≤ 8) && ps.all (betw n (-9999) 9999)))) ρ) :
    m_law_is_list_2 Dd [some (.val (.tup [.int n, .tup ps])), none] := by
  have hp2 := okA_tup.mp hp
  have lr := fun (d : D) (h : okA d = true) => a_law_row (n := n) h
  have l1 := fun (hw : ps.all (wholes n) = true) (Dd : DEnds) hD => ll1 hn hp hw (Dd := Dd) hD
  unfold m_law_is_list_2
  revert lr l1
  generalize w_law_is_row = W1
  generalize m_law_is_list_1 = M1
  revert W1 M1
  refine id ?_
  intro W1 M1 lr l1
  conv => whnf
  (refine ⟨_, rfl, ?_⟩; conv => whnf)
  (refine ⟨_, rfl, ?_⟩; conv => whnf)
  by_cases h8 : ps.length ≤ 8
  · rw [decide_eq_true h8, Bool.true_and] at hD
    refine ⟨_, fGt_f (a := ((ps.length : Nat) : Int)) (b := 8) (by omega), ?_⟩
    conv => whnf
    (refine ⟨_, rfl, ?_⟩; conv => whnf)
    refine ⟨rfl, ?_⟩
    refine lcGo_filS (fun d => if wholes n d = true then none else some d) ps [] (fun z hz Kt Kf h1 h2 => ?_) (ok_lineA hp2.1) ?_
    · conv => whnf
      (refine ⟨_, rfl, ?_⟩; conv => whnf)
      refine lr z (hp2.2 z hz) _ _ fun o => ?_
      cases hi : wholes n z with
      | true =>
        conv => whnf
        repeat (refine ⟨_, rfl, ?_⟩; conv => whnf)
        exact h2 (by rw [hi]; rfl)
      | false =>
        conv => whnf
        repeat (refine ⟨_, rfl, ?_⟩; conv => whnf)
        exact h1 _ (by rw [hi]; rfl)
    · rw [List.nil_append]
      conv => whnf
      refine ⟨small64 (by simp), ?_⟩
      conv => whnf
      refine ⟨_, rfl, ?_⟩
      rw [fil_rows]
      cases hw : ps.all (wholes n) with
      | true =>
        conv => whnf
        exact l1 hw _ hD
      | false =>
        rw [all_betw hw] at hD
        conv => whnf
        exact hD _
  · rw [decide_eq_false h8, Bool.false_and] at hD
    refine ⟨_, fGt_t (a := ((ps.length : Nat) : Int)) (b := 8) (by omega), ?_⟩
    conv => whnf
    exact hD _
theorem a_law_list {d : D} (hd : okA d = true) : Ret w_law_is_list [.val d] (.bl (isLst d)) := by
  intro Qd Ed h
  have lw := fun (d : D) (h : okA d = true) => a_lwhole h
  have l2 := fun (n : Int) (ps : List D) (hn : 1 ≤ n) (hp : okA (.tup ps) = true) (Dd : DEnds) hD => ll2 hn hp (Dd := Dd) hD
  unfold w_law_is_list m_law_is_list
  revert lw l2
  generalize w_law_is_whole = W1
  generalize m_law_is_list_2 = M2
  revert W1 M2
  refine id ?_
  intro W1 M2 lw l2
  cases d with
  | tup ds =>
    by_cases hl : ds.length = 2
    · obtain ⟨a, b, rfl⟩ := two_of hl
      have hd2 := (okA_tup.mp hd).2
      have ha : okA a = true := hd2 a (by simp)
      have hb : okA b = true := hd2 b (by simp)
      conv => whnf
      (refine ⟨_, rfl, ?_⟩; conv => whnf)
      (refine ⟨_, rfl, ?_⟩; conv => whnf)
      (refine ⟨_, rfl, ?_⟩; conv => whnf)
      refine ⟨_, fNe_int (([a, b].length : Nat) : Int) 2, ?_⟩
      rw [show (!decide ((([a, b].length : Nat) : Int) = 2)) = false from rfl]
      conv => whnf
      repeat (refine ⟨_, rfl, ?_⟩; conv => whnf)
      refine lw a ha _ _ fun o => ?_
      cases a with
      | int n =>
        conv => whnf
        (refine ⟨_, rfl, ?_⟩; conv => whnf)
        (refine ⟨_, rfl, ?_⟩; conv => whnf)
        by_cases h0 : n < 1
        · have e : isLst (.tup [.int n, b]) = false := isLst_n (by
            show (decide (1 ≤ n) && decide (n ≤ 6)) = false
            rw [decide_eq_false (by omega : ¬ 1 ≤ n), Bool.false_and])
          rw [e] at h
          refine ⟨_, fLt_t h0, ?_⟩
          conv => whnf
          repeat (refine ⟨_, rfl, ?_⟩; conv => whnf)
          exact h _
        · refine ⟨_, fLt_f h0, ?_⟩
          conv => whnf
          (refine ⟨_, rfl, ?_⟩; conv => whnf)
          by_cases h7 : 6 < n
          · have e : isLst (.tup [.int n, b]) = false := isLst_n (by
              show (decide (1 ≤ n) && decide (n ≤ 6)) = false
              rw [decide_eq_false (by omega : ¬ n ≤ 6), Bool.and_false])
            rw [e] at h
            refine ⟨_, fGt_t h7, ?_⟩
            conv => whnf
            repeat (refine ⟨_, rfl, ?_⟩; conv => whnf)
            exact h _
          · refine ⟨_, fGt_f h7, ?_⟩
            have hi : (decide (1 ≤ n) && decide (n ≤ 6)) = true := by
              rw [decide_eq_true (by omega : 1 ≤ n), decide_eq_true (by omega : n ≤ 6)]
              rfl
            conv => whnf
            cases b with
            | tup ps =>
              have e2 : isLst (.tup [.int n, .tup ps]) = (decide (ps.length ≤ 8) && ps.all (betw n (-9999) 9999)) := by
                show (decide (1 ≤ n) && decide (n ≤ 6) && _ && _) = _
                rw [hi, Bool.true_and]
              rw [e2] at h
              conv => whnf
              (refine ⟨_, rfl, ?_⟩; conv => whnf)
              (refine ⟨_, rfl, ?_⟩; conv => whnf)
              (refine ⟨_, rfl, ?_⟩; conv => whnf)
              exact l2 n ps (by omega) hb _ fun ρ => h _
            | fix _ => cases hb
            | ty _ => cases hb
            | obj _ _ _ => cases hb
            | adr _ => cases hb
            | rng _ _ => cases hb
            | _ =>
              conv => whnf
              repeat (refine ⟨_, rfl, ?_⟩; conv => whnf)
              exact h _
      | fix _ => cases ha
      | ty _ => cases ha
      | obj _ _ _ => cases ha
      | adr _ => cases ha
      | rng _ _ => cases ha
      | _ =>
        rw [isLst_notI] at h
        · conv => whnf
          repeat (refine ⟨_, rfl, ?_⟩; conv => whnf)
          exact h _
        · rfl
    · rw [isLst_len hl] at h
      conv => whnf
      (refine ⟨_, rfl, ?_⟩; conv => whnf)
      (refine ⟨_, rfl, ?_⟩; conv => whnf)
      (refine ⟨_, rfl, ?_⟩; conv => whnf)
      refine ⟨_, fNe_int ((ds.length : Nat) : Int) 2, ?_⟩
      rw [show (!decide (((ds.length : Nat) : Int) = 2)) = true by rw [decide_eq_false (by omega)]; rfl]
      conv => whnf
      repeat (refine ⟨_, rfl, ?_⟩; conv => whnf)
      exact h _
  | fix _ => cases hd
  | ty _ => cases hd
  | obj _ _ _ => cases hd
  | adr _ => cases hd
  | rng _ _ => cases hd
  | _ =>
    conv => whnf
    repeat (refine ⟨_, rfl, ?_⟩; conv => whnf)
    exact h _
end Lk80
set_option exponentiation.threshold 100000
namespace Lk80
open PySem PySem.Spec PyProof.Rows L2 DL TL
/-- it ends with something; it raises an error of that class, with that -/
def Okay (w : DSp) (cs : List Cell) : Prop := ∀ (Qd : Cell → Outs → Prop) (Ed : Str → List (Str × D) → Outs → Prop), (∀ c o, Qd c o) → w cs Qd Ed
def Bad (w : DSp) (cs : List Cell) (x : Str) (d : D) : Prop := ∀ (Qd : Cell → Outs → Prop) (Ed : Str → List (Str × D) → Outs → Prop), (∀ o, Ed x [(Str.ofString "given", d)] o) → w cs Qd Ed
theorem Okay.of {w : DSp} {cs : List Cell} {d : D} (h : Ret w cs d) : Okay w cs := fun Qd Ed k => h Qd Ed fun o => k _ o
theorem ask_row_ok {d : D} {b : Bool} (h : Okay w_row_text [.val d]) : Okay w_law_ask [.val (.str (Str.ofString "row")), .val (.lst [d]), .val (.bl b)] := by
  intro Qd Ed k
  unfold w_law_ask m_law_ask m_law_ask_3 m_law_ask_2 m_law_ask_1
  revert h
  generalize w_row_text = W1
  revert W1
  refine id ?_
  intro W1 h
  conv => whnf
  refine ⟨_, fEq_str (okT_lit (by decide)) (okT_lit (by decide)), ?_⟩
  rw [decide_eq_true rfl]
  conv => whnf
  cases b
  · conv => whnf
    repeat (refine ⟨_, rfl, ?_⟩; conv => whnf)
    exact h _ _ fun c o => k _ _
  · conv => whnf
    repeat (refine ⟨_, rfl, ?_⟩; conv => whnf)
    exact h _ _ fun c o => k _ _
theorem ask_row_bad {d : D} {b : Bool} {x : Str} (h : Bad w_row_text [.val d] x d) : Bad w_law_ask [.val (.str (Str.ofString "row")), .val (.lst [d]), .val (.bl b)] x d := by
  intro Qd Ed k
  unfold w_law_ask m_law_ask m_law_ask_3 m_law_ask_2 m_law_ask_1
  revert h
  generalize w_row_text = W1
  revert W1
  refine id ?_
  intro W1 h
  conv => whnf
  refine ⟨_, fEq_str (okT_lit (by decide)) (okT_lit (by decide)), ?_⟩
  rw [decide_eq_true rfl]
  conv => whnf
  cases b
  · conv => whnf
    repeat (refine ⟨_, rfl, ?_⟩; conv => whnf)
    exact h _ _ fun o => k _
  · conv => whnf
    repeat (refine ⟨_, rfl, ?_⟩; conv => whnf)
    exact h _ _ fun o => k _
theorem ask_fraction_ok {d : D} {b : Bool} (h : Okay w_fraction_text [.val d]) : Okay w_law_ask [.val (.str (Str.ofString "fraction")), .val (.lst [d]), .val (.bl b)] := by
  intro Qd Ed k
  unfold w_law_ask m_law_ask m_law_ask_3 m_law_ask_2 m_law_ask_1
  revert h
  generalize w_fraction_text = W1
  revert W1
  refine id ?_
  intro W1 h
  conv => whnf
  refine ⟨_, fEq_str (okT_lit (by decide)) (okT_lit (by decide)), ?_⟩
  rw [decide_eq_false (by decide)]
  conv => whnf
  refine ⟨_, fEq_str (okT_lit (by decide)) (okT_lit (by decide)), ?_⟩
  rw [decide_eq_true rfl]
  conv => whnf
  cases b
  · conv => whnf
    repeat (refine ⟨_, rfl, ?_⟩; conv => whnf)
    exact h _ _ fun c o => k _ _
  · conv => whnf
    repeat (refine ⟨_, rfl, ?_⟩; conv => whnf)
    exact h _ _ fun c o => k _ _
theorem ask_fraction_bad {d : D} {b : Bool} {x : Str} (h : Bad w_fraction_text [.val d] x d) : Bad w_law_ask [.val (.str (Str.ofString "fraction")), .val (.lst [d]), .val (.bl b)] x d := by
  intro Qd Ed k
  unfold w_law_ask m_law_ask m_law_ask_3 m_law_ask_2 m_law_ask_1
  revert h
  generalize w_fraction_text = W1
  revert W1
  refine id ?_
  intro W1 h
  conv => whnf
  refine ⟨_, fEq_str (okT_lit (by decide)) (okT_lit (by decide)), ?_⟩
  rw [decide_eq_false (by decide)]
  conv => whnf
  refine ⟨_, fEq_str (okT_lit (by decide)) (okT_lit (by decide)), ?_⟩
  rw [decide_eq_true rfl]
  conv => whnf
  cases b
  · conv => whnf
    repeat (refine ⟨_, rfl, ?_⟩; conv => whnf)
    exact h _ _ fun o => k _
  · conv => whnf
    repeat (refine ⟨_, rfl, ?_⟩; conv => whnf)
    exact h _ _ fun o => k _
theorem ask_list_ok {d : D} {b : Bool} (h : Okay w_list_text [.val d]) : Okay w_law_ask [.val (.str (Str.ofString "list")), .val (.lst [d]), .val (.bl b)] := by
  intro Qd Ed k
  unfold w_law_ask m_law_ask m_law_ask_3 m_law_ask_2 m_law_ask_1
  revert h
  generalize w_list_text = W1
  revert W1
  refine id ?_
  intro W1 h
  conv => whnf
  refine ⟨_, fEq_str (okT_lit (by decide)) (okT_lit (by decide)), ?_⟩
  rw [decide_eq_false (by decide)]
  conv => whnf
  refine ⟨_, fEq_str (okT_lit (by decide)) (okT_lit (by decide)), ?_⟩
  rw [decide_eq_false (by decide)]
  conv => whnf
  refine ⟨_, fEq_str (okT_lit (by decide)) (okT_lit (by decide)), ?_⟩
  rw [decide_eq_true rfl]
  conv => whnf
  cases b
  · conv => whnf
    repeat (refine ⟨_, rfl, ?_⟩; conv => whnf)
    exact h _ _ fun c o => k _ _
  · conv => whnf
    repeat (refine ⟨_, rfl, ?_⟩; conv => whnf)
    exact h _ _ fun c o => k _ _
theorem ask_list_bad {d : D} {b : Bool} {x : Str} (h : Bad w_list_text [.val d] x d) : Bad w_law_ask [.val (.str (Str.ofString "list")), .val (.lst [d]), .val (.bl b)] x d := by
  intro Qd Ed k
  unfold w_law_ask m_law_ask m_law_ask_3 m_law_ask_2 m_law_ask_1
  revert h
  generalize w_list_text = W1
  revert W1
  refine id ?_
  intro W1 h
  conv => whnf
  refine ⟨_, fEq_str (okT_lit (by decide)) (okT_lit (by decide)), ?_⟩
  rw [decide_eq_false (by decide)]
  conv => whnf
  refine ⟨_, fEq_str (okT_lit (by decide)) (okT_lit (by decide)), ?_⟩
  rw [decide_eq_false (by decide)]
  conv => whnf
  refine ⟨_, fEq_str (okT_lit (by decide)) (okT_lit (by decide)), ?_⟩
  rw [decide_eq_true rfl]
  conv => whnf
  cases b
  · conv => whnf
    repeat (refine ⟨_, rfl, ?_⟩; conv => whnf)
    exact h _ _ fun o => k _
  · conv => whnf
    repeat (refine ⟨_, rfl, ?_⟩; conv => whnf)
    exact h _ _ fun o => k _
theorem ask_read_ok {d : D} {b : Bool} (h : Okay w_read_list [.val d]) : Okay w_law_ask [.val (.str (Str.ofString "read")), .val (.lst [d]), .val (.bl b)] := by
  intro Qd Ed k
  unfold w_law_ask m_law_ask m_law_ask_3 m_law_ask_2 m_law_ask_1
  revert h
  generalize w_read_list = W1
  revert W1
  refine id ?_
  intro W1 h
  conv => whnf
  refine ⟨_, fEq_str (okT_lit (by decide)) (okT_lit (by decide)), ?_⟩
  rw [decide_eq_false (by decide)]
  conv => whnf
  refine ⟨_, fEq_str (okT_lit (by decide)) (okT_lit (by decide)), ?_⟩
  rw [decide_eq_false (by decide)]
  conv => whnf
  refine ⟨_, fEq_str (okT_lit (by decide)) (okT_lit (by decide)), ?_⟩
  rw [decide_eq_false (by decide)]
  conv => whnf
  cases b
  · conv => whnf
    repeat (refine ⟨_, rfl, ?_⟩; conv => whnf)
    exact h _ _ fun c o => k _ _
  · conv => whnf
    repeat (refine ⟨_, rfl, ?_⟩; conv => whnf)
    exact h _ _ fun c o => k _ _
theorem ask_read_bad {d : D} {b : Bool} {x : Str} (h : Bad w_read_list [.val d] x d) : Bad w_law_ask [.val (.str (Str.ofString "read")), .val (.lst [d]), .val (.bl b)] x d := by
  intro Qd Ed k
  unfold w_law_ask m_law_ask m_law_ask_3 m_law_ask_2 m_law_ask_1
  revert h
  generalize w_read_list = W1
  revert W1
  refine id ?_
  intro W1 h
  conv => whnf
  refine ⟨_, fEq_str (okT_lit (by decide)) (okT_lit (by decide)), ?_⟩
  rw [decide_eq_false (by decide)]
  conv => whnf
  refine ⟨_, fEq_str (okT_lit (by decide)) (okT_lit (by decide)), ?_⟩
  rw [decide_eq_false (by decide)]
  conv => whnf
  refine ⟨_, fEq_str (okT_lit (by decide)) (okT_lit (by decide)), ?_⟩
  rw [decide_eq_false (by decide)]
  conv => whnf
  cases b
  · conv => whnf
    repeat (refine ⟨_, rfl, ?_⟩; conv => whnf)
    exact h _ _ fun o => k _
  · conv => whnf
    repeat (refine ⟨_, rfl, ?_⟩; conv => whnf)
    exact h _ _ fun o => k _
theorem ask_viv_row_ok {d : D} {b : Bool} (h : Okay w_row_text [.val d]) : Okay w_law_ask_viv [.val (.str (Str.ofString "row")), .own [d], .val (.bl b)] := by
  intro Qd Ed k
  unfold w_law_ask_viv m_law_ask_viv m_law_ask_viv_3 m_law_ask_viv_2 m_law_ask_viv_1
  revert h
  generalize w_row_text = W1
  revert W1
  refine id ?_
  intro W1 h
  conv => whnf
  refine ⟨_, fEq_str (okT_lit (by decide)) (okT_lit (by decide)), ?_⟩
  rw [decide_eq_true rfl]
  conv => whnf
  cases b
  · conv => whnf
    repeat (refine ⟨_, rfl, ?_⟩; conv => whnf)
    exact h _ _ fun c o => k _ _
  · conv => whnf
    repeat (refine ⟨_, rfl, ?_⟩; conv => whnf)
    exact h _ _ fun c o => k _ _
theorem ask_viv_row_bad {d : D} {b : Bool} {x : Str} (h : Bad w_row_text [.val d] x d) : Bad w_law_ask_viv [.val (.str (Str.ofString "row")), .own [d], .val (.bl b)] x d := by
  intro Qd Ed k
  unfold w_law_ask_viv m_law_ask_viv m_law_ask_viv_3 m_law_ask_viv_2 m_law_ask_viv_1
  revert h
  generalize w_row_text = W1
  revert W1
  refine id ?_
  intro W1 h
  conv => whnf
  refine ⟨_, fEq_str (okT_lit (by decide)) (okT_lit (by decide)), ?_⟩
  rw [decide_eq_true rfl]
  conv => whnf
  cases b
  · conv => whnf
    repeat (refine ⟨_, rfl, ?_⟩; conv => whnf)
    exact h _ _ fun o => k _
  · conv => whnf
    repeat (refine ⟨_, rfl, ?_⟩; conv => whnf)
    exact h _ _ fun o => k _
theorem ask_viv_fraction_ok {d : D} {b : Bool} (h : Okay w_fraction_text [.val d]) : Okay w_law_ask_viv [.val (.str (Str.ofString "fraction")), .own [d], .val (.bl b)] := by
  intro Qd Ed k
  unfold w_law_ask_viv m_law_ask_viv m_law_ask_viv_3 m_law_ask_viv_2 m_law_ask_viv_1
  revert h
  generalize w_fraction_text = W1
  revert W1
  refine id ?_
  intro W1 h
  conv => whnf
  refine ⟨_, fEq_str (okT_lit (by decide)) (okT_lit (by decide)), ?_⟩
  rw [decide_eq_false (by decide)]
  conv => whnf
  refine ⟨_, fEq_str (okT_lit (by decide)) (okT_lit (by decide)), ?_⟩
  rw [decide_eq_true rfl]
  conv => whnf
  cases b
  · conv => whnf
    repeat (refine ⟨_, rfl, ?_⟩; conv => whnf)
    exact h _ _ fun c o => k _ _
  · conv => whnf
    repeat (refine ⟨_, rfl, ?_⟩; conv => whnf)
    exact h _ _ fun c o => k _ _
theorem ask_viv_fraction_bad {d : D} {b : Bool} {x : Str} (h : Bad w_fraction_text [.val d] x d) : Bad w_law_ask_viv [.val (.str (Str.ofString "fraction")), .own [d], .val (.bl b)] x d := by
  intro Qd Ed k
  unfold w_law_ask_viv m_law_ask_viv m_law_ask_viv_3 m_law_ask_viv_2 m_law_ask_viv_1
  revert h
  generalize w_fraction_text = W1
  revert W1
  refine id ?_
  intro W1 h
  conv => whnf
  refine ⟨_, fEq_str (okT_lit (by decide)) (okT_lit (by decide)), ?_⟩
  rw [decide_eq_false (by decide)]
  conv => whnf
  refine ⟨_, fEq_str (okT_lit (by decide)) (okT_lit (by decide)), ?_⟩
  rw [decide_eq_true rfl]
  conv => whnf
  cases b
  · conv => whnf
    repeat (refine ⟨_, rfl, ?_⟩; conv => whnf)
    exact h _ _ fun o => k _
  · conv => whnf
    repeat (refine ⟨_, rfl, ?_⟩; conv => whnf)
    exact h _ _ fun o => k _
theorem ask_viv_list_ok {d : D} {b : Bool} (h : Okay w_list_text [.val d]) : Okay w_law_ask_viv [.val (.str (Str.ofString "list")), .own [d], .val (.bl b)] := by
  intro Qd Ed k
  unfold w_law_ask_viv m_law_ask_viv m_law_ask_viv_3 m_law_ask_viv_2 m_law_ask_viv_1
  revert h
  generalize w_list_text = W1
  revert W1
  refine id ?_
  intro W1 h
  conv => whnf
  refine ⟨_, fEq_str (okT_lit (by decide)) (okT_lit (by decide)), ?_⟩
  rw [decide_eq_false (by decide)]
  conv => whnf
  refine ⟨_, fEq_str (okT_lit (by decide)) (okT_lit (by decide)), ?_⟩
  rw [decide_eq_false (by decide)]
  conv => whnf
  refine ⟨_, fEq_str (okT_lit (by decide)) (okT_lit (by decide)), ?_⟩
  rw [decide_eq_true rfl]
  conv => whnf
  cases b
  · conv => whnf
    repeat (refine ⟨_, rfl, ?_⟩; conv => whnf)
    exact h _ _ fun c o => k _ _
  · conv => whnf
    repeat (refine ⟨_, rfl, ?_⟩; conv => whnf)
    exact h _ _ fun c o => k _ _
theorem ask_viv_list_bad {d : D} {b : Bool} {x : Str} (h : Bad w_list_text [.val d] x d) : Bad w_law_ask_viv [.val (.str (Str.ofString "list")), .own [d], .val (.bl b)] x d := by
  intro Qd Ed k
  unfold w_law_ask_viv m_law_ask_viv m_law_ask_viv_3 m_law_ask_viv_2 m_law_ask_viv_1
  revert h
  generalize w_list_text = W1
  revert W1
  refine id ?_
  intro W1 h
  conv => whnf
  refine ⟨_, fEq_str (okT_lit (by decide)) (okT_lit (by decide)), ?_⟩
  rw [decide_eq_false (by decide)]
  conv => whnf
  refine ⟨_, fEq_str (okT_lit (by decide)) (okT_lit (by decide)), ?_⟩
  rw [decide_eq_false (by decide)]
  conv => whnf
  refine ⟨_, fEq_str (okT_lit (by decide)) (okT_lit (by decide)), ?_⟩
  rw [decide_eq_true rfl]
  conv => whnf
  cases b
  · conv => whnf
    repeat (refine ⟨_, rfl, ?_⟩; conv => whnf)
    exact h _ _ fun o => k _
  · conv => whnf
    repeat (refine ⟨_, rfl, ?_⟩; conv => whnf)
    exact h _ _ fun o => k _
theorem ask_viv_read_ok {d : D} {b : Bool} (h : Okay w_read_list [.val d]) : Okay w_law_ask_viv [.val (.str (Str.ofString "read")), .own [d], .val (.bl b)] := by
  intro Qd Ed k
  unfold w_law_ask_viv m_law_ask_viv m_law_ask_viv_3 m_law_ask_viv_2 m_law_ask_viv_1
  revert h
  generalize w_read_list = W1
  revert W1
  refine id ?_
  intro W1 h
  conv => whnf
  refine ⟨_, fEq_str (okT_lit (by decide)) (okT_lit (by decide)), ?_⟩
  rw [decide_eq_false (by decide)]
  conv => whnf
  refine ⟨_, fEq_str (okT_lit (by decide)) (okT_lit (by decide)), ?_⟩
  rw [decide_eq_false (by decide)]
  conv => whnf
  refine ⟨_, fEq_str (okT_lit (by decide)) (okT_lit (by decide)), ?_⟩
  rw [decide_eq_false (by decide)]
  conv => whnf
  cases b
  · conv => whnf
    repeat (refine ⟨_, rfl, ?_⟩; conv => whnf)
    exact h _ _ fun c o => k _ _
  · conv => whnf
    repeat (refine ⟨_, rfl, ?_⟩; conv => whnf)
    exact h _ _ fun c o => k _ _
theorem ask_viv_read_bad {d : D} {b : Bool} {x : Str} (h : Bad w_read_list [.val d] x d) : Bad w_law_ask_viv [.val (.str (Str.ofString "read")), .own [d], .val (.bl b)] x d := by
  intro Qd Ed k
  unfold w_law_ask_viv m_law_ask_viv m_law_ask_viv_3 m_law_ask_viv_2 m_law_ask_viv_1
  revert h
  generalize w_read_list = W1
  revert W1
  refine id ?_
  intro W1 h
  conv => whnf
  refine ⟨_, fEq_str (okT_lit (by decide)) (okT_lit (by decide)), ?_⟩
  rw [decide_eq_false (by decide)]
  conv => whnf
  refine ⟨_, fEq_str (okT_lit (by decide)) (okT_lit (by decide)), ?_⟩
  rw [decide_eq_false (by decide)]
  conv => whnf
  refine ⟨_, fEq_str (okT_lit (by decide)) (okT_lit (by decide)), ?_⟩
  rw [decide_eq_false (by decide)]
  conv => whnf
  cases b
  · conv => whnf
    repeat (refine ⟨_, rfl, ?_⟩; conv => whnf)
    exact h _ _ fun o => k _
  · conv => whnf
    repeat (refine ⟨_, rfl, ?_⟩; conv => whnf)
    exact h _ _ fun o => k _
end Lk80
set_option exponentiation.threshold 100000
namespace Lk80
open PySem PySem.Spec PyProof.Rows L2 DL TL
theorem progX_no {x : Str} (h : Txt.endswith x nl1 = false) : progX x = none := by
  unfold progX
  rw [h]
  rfl
theorem progX_is {x y : Str} {ys : List Str} (h : Txt.endswith x nl1 = true) (h2 : Txt.split (cutS x none (some (-1))) nl1 = y :: ys) : progX x = progR (y :: ys) := by
  unfold progX
  rw [h, h2]
  rfl
theorem sz_rd (m : Int) (ps : List (List Int)) : Sz 4 (rdD m ps) := fun d hd => by
  simp only [List.mem_cons, List.not_mem_nil, or_false] at hd
  rcases hd with rfl | rfl
  · trivial
  · exact sz_tt 0 ps
theorem fEq_one (m : Int) (ps : List (List Int)) : fEq (.lst [rdD m ps]) (.lst []) = some (.val (.bl false)) := by
  have o1 : eqOk (.lst [rdD m ps]) = true := sz_eqOk (n := 5) (by decide) (fun d hd => by
    have : d = rdD m ps := by simpa using hd
    rw [this]
    exact sz_rd m ps)
  exact (if_pos ⟨o1, rfl⟩).trans rfl
theorem s_read_list {x : Str} (h : Tk x) {Qd : Cell → Outs → Prop} {Ed : Str → List (Str × D) → Outs → Prop} (h1 : ∀ m ps o, progX x = some (m, ps) → Qd (.val (rdD m ps)) o) (h2 : ∀ o, progX x = none → Ed (Str.ofString "InvalidText") [(Str.ofString "given", .str x)] o) : w_read_list [.val (.str x)] Qd Ed := by
  have wt := s_with_text h
  unfold w_read_list m_read_list m_read_list_2 m_read_list_1
  revert wt
  generalize w_list_with_text = W1
  revert W1
  refine id ?_
  intro W1 wt
  conv => whnf
  repeat (refine ⟨_, rfl, ?_⟩; conv => whnf)
  refine wt _ _ fun o => ?_
  cases hp : progX x with
  | none =>
    have h2 := fun o => h2 o hp
    conv => whnf
    refine ⟨small64 (by simp), ?_⟩
    conv => whnf
    refine ⟨_, fEq_rows0 [], ?_⟩
    conv => whnf
    repeat (refine ⟨_, rfl, ?_⟩; conv => whnf)
    exact h2 _
  | some z =>
    obtain ⟨m, ps⟩ := z
    have h1 := fun o => h1 m ps o hp
    conv => whnf
    refine ⟨small64 (by simp), ?_⟩
    conv => whnf
    refine ⟨_, fEq_one m ps, ?_⟩
    conv => whnf
    refine ⟨_, fIx_lst (k := 0) (d := rdD m ps) rfl, ?_⟩
    exact h1 _
theorem progX_of {x : Str} {ps : List Str} (h : cutAt 10 (tl x) = (ps ++ [no1]).map tl) (hn : ps ≠ []) : progX x = progR ps := by
  have hs : Txt.split x nl1 = ps ++ [no1] := map_tl_inj ((rows_map x).trans h)
  rcases ends_cases x with ⟨_, hc⟩ | ⟨y, ys, e, e2, e3⟩
  · rw [hs] at hc
    rcases hc with hc | hc
    · rw [List.length_append, List.length_singleton] at hc
      cases ps with
      | nil => exact absurd rfl hn
      | cons a b => rw [List.length_cons] at hc; omega
    · exact (hc (List.getLast?_concat (l := ps) (a := no1))).elim
  · rw [hs] at e2
    rw [List.append_cancel_right e2]
    exact progX_is e e3
theorem headI_no {y w0 : Str} {ws : List Str} (h : cutAt 32 (tl y) = (w0 :: ws).map tl) (hc : ¬ (w0 = goodsW ∧ ws.all isNum = true ∧ ws.length = 1)) : headI y = none := by
  have hs : Txt.split y bl1 = w0 :: ws := map_tl_inj ((words_map y).trans h)
  unfold headI
  rw [hs]
  exact if_neg hc
theorem progR_head {y : Str} {ys : List Str} (h : headI y = none) : progR (y :: ys) = none := by
  show progC (headI y) (allR ys) = none
  rw [h]
  cases allR ys <;> rfl
theorem progX_end {x : Str} (h : decide ((tl x).getLast? = some 10) = false) : progX x = none := progX_no (by rw [endsw]; exact h)
theorem ne_goods {w : Str} {ws : List Str} (h : tl w ≠ tl goodsW) : ¬ (w = goodsW ∧ ws.all isNum = true ∧ ws.length = 1) := fun z => h (by rw [z.1])
theorem n1 : progX (Str.ofString "\n") = none := (progX_of (ps := [Str.ofString ""]) (by decide +kernel) (by simp)).trans (progR_head (headI_no (w0 := Str.ofString "") (ws := []) (by decide +kernel) (ne_goods (by decide))))
theorem tk_short {x : Str} (h : okT x) (hl : x.length ≤ 640) : Tk x := ⟨h, by omega, fun y hy => Nat.le_trans (part_len tl_end (by decide +kernel) hy) hl⟩
theorem read_bad {d : D} (hd : okA d = true) (h : ∀ x, d = .str x → okT x ∧ x.length ≤ 640 ∧ progX x = none) : Bad w_read_list [.val d] (Str.ofString "InvalidText") d := by
  intro Qd Ed k
  cases d with
  | str x =>
    obtain ⟨h1, h2, h3⟩ := h x rfl
    exact s_read_list (tk_short h1 h2) (fun m ps o e => by rw [h3] at e; cases e) fun o _ => k o
  | fix _ => cases hd
  | ty _ => cases hd
  | obj _ _ _ => cases hd
  | adr _ => cases hd
  | rng _ _ => cases hd
  | _ =>
    unfold w_read_list m_read_list m_read_list_2 m_read_list_1
    conv => whnf
    repeat (refine ⟨_, rfl, ?_⟩; conv => whnf)
    refine ⟨small64 (by simp), ?_⟩
    conv => whnf
    refine ⟨small64 (by simp), ?_⟩
    conv => whnf
    refine ⟨_, fEq_rows0 [], ?_⟩
    conv => whnf
    repeat (refine ⟨_, rfl, ?_⟩; conv => whnf)
    exact k _
theorem read_ok {x : Str} {z : Int × List (List Int)} (h1 : okT x) (h2 : x.length ≤ 640) (h3 : progX x = some z) : Okay w_read_list [.val (.str x)] := fun Qd Ed k => s_read_list (tk_short h1 h2) (fun m ps o e => k _ o) fun o e => by rw [h3] at e; cases e
theorem row_is {r : List Int} (h : Rb r) : Ret w_row_text [.val (ti r)] (.str (rowT r)) := by
  intro Qd Ed k
  have hl := h.l
  have aw := fun (n : Int) => a_are_wholes (d := ti r) (n := n) (okA_tup.mpr ⟨by rw [List.length_map]; omega, fun d hd => by
    obtain ⟨x, _, rfl⟩ := List.mem_map.mp hd
    rfl⟩)
  have tx := s_text_of_row h
  have ew : wholes ((r.map D.int).length : Nat) (ti r) = true := by
    show (decide _ && (r.map D.int).all isI) = true
    rw [decide_eq_true rfl, Bool.true_and, List.all_map]
    exact List.all_eq_true.mpr fun _ _ => rfl
  have e0 : fEq0 (ti r) (.tup []) = some (.val (.bl false)) := by
    show some (Cell.val (D.bl (r.map D.int).isEmpty)) = _
    have := h.n
    cases r with
    | nil => exact absurd rfl this
    | cons x xs => rfl
  unfold w_row_text m_row_text m_row_text_1
  revert aw tx
  generalize w_are_wholes = W1
  generalize w_text_of_row = W2
  revert W1 W2
  refine id ?_
  intro W1 W2 aw tx
  conv => whnf
  (refine ⟨_, rfl, ?_⟩; conv => whnf)
  (refine ⟨_, rfl, ?_⟩; conv => whnf)
  refine ⟨small64 (by simp), ?_⟩
  conv => whnf
  refine ⟨_, e0, ?_⟩
  conv => whnf
  repeat (refine ⟨_, rfl, ?_⟩; conv => whnf)
  refine aw _ _ _ fun o => ?_
  rw [ew]
  conv => whnf
  repeat (refine ⟨_, rfl, ?_⟩; conv => whnf)
  refine tx _ _ fun o => ?_
  exact k _
theorem row_bad {d : D} (hd : okA d = true) (h : ∀ r, d = ti r → r = []) : Bad w_row_text [.val d] (Str.ofString "InvalidOrder") d := by
  intro Qd Ed k
  cases d with
  | tup ds =>
    have hd2 := okA_tup.mp hd
    have aw := fun (n : Int) => a_are_wholes (d := .tup ds) (n := n) hd
    unfold w_row_text m_row_text m_row_text_1
    revert aw
    generalize w_are_wholes = W1
    revert W1
    refine id ?_
    intro W1 aw
    conv => whnf
    (refine ⟨_, rfl, ?_⟩; conv => whnf)
    (refine ⟨_, rfl, ?_⟩; conv => whnf)
    refine ⟨small64 (by simp), ?_⟩
    conv => whnf
    refine ⟨_, rfl, ?_⟩
    cases ds with
    | nil =>
      conv => whnf
      repeat (refine ⟨_, rfl, ?_⟩; conv => whnf)
      exact k _
    | cons x xs =>
      conv => whnf
      (refine ⟨_, rfl, ?_⟩; conv => whnf)
      refine aw _ _ _ fun o => ?_
      have ew : wholes (((x :: xs).length : Nat) : Int) (.tup (x :: xs)) = false := by
        cases q : wholes (((x :: xs).length : Nat) : Int) (.tup (x :: xs)) with
        | false => rfl
        | true =>
          obtain ⟨r, e, _⟩ := wholes_t q
          have := h r e
          rw [this] at e
          cases e
      rw [ew]
      conv => whnf
      repeat (refine ⟨_, rfl, ?_⟩; conv => whnf)
      exact k _
  | fix _ => cases hd
  | ty _ => cases hd
  | obj _ _ _ => cases hd
  | adr _ => cases hd
  | rng _ _ => cases hd
  | _ =>
    unfold w_row_text m_row_text m_row_text_1
    conv => whnf
    repeat (refine ⟨_, rfl, ?_⟩; conv => whnf)
    exact k _
/-- the text of a fraction -/
def fracT (a b : Int) : Str := if b = 1 then numT a else (numT a ++ Str.ofString "/") ++ numT b
theorem frac_is {a b : Int} (h : isFr (ti [a, b]) = true) (ha : a.natAbs < 10 ^ 41) (hb : b.natAbs < 10 ^ 41) : Ret w_fraction_text [.val (ti [a, b])] (.str (fracT a b)) := by
  intro Qd Ed k
  have af := a_is_fraction (d := ti [a, b]) rfl
  have l1 := len_numB ha
  have l2 := len_numB hb
  have ls : (Str.ofString "/").length = 1 := by decide
  unfold w_fraction_text m_fraction_text m_fraction_text_1 w_text_of_fraction m_text_of_fraction
  revert af
  generalize w_is_fraction = W1
  revert W1
  refine id ?_
  intro W1 af
  conv => whnf
  refine af _ _ fun o => ?_
  rw [h]
  conv => whnf
  (refine ⟨_, rfl, ?_⟩; conv => whnf)
  (refine ⟨_, rfl, ?_⟩; conv => whnf)
  refine ⟨_, fEq_int b 1, ?_⟩
  unfold fracT at k
  by_cases q : b = 1
  · rw [if_pos q] at k
    rw [decide_eq_true q]
    conv => whnf
    (refine ⟨_, rfl, ?_⟩; conv => whnf)
    refine ⟨_, gStr_num ha, ?_⟩
    exact k _
  · rw [if_neg q] at k
    rw [decide_eq_false q]
    conv => whnf
    (refine ⟨_, rfl, ?_⟩; conv => whnf)
    refine ⟨_, gStr_num ha, ?_⟩
    conv => whnf
    refine ⟨_, fAdd_str (big64 (by omega)), ?_⟩
    conv => whnf
    (refine ⟨_, rfl, ?_⟩; conv => whnf)
    refine ⟨_, gStr_num hb, ?_⟩
    conv => whnf
    refine ⟨_, fAdd_str (big64 (by rw [str_len]; omega)), ?_⟩
    exact k _
theorem frac_bad {d : D} (hd : okA d = true) (h : isFr d = false) : Bad w_fraction_text [.val d] (Str.ofString "InvalidNumber") d := by
  intro Qd Ed k
  have af := a_is_fraction hd
  unfold w_fraction_text m_fraction_text
  revert af
  generalize w_is_fraction = W1
  revert W1
  refine id ?_
  intro W1 af
  conv => whnf
  refine af _ _ fun o => ?_
  rw [h]
  conv => whnf
  repeat (refine ⟨_, rfl, ?_⟩; conv => whnf)
  exact k _
theorem Lst.okS {n : Nat} {rows : List (List Int)} (hl : Lst n rows) : okA (lsD n rows) = true := by
  have h1 := hl.g
  have h2 := hl.r
  refine okA_tup.mpr ⟨by simp, fun d hd => ?_⟩
  simp only [List.mem_cons, List.not_mem_nil, or_false] at hd
  rcases hd with rfl | rfl
  · rfl
  · refine okA_tup.mpr ⟨by rw [List.length_map]; omega, fun d hd => ?_⟩
    obtain ⟨r, hr, rfl⟩ := List.mem_map.mp hd
    refine okA_tup.mpr ⟨by rw [List.length_map, (hl.x r hr).1]; omega, fun d hd => ?_⟩
    obtain ⟨x, _, rfl⟩ := List.mem_map.mp hd
    rfl
theorem Lst.is {n : Nat} {rows : List (List Int)} (hl : Lst n rows) : isLst (lsD n rows) = true := by
  have h1 := hl.g
  have h2 := hl.r
  show (decide (1 ≤ ((n : Nat) : Int)) && decide (((n : Nat) : Int) ≤ 6) && decide ((rows.map ti).length ≤ 8) && (rows.map ti).all (betw (n : Nat) (-9999) 9999)) = true
  rw [decide_eq_true (by omega : 1 ≤ ((n : Nat) : Int)), decide_eq_true (by omega : ((n : Nat) : Int) ≤ 6), List.length_map, decide_eq_true h2]
  simp only [Bool.true_and]
  rw [List.all_eq_true]
  intro d hd
  obtain ⟨x, hx, rfl⟩ := List.mem_map.mp hd
  have h3 := hl.x x hx
  rw [betw_t (by omega), decide_eq_true_eq]
  exact h3.2
theorem list_ok {n : Nat} {rows : List (List Int)} (hl : Lst n rows) : Okay w_list_text [.val (lsD n rows)] := by
  intro Qd Ed k
  have al := a_list_by hl.okS
  have tx := s_text_of_list hl
  have his := hl.is
  unfold w_list_text m_list_text m_list_text_1 w_check_list m_check_list
  revert al tx
  generalize w_is_list_by = W1
  generalize w_text_of_list = W2
  revert W1 W2
  refine id ?_
  intro W1 W2 al tx
  conv => whnf
  refine al _ _ fun o => ?_
  rw [his]
  conv => whnf
  repeat (refine ⟨_, rfl, ?_⟩; conv => whnf)
  refine tx _ _ fun o => ?_
  exact k _ _
theorem list_bad {d : D} (hd : okA d = true) (h : isLst d = false) : Bad w_list_text [.val d] (Str.ofString "NotAList") d := by
  intro Qd Ed k
  have al := a_list_by hd
  unfold w_list_text m_list_text w_check_list m_check_list
  revert al
  generalize w_is_list_by = W1
  revert W1
  refine id ?_
  intro W1 al
  conv => whnf
  refine al _ _ fun o => ?_
  rw [h]
  conv => whnf
  repeat (refine ⟨_, rfl, ?_⟩; conv => whnf)
  exact k _
end Lk80
set_option exponentiation.threshold 100000
namespace Lk80
open PySem PySem.Spec PyProof.Rows L2 DL TL
theorem fil_none {α : Type} : ∀ l : List α, l.filterMap (fun _ => (none : Option D)) = []
  | [] => rfl
  | _ :: l => fil_none l
/-- what is the same as itself, by the law's look -/
def Gs : Nat → D → Prop
  | 0, _ => False
  | _ + 1, .non => True
  | _ + 1, .bl _ => True
  | _ + 1, .int _ => True
  | _ + 1, .str x => okT x
  | m + 1, .tup ds => ds.length < 60 ∧ ∀ d ∈ ds, Gs m d
  | _ + 1, .lst ds => Sz 20 (.lst ds)
  | _ + 1, .dic ks ds => ks = [] ∧ ds = []
  | _ + 1, _ => False
structure Gv (d : D) : Prop where
  a : okA d = true
  s : Gs 8 d
theorem fEqX_self {n : Nat} {d : D} (hn : n ≤ 64) (h : Sz n d) : fEqX d d = some (.val (.bl true)) := by
  have e : fEqX d d = fEq d d := by
    cases d <;> first | rfl | skip
    cases n <;> exact h.elim
  rw [e]
  exact fEq_self hn h
theorem same_flat {m n : Nat} {d : D} (hn : n ≤ 64) (h : Sz n d) (hf : match d with | .tup _ => False | _ => True) : Ret (w_law_same (m + 1)) [.val d, .val d] (.bl true) := by
  intro Qd Ed k
  have e := fEqX_self hn h
  rw [w_law_same]
  unfold m_law_same m_law_same_2 m_law_same_1
  cases n with
  | zero => exact h.elim
  | succ n =>
  cases d with
  | tup _ => exact hf.elim
  | dic _ _ => exact h.elim
  | fix _ => exact h.elim
  | ty _ => exact h.elim
  | obj _ _ _ => exact h.elim
  | adr _ => exact h.elim
  | rng _ _ => exact h.elim
  | _ =>
    conv => whnf
    repeat (refine ⟨_, rfl, ?_⟩; conv => whnf)
    first
      | (refine ⟨_, e, ?_⟩
         exact k _)
      | (rw [eqD_self h]
         exact k _)
theorem same_dic (m : Nat) : Ret (w_law_same (m + 1)) [.val (.dic [] []), .val (.dic [] [])] (.bl true) := by
  intro Qd Ed k
  rw [w_law_same]
  unfold m_law_same m_law_same_2 m_law_same_1
  conv => whnf
  repeat (refine ⟨_, rfl, ?_⟩; conv => whnf)
  exact k _
theorem same_tup {m : Nat} {ds : List D} (hl : ds.length < 60) (ih : ∀ d ∈ ds, Ret (w_law_same m) [.val d, .val d] (.bl true)) : Ret (w_law_same (m + 1)) [.val (.tup ds), .val (.tup ds)] (.bl true) := by
  intro Qd Ed h
  rw [w_law_same]
  unfold m_law_same
  conv => whnf
  (refine ⟨_, rfl, ?_⟩; conv => whnf)
  (refine ⟨_, rfl, ?_⟩; conv => whnf)
  (refine ⟨_, rfl, ?_⟩; conv => whnf)
  (refine ⟨_, rfl, ?_⟩; conv => whnf)
  (refine ⟨_, rfl, ?_⟩; conv => whnf)
  (refine ⟨_, rfl, ?_⟩; conv => whnf)
  refine ⟨_, fEq_t (a := ((ds.length : Nat) : Int)) (b := ((ds.length : Nat) : Int)) rfl, ?_⟩
  conv => whnf
  (refine ⟨_, rfl, ?_⟩; conv => whnf)
  (refine ⟨_, rfl, ?_⟩; conv => whnf)
  refine ⟨⟨by omega, by omega⟩, ?_⟩
  refine ⟨rfl, ?_⟩
  refine lcGo_fil (fun i => D.int (0 + (i : Nat))) (fun _ => none) (List.range ((ds.length : Nat) : Int).toNat) [] (fun z hz Kt Kf h1 h2 => ?_) (small64 (by simp; omega)) ?_
  · have hz2 : z < ds.length := by simpa using hz
    conv => whnf
    refine ⟨_, fIx_tup0 (List.getElem?_eq_getElem hz2), ?_⟩
    conv => whnf
    refine ⟨_, fIx_tup0 (List.getElem?_eq_getElem hz2), ?_⟩
    conv => whnf
    refine ih ds[z] (List.getElem_mem hz2) _ _ fun o => ?_
    conv => whnf
    repeat (refine ⟨_, rfl, ?_⟩; conv => whnf)
    exact h2 rfl
  rw [List.nil_append, fil_none]
  conv => whnf
  refine ⟨small64 (by simp), ?_⟩
  conv => whnf
  refine ⟨_, fEq_rows0 [], ?_⟩
  exact h _
theorem same_gs : ∀ (m : Nat) (d : D), Gs m d → Ret (w_law_same m) [.val d, .val d] (.bl true)
  | 0, _, h => h.elim
  | m + 1, .non, _ => same_flat (n := 1) (by decide) trivial trivial
  | m + 1, .bl _, _ => same_flat (n := 1) (by decide) trivial trivial
  | m + 1, .int _, _ => same_flat (n := 1) (by decide) trivial trivial
  | m + 1, .str x, h => same_flat (n := 1) (by decide) h trivial
  | m + 1, .tup ds, h => same_tup h.1 fun d hd => same_gs m d (h.2 d hd)
  | m + 1, .lst ds, h => same_flat (n := 20) (by decide) h trivial
  | m + 1, .dic ks ds, h => by
    obtain ⟨rfl, rfl⟩ := h
    exact same_dic m
  | m + 1, .fix _, h => h.elim
  | m + 1, .ty _, h => h.elim
  | m + 1, .obj _ _ _, h => h.elim
  | m + 1, .adr _, h => h.elim
  | m + 1, .rng _ _, h => h.elim
theorem s_same {d : D} (h : Gv d) : Ret v_law_same [.val d, .val d] (.bl true) := by
  unfold v_law_same
  exact same_gs 8 d h.s
theorem s_is_due {d : D} {t : Str} (ht : okT t) (h : Gv d) : Ret w_law_is_due [.val (.lst [.str t, d]), .val (.lst [.str t, d])] (.bl true) := by
  intro Qd Ed k
  have sm := s_same h
  unfold w_law_is_due m_law_is_due
  revert sm
  generalize v_law_same = W1
  revert W1
  refine id ?_
  intro W1 sm
  conv => whnf
  (refine ⟨_, rfl, ?_⟩; conv => whnf)
  (refine ⟨_, rfl, ?_⟩; conv => whnf)
  (refine ⟨_, rfl, ?_⟩; conv => whnf)
  refine ⟨_, fEq_t (a := 2) (b := 2) rfl, ?_⟩
  conv => whnf
  (refine ⟨_, rfl, ?_⟩; conv => whnf)
  (refine ⟨_, rfl, ?_⟩; conv => whnf)
  (refine ⟨_, rfl, ?_⟩; conv => whnf)
  refine ⟨_, fEq_str ht ht, ?_⟩
  rw [decide_eq_true rfl]
  conv => whnf
  repeat (refine ⟨_, rfl, ?_⟩; conv => whnf)
  refine sm _ _ fun o => ?_
  exact k _
theorem refused_ok {d : D} {t : Str} {b : Bool} (h : Okay w_law_ask [.val (.str t), .val (.lst [d]), .val (.bl b)]) : Ret w_law_refused [.val (.str t), .val (.lst [d]), .val (.bl b)] .non := by
  intro Qd Ed k
  unfold w_law_refused m_law_refused
  revert h
  generalize w_law_ask = W1
  revert W1
  refine id ?_
  intro W1 h
  conv => whnf
  refine h _ _ fun c o => ?_
  conv => whnf
  exact k _
theorem refused_order {d : D} {t : Str} {b : Bool} (h : Bad w_law_ask [.val (.str t), .val (.lst [d]), .val (.bl b)] (Str.ofString "InvalidOrder") d) : Ret w_law_refused [.val (.str t), .val (.lst [d]), .val (.bl b)] (.lst [.str (Str.ofString "order"), d]) := by
  intro Qd Ed k
  have u := und_InvalidOrder_PackError
  have u0 := isq_InvalidOrder_InvalidOrder
  have u1 := isq_InvalidOrder_InvalidNumber
  have u2 := isq_InvalidOrder_NotAList
  have u3 := isq_InvalidOrder_InvalidText
  have ut := isqt_InvalidOrder
  unfold w_law_refused m_law_refused
  revert h
  generalize w_law_ask = W1
  revert W1
  refine id ?_
  intro W1 h
  revert u u0 u1 u2 u3 ut
  generalize und = U1
  generalize isq = U2
  generalize isqt = U3
  revert U1 U2 U3
  refine id ?_
  intro U1 U2 U3 u u0 u1 u2 u3 ut
  conv => whnf
  refine h _ _ fun o => ?_
  conv => whnf
  rw [u]
  refine ⟨(by decide : 4 < 5), fun hx => ?_⟩
  conv => whnf
  repeat (refine ⟨_, rfl, ?_⟩; conv => whnf)
  refine ⟨rfl, _, u0, ?_⟩
  conv => whnf
  repeat (refine ⟨_, rfl, ?_⟩; conv => whnf)
  refine ⟨rfl, by decide, _, rfl, ?_⟩
  conv => whnf
  refine ⟨small64 (by simp), ?_⟩
  conv => whnf
  repeat (refine ⟨_, rfl, ?_⟩; conv => whnf)
  refine ⟨rfl, _, u1, ?_⟩
  conv => whnf
  refine ⟨_, rfl, ?_⟩
  conv => whnf
  refine ⟨small64 (by simp), ?_⟩
  conv => whnf
  refine ⟨_, fAdd_lst (small64 (by simp)), ?_⟩
  conv => whnf
  repeat (refine ⟨_, rfl, ?_⟩; conv => whnf)
  refine ⟨rfl, _, u2, ?_⟩
  conv => whnf
  refine ⟨_, rfl, ?_⟩
  conv => whnf
  refine ⟨small64 (by simp), ?_⟩
  conv => whnf
  refine ⟨_, fAdd_lst (small64 (by simp)), ?_⟩
  conv => whnf
  repeat (refine ⟨_, rfl, ?_⟩; conv => whnf)
  refine ⟨rfl, _, u3, ?_⟩
  conv => whnf
  refine ⟨_, rfl, ?_⟩
  conv => whnf
  refine ⟨small64 (by simp), ?_⟩
  conv => whnf
  refine ⟨_, fAdd_lst (small64 (by simp)), ?_⟩
  conv => whnf
  repeat (refine ⟨_, rfl, ?_⟩; conv => whnf)
  refine ⟨rfl, _, ut, ?_⟩
  conv => whnf
  repeat (refine ⟨_, rfl, ?_⟩; conv => whnf)
  exact k _
theorem refused_number {d : D} {t : Str} {b : Bool} (h : Bad w_law_ask [.val (.str t), .val (.lst [d]), .val (.bl b)] (Str.ofString "InvalidNumber") d) : Ret w_law_refused [.val (.str t), .val (.lst [d]), .val (.bl b)] (.lst [.str (Str.ofString "number"), d]) := by
  intro Qd Ed k
  have u := und_InvalidNumber_PackError
  have u0 := isq_InvalidNumber_InvalidOrder
  have u1 := isq_InvalidNumber_InvalidNumber
  have u2 := isq_InvalidNumber_NotAList
  have u3 := isq_InvalidNumber_InvalidText
  have ut := isqt_InvalidNumber
  unfold w_law_refused m_law_refused
  revert h
  generalize w_law_ask = W1
  revert W1
  refine id ?_
  intro W1 h
  revert u u0 u1 u2 u3 ut
  generalize und = U1
  generalize isq = U2
  generalize isqt = U3
  revert U1 U2 U3
  refine id ?_
  intro U1 U2 U3 u u0 u1 u2 u3 ut
  conv => whnf
  refine h _ _ fun o => ?_
  conv => whnf
  rw [u]
  refine ⟨(by decide : 4 < 5), fun hx => ?_⟩
  conv => whnf
  repeat (refine ⟨_, rfl, ?_⟩; conv => whnf)
  refine ⟨rfl, _, u0, ?_⟩
  conv => whnf
  refine ⟨_, rfl, ?_⟩
  conv => whnf
  refine ⟨small64 (by simp), ?_⟩
  conv => whnf
  repeat (refine ⟨_, rfl, ?_⟩; conv => whnf)
  refine ⟨rfl, _, u1, ?_⟩
  conv => whnf
  repeat (refine ⟨_, rfl, ?_⟩; conv => whnf)
  refine ⟨rfl, by decide, _, rfl, ?_⟩
  conv => whnf
  refine ⟨small64 (by simp), ?_⟩
  conv => whnf
  refine ⟨_, fAdd_lst (small64 (by simp)), ?_⟩
  conv => whnf
  repeat (refine ⟨_, rfl, ?_⟩; conv => whnf)
  refine ⟨rfl, _, u2, ?_⟩
  conv => whnf
  refine ⟨_, rfl, ?_⟩
  conv => whnf
  refine ⟨small64 (by simp), ?_⟩
  conv => whnf
  refine ⟨_, fAdd_lst (small64 (by simp)), ?_⟩
  conv => whnf
  repeat (refine ⟨_, rfl, ?_⟩; conv => whnf)
  refine ⟨rfl, _, u3, ?_⟩
  conv => whnf
  refine ⟨_, rfl, ?_⟩
  conv => whnf
  refine ⟨small64 (by simp), ?_⟩
  conv => whnf
  refine ⟨_, fAdd_lst (small64 (by simp)), ?_⟩
  conv => whnf
  repeat (refine ⟨_, rfl, ?_⟩; conv => whnf)
  refine ⟨rfl, _, ut, ?_⟩
  conv => whnf
  repeat (refine ⟨_, rfl, ?_⟩; conv => whnf)
  exact k _
theorem refused_list {d : D} {t : Str} {b : Bool} (h : Bad w_law_ask [.val (.str t), .val (.lst [d]), .val (.bl b)] (Str.ofString "NotAList") d) : Ret w_law_refused [.val (.str t), .val (.lst [d]), .val (.bl b)] (.lst [.str (Str.ofString "list"), d]) := by
  intro Qd Ed k
  have u := und_NotAList_PackError
  have u0 := isq_NotAList_InvalidOrder
  have u1 := isq_NotAList_InvalidNumber
  have u2 := isq_NotAList_NotAList
  have u3 := isq_NotAList_InvalidText
  have ut := isqt_NotAList
  unfold w_law_refused m_law_refused
  revert h
  generalize w_law_ask = W1
  revert W1
  refine id ?_
  intro W1 h
  revert u u0 u1 u2 u3 ut
  generalize und = U1
  generalize isq = U2
  generalize isqt = U3
  revert U1 U2 U3
  refine id ?_
  intro U1 U2 U3 u u0 u1 u2 u3 ut
  conv => whnf
  refine h _ _ fun o => ?_
  conv => whnf
  rw [u]
  refine ⟨(by decide : 4 < 5), fun hx => ?_⟩
  conv => whnf
  repeat (refine ⟨_, rfl, ?_⟩; conv => whnf)
  refine ⟨rfl, _, u0, ?_⟩
  conv => whnf
  refine ⟨_, rfl, ?_⟩
  conv => whnf
  refine ⟨small64 (by simp), ?_⟩
  conv => whnf
  repeat (refine ⟨_, rfl, ?_⟩; conv => whnf)
  refine ⟨rfl, _, u1, ?_⟩
  conv => whnf
  refine ⟨_, rfl, ?_⟩
  conv => whnf
  refine ⟨small64 (by simp), ?_⟩
  conv => whnf
  refine ⟨_, fAdd_lst (small64 (by simp)), ?_⟩
  conv => whnf
  repeat (refine ⟨_, rfl, ?_⟩; conv => whnf)
  refine ⟨rfl, _, u2, ?_⟩
  conv => whnf
  repeat (refine ⟨_, rfl, ?_⟩; conv => whnf)
  refine ⟨rfl, by decide, _, rfl, ?_⟩
  conv => whnf
  refine ⟨small64 (by simp), ?_⟩
  conv => whnf
  refine ⟨_, fAdd_lst (small64 (by simp)), ?_⟩
  conv => whnf
  repeat (refine ⟨_, rfl, ?_⟩; conv => whnf)
  refine ⟨rfl, _, u3, ?_⟩
  conv => whnf
  refine ⟨_, rfl, ?_⟩
  conv => whnf
  refine ⟨small64 (by simp), ?_⟩
  conv => whnf
  refine ⟨_, fAdd_lst (small64 (by simp)), ?_⟩
  conv => whnf
  repeat (refine ⟨_, rfl, ?_⟩; conv => whnf)
  refine ⟨rfl, _, ut, ?_⟩
  conv => whnf
  repeat (refine ⟨_, rfl, ?_⟩; conv => whnf)
  exact k _
theorem refused_text {d : D} {t : Str} {b : Bool} (h : Bad w_law_ask [.val (.str t), .val (.lst [d]), .val (.bl b)] (Str.ofString "InvalidText") d) : Ret w_law_refused [.val (.str t), .val (.lst [d]), .val (.bl b)] (.lst [.str (Str.ofString "text"), d]) := by
  intro Qd Ed k
  have u := und_InvalidText_PackError
  have u0 := isq_InvalidText_InvalidOrder
  have u1 := isq_InvalidText_InvalidNumber
  have u2 := isq_InvalidText_NotAList
  have u3 := isq_InvalidText_InvalidText
  have ut := isqt_InvalidText
  unfold w_law_refused m_law_refused
  revert h
  generalize w_law_ask = W1
  revert W1
  refine id ?_
  intro W1 h
  revert u u0 u1 u2 u3 ut
  generalize und = U1
  generalize isq = U2
  generalize isqt = U3
  revert U1 U2 U3
  refine id ?_
  intro U1 U2 U3 u u0 u1 u2 u3 ut
  conv => whnf
  refine h _ _ fun o => ?_
  conv => whnf
  rw [u]
  refine ⟨(by decide : 4 < 5), fun hx => ?_⟩
  conv => whnf
  repeat (refine ⟨_, rfl, ?_⟩; conv => whnf)
  refine ⟨rfl, _, u0, ?_⟩
  conv => whnf
  refine ⟨_, rfl, ?_⟩
  conv => whnf
  refine ⟨small64 (by simp), ?_⟩
  conv => whnf
  repeat (refine ⟨_, rfl, ?_⟩; conv => whnf)
  refine ⟨rfl, _, u1, ?_⟩
  conv => whnf
  refine ⟨_, rfl, ?_⟩
  conv => whnf
  refine ⟨small64 (by simp), ?_⟩
  conv => whnf
  refine ⟨_, fAdd_lst (small64 (by simp)), ?_⟩
  conv => whnf
  repeat (refine ⟨_, rfl, ?_⟩; conv => whnf)
  refine ⟨rfl, _, u2, ?_⟩
  conv => whnf
  refine ⟨_, rfl, ?_⟩
  conv => whnf
  refine ⟨small64 (by simp), ?_⟩
  conv => whnf
  refine ⟨_, fAdd_lst (small64 (by simp)), ?_⟩
  conv => whnf
  repeat (refine ⟨_, rfl, ?_⟩; conv => whnf)
  refine ⟨rfl, _, u3, ?_⟩
  conv => whnf
  repeat (refine ⟨_, rfl, ?_⟩; conv => whnf)
  refine ⟨rfl, by decide, _, rfl, ?_⟩
  conv => whnf
  refine ⟨small64 (by simp), ?_⟩
  conv => whnf
  refine ⟨_, fAdd_lst (small64 (by simp)), ?_⟩
  conv => whnf
  repeat (refine ⟨_, rfl, ?_⟩; conv => whnf)
  refine ⟨rfl, _, ut, ?_⟩
  conv => whnf
  repeat (refine ⟨_, rfl, ?_⟩; conv => whnf)
  exact k _
theorem refused_viv_ok {d : D} {t : Str} {b : Bool} (h : Okay w_law_ask_viv [.val (.str t), .own [d], .val (.bl b)]) : Ret w_law_refused_viv [.val (.str t), .own [d], .val (.bl b)] .non := by
  intro Qd Ed k
  unfold w_law_refused_viv m_law_refused_viv
  revert h
  generalize w_law_ask_viv = W1
  revert W1
  refine id ?_
  intro W1 h
  conv => whnf
  refine h _ _ fun c o => ?_
  conv => whnf
  exact k _
theorem refused_viv_order {d : D} {t : Str} {b : Bool} (h : Bad w_law_ask_viv [.val (.str t), .own [d], .val (.bl b)] (Str.ofString "InvalidOrder") d) : Ret w_law_refused_viv [.val (.str t), .own [d], .val (.bl b)] (.lst [.str (Str.ofString "order"), d]) := by
  intro Qd Ed k
  have u := und_InvalidOrder_PackError
  have u0 := isq_InvalidOrder_InvalidOrder
  have u1 := isq_InvalidOrder_InvalidNumber
  have u2 := isq_InvalidOrder_NotAList
  have u3 := isq_InvalidOrder_InvalidText
  have ut := isqt_InvalidOrder
  unfold w_law_refused_viv m_law_refused_viv
  revert h
  generalize w_law_ask_viv = W1
  revert W1
  refine id ?_
  intro W1 h
  revert u u0 u1 u2 u3 ut
  generalize und = U1
  generalize isq = U2
  generalize isqt = U3
  revert U1 U2 U3
  refine id ?_
  intro U1 U2 U3 u u0 u1 u2 u3 ut
  conv => whnf
  refine h _ _ fun o => ?_
  conv => whnf
  rw [u]
  refine ⟨(by decide : 4 < 5), fun hx => ?_⟩
  conv => whnf
  repeat (refine ⟨_, rfl, ?_⟩; conv => whnf)
  refine ⟨rfl, _, u0, ?_⟩
  conv => whnf
  repeat (refine ⟨_, rfl, ?_⟩; conv => whnf)
  refine ⟨rfl, by decide, _, rfl, ?_⟩
  conv => whnf
  refine ⟨small64 (by simp), ?_⟩
  conv => whnf
  repeat (refine ⟨_, rfl, ?_⟩; conv => whnf)
  refine ⟨rfl, _, u1, ?_⟩
  conv => whnf
  refine ⟨_, rfl, ?_⟩
  conv => whnf
  refine ⟨small64 (by simp), ?_⟩
  conv => whnf
  refine ⟨_, fAdd_lst (small64 (by simp)), ?_⟩
  conv => whnf
  repeat (refine ⟨_, rfl, ?_⟩; conv => whnf)
  refine ⟨rfl, _, u2, ?_⟩
  conv => whnf
  refine ⟨_, rfl, ?_⟩
  conv => whnf
  refine ⟨small64 (by simp), ?_⟩
  conv => whnf
  refine ⟨_, fAdd_lst (small64 (by simp)), ?_⟩
  conv => whnf
  repeat (refine ⟨_, rfl, ?_⟩; conv => whnf)
  refine ⟨rfl, _, u3, ?_⟩
  conv => whnf
  refine ⟨_, rfl, ?_⟩
  conv => whnf
  refine ⟨small64 (by simp), ?_⟩
  conv => whnf
  refine ⟨_, fAdd_lst (small64 (by simp)), ?_⟩
  conv => whnf
  repeat (refine ⟨_, rfl, ?_⟩; conv => whnf)
  refine ⟨rfl, _, ut, ?_⟩
  conv => whnf
  repeat (refine ⟨_, rfl, ?_⟩; conv => whnf)
  exact k _
theorem refused_viv_number {d : D} {t : Str} {b : Bool} (h : Bad w_law_ask_viv [.val (.str t), .own [d], .val (.bl b)] (Str.ofString "InvalidNumber") d) : Ret w_law_refused_viv [.val (.str t), .own [d], .val (.bl b)] (.lst [.str (Str.ofString "number"), d]) := by
  intro Qd Ed k
  have u := und_InvalidNumber_PackError
  have u0 := isq_InvalidNumber_InvalidOrder
  have u1 := isq_InvalidNumber_InvalidNumber
  have u2 := isq_InvalidNumber_NotAList
  have u3 := isq_InvalidNumber_InvalidText
  have ut := isqt_InvalidNumber
  unfold w_law_refused_viv m_law_refused_viv
  revert h
  generalize w_law_ask_viv = W1
  revert W1
  refine id ?_
  intro W1 h
  revert u u0 u1 u2 u3 ut
  generalize und = U1
  generalize isq = U2
  generalize isqt = U3
  revert U1 U2 U3
  refine id ?_
  intro U1 U2 U3 u u0 u1 u2 u3 ut
  conv => whnf
  refine h _ _ fun o => ?_
  conv => whnf
  rw [u]
  refine ⟨(by decide : 4 < 5), fun hx => ?_⟩
  conv => whnf
  repeat (refine ⟨_, rfl, ?_⟩; conv => whnf)
  refine ⟨rfl, _, u0, ?_⟩
  conv => whnf
  refine ⟨_, rfl, ?_⟩
  conv => whnf
  refine ⟨small64 (by simp), ?_⟩
  conv => whnf
  repeat (refine ⟨_, rfl, ?_⟩; conv => whnf)
  refine ⟨rfl, _, u1, ?_⟩
  conv => whnf
  repeat (refine ⟨_, rfl, ?_⟩; conv => whnf)
  refine ⟨rfl, by decide, _, rfl, ?_⟩
  conv => whnf
  refine ⟨small64 (by simp), ?_⟩
  conv => whnf
  refine ⟨_, fAdd_lst (small64 (by simp)), ?_⟩
  conv => whnf
  repeat (refine ⟨_, rfl, ?_⟩; conv => whnf)
  refine ⟨rfl, _, u2, ?_⟩
  conv => whnf
  refine ⟨_, rfl, ?_⟩
  conv => whnf
  refine ⟨small64 (by simp), ?_⟩
  conv => whnf
  refine ⟨_, fAdd_lst (small64 (by simp)), ?_⟩
  conv => whnf
  repeat (refine ⟨_, rfl, ?_⟩; conv => whnf)
  refine ⟨rfl, _, u3, ?_⟩
  conv => whnf
  refine ⟨_, rfl, ?_⟩
  conv => whnf
  refine ⟨small64 (by simp), ?_⟩
  conv => whnf
  refine ⟨_, fAdd_lst (small64 (by simp)), ?_⟩
  conv => whnf
  repeat (refine ⟨_, rfl, ?_⟩; conv => whnf)
  refine ⟨rfl, _, ut, ?_⟩
  conv => whnf
  repeat (refine ⟨_, rfl, ?_⟩; conv => whnf)
  exact k _
theorem refused_viv_list {d : D} {t : Str} {b : Bool} (h : Bad w_law_ask_viv [.val (.str t), .own [d], .val (.bl b)] (Str.ofString "NotAList") d) : Ret w_law_refused_viv [.val (.str t), .own [d], .val (.bl b)] (.lst [.str (Str.ofString "list"), d]) := by
  intro Qd Ed k
  have u := und_NotAList_PackError
  have u0 := isq_NotAList_InvalidOrder
  have u1 := isq_NotAList_InvalidNumber
  have u2 := isq_NotAList_NotAList
  have u3 := isq_NotAList_InvalidText
  have ut := isqt_NotAList
  unfold w_law_refused_viv m_law_refused_viv
  revert h
  generalize w_law_ask_viv = W1
  revert W1
  refine id ?_
  intro W1 h
  revert u u0 u1 u2 u3 ut
  generalize und = U1
  generalize isq = U2
  generalize isqt = U3
  revert U1 U2 U3
  refine id ?_
  intro U1 U2 U3 u u0 u1 u2 u3 ut
  conv => whnf
  refine h _ _ fun o => ?_
  conv => whnf
  rw [u]
  refine ⟨(by decide : 4 < 5), fun hx => ?_⟩
  conv => whnf
  repeat (refine ⟨_, rfl, ?_⟩; conv => whnf)
  refine ⟨rfl, _, u0, ?_⟩
  conv => whnf
  refine ⟨_, rfl, ?_⟩
  conv => whnf
  refine ⟨small64 (by simp), ?_⟩
  conv => whnf
  repeat (refine ⟨_, rfl, ?_⟩; conv => whnf)
  refine ⟨rfl, _, u1, ?_⟩
  conv => whnf
  refine ⟨_, rfl, ?_⟩
  conv => whnf
  refine ⟨small64 (by simp), ?_⟩
  conv => whnf
  refine ⟨_, fAdd_lst (small64 (by simp)), ?_⟩
  conv => whnf
  repeat (refine ⟨_, rfl, ?_⟩; conv => whnf)
  refine ⟨rfl, _, u2, ?_⟩
  conv => whnf
  repeat (refine ⟨_, rfl, ?_⟩; conv => whnf)
  refine ⟨rfl, by decide, _, rfl, ?_⟩
  conv => whnf
  refine ⟨small64 (by simp), ?_⟩
  conv => whnf
  refine ⟨_, fAdd_lst (small64 (by simp)), ?_⟩
  conv => whnf
  repeat (refine ⟨_, rfl, ?_⟩; conv => whnf)
  refine ⟨rfl, _, u3, ?_⟩
  conv => whnf
  refine ⟨_, rfl, ?_⟩
  conv => whnf
  refine ⟨small64 (by simp), ?_⟩
  conv => whnf
  refine ⟨_, fAdd_lst (small64 (by simp)), ?_⟩
  conv => whnf
  repeat (refine ⟨_, rfl, ?_⟩; conv => whnf)
  refine ⟨rfl, _, ut, ?_⟩
  conv => whnf
  repeat (refine ⟨_, rfl, ?_⟩; conv => whnf)
  exact k _
theorem refused_viv_text {d : D} {t : Str} {b : Bool} (h : Bad w_law_ask_viv [.val (.str t), .own [d], .val (.bl b)] (Str.ofString "InvalidText") d) : Ret w_law_refused_viv [.val (.str t), .own [d], .val (.bl b)] (.lst [.str (Str.ofString "text"), d]) := by
  intro Qd Ed k
  have u := und_InvalidText_PackError
  have u0 := isq_InvalidText_InvalidOrder
  have u1 := isq_InvalidText_InvalidNumber
  have u2 := isq_InvalidText_NotAList
  have u3 := isq_InvalidText_InvalidText
  have ut := isqt_InvalidText
  unfold w_law_refused_viv m_law_refused_viv
  revert h
  generalize w_law_ask_viv = W1
  revert W1
  refine id ?_
  intro W1 h
  revert u u0 u1 u2 u3 ut
  generalize und = U1
  generalize isq = U2
  generalize isqt = U3
  revert U1 U2 U3
  refine id ?_
  intro U1 U2 U3 u u0 u1 u2 u3 ut
  conv => whnf
  refine h _ _ fun o => ?_
  conv => whnf
  rw [u]
  refine ⟨(by decide : 4 < 5), fun hx => ?_⟩
  conv => whnf
  repeat (refine ⟨_, rfl, ?_⟩; conv => whnf)
  refine ⟨rfl, _, u0, ?_⟩
  conv => whnf
  refine ⟨_, rfl, ?_⟩
  conv => whnf
  refine ⟨small64 (by simp), ?_⟩
  conv => whnf
  repeat (refine ⟨_, rfl, ?_⟩; conv => whnf)
  refine ⟨rfl, _, u1, ?_⟩
  conv => whnf
  refine ⟨_, rfl, ?_⟩
  conv => whnf
  refine ⟨small64 (by simp), ?_⟩
  conv => whnf
  refine ⟨_, fAdd_lst (small64 (by simp)), ?_⟩
  conv => whnf
  repeat (refine ⟨_, rfl, ?_⟩; conv => whnf)
  refine ⟨rfl, _, u2, ?_⟩
  conv => whnf
  refine ⟨_, rfl, ?_⟩
  conv => whnf
  refine ⟨small64 (by simp), ?_⟩
  conv => whnf
  refine ⟨_, fAdd_lst (small64 (by simp)), ?_⟩
  conv => whnf
  repeat (refine ⟨_, rfl, ?_⟩; conv => whnf)
  refine ⟨rfl, _, u3, ?_⟩
  conv => whnf
  repeat (refine ⟨_, rfl, ?_⟩; conv => whnf)
  refine ⟨rfl, by decide, _, rfl, ?_⟩
  conv => whnf
  refine ⟨small64 (by simp), ?_⟩
  conv => whnf
  refine ⟨_, fAdd_lst (small64 (by simp)), ?_⟩
  conv => whnf
  repeat (refine ⟨_, rfl, ?_⟩; conv => whnf)
  refine ⟨rfl, _, ut, ?_⟩
  conv => whnf
  repeat (refine ⟨_, rfl, ?_⟩; conv => whnf)
  exact k _
end Lk80
set_option exponentiation.threshold 100000
namespace Lk80
open PySem PySem.Spec PyProof.Rows L2 DL TL
abbrev prD (tag : Str) (v : D) : D := .tup [v, .lst [.str tag, v]]
section
variable {k : Nat} {p : List D} {word tag : Str} {v0 v : D} {vs : List D} {c5 c6 c7 c8 : Option Cell} {Dd : DEnds}
abbrev re (p : List D) (word tag : Str) (v0 : D) (vs : List D) (c4 c5 c6 c7 c8 : Option Cell) : En := [some (.own p), some (.val (.str word)), some (.val (.lst [v0])), some (.val (.lst [.lst (vs.map (prD tag))])), c4, c5, c6, c7, c8]
abbrev RfV (word tag : Str) (v : D) : Prop := ∀ b, Ret w_law_refused_viv [.val (.str word), .own [v], .val (.bl b)] (.lst [.str tag, v])
theorem rf2 (hp : Pl k p) (hk : k < 2 ^ 50) (ht : okT tag) (hv : Gv v) (h1 : RfV word tag v)
    (hD : ∀ p' c7', Pl (k + 1) p' → Dd.nx (re p' word tag v0 vs (some (.val (.int 0))) (some (.val v)) (some (.val (.lst [.str tag, v]))) c7' c8)) :
    m_law_refused_each_ivvv_2 Dd (re p word tag v0 vs (some (.val (.int 0))) (some (.val v)) (some (.val (.lst [.str tag, v]))) (some (.own [v])) c8) := by
  have hx : ∀ b, Ret w_law_refused_viv [.val (.str word), .own [v], .val (.bl b)] (.lst [.str tag, v]) := h1
  have du := s_is_due ht hv
  have dr := fun {Qd : Cell → Outs → Prop} {Ed : Str → List (Str × D) → Outs → Prop} (h : ∀ r (o : Outs), 0 ≤ r → r < 2 → Pl (k + 1) (o 0) → Qd (.val (.int r)) o) => s_draw (many := 2) hp (by omega) (by decide) (many_pow (by decide) (by decide)) (Qd := Qd) (Ed := Ed) h
  unfold m_law_refused_each_ivvv_2
  revert hx du dr
  generalize w_law_is_due = W1
  generalize w_law_draw_iv = W2
  generalize w_law_refused_viv = W3
  revert W1 W2 W3
  refine id ?_
  intro W1 W2 W3 hx du dr
  conv => whnf
  refine dr fun r o r0 r2 hp2 => ?_
  conv => whnf
  refine ⟨_, fEq_int r 0, ?_⟩
  conv => whnf
  refine hx _ _ _ fun o2 => ?_
  conv => whnf
  refine du _ _ fun o3 => ?_
  conv => whnf
  repeat (refine ⟨_, rfl, ?_⟩; conv => whnf)
  exact hD _ _ hp2
theorem rf4 (hp : Pl k p) (hk : k < 2 ^ 50) (ht : okT tag) (hv : Gv v) (h1 : RfV word tag v)
    (hD : ∀ p' c7' c8', Pl (k + 1) p' → Dd.nx (re p' word tag v0 vs (some (.val (.int 0))) (some (.val v)) (some (.val (.lst [.str tag, v]))) c7' c8')) :
    m_law_refused_each_ivvv_4 Dd (re p word tag v0 vs (some (.val (.int 0))) (some (.val v)) (some (.val (.lst [.str tag, v]))) c7 c8) := by
  have r2 := fun {c8 : Option Cell} {Dd : DEnds} hD => rf2 (v0 := v0) (vs := vs) (c8 := c8) (Dd := Dd) hp hk ht hv h1 hD
  unfold m_law_refused_each_ivvv_4 m_law_refused_each_ivvv_3
  revert r2
  generalize m_law_refused_each_ivvv_2 = M2
  revert M2
  refine id ?_
  intro M2 r2
  conv => whnf
  repeat (refine ⟨_, rfl, ?_⟩; conv => whnf)
  refine ⟨small64 (by simp), ?_⟩
  conv => whnf
  refine ⟨_, fAdd_lst (small64 (by simp [DL.cutD, HT.sIx])), ?_⟩
  conv => whnf
  repeat (refine ⟨_, rfl, ?_⟩; conv => whnf)
  refine ⟨⟨by decide, by decide⟩, ⟨by simp, by simp⟩, ?_⟩
  exact r2 fun p' c7' hp' => hD _ _ _ hp'
theorem rf5 (hp : Pl k p) (hk : k + vs.length < 2 ^ 50) (ht : okT tag) (hl : vs.length < 1000) (hv : ∀ v ∈ vs, Gv v ∧ RfV word tag v)
    (hD : ∀ p' c5' c6' c7' c8', Pl (k + vs.length) p' → Dd.nx (re p' word tag v0 vs (some (.val (.int 0))) c5' c6' c7' c8')) :
    m_law_refused_each_ivvv_5 Dd (re p word tag v0 vs (some (.val (.int 0))) c5 c6 c7 c8) := by
  have r4 := fun {k : Nat} {p : List D} {v : D} {c7 c8 : Option Cell} {Dd : DEnds} (hp : Pl k p) hk hv h1 hD => rf4 (v0 := v0) (vs := vs) (word := word) (c7 := c7) (c8 := c8) (Dd := Dd) (k := k) (p := p) (v := v) hp hk ht hv h1 hD
  unfold m_law_refused_each_ivvv_5
  revert r4
  generalize m_law_refused_each_ivvv_4 = M4
  revert M4
  refine id ?_
  intro M4 r4
  conv => whnf
  refine ⟨_, fIx_lst (k := 0) (d := .lst (vs.map (prD tag))) rfl, ?_⟩
  conv => whnf
  refine forGo_ix (prD tag) (fun i ρ => ∃ p' c5 c6 c7 c8, ρ = re p' word tag v0 vs (some (.val (.int 0))) c5 c6 c7 c8 ∧ Pl (k + i) p') vs 0 _ (Nat.zero_le _) ?_ ?_ ⟨p, _, _, _, _, rfl, hp⟩
  · rintro ρ ⟨p', c5, c6, c7, c8, rfl, hp2⟩
    exact hD _ _ _ _ _ hp2
  · rintro i z ρ hz ⟨p', c5, c6, c7, c8, rfl, hp2⟩ N hN
    have hi := (List.getElem?_eq_some_iff.mp hz).1
    have hm := List.mem_of_getElem? hz
    conv => whnf
    refine ⟨rfl, ?_⟩
    refine r4 hp2 (by omega) (hv z hm).1 (hv z hm).2 fun p3 c7' c8' hp3 => ?_
    exact hN _ ⟨_, _, _, _, _, rfl, hp3⟩
end
theorem s_refused_each {k : Nat} {p : List D} {word tag : Str} {v0 : D} {vs : List D} (hp : Pl k p) (hk : k + vs.length < 2 ^ 49) (ht : okT tag) (hl : vs.length < 1000)
    (h0 : ∀ b, Ret w_law_refused [.val (.str word), .val (.lst [v0]), .val (.bl b)] .non) (hv : ∀ v ∈ vs, Gv v ∧ RfV word tag v) {Qd : Cell → Outs → Prop} {Ed : Str → List (Str × D) → Outs → Prop}
    (h : ∀ o, Pl (k + vs.length + 1) (o 0) → Qd (.val (.bl true)) o) : w_law_refused_each_ivvv [.own p, .val (.str word), .val (.lst [v0]), .val (.lst [.lst (vs.map (prD tag))])] Qd Ed := by
  have r5 := fun {c5 c6 c7 c8 : Option Cell} {Dd : DEnds} hD => rf5 (v0 := v0) (c5 := c5) (c6 := c6) (c7 := c7) (c8 := c8) (Dd := Dd) hp (by omega) ht hl hv hD
  have dr := fun {p : List D} {Qd : Cell → Outs → Prop} {Ed : Str → List (Str × D) → Outs → Prop} (hp : Pl (k + vs.length) p) (h : ∀ r (o : Outs), 0 ≤ r → r < 2 → Pl (k + vs.length + 1) (o 0) → Qd (.val (.int r)) o) => s_draw (many := 2) hp (by omega) (by decide) (many_pow (by decide) (by decide)) (Qd := Qd) (Ed := Ed) h
  unfold w_law_refused_each_ivvv m_law_refused_each_ivvv m_law_refused_each_ivvv_7 m_law_refused_each_ivvv_6
  revert h0 r5 dr
  generalize m_law_refused_each_ivvv_5 = M5
  generalize w_law_draw_iv = W2
  generalize w_law_refused = W3
  revert M5 W2 W3
  refine id ?_
  intro M5 W2 W3 h0 r5 dr
  conv => whnf
  refine h0 _ _ _ fun o => ?_
  conv => whnf
  repeat (refine ⟨_, rfl, ?_⟩; conv => whnf)
  refine h0 _ _ _ fun o => ?_
  conv => whnf
  repeat (refine ⟨_, rfl, ?_⟩; conv => whnf)
  refine ⟨⟨by simp, by simp⟩, ?_⟩
  conv => whnf
  refine r5 fun p' c5' c6' c7' c8' hp2 => ?_
  conv => whnf
  refine dr hp2 fun r o2 r0 r2 hp3 => ?_
  conv => whnf
  refine ⟨_, fEq_int r 0, ?_⟩
  conv => whnf
  refine h0 _ _ _ fun o3 => ?_
  conv => whnf
  repeat (refine ⟨_, rfl, ?_⟩; conv => whnf)
  exact h _ hp3
theorem s_wrong_given {tag : Str} {vs : List D} (hl : vs.length < 1000) : RetO w_law_wrong_given [.val (.str tag), .val (.lst vs)] (vs.map (prD tag)) := by
  intro Qd Ed k
  unfold w_law_wrong_given m_law_wrong_given
  conv => whnf
  refine ⟨rfl, ?_⟩
  refine lcGo_self (prD tag) vs [] (fun z hz Kt Kf hK => ?_) (ok_lineA (by omega)) ?_
  · conv => whnf
    refine ⟨small64 (by simp), ?_⟩
    conv => whnf
    refine ⟨small64 (by simp), ?_⟩
    conv => whnf
    exact hK
  rw [List.nil_append]
  conv => whnf
  exact k _
end Lk80
/-! Displays told by what they are: for a walk that shall not look into them. -/
namespace DL
open PySem PySem.Spec PyProof.Rows L2
def Evs (x : DE) (d : D) : Prop := ∀ ρ Q E, Q d ρ → x ρ Q E
def EvsL (xs : List DE) (ds : List D) : Prop := ∀ ρ (Q : List D → En → Prop) E, Q ds ρ → mDs xs ρ Q E
theorem evs_K (d : D) : Evs (mK d) d := fun _ _ _ q => q
theorem evs_neg (i : Int) : Evs (frz (mOp1 fNeg (.e (mK (.int i))))) (.int (-i)) := fun _ _ _ q => ⟨_, rfl, q⟩
theorem evsL_n : EvsL [] [] := fun _ _ _ q => q
theorem evsL_c {x : DE} {d : D} {xs : List DE} {ds : List D} (h : Evs x d) (t : EvsL xs ds) : EvsL (x :: xs) (d :: ds) := fun ρ Q E q => h ρ _ E (t ρ _ E q)
theorem evs_tup {xs : List DE} {ds : List D} (h : EvsL xs ds) (hl : ds.length ≤ 60) : Evs (mTup xs) (.tup ds) := fun ρ Q E q => h ρ _ E ⟨small64 (by omega), q⟩
theorem evs_lst {xs : List DE} {ds : List D} (h : EvsL xs ds) (hl : ds.length ≤ 60) : Evs (frz (mLst xs)) (.lst ds) := fun ρ Q E q => h ρ _ E ⟨small64 (by omega), q⟩
end DL
/-! Displays told by what they are, at a state. -/
namespace DL
open PySem PySem.Spec PyProof.Rows L2
def EvA (ρ : En) (x : DE) (d : D) : Prop := ∀ (Q : DQ) E, Q d ρ → x ρ Q E
def EvAL (ρ : En) (xs : List DE) (ds : List D) : Prop := ∀ (Q : List D → En → Prop) E, Q ds ρ → mDs xs ρ Q E
section
variable {ρ : En} {x y : DE} {a b d : D} {c : Cell} {xs : List DE} {ds : List D}
theorem eva_K (d : D) : EvA ρ (mK d) d := fun _ _ q => q
theorem eva_V {i : Nat} (e : ρ.getD i none = some (.val d)) : EvA ρ (mVar i) d := fun Q E q => by
  show match ρ.getD i none with
    | some (.val d) => Q d ρ
    | _ => False
  rw [e]
  exact q
theorem eva_1 {f : DOp1} (h : EvA ρ x a) (e : f a = some (.val d)) : EvA ρ (frz (mOp1 f (.e x))) d := fun Q E q => h _ E ⟨_, e, q⟩
theorem eva_2 {f : DOp2} (h : EvA ρ x a) (g : EvA ρ y b) (e : f a b = some (.val d)) : EvA ρ (frz (mOp2 f (.e x) (.e y))) d := fun Q E q => h _ E (g _ E ⟨_, e, q⟩)
theorem eva_2o {f : DOp2} (h : EvA ρ x a) (g : EvA ρ y b) (e : f a b = some (.own ds)) : EvA ρ (frz (mOp2 f (.e x) (.e y))) (.lst ds) := fun Q E q => h _ E (g _ E ⟨_, e, q⟩)
theorem eva_N {f : DOpN} (h : EvA ρ x a) (e : f [a] = some (.val d)) : EvA ρ (frz (mOpN f [.e x])) d := fun Q E q => h _ E ⟨_, e, q⟩
theorem eva_No {f : DOpN} (h : EvA ρ x a) (e : f [a] = some (.own ds)) : EvA ρ (frz (mOpN f [.e x])) (.lst ds) := fun Q E q => h _ E ⟨_, e, q⟩
theorem eva_sl_hi {i : Int} (h : EvA ρ x a) (g : EvA ρ y (.int i)) (e : fSl none (some i) a = some (.val d)) : EvA ρ (frz (mSl (.e x) none (some y))) d := fun Q E q => h _ E (g _ E ⟨_, e, q⟩)
theorem eva_sl_lo {i : Int} (h : EvA ρ x a) (g : EvA ρ y (.int i)) (e : fSl (some i) none a = some (.val d)) : EvA ρ (frz (mSl (.e x) (some y) none)) d := fun Q E q => h _ E (g _ E ⟨_, e, q⟩)
theorem evl_n : EvAL ρ [] [] := fun _ _ q => q
theorem evl_c (h : EvA ρ x d) (t : EvAL ρ xs ds) : EvAL ρ (x :: xs) (d :: ds) := fun Q E q => h _ E (t _ E q)
theorem eva_tup (h : EvAL ρ xs ds) (hl : ds.length ≤ 60) : EvA ρ (mTup xs) (.tup ds) := fun Q E q => h _ E ⟨small64 (by omega), q⟩
theorem eva_lst (h : EvAL ρ xs ds) (hl : ds.length ≤ 60) : EvA ρ (frz (mLst xs)) (.lst ds) := fun Q E q => h _ E ⟨small64 (by omega), q⟩
theorem evc_lst (h : EvAL ρ xs ds) (hl : ds.length ≤ 60) : ∀ (Q : CQ) E, Q (.own ds) ρ → mLst xs ρ Q E := fun Q E q => h _ E ⟨small64 (by omega), q⟩
theorem eva_as {d' : D} (h : EvA ρ x d) (e : d = d') : EvA ρ x d' := e ▸ h
end
end DL
set_option exponentiation.threshold 100000
namespace Lk80
open PySem PySem.Spec PyProof.Rows L2 DL TL
def szB : Nat → D → Bool
  | 0, _ => false
  | _ + 1, .non => true
  | _ + 1, .int _ => true
  | _ + 1, .bl _ => true
  | _ + 1, .str x => (toPy (.str x)).canLay0
  | n + 1, .tup ds => ds.all (szB n)
  | n + 1, .lst ds => ds.all (szB n)
  | _ + 1, _ => false
theorem szB_ok : ∀ (n : Nat) (d : D), szB n d = true → Sz n d
  | 0, _, h => by cases h
  | _ + 1, .non, _ => trivial
  | _ + 1, .int _, _ => trivial
  | _ + 1, .bl _, _ => trivial
  | _ + 1, .str x, h => h
  | n + 1, .tup ds, h => fun d hd => szB_ok n d (List.all_eq_true.mp h d hd)
  | n + 1, .lst ds, h => fun d hd => szB_ok n d (List.all_eq_true.mp h d hd)
  | _ + 1, .fix _, h => by cases h
  | _ + 1, .ty _, h => by cases h
  | _ + 1, .dic _ _, h => by cases h
  | _ + 1, .obj _ _ _, h => by cases h
  | _ + 1, .adr _, h => by cases h
  | _ + 1, .rng _ _, h => by cases h
def gsB : Nat → D → Bool
  | 0, _ => false
  | _ + 1, .non => true
  | _ + 1, .bl _ => true
  | _ + 1, .int _ => true
  | _ + 1, .str x => (toPy (.str x)).canLay0
  | m + 1, .tup ds => decide (ds.length < 60) && ds.all (gsB m)
  | _ + 1, .lst ds => szB 20 (.lst ds)
  | _ + 1, .dic ks ds => ks.isEmpty && ds.isEmpty
  | _ + 1, _ => false
theorem gsB_tup {m : Nat} {ds : List D} : gsB (m + 1) (.tup ds) = true ↔ ds.length < 60 ∧ ∀ d ∈ ds, gsB m d = true := by
  show (decide (ds.length < 60) && ds.all (gsB m)) = true ↔ _
  rw [Bool.and_eq_true, decide_eq_true_eq, List.all_eq_true]
theorem gsB_ok : ∀ (m : Nat) (d : D), gsB m d = true → Gs m d
  | 0, _, h => by cases h
  | _ + 1, .non, _ => trivial
  | _ + 1, .bl _, _ => trivial
  | _ + 1, .int _, _ => trivial
  | _ + 1, .str x, h => h
  | m + 1, .tup ds, h => ⟨(gsB_tup.mp h).1, fun d hd => gsB_ok m d ((gsB_tup.mp h).2 d hd)⟩
  | _ + 1, .lst ds, h => szB_ok 20 (.lst ds) h
  | _ + 1, .dic ks ds, h => by
    have h : (ks.isEmpty && ds.isEmpty) = true := h
    rw [Bool.and_eq_true, List.isEmpty_iff, List.isEmpty_iff] at h
    exact h
  | _ + 1, .fix _, h => by cases h
  | _ + 1, .ty _, h => by cases h
  | _ + 1, .obj _ _ _, h => by cases h
  | _ + 1, .adr _, h => by cases h
  | _ + 1, .rng _ _, h => by cases h
theorem gsB_up : ∀ (m : Nat) (d : D), gsB m d = true → gsB (m + 1) d = true
  | 0, _, h => by cases h
  | _ + 1, .non, _ => rfl
  | _ + 1, .bl _, _ => rfl
  | _ + 1, .int _, _ => rfl
  | _ + 1, .str x, h => h
  | m + 1, .tup ds, h => gsB_tup.mpr ⟨(gsB_tup.mp h).1, fun d hd => gsB_up m d ((gsB_tup.mp h).2 d hd)⟩
  | _ + 1, .lst ds, h => h
  | _ + 1, .dic ks ds, h => h
  | _ + 1, .fix _, h => by cases h
  | _ + 1, .ty _, h => by cases h
  | _ + 1, .obj _ _ _, h => by cases h
  | _ + 1, .adr _, h => by cases h
  | _ + 1, .rng _ _, h => by cases h
/-- data that is let, not deeper than that -/
structure Gd (m : Nat) (d : D) : Prop where
  a : okA d = true
  s : gsB m d = true
theorem Gd.up {m : Nat} {d : D} (h : Gd m d) : Gd (m + 1) d := ⟨h.a, gsB_up m d h.s⟩
theorem Gd.gv {d : D} (h : Gd 8 d) : Gv d := ⟨h.a, gsB_ok 8 d h.s⟩
theorem Gd.int (m : Nat) (i : Int) : Gd (m + 1) (.int i) := ⟨rfl, rfl⟩
theorem Gd.tup {m : Nat} {ds : List D} (hl : ds.length < 60) (h : ∀ d ∈ ds, Gd m d) : Gd (m + 1) (.tup ds) := ⟨okA_tup.mpr ⟨by omega, fun d hd => (h d hd).a⟩, gsB_tup.mpr ⟨hl, fun d hd => (h d hd).s⟩⟩
theorem Gd.of {m : Nat} {d : D} (h : (okA d && gsB m d) = true) : Gd m d := by
  rw [Bool.and_eq_true] at h
  exact ⟨h.1, h.2⟩
theorem Gd.ti (m : Nat) {r : List Int} (h : r.length < 60) : Gd (m + 2) (ti r) := Gd.tup (by rw [List.length_map]; exact h) fun d hd => by
  obtain ⟨x, _, rfl⟩ := List.mem_map.mp hd
  exact Gd.int m x
theorem Gd.in_tup {m : Nat} {ds : List D} (h : Gd (m + 1) (.tup ds)) : ds.length < 60 ∧ ∀ d ∈ ds, Gd m d := ⟨(gsB_tup.mp h.s).1, fun d hd => ⟨(okA_tup.mp h.a).2 d hd, (gsB_tup.mp h.s).2 d hd⟩⟩
def c10 : List D := [.non, (.bl true), (.bl false), (.str (Str.ofString "1")), (.tup [(.int 1)]), (.lst [(.int 1)]), (.tup []), (.dic [] []), (.str (Str.ofString "")), (.tup [(.int 1), (.int 2)])]
theorem x10 (ρ : En) : ∀ (Q : CQ) E, Q (.own c10) ρ → x_law_not_number_i_1 ρ Q E := by
  unfold x_law_not_number_i_1 c10
  exact evc_lst (evl_c (eva_K _) (evl_c (eva_K _) (evl_c (eva_K _) (evl_c (eva_K _) (evl_c (eva_tup (evl_c (eva_K _) evl_n) (by simp)) (evl_c (eva_lst (evl_c (eva_K _) evl_n) (by simp)) (evl_c (eva_tup evl_n (by simp)) (evl_c (eva_K _) (evl_c (eva_K _) (evl_c (eva_tup (evl_c (eva_K _) (evl_c (eva_K _) evl_n)) (by simp)) evl_n)))))))))) (by simp)
theorem c10_ok : (c10.all fun d => (okA d && gsB 4 d) && !isI d) = true := by decide +kernel
theorem s_not_number {k : Nat} {p : List D} (hp : Pl k p) (hk : k < 2 ^ 49) {Qd : Cell → Outs → Prop} {Ed : Str → List (Str × D) → Outs → Prop}
    (h : ∀ d o, Gd 4 d → isI d = false → Pl (k + 1) (o 0) → Qd (.val d) o) : w_law_not_number_i [.own p] Qd Ed := by
  have pk := fun {ths : List D} (h1 : 1 ≤ ths.length) (h2 : ths.length < 2 ^ 30) {Qd : Cell → Outs → Prop} {Ed : Str → List (Str × D) → Outs → Prop} h => s_pick (ths := ths) hp (by omega) h1 h2 (Qd := Qd) (Ed := Ed) h
  have x := x10
  unfold w_law_not_number_i m_law_not_number_i
  revert pk x
  generalize w_law_pick_iv = W1
  generalize x_law_not_number_i_1 = X1
  revert W1 X1
  refine id ?_
  intro W1 X1 pk x
  conv => whnf
  refine x _ _ _ ?_
  conv => whnf
  refine pk (by decide) (by decide) fun d o hd hp2 => ?_
  have := List.all_eq_true.mp c10_ok d hd
  rw [Bool.and_eq_true, Bool.not_eq_true'] at this
  exact h d _ (Gd.of this.1) this.2 hp2
theorem put_eq {α : Type} {xs : List α} {i : Nat} {d : α} (hi : i < xs.length) : (DL.cutD xs none (some (i : Int)) ++ [d]) ++ DL.cutD xs (some ((i : Int) + 1)) none = xs.set i d := by
  rw [oCut_le _ _ (by omega), show ((i : Int) + 1) = ((i + 1 : Nat) : Int) by omega, oCut_lo _ _ (by omega), List.set_eq_take_append_cons_drop, if_pos hi, List.append_assoc]
  rfl
theorem fAdd_cut1 {xs : List D} {i : Nat} {d : D} (hl : xs.length ≤ 60) : fAdd (.tup (DL.cutD xs none (some (i : Int)))) (.tup [d]) = some (.val (.tup (DL.cutD xs none (some (i : Int)) ++ [d]))) := fAdd_tup (big64 (by rw [oCut_hi]; simp; omega))
theorem fAdd_cut2 {xs : List D} {i : Nat} {d : D} (hi : i < xs.length) (hl : xs.length ≤ 60) : fAdd (.tup (DL.cutD xs none (some (i : Int)) ++ [d])) (.tup (DL.cutD xs (some ((i : Int) + 1)) none)) = some (.val (.tup (xs.set i d))) := by
  rw [← put_eq hi]
  refine fAdd_tup (big64 ?_)
  rw [oCut_hi, show ((i : Int) + 1) = ((i + 1 : Nat) : Int) by omega, oCut_lo _ _ (by omega)]
  simp
  omega
theorem s_put {xs : List D} {i : Nat} {d : D} (hi : i < xs.length) (hl : xs.length ≤ 60) : Ret w_law_put [.val (.tup xs), .val (.int (i : Nat)), .val d] (.tup (xs.set i d)) := by
  intro Qd Ed k
  unfold w_law_put m_law_put
  conv => whnf
  repeat (refine ⟨_, rfl, ?_⟩; conv => whnf)
  refine ⟨small64 (by simp), ?_⟩
  conv => whnf
  refine ⟨_, fAdd_cut1 hl, ?_⟩
  conv => whnf
  repeat (refine ⟨_, rfl, ?_⟩; conv => whnf)
  refine ⟨_, fAdd_cut2 hi hl, ?_⟩
  exact k _
end Lk80
set_option exponentiation.threshold 100000
namespace Lk80
open PySem PySem.Spec PyProof.Rows L2 DL TL
def nrL (r : List Int) (i : Nat) : List D := [.non, (.bl true), (.int 0), (.str (Str.ofString "row")), (.lst (r.map D.int)), (.dic [] []), (.tup (r.map D.int ++ [.int 0])), (.tup (DL.cutD (r.map D.int) (some 1) none)), (.tup [(ti r)]), (.tup ((r.map D.int).set i .non))]
theorem xnr {r : List Int} {i : Nat} {p : List D} {c3 : Option Cell} (hi : i < (r.map D.int).length) (hl : (r.map D.int).length ≤ 60) : ∀ (Q : CQ) E, Q (.own (nrL r i)) [some (.own p), some (.val (ti r)), some (.val (.int (i : Nat))), c3] → x_law_not_row_iv_1 [some (.own p), some (.val (ti r)), some (.val (.int (i : Nat))), c3] Q E := by
  have h60 : r.length ≤ 60 := by rwa [List.length_map] at hl
  unfold x_law_not_row_iv_1 nrL
  exact evc_lst (evl_c (eva_K _) (evl_c (eva_K _) (evl_c (eva_K _) (evl_c (eva_K _) (evl_c (eva_No (eva_V rfl) rfl) (evl_c (eva_K _) (evl_c (eva_2 (eva_V rfl) (eva_tup (evl_c (eva_K _) evl_n) (by simp)) (fAdd_tup (big64 (by simp; omega)))) (evl_c (eva_sl_lo (eva_V rfl) (eva_K _) rfl) (evl_c (eva_tup (evl_c (eva_V rfl) evl_n) (by simp)) (evl_c (eva_2 (eva_2 (eva_sl_hi (eva_V rfl) (eva_V rfl) rfl) (eva_tup (evl_c (eva_K _) evl_n) (by simp)) (fAdd_cut1 hl)) (eva_sl_lo (eva_V rfl) (eva_2 (eva_V rfl) (eva_K _) rfl) rfl) (fAdd_cut2 hi hl)) evl_n)))))))))) (by simp)
/-- no row of n numbers, though one with more or less it may be -/
structure NR (n : Nat) (d : D) : Prop where
  g : Gd 6 d
  r : ∀ r' : List Int, d = ti r' → r'.length = n + 1 ∨ r'.length + 1 = n
theorem set_not {r r' : List Int} {i : Nat} {d : D} (hi : i < r.length) (hd : isI d = false) (e : (D.tup ((r.map D.int).set i d)) = ti r') : False := by
  injection e with e
  have h1 : ((r.map D.int).set i d)[i]? = some d := by rw [List.getElem?_set_self (by rw [List.length_map]; exact hi)]
  rw [e, List.getElem?_map] at h1
  cases q : r'[i]? with
  | none => rw [q] at h1; cases h1
  | some x =>
    rw [q] at h1
    injection h1 with h1
    rw [← h1] at hd
    cases hd
theorem Gd.set {m : Nat} {r : List Int} {i : Nat} {d : D} (hl : r.length < 60) (hd : Gd (m + 1) d) : Gd (m + 2) (.tup ((r.map D.int).set i d)) := Gd.tup (by rw [List.length_set, List.length_map]; exact hl) fun x hx => by
  rcases List.mem_or_eq_of_mem_set hx with z | z
  · obtain ⟨y, _, rfl⟩ := List.mem_map.mp z
    exact Gd.int m y
  · rw [z]; exact hd
theorem NR.put {n : Nat} {r : List Int} {i : Nat} {d : D} (hr : r.length ≤ 8) (hi : i < r.length) (h : Gd 4 d) (hd : isI d = false) : NR n (.tup ((r.map D.int).set i d)) := ⟨(Gd.set (m := 3) (by omega) h).up, fun r' e => (set_not hi hd e).elim⟩
theorem nr_cut {r : List Int} (h : 1 ≤ r.length) : (D.tup (DL.cutD (r.map D.int) (some 1) none)) = ti (r.drop 1) := by
  show D.tup (DL.cutD (r.map D.int) (some ((1 : Nat) : Int)) none) = D.tup ((r.drop 1).map D.int)
  rw [oCut_lo (r.map D.int) 1 (by rw [List.length_map]; exact h), List.map_drop]
theorem nrL_ok {n : Nat} {r : List Int} {i : Nat} (hr : r.length = n) (hn : 1 ≤ n ∧ n ≤ 8) (hi : i < r.length) : ∀ d ∈ nrL r i, NR n d := by
  intro d hd
  unfold nrL at hd
  simp only [List.mem_cons, List.not_mem_nil, or_false] at hd
  rcases hd with rfl | rfl | rfl | rfl | rfl | rfl | rfl | rfl | rfl | rfl
  · exact ⟨Gd.of rfl, fun r' e => by cases e⟩
  · exact ⟨Gd.of rfl, fun r' e => by cases e⟩
  · exact ⟨Gd.of rfl, fun r' e => by cases e⟩
  · exact ⟨Gd.of (by decide +kernel), fun r' e => by cases e⟩
  · refine ⟨⟨okA_lst.mpr ⟨by rw [List.length_map]; omega, fun x hx => by
      obtain ⟨y, _, rfl⟩ := List.mem_map.mp hx
      rfl⟩, List.all_eq_true.mpr fun x hx => by
      obtain ⟨y, _, rfl⟩ := List.mem_map.mp hx
      rfl⟩, fun r' e => by cases e⟩
  · exact ⟨Gd.of rfl, fun r' e => by cases e⟩
  · have e : (D.tup (r.map D.int ++ [.int 0])) = ti (r ++ [0]) := by
      show _ = D.tup ((r ++ [0]).map D.int)
      rw [List.map_append]
      rfl
    rw [e]
    refine ⟨Gd.ti 4 (by simp; omega), fun r' e2 => .inl ?_⟩
    injection e2 with e2
    have := congrArg List.length e2
    rw [List.length_map, List.length_map, List.length_append, hr] at this
    exact this.symm
  · rw [nr_cut (by omega)]
    refine ⟨Gd.ti 4 (by simp; omega), fun r' e2 => .inr ?_⟩
    injection e2 with e2
    have := congrArg List.length e2
    rw [List.length_map, List.length_map, List.length_drop, hr] at this
    omega
  · refine ⟨Gd.tup (by simp) fun x hx => ?_, fun r' e => ?_⟩
    · have : x = ti r := by simpa using hx
      rw [this]
      exact Gd.ti 3 (by omega)
    · injection e with e
      cases r' with
      | nil => cases e
      | cons y ys => cases e
  · exact NR.put (by omega) hi (Gd.of rfl) rfl
theorem s_not_row {k n : Nat} {p : List D} {r : List Int} (hp : Pl k p) (hk : k < 2 ^ 48) (hr : r.length = n) (hn : 1 ≤ n ∧ n ≤ 8) {Qd : Cell → Outs → Prop} {Ed : Str → List (Str × D) → Outs → Prop}
    (h : ∀ d o, NR n d → Pl (k + 3) (o 0) → Qd (.val d) o) : w_law_not_row_iv [.own p, .val (ti r)] Qd Ed := by
  have dr := fun {k : Nat} {p : List D} {many : Int} (hp : Pl k p) (hk : k < 2 ^ 50) (h1 : 1 ≤ many) (h9 : many ≤ 60) {Qd : Cell → Outs → Prop} {Ed : Str → List (Str × D) → Outs → Prop} h => s_draw (many := many) hp (by omega) h1 (many_pow (by omega) (by omega)) (Qd := Qd) (Ed := Ed) h
  have pk := fun {k : Nat} {p : List D} {ths : List D} (hp : Pl k p) (hk : k < 2 ^ 50) (h1 : 1 ≤ ths.length) (h2 : ths.length < 2 ^ 30) {Qd : Cell → Outs → Prop} {Ed : Str → List (Str × D) → Outs → Prop} h => s_pick (ths := ths) hp hk h1 h2 (Qd := Qd) (Ed := Ed) h
  have nn := fun {k : Nat} {p : List D} (hp : Pl k p) (hk : k < 2 ^ 49) {Qd : Cell → Outs → Prop} {Ed : Str → List (Str × D) → Outs → Prop} h => s_not_number hp hk (Qd := Qd) (Ed := Ed) h
  have pt := fun {xs : List D} {i : Nat} {d : D} (hi : i < xs.length) (hl : xs.length ≤ 60) => s_put (d := d) hi hl
  have x := fun {i : Nat} {p : List D} {c3 : Option Cell} (hi : i < (r.map D.int).length) (hl : (r.map D.int).length ≤ 60) => xnr (p := p) (c3 := c3) hi hl
  have hrl : (r.map D.int).length = n := by rw [List.length_map]; exact hr
  unfold w_law_not_row_iv m_law_not_row_iv m_law_not_row_iv_2 m_law_not_row_iv_1
  revert dr pk nn pt x
  generalize w_law_draw_iv = W1
  generalize w_law_pick_iv = W2
  generalize w_law_not_number_i = W3
  generalize w_law_put = W4
  generalize x_law_not_row_iv_1 = X1
  revert W1 W2 W3 W4 X1
  refine id ?_
  intro W1 W2 W3 W4 X1 dr pk nn pt x
  conv => whnf
  (refine ⟨_, rfl, ?_⟩; conv => whnf)
  refine dr hp (by omega) (by omega) (by omega) fun j o h0 h3 hp2 => ?_
  obtain ⟨i, rfl⟩ := Int.eq_ofNat_of_zero_le h0
  have hi : i < (r.map D.int).length := by omega
  conv => whnf
  refine x hi (by omega) _ _ ?_
  conv => whnf
  refine dr hp2 (by omega) (by decide) (by decide) fun t o2 t0 t2 hp3 => ?_
  conv => whnf
  refine ⟨_, fEq_int t 0, ?_⟩
  by_cases c : t = 0
  · rw [decide_eq_true c]
    conv => whnf
    refine nn hp3 (by omega) fun d o3 hd hdi hp4 => ?_
    conv => whnf
    refine pt hi (by omega) _ _ fun o4 => ?_
    exact h _ _ (NR.put (by omega) (by omega) hd hdi) hp4
  · rw [decide_eq_false c]
    conv => whnf
    refine pk hp3 (by omega) (by unfold nrL; simp) (by unfold nrL; simp) fun d o3 hd hp4 => ?_
    exact h d _ (nrL_ok hr hn (by omega) d hd) hp4
theorem s_not_pack {k n : Nat} {p : List D} {r : List Int} (hp : Pl k p) (hk : k < 2 ^ 47) (hr : r.length = n) (hn : 1 ≤ n ∧ n ≤ 8) {Qd : Cell → Outs → Prop} {Ed : Str → List (Str × D) → Outs → Prop}
    (h : ∀ d o, Gd 6 d → Pl (k + 5) (o 0) → Qd (.val d) o) : w_law_not_pack_iv [.own p, .val (ti r)] Qd Ed := by
  have dr := fun {k : Nat} {p : List D} {many : Int} (hp : Pl k p) (hk : k < 2 ^ 50) (h1 : 1 ≤ many) (h9 : many ≤ 60) {Qd : Cell → Outs → Prop} {Ed : Str → List (Str × D) → Outs → Prop} h => s_draw (many := many) hp (by omega) h1 (many_pow (by omega) (by omega)) (Qd := Qd) (Ed := Ed) h
  have pk := fun {k : Nat} {p : List D} {ths : List D} (hp : Pl k p) (hk : k < 2 ^ 50) (h1 : 1 ≤ ths.length) (h2 : ths.length < 2 ^ 30) {Qd : Cell → Outs → Prop} {Ed : Str → List (Str × D) → Outs → Prop} h => s_pick (ths := ths) hp hk h1 h2 (Qd := Qd) (Ed := Ed) h
  have pt := fun {xs : List D} {i : Nat} {d : D} (hi : i < xs.length) (hl : xs.length ≤ 60) => s_put (d := d) hi hl
  have nr := fun {k : Nat} {p : List D} (hp : Pl k p) (hk : k < 2 ^ 48) {Qd : Cell → Outs → Prop} {Ed : Str → List (Str × D) → Outs → Prop} h => s_not_row hp hk hr hn (Qd := Qd) (Ed := Ed) h
  have hrl : (r.map D.int).length = n := by rw [List.length_map]; exact hr
  unfold w_law_not_pack_iv m_law_not_pack_iv m_law_not_pack_iv_1
  revert dr pk pt nr
  generalize w_law_draw_iv = W1
  generalize w_law_pick_iv = W2
  generalize w_law_put = W4
  generalize w_law_not_row_iv = W5
  revert W1 W2 W4 W5
  refine id ?_
  intro W1 W2 W4 W5 dr pk pt nr
  conv => whnf
  (refine ⟨_, rfl, ?_⟩; conv => whnf)
  refine dr hp (by omega) (by omega) (by omega) fun j o h0 h3 hp2 => ?_
  obtain ⟨i, rfl⟩ := Int.eq_ofNat_of_zero_le h0
  have hi : i < (r.map D.int).length := by omega
  conv => whnf
  refine dr hp2 (by omega) (by decide) (by decide) fun t o2 t0 t2 hp3 => ?_
  conv => whnf
  refine ⟨_, fEq_int t 0, ?_⟩
  by_cases c : t = 0
  · rw [decide_eq_true c]
    conv => whnf
    repeat (refine ⟨_, rfl, ?_⟩; conv => whnf)
    refine ⟨small64 (by simp), ?_⟩
    conv => whnf
    refine pk hp3 (by omega) (by simp) (by simp) fun d o3 hd hp4 => ?_
    have hdi : ∃ x : Int, d = .int x := by
      simp only [List.mem_cons, List.not_mem_nil, or_false] at hd
      rcases hd with rfl | rfl | rfl
      · exact ⟨_, rfl⟩
      · exact ⟨_, rfl⟩
      · exact ⟨_, rfl⟩
    obtain ⟨x, rfl⟩ := hdi
    conv => whnf
    refine pt hi (by omega) _ _ fun o4 => ?_
    exact h _ _ (Gd.set (m := 4) (by omega) (Gd.int 4 x)) (hp4.mono (by omega))
  · rw [decide_eq_false c]
    conv => whnf
    refine nr hp3 (by omega) fun d o3 hd hp4 => ?_
    exact h d _ hd.g hp4
def f19 : List D := [.non, (.int 1), (.str (Str.ofString "1/2")), (.tup []), (.tup [(.int 1)]), (.tup [(.int 1), (.int 2), (.int 3)]), (.lst [(.int 1), (.int 2)]), (.tup [(.int 2), (.int 4)]), (.tup [(.int 0), (.int 2)]), (.tup [(.int (-6)), (.int 3)]), (.tup [(.int 1), (.int 0)]), (.tup [(.int 0), (.int 0)]), (.tup [(.int 1), (.int (-2))]), (.tup [(.int (-1)), (.int (-2))]), (.tup [(.bl true), (.int 1)]), (.tup [(.int 1), (.bl true)]), (.tup [(.tup [(.int 1), (.int 1)]), (.int 1)]), (.tup [(.str (Str.ofString "1")), (.int 1)]), (.tup [(.int 1), .non])]
def f4 : List D := [(.dic [] []), (.bl true), (.tup [(.int 0), (.int (-1))]), (.tup [(.int (10 ^ 40)), (.int (10 ^ 39))])]
theorem xf19 (ρ : En) : ∀ (Q : CQ) E, Q (.own f19) ρ → x_law_not_fraction_i_1 ρ Q E := by
  unfold x_law_not_fraction_i_1 f19
  exact evc_lst (evl_c (eva_K _) (evl_c (eva_K _) (evl_c (eva_K _) (evl_c (eva_tup evl_n (by simp)) (evl_c (eva_tup (evl_c (eva_K _) evl_n) (by simp)) (evl_c (eva_tup (evl_c (eva_K _) (evl_c (eva_K _) (evl_c (eva_K _) evl_n))) (by simp)) (evl_c (eva_lst (evl_c (eva_K _) (evl_c (eva_K _) evl_n)) (by simp)) (evl_c (eva_tup (evl_c (eva_K _) (evl_c (eva_K _) evl_n)) (by simp)) (evl_c (eva_tup (evl_c (eva_K _) (evl_c (eva_K _) evl_n)) (by simp)) (evl_c (eva_tup (evl_c (eva_1 (eva_K _) rfl) (evl_c (eva_K _) evl_n)) (by simp)) (evl_c (eva_tup (evl_c (eva_K _) (evl_c (eva_K _) evl_n)) (by simp)) (evl_c (eva_tup (evl_c (eva_K _) (evl_c (eva_K _) evl_n)) (by simp)) (evl_c (eva_tup (evl_c (eva_K _) (evl_c (eva_1 (eva_K _) rfl) evl_n)) (by simp)) (evl_c (eva_tup (evl_c (eva_1 (eva_K _) rfl) (evl_c (eva_1 (eva_K _) rfl) evl_n)) (by simp)) (evl_c (eva_tup (evl_c (eva_K _) (evl_c (eva_K _) evl_n)) (by simp)) (evl_c (eva_tup (evl_c (eva_K _) (evl_c (eva_K _) evl_n)) (by simp)) (evl_c (eva_tup (evl_c (eva_tup (evl_c (eva_K _) (evl_c (eva_K _) evl_n)) (by simp)) (evl_c (eva_K _) evl_n)) (by simp)) (evl_c (eva_tup (evl_c (eva_K _) (evl_c (eva_K _) evl_n)) (by simp)) (evl_c (eva_tup (evl_c (eva_K _) (evl_c (eva_K _) evl_n)) (by simp)) evl_n))))))))))))))))))) (by simp)
theorem xf4 (ρ : En) : ∀ (Q : CQ) E, Q (.own f4) ρ → x_law_not_fraction_i_2 ρ Q E := by
  unfold x_law_not_fraction_i_2 f4
  exact evc_lst (evl_c (eva_K _) (evl_c (eva_K _) (evl_c (eva_tup (evl_c (eva_K _) (evl_c (eva_1 (eva_K _) rfl) evl_n)) (by simp)) (evl_c (eva_tup (evl_c (eva_2 (eva_K _) (eva_K _) rfl) (evl_c (eva_2 (eva_K _) (eva_K _) rfl) evl_n)) (by simp)) evl_n)))) (by simp)
theorem f_ok : ((f19 ++ f4).all fun d => (okA d && gsB 8 d) && !isFr d) = true := by decide +kernel
theorem s_not_fraction {k : Nat} {p : List D} (hp : Pl k p) (hk : k < 2 ^ 49) {Qd : Cell → Outs → Prop} {Ed : Str → List (Str × D) → Outs → Prop}
    (h : ∀ d o, Gd 8 d → isFr d = false → Pl (k + 1) (o 0) → Qd (.val d) o) : w_law_not_fraction_i [.own p] Qd Ed := by
  have pk := fun {ths : List D} (h1 : 1 ≤ ths.length) (h2 : ths.length < 2 ^ 30) {Qd : Cell → Outs → Prop} {Ed : Str → List (Str × D) → Outs → Prop} h => s_pick (ths := ths) hp (by omega) h1 h2 (Qd := Qd) (Ed := Ed) h
  have x := xf19
  have y := xf4
  unfold w_law_not_fraction_i m_law_not_fraction_i m_law_not_fraction_i_1
  revert pk x y
  generalize w_law_pick_iv = W1
  generalize x_law_not_fraction_i_1 = X1
  generalize x_law_not_fraction_i_2 = X2
  revert W1 X1 X2
  refine id ?_
  intro W1 X1 X2 pk x y
  conv => whnf
  refine x _ _ _ ?_
  conv => whnf
  refine y _ _ _ ?_
  conv => whnf
  refine ⟨_, fAdd_lst (xs := f19) (ys := f4) (small64 (by decide)), ?_⟩
  conv => whnf
  refine pk (by decide) (by decide) fun d o hd hp2 => ?_
  have := List.all_eq_true.mp f_ok d hd
  rw [Bool.and_eq_true, Bool.not_eq_true'] at this
  exact h d _ (Gd.of this.1) this.2 hp2
end Lk80
set_option exponentiation.threshold 100000
namespace Lk80
open PySem PySem.Spec PyProof.Rows L2 DL TL
theorem fMul_one {d : D} {i : Int} {m : Nat} (e : i = (m : Nat)) (h : m ≤ 100) : fMul (.lst [d]) (.int i) = some (.own (List.replicate m d)) := by
  subst e
  have e2 : (List.replicate m [d]).flatten = List.replicate m d := by
    clear h
    induction m with
    | zero => rfl
    | succ m ih =>
      rw [List.replicate_succ, List.replicate_succ, List.flatten_cons, ih]
      rfl
  have hc : [d].length * ((m : Nat) : Int).toNat ≤ sizeLine := by
    rw [Int.toNat_natCast]
    exact big64 (by simp; omega)
  have h1 : -(2 ^ 63) ≤ ((m : Nat) : Int) := by omega
  have h2 : ((m : Nat) : Int) < 2 ^ 63 := by omega
  simp only [fMul]
  rw [if_pos ⟨h1, h2, hc⟩, Int.toNat_natCast, e2]
theorem fMul_tup {xs : List D} {n : Nat} (h : xs.length * n ≤ 1000) (h2 : n ≤ 1000) : fMul (.tup xs) (.int (n : Nat)) = some (.val (.tup (List.replicate n xs).flatten)) := by
  have hc : xs.length * ((n : Nat) : Int).toNat ≤ 1000000 := by rw [Int.toNat_natCast]; omega
  have h1 : -(2 ^ 63) ≤ ((n : Nat) : Int) := by omega
  have h2 : ((n : Nat) : Int) < 2 ^ 63 := by omega
  simp only [fMul]
  rw [if_pos ⟨h1, h2, hc⟩, Int.toNat_natCast]
abbrev nl (p : List D) (n : Nat) (rows : List (List Int)) (c4 c5 : Option Cell) : En := [some (.own p), some (.val (lsD n rows)), some (.val (.int (n : Nat))), some (.val (tt rows)), c4, c5]
section
variable {k n : Nat} {p : List D} {rows : List (List Int)} {r0 : List Int} {c4 c5 : Option Cell}
def nl1 (n : Nat) (rows : List (List Int)) (r0 : List Int) : List D := [(.int 0), (.int 7), (.int (-1)), (.bl true), .non, (.str (Str.ofString "2")), (.int ((n : Nat) + 1)), (.tup [(.int (n : Nat))])]
theorem xl1 (hn : n ≤ 6) (hr : rows.length ≤ 8) (h0 : fIx (tt rows) (.int 0) = some (.val (ti r0))) : ∀ (Q : CQ) E, Q (.own (nl1 n rows r0)) (nl p n rows c4 c5) → x_law_not_list_iv_1 (nl p n rows c4 c5) Q E := by
  unfold x_law_not_list_iv_1 nl1
  exact evc_lst (evl_c (eva_K _) (evl_c (eva_K _) (evl_c (eva_1 (eva_K _) rfl) (evl_c (eva_K _) (evl_c (eva_K _) (evl_c (eva_K _) (evl_c (eva_2 (eva_V rfl) (eva_K _) rfl) (evl_c (eva_tup (evl_c (eva_V rfl) evl_n) (by simp)) evl_n)))))))) (by simp)
def nl2 (n : Nat) (rows : List (List Int)) (r0 : List Int) : List D := [(.tup [(.int 0), (.tup [])]), (.tup [(.int 7), (.tup [])]), (.tup [(.int (n : Nat)), (.tup (rows.map ti ++ [.tup (List.replicate (n + 1) (.int 0))]))]), (.tup [(.int (n : Nat)), (.tup [(.tup (List.replicate n (.int 10000)))])])]
theorem xl2 (hn : n ≤ 6) (hr : rows.length ≤ 8) (h0 : fIx (tt rows) (.int 0) = some (.val (ti r0))) : ∀ (Q : CQ) E, Q (.own (nl2 n rows r0)) (nl p n rows c4 c5) → x_law_not_list_iv_2 (nl p n rows c4 c5) Q E := by
  unfold x_law_not_list_iv_2 nl2
  exact evc_lst (evl_c (eva_tup (evl_c (eva_K _) (evl_c (eva_tup evl_n (by simp)) evl_n)) (by simp)) (evl_c (eva_tup (evl_c (eva_K _) (evl_c (eva_tup evl_n (by simp)) evl_n)) (by simp)) (evl_c (eva_tup (evl_c (eva_V rfl) (evl_c (eva_2 (eva_V rfl) (eva_tup (evl_c (eva_N (eva_2o (eva_lst (evl_c (eva_K _) evl_n) (by simp)) (eva_2 (d := .int ((n : Nat) + 1)) (eva_V rfl) (eva_K _) rfl) (fMul_one (m := n + 1) (by omega) (by omega))) rfl) evl_n) (by simp)) (fAdd_tup (big64 (by simp; omega)))) evl_n)) (by simp)) (evl_c (eva_tup (evl_c (eva_V rfl) (evl_c (eva_tup (evl_c (eva_N (eva_2o (eva_lst (evl_c (eva_K _) evl_n) (by simp)) (eva_V rfl) (fMul_one (m := n) rfl (by omega))) rfl) evl_n) (by simp)) evl_n)) (by simp)) evl_n)))) (by simp)
def nl3 (n : Nat) (rows : List (List Int)) (r0 : List Int) : List D := [.non, (.tup []), (.lst [.int (n : Nat), tt rows]), (.tup [(.int (n : Nat))]), (.tup ([.int (n : Nat), tt rows] ++ [.tup []])), (.tup [(.int (n : Nat)), (.lst (rows.map ti))]), (.tup [(tt rows), (.int (n : Nat))]), (tt rows), (.int (n : Nat)), (.tup [(.int (n : Nat)), (ti r0)]), (.str (Str.ofString "list")), (.bl true), (.dic [] [])]
theorem xl3 (hn : n ≤ 6) (hr : rows.length ≤ 8) (h0 : fIx (tt rows) (.int 0) = some (.val (ti r0))) : ∀ (Q : CQ) E, Q (.own (nl3 n rows r0)) (nl p n rows c4 c5) → x_law_not_list_iv_3 (nl p n rows c4 c5) Q E := by
  unfold x_law_not_list_iv_3 nl3
  exact evc_lst (evl_c (eva_K _) (evl_c (eva_tup evl_n (by simp)) (evl_c (eva_No (eva_V rfl) rfl) (evl_c (eva_tup (evl_c (eva_V rfl) evl_n) (by simp)) (evl_c (eva_2 (eva_V rfl) (eva_tup (evl_c (eva_tup evl_n (by simp)) evl_n) (by simp)) (fAdd_tup (big64 (by simp)))) (evl_c (eva_tup (evl_c (eva_V rfl) (evl_c (eva_No (eva_V rfl) rfl) evl_n)) (by simp)) (evl_c (eva_tup (evl_c (eva_V rfl) (evl_c (eva_V rfl) evl_n)) (by simp)) (evl_c (eva_V rfl) (evl_c (eva_V rfl) (evl_c (eva_tup (evl_c (eva_V rfl) (evl_c (eva_2 (eva_V rfl) (eva_K _) h0) evl_n)) (by simp)) (evl_c (eva_K _) (evl_c (eva_K _) (evl_c (eva_K _) evl_n))))))))))))) (by simp)
theorem Lst.gr {r : List Int} (hl : Lst n rows) (h : r ∈ rows) : Gd 2 (ti r) := Gd.ti 0 (by have := hl.g; rw [(hl.x r h).1]; omega)
theorem Lst.gt (hl : Lst n rows) : Gd 3 (tt rows) := Gd.tup (by rw [List.length_map]; have := hl.r; omega) fun d hd => by
  obtain ⟨r, hr, rfl⟩ := List.mem_map.mp hd
  exact hl.gr hr
theorem Gd.ups {m j : Nat} {d : D} (h : Gd m d) : Gd (m + j) d := by
  induction j with
  | zero => exact h
  | succ j ih => exact ih.up
theorem Gd.le {m j : Nat} {d : D} (h : Gd m d) (hm : m ≤ j) : Gd j d := by
  have := h.ups (j := j - m)
  rwa [Nat.add_sub_cancel' hm] at this
theorem gd_two {m : Nat} {a b : D} (h1 : Gd m a) (h2 : Gd m b) : Gd (m + 1) (.tup [a, b]) := Gd.tup (by simp) fun d hd => by
  simp only [List.mem_cons, List.not_mem_nil, or_false] at hd
  rcases hd with rfl | rfl
  · exact h1
  · exact h2
theorem gd_one {m : Nat} {a : D} (h1 : Gd m a) : Gd (m + 1) (.tup [a]) := Gd.tup (by simp) fun d hd => by
  have : d = a := by simpa using hd
  rw [this]
  exact h1
theorem szB_ti (m : Nat) (r : List Int) : szB (m + 2) (ti r) = true := List.all_eq_true.mpr fun x hx => by
  obtain ⟨y, _, rfl⟩ := List.mem_map.mp hx
  rfl
theorem szB_tt (m : Nat) (rows : List (List Int)) : szB (m + 3) (tt rows) = true := List.all_eq_true.mpr fun x hx => by
  obtain ⟨y, _, rfl⟩ := List.mem_map.mp hx
  exact szB_ti m y
theorem Lst.gl (hl : Lst n rows) : Gd 1 (.lst (rows.map ti)) := ⟨okA_lst.mpr ⟨by rw [List.length_map]; have := hl.r; omega, fun d hd => by
  obtain ⟨r, hr, rfl⟩ := List.mem_map.mp hd
  exact (hl.gr hr).a⟩, List.all_eq_true.mpr fun x hx => by
  obtain ⟨y, _, rfl⟩ := List.mem_map.mp hx
  exact szB_ti 17 y⟩
theorem Lst.gls (hl : Lst n rows) : Gd 1 (.lst [.int (n : Nat), tt rows]) := ⟨okA_lst.mpr ⟨by simp, fun d hd => by
  simp only [List.mem_cons, List.not_mem_nil, or_false] at hd
  rcases hd with rfl | rfl
  · rfl
  · exact hl.gt.a⟩, List.all_eq_true.mpr fun x hx => by
  simp only [List.mem_cons, List.not_mem_nil, or_false] at hx
  rcases hx with rfl | rfl
  · rfl
  · exact szB_tt 16 rows⟩
theorem gd_rep (m j : Nat) (i : Int) (hj : j < 60) : Gd (m + 2) (.tup (List.replicate j (.int i))) := Gd.tup (by rw [List.length_replicate]; exact hj) fun d hd => by
  rw [(List.mem_replicate.mp hd).2]
  exact Gd.int m i
theorem nl1_ok : ∀ d ∈ nl1 n rows r0, Gd 7 d := by
  intro d hd
  unfold nl1 at hd
  simp only [List.mem_cons, List.not_mem_nil, or_false] at hd
  rcases hd with rfl | rfl | rfl | rfl | rfl | rfl | rfl | rfl
  · exact Gd.of rfl
  · exact Gd.of rfl
  · exact Gd.of rfl
  · exact Gd.of rfl
  · exact Gd.of rfl
  · exact Gd.of (by decide +kernel)
  · exact Gd.int 6 _
  · exact gd_one (Gd.int 5 _)
theorem nl2_ok (hl : Lst n rows) : ∀ d ∈ nl2 n rows r0, Gd 8 d := by
  have hn := hl.g
  have hr := hl.r
  intro d hd
  unfold nl2 at hd
  simp only [List.mem_cons, List.not_mem_nil, or_false] at hd
  rcases hd with rfl | rfl | rfl | rfl
  · exact Gd.of rfl
  · exact Gd.of rfl
  · refine gd_two (Gd.int 6 _) (Gd.tup (m := 6) (by simp; omega) fun x hx => ?_)
    rcases List.mem_append.mp hx with z | z
    · obtain ⟨r, hr, rfl⟩ := List.mem_map.mp z
      exact (hl.gr hr).le (by decide)
    · have : x = .tup (List.replicate (n + 1) (.int 0)) := by simpa using z
      rw [this]
      exact gd_rep 4 _ _ (by omega)
  · exact gd_two (Gd.int 6 _) (gd_one (gd_rep 4 _ _ (by omega)))
theorem nl3_ok (hl : Lst n rows) (h0 : r0 ∈ rows) : ∀ d ∈ nl3 n rows r0, Gd 8 d := by
  have hn := hl.g
  have hr := hl.r
  intro d hd
  unfold nl3 at hd
  simp only [List.mem_cons, List.not_mem_nil, or_false] at hd
  rcases hd with rfl | rfl | rfl | rfl | rfl | rfl | rfl | rfl | rfl | rfl | rfl | rfl | rfl
  · exact Gd.of rfl
  · exact Gd.of rfl
  · exact hl.gls.le (by decide)
  · exact gd_one (Gd.int 6 _)
  · refine Gd.tup (m := 7) (by simp) fun x hx => ?_
    have hx : x = .int (n : Nat) ∨ x = tt rows ∨ x = .tup [] := by simpa using hx
    rcases hx with rfl | rfl | rfl
    · exact Gd.int 6 _
    · exact hl.gt.le (by decide)
    · exact Gd.of rfl
  · exact gd_two (Gd.int 6 _) (hl.gl.le (by decide))
  · exact gd_two (hl.gt.le (by decide)) (Gd.int 6 _)
  · exact hl.gt.le (by decide)
  · exact Gd.int 7 _
  · exact gd_two (Gd.int 6 _) ((hl.gr h0).le (by decide))
  · exact Gd.of (by decide +kernel)
  · exact Gd.of rfl
  · exact Gd.of rfl
theorem s_not_list (hl : Lst n rows) (hne : 1 ≤ rows.length) (hp : Pl k p) (hk : k < 2 ^ 46) {Qd : Cell → Outs → Prop} {Ed : Str → List (Str × D) → Outs → Prop}
    (h : ∀ d o, Gd 8 d → Pl (k + 8) (o 0) → Qd (.val d) o) : w_law_not_list_iv [.own p, .val (lsD n rows)] Qd Ed := by
  have hg := hl.g
  have hr8 := hl.r
  have dr := fun {k : Nat} {p : List D} {many : Int} (hp : Pl k p) (hk : k < 2 ^ 50) (h1 : 1 ≤ many) (h9 : many ≤ 60) {Qd : Cell → Outs → Prop} {Ed : Str → List (Str × D) → Outs → Prop} h => s_draw (many := many) hp (by omega) h1 (many_pow (by omega) (by omega)) (Qd := Qd) (Ed := Ed) h
  have pk := fun {k : Nat} {p : List D} {ths : List D} (hp : Pl k p) (hk : k < 2 ^ 50) (h1 : 1 ≤ ths.length) (h2 : ths.length < 2 ^ 30) {Qd : Cell → Outs → Prop} {Ed : Str → List (Str × D) → Outs → Prop} h => s_pick (ths := ths) hp hk h1 h2 (Qd := Qd) (Ed := Ed) h
  have pt := fun {xs : List D} {i : Nat} {d : D} (hi : i < xs.length) (hl : xs.length ≤ 60) => s_put (d := d) hi hl
  have np := fun {k : Nat} {p : List D} {r : List Int} (hp : Pl k p) (hk : k < 2 ^ 47) (hr : r.length = n) {Qd : Cell → Outs → Prop} {Ed : Str → List (Str × D) → Outs → Prop} h => s_not_pack hp hk hr ⟨hg.1, by omega⟩ (Qd := Qd) (Ed := Ed) h
  have e0 : ∃ r0, r0 ∈ rows ∧ fIx (tt rows) (.int 0) = some (.val (ti r0)) := ⟨rows[0], List.getElem_mem (by omega), fIx_tup (k := 0) (by rw [List.getElem?_map, List.getElem?_eq_getElem (by omega)]; rfl)⟩
  obtain ⟨r0, hr0, e0⟩ := e0
  have y1 := fun {p : List D} {c4 c5 : Option Cell} => xl1 (p := p) (c4 := c4) (c5 := c5) hg.2 hr8 e0
  have y2 := fun {p : List D} {c4 c5 : Option Cell} => xl2 (p := p) (c4 := c4) (c5 := c5) hg.2 hr8 e0
  have y3 := fun {p : List D} {c4 c5 : Option Cell} => xl3 (p := p) (c4 := c4) (c5 := c5) hg.2 hr8 e0
  have hlm : (rows.map ti).length = rows.length := List.length_map _
  have m9 : fMul (tt rows) (.int 9) = some (.val (.tup (List.replicate 9 (rows.map ti)).flatten)) := fMul_tup (n := 9) (by rw [hlm]; omega) (by decide)
  unfold w_law_not_list_iv m_law_not_list_iv m_law_not_list_iv_6 m_law_not_list_iv_5 m_law_not_list_iv_4 m_law_not_list_iv_3 m_law_not_list_iv_2 m_law_not_list_iv_1
  revert dr pk pt np y1 y2 y3
  generalize w_law_draw_iv = W1
  generalize w_law_pick_iv = W2
  generalize w_law_put = W4
  generalize w_law_not_pack_iv = W5
  generalize x_law_not_list_iv_1 = X1
  generalize x_law_not_list_iv_2 = X2
  generalize x_law_not_list_iv_3 = X3
  revert W1 W2 W4 W5 X1 X2 X3
  refine id ?_
  intro W1 W2 W4 W5 X1 X2 X3 dr pk pt np y1 y2 y3
  conv => whnf
  refine ⟨rfl, ?_⟩
  conv => whnf
  refine dr hp (by omega) (by decide) (by decide) fun way o w0 w7 hp1 => ?_
  conv => whnf
  (refine ⟨_, rfl, ?_⟩; conv => whnf)
  rw [hlm]
  refine dr hp1 (by omega) (by omega) (by omega) fun j o2 j0 j9 hp2 => ?_
  obtain ⟨i, rfl⟩ := Int.eq_ofNat_of_zero_le j0
  have hi : i < rows.length := by omega
  conv => whnf
  refine ⟨rfl, ?_⟩
  conv => whnf
  by_cases c3 : way < 3
  · refine ⟨_, fLt_t c3, ?_⟩
    conv => whnf
    refine ⟨_, fIx_tup (d := ti rows[i]) (by rw [List.getElem?_map, List.getElem?_eq_getElem hi]; rfl), ?_⟩
    conv => whnf
    refine np hp2 (by omega) (hl.x _ (List.getElem_mem hi)).1 fun d o3 hd hp3 => ?_
    conv => whnf
    refine pt (by rw [hlm]; exact hi) (by rw [hlm]; omega) _ _ fun o4 => ?_
    conv => whnf
    refine ⟨small64 (by simp), ?_⟩
    refine h _ _ (gd_two (Gd.int 6 _) (Gd.tup (m := 6) (by rw [List.length_set, hlm]; omega) fun x hx => ?_)) (hp3.mono (by omega))
    rcases List.mem_or_eq_of_mem_set hx with z | z
    · obtain ⟨r, hr, rfl⟩ := List.mem_map.mp z
      exact (hl.gr hr).le (by decide)
    · rw [z]; exact hd
  · refine ⟨_, fLt_f c3, ?_⟩
    conv => whnf
    refine ⟨_, fEq_int way 3, ?_⟩
    by_cases c : way = 3
    · rw [decide_eq_true c]
      conv => whnf
      refine ⟨_, m9, ?_⟩
      conv => whnf
      repeat (refine ⟨_, rfl, ?_⟩; conv => whnf)
      refine ⟨small64 (by simp), ?_⟩
      refine h _ _ (gd_two (Gd.int 6 _) (Gd.tup (m := 6) ?_ fun x hx => ?_)) (hp2.mono (by omega))
      · rw [show (9 : Int) = ((9 : Nat) : Int) from rfl, oCut_hi, List.length_take]
        omega
      · rw [show (9 : Int) = ((9 : Nat) : Int) from rfl, oCut_hi] at hx
        have := List.mem_of_mem_take hx
        obtain ⟨l, hl2, hx2⟩ := List.mem_flatten.mp this
        rw [(List.mem_replicate.mp hl2).2] at hx2
        obtain ⟨r, hr, rfl⟩ := List.mem_map.mp hx2
        exact (hl.gr hr).le (by decide)
    · rw [decide_eq_false c]
      conv => whnf
      refine ⟨_, fEq_int way 4, ?_⟩
      by_cases c4 : way = 4
      · rw [decide_eq_true c4]
        conv => whnf
        refine y1 _ _ ?_
        conv => whnf
        refine pk hp2 (by omega) (by unfold nl1; simp) (by unfold nl1; simp) fun d o3 hd hp3 => ?_
        conv => whnf
        refine ⟨small64 (by simp), ?_⟩
        exact h _ _ (gd_two (nl1_ok d hd) (hl.gt.le (by decide))) (hp3.mono (by omega))
      · rw [decide_eq_false c4]
        conv => whnf
        refine ⟨_, fEq_int way 5, ?_⟩
        by_cases c5 : way = 5
        · rw [decide_eq_true c5]
          conv => whnf
          refine y2 _ _ ?_
          conv => whnf
          refine pk hp2 (by omega) (by unfold nl2; simp) (by unfold nl2; simp) fun d o3 hd hp3 => ?_
          exact h _ _ (nl2_ok hl d hd) (hp3.mono (by omega))
        · rw [decide_eq_false c5]
          conv => whnf
          refine y3 _ _ ?_
          conv => whnf
          refine pk hp2 (by omega) (by unfold nl3; simp) (by unfold nl3; simp) fun d o3 hd hp3 => ?_
          exact h _ _ (nl3_ok hl hr0 d hd) (hp3.mono (by omega))
end
end Lk80
set_option exponentiation.threshold 100000
namespace Lk80
open PySem PySem.Spec PyProof.Rows L2 DL TL
theorem bits_lt (b : Nat) (hb : b < 2 ^ 140) : ∃ t : Nat, Builtin.Int.intBits ((b : Nat) : Int) = t ∧ b < 2 ^ t ∧ t ≤ 140 := by
  refine ⟨_, rfl, ?_⟩
  unfold Builtin.Int.intBits
  by_cases h : b = 0
  · subst h
    decide
  · rw [if_neg (by simpa using h)]
    refine ⟨(Nat.log2_lt (n := b) (by omega)).mp (by simp), ?_⟩
    have := (Nat.log2_lt (n := b) (k := 140) (by omega)).mpr hb
    rw [Int.natAbs_natCast]
    omega
/-- where the laps stand: a pair, its common divisor, how small it is by now -/
structure Lap (g t i : Nat) (a b : Nat) : Prop where
  gd : Nat.gcd a b = g
  ev : i % 2 = 0 → b < 2 ^ (t - i / 2)
  od : i % 2 = 1 → a < 2 ^ (t - i / 2) ∧ b < a
theorem Lap.next {g t i a b : Nat} (h : Lap g t i a b) (hb : b ≠ 0) : Lap g t (i + 1) b (a % b) := by
  have hlt := Nat.mod_lt a (Nat.pos_of_ne_zero hb)
  refine ⟨?_, fun hi => ?_, fun hi => ?_⟩
  · rw [← h.gd, Nat.gcd_comm b, ← Nat.gcd_rec, Nat.gcd_comm]
  · obtain ⟨h1, h2⟩ := h.od (by omega)
    have e : (i + 1) / 2 = i / 2 + 1 := by omega
    have h3 : 2 * (a % b) < a := by
      have := Nat.div_add_mod a b
      have h4 : 1 ≤ a / b := (Nat.one_le_div_iff (Nat.pos_of_ne_zero hb)).mpr (by omega)
      have h5 : b * 1 ≤ b * (a / b) := Nat.mul_le_mul_left b h4
      omega
    cases ht : t - i / 2 with
    | zero => rw [ht] at h1; omega
    | succ s =>
      rw [ht, Nat.pow_succ] at h1
      rw [e, show t - (i / 2 + 1) = s by omega]
      omega
  · have h1 := h.ev (by omega)
    rw [show (i + 1) / 2 = i / 2 by omega]
    exact ⟨h1, hlt⟩
theorem Lap.end_ {g t a b : Nat} (h : Lap g t (2 * t + 3) a b) : False := by
  obtain ⟨h1, h2⟩ := h.od (by omega)
  rw [show t - (2 * t + 3) / 2 = 0 by omega] at h1
  omega
theorem s_ratio {top low : Int} (ht : top.natAbs < 10 ^ 41) (h1 : 1 ≤ low) (hl : low.natAbs < 10 ^ 41) : ∃ a b : Int, isFr (ti [a, b]) = true ∧ a.natAbs < 10 ^ 41 ∧ b.natAbs < 10 ^ 41 ∧ Ret w_law_ratio [.val (.int top), .val (.int low)] (ti [a, b]) := by
  generalize eg : Nat.gcd top.natAbs low.natAbs = g
  have hg1 : g ∣ top.natAbs := eg ▸ Nat.gcd_dvd_left _ _
  have hg2 : g ∣ low.natAbs := eg ▸ Nat.gcd_dvd_right _ _
  have hg0 : 0 < g := eg ▸ Nat.gcd_pos_of_pos_right _ (by omega)
  have hgl : g ≤ low.natAbs := Nat.le_of_dvd (by omega) hg2
  obtain ⟨c1, e1⟩ := hg1
  obtain ⟨c2, e2⟩ := hg2
  have f1 : top.fdiv (g : Nat) = top / (g : Nat) := Int.fdiv_eq_ediv_of_nonneg _ (by omega)
  have f2 : low.fdiv (g : Nat) = low / (g : Nat) := Int.fdiv_eq_ediv_of_nonneg _ (by omega)
  have n1 : (top / (g : Nat)).natAbs = c1 := by
    rcases Int.natAbs_eq top with z | z
    · rw [z, e1, ← Int.natCast_ediv, Int.natAbs_natCast, Nat.mul_div_cancel_left _ hg0]
    · rw [z, e1, Int.neg_ediv_of_dvd (by exact ⟨(c1 : Nat), by push_cast; rfl⟩), Int.natAbs_neg, ← Int.natCast_ediv, Int.natAbs_natCast, Nat.mul_div_cancel_left _ hg0]
  have n2 : low / (g : Nat) = (c2 : Nat) := by
    have e : low = ((low.natAbs : Nat) : Int) := by omega
    rw [e, e2, ← Int.natCast_ediv, Nat.mul_div_cancel_left _ hg0]
  have l1 : c1 ≤ top.natAbs := by rw [e1]; exact Nat.le_mul_of_pos_left _ hg0
  have l2 : c2 ≤ low.natAbs := by rw [e2]; exact Nat.le_mul_of_pos_left _ hg0
  have c2p : 0 < c2 := by
    rcases Nat.eq_zero_or_pos c2 with z | z
    · rw [z] at e2
      omega
    · exact z
  have cop : Nat.gcd c1 c2 = 1 := by
    have h : Nat.gcd (g * c1) (g * c2) = g * Nat.gcd c1 c2 := Nat.gcd_mul_left _ _ _
    rw [← e1, ← e2, eg] at h
    exact Nat.eq_of_mul_eq_mul_left hg0 (by omega)
  refine ⟨top / (g : Nat), low / (g : Nat), ?_, by omega, by omega, ?_⟩
  · show (decide (0 < low / (g : Nat)) && decide (Nat.gcd (top / (g : Nat)).natAbs (low / (g : Nat)).natAbs = 1)) = true
    rw [n1, n2, Int.natAbs_natCast, decide_eq_true (by omega), decide_eq_true cop]
    rfl
  intro Qd Ed k
  obtain ⟨t, et, hlt, ht140⟩ := bits_lt low.natAbs (Nat.lt_trans hl (by decide))
  have el : ((low.natAbs : Nat) : Int) = low := by omega
  rw [el] at et
  have dv : ∀ x : Int, fDiv (.int x) (.int (g : Nat)) = some (.val (.int (x.fdiv (g : Nat)))) := fun x => fDiv_int (divB_ok (k := 140) (by omega) (Nat.lt_of_le_of_lt hgl (Nat.lt_trans hl (by decide))) (by decide))
  have fin : ∀ (b : Int) (c4 : Option Cell), m_law_ratio_3 ⟨fun ρ => Qd (.val .non) (outsOf ρ), fun c ρ => Qd c (outsOf ρ), fun _ => False, fun _ => False, fun c fs ρ => Ed c fs (outsOf ρ)⟩ [some (.val (.int top)), some (.val (.int low)), some (.val (.int (g : Nat))), some (.val (.int b)), c4] := by
    intro b c4
    unfold m_law_ratio_3
    conv => whnf
    refine ⟨_, fGt_t (a := low) (b := 0) (by omega), ?_⟩
    conv => whnf
    refine ⟨_, dv top, ?_⟩
    conv => whnf
    refine ⟨_, dv low, ?_⟩
    conv => whnf
    refine ⟨small64 (by simp), ?_⟩
    rw [f1, f2]
    exact k _
  unfold w_law_ratio m_law_ratio m_law_ratio_4
  have ab : ∀ x : Int, fAbs [.int x] = some (.val (.int ((x.natAbs : Nat) : Int))) := fun x => by
    have e : (if x < 0 then -x else x) = ((x.natAbs : Nat) : Int) := by split <;> omega
    rw [← e]
    rfl
  conv => whnf
  refine ⟨_, ab top, ?_⟩
  conv => whnf
  refine ⟨_, ab low, ?_⟩
  conv => whnf
  refine ⟨rfl, ?_⟩
  conv => whnf
  rw [el, et]
  refine ⟨_, fMul_int (mulB_ok (a := 2) (b := 30) (by decide) ?_ (by decide)), ?_⟩
  · rw [Int.natAbs_natCast]
    omega
  conv => whnf
  repeat (refine ⟨_, rfl, ?_⟩; conv => whnf)
  refine ⟨⟨by omega, by omega⟩, ?_⟩
  refine forGo_ix (fun i => D.int (0 + (i : Nat))) (fun i ρ => ∃ a b c4, ρ = [some (.val (.int top)), some (.val (.int low)), some (.val (.int ((a : Nat) : Int))), some (.val (.int ((b : Nat) : Int))), c4] ∧ Lap g t i a b ∧ a < 10 ^ 41 ∧ b < 10 ^ 41) (List.range (2 * (t : Int) + 3).toNat) 0 _ (Nat.zero_le _) ?_ ?_ ⟨top.natAbs, low.natAbs, none, by rw [el]; rfl, ⟨eg, fun _ => hlt, fun h => by cases h⟩, ht, hl⟩
  · rintro ρ ⟨a, b, c4, rfl, L, _, _⟩
    rw [List.length_range, show (2 * (t : Int) + 3).toNat = 2 * t + 3 by omega] at L
    exact L.end_.elim
  · rintro i z ρ hz ⟨a, b, c4, rfl, L, ha, hb⟩ N hN
    unfold m_law_ratio_2 m_law_ratio_1
    conv => whnf
    refine ⟨_, fEq_int ((b : Nat) : Int) 0, ?_⟩
    by_cases q : b = 0
    · subst q
      rw [decide_eq_true (by rfl)]
      conv => whnf
      have e : a = g := by rw [← L.gd, Nat.gcd_zero_right]
      subst e
      exact fin _ _
    · rw [decide_eq_false (by omega)]
      conv => whnf
      repeat (refine ⟨_, rfl, ?_⟩; conv => whnf)
      refine ⟨_, fMod_int (by omega), ?_⟩
      conv => whnf
      refine ⟨rfl, ?_⟩
      refine hN _ ⟨b, a % b, _, rfl, L.next q, hb, Nat.lt_of_le_of_lt (Nat.mod_le _ _) ha⟩
end Lk80
set_option exponentiation.threshold 100000
namespace Lk80
open PySem PySem.Spec PyProof.Rows L2 DL TL
section
variable {k n : Nat} {p : List D} {a b top low : Int} {r : List Int} {rows : List (List Int)} {c1 c2 c3 c4 c5 c6 c7 c8 c9 c10 c11 : Option Cell} {Dd : DEnds}
abbrev rr (p : List D) (c1 c2 c3 c4 c5 c6 c7 c8 c9 c10 c11 : Option Cell) : En := [some (.own p), c1, c2, c3, c4, c5, c6, c7, c8, c9, c10, c11, none, none]
abbrev sv (d : D) : Option Cell := some (.val d)
theorem okT_frac (a b : Int) : okT (fracT a b) := by
  unfold fracT
  split
  · exact okT_num a
  · exact okT_append (okT_append (okT_num a) (okT_lit (by decide))) (okT_num b)
theorem ur1 (ha : a.natAbs < 10 ^ 41) (hb : b.natAbs < 10 ^ 41) (hD : Dd.nx (rr p c1 c2 (sv (.str (fracT a b))) c4 c5 (sv (ti [a, b])) c7 c8 c9 c10 c11)) :
    m_law_right_i_1 Dd (rr p c1 c2 (sv (.str (fracT a b))) c4 c5 (sv (ti [a, b])) c7 c8 c9 c10 c11) := by
  have l1 := len_numB ha
  have l2 := len_numB hb
  have ls : (Str.ofString "/").length = 1 := by decide
  have e := fNe_str (okT_frac a b) (okT_frac a b)
  rw [decide_eq_true rfl] at e
  have ef : fracT a b = if b = 1 then numT a else (numT a ++ Str.ofString "/") ++ numT b := rfl
  generalize fracT a b = z at *
  unfold m_law_right_i_1
  conv => whnf
  (refine ⟨_, rfl, ?_⟩; conv => whnf)
  (refine ⟨_, rfl, ?_⟩; conv => whnf)
  (refine ⟨_, rfl, ?_⟩; conv => whnf)
  refine ⟨_, fEq_int b 1, ?_⟩
  by_cases q : b = 1
  · rw [if_pos q] at ef
    rw [decide_eq_true q]
    conv => whnf
    (refine ⟨_, rfl, ?_⟩; conv => whnf)
    refine ⟨_, gStr_num ha, ?_⟩
    rw [← ef]
    conv => whnf
    refine ⟨_, e, ?_⟩
    conv => whnf
    exact hD
  · rw [if_neg q] at ef
    rw [decide_eq_false q]
    conv => whnf
    (refine ⟨_, rfl, ?_⟩; conv => whnf)
    refine ⟨_, gStr_num ha, ?_⟩
    conv => whnf
    refine ⟨_, fAdd_str (big64 (by omega)), ?_⟩
    conv => whnf
    (refine ⟨_, rfl, ?_⟩; conv => whnf)
    refine ⟨_, gStr_num hb, ?_⟩
    conv => whnf
    refine ⟨_, fAdd_str (big64 (by rw [str_len]; omega)), ?_⟩
    rw [← ef]
    conv => whnf
    refine ⟨_, e, ?_⟩
    conv => whnf
    exact hD
theorem ur2 (hp : Pl k p) (hk : k < 2 ^ 50) (hf : isFr (ti [a, b]) = true) (ha : a.natAbs < 10 ^ 41) (hb : b.natAbs < 10 ^ 41) (hD : ∀ p', Pl (k + 1) p' → Dd.nx (rr p' c1 c2 (sv (.str (fracT a b))) c4 c5 (sv (ti [a, b])) c7 c8 c9 c10 c11)) :
    m_law_right_i_2 Dd (rr p c1 c2 c3 c4 c5 (sv (ti [a, b])) c7 c8 c9 c10 c11) := by
  have r1 := fun {p : List D} {Dd : DEnds} hD => ur1 (p := p) (c1 := c1) (c2 := c2) (c4 := c4) (c5 := c5) (c7 := c7) (c8 := c8) (c9 := c9) (c10 := c10) (c11 := c11) (Dd := Dd) ha hb hD
  have dr := fun {Qd : Cell → Outs → Prop} {Ed : Str → List (Str × D) → Outs → Prop} h => s_draw (many := 3) hp (by omega) (by decide) (many_pow (by decide) (by decide)) (Qd := Qd) (Ed := Ed) h
  have ft := frac_is hf ha hb
  generalize fracT a b = z at *
  unfold m_law_right_i_2
  revert dr r1 ft
  generalize m_law_right_i_1 = M1
  generalize w_law_draw_iv = W1
  generalize w_fraction_text = W2
  revert M1 W1 W2
  refine id ?_
  intro M1 W1 W2 dr r1 ft
  conv => whnf
  refine dr fun t o t0 t3 hp2 => ?_
  conv => whnf
  refine ⟨_, fEq_int t 0, ?_⟩
  by_cases q : t = 0
  · rw [decide_eq_true q]
    conv => whnf
    refine ft _ _ fun o2 => ?_
    exact r1 (hD _ hp2)
  · rw [decide_eq_false q]
    conv => whnf
    refine ft _ _ fun o2 => ?_
    exact r1 (hD _ hp2)
theorem ur3 (hp : Pl k p) (hk : k < 2 ^ 50) (ht : top.natAbs < 10 ^ 41) (h1 : 1 ≤ low) (hl : low.natAbs < 10 ^ 41) (hD : ∀ p' c3' c6', Pl (k + 1) p' → Dd.nx (rr p' c1 c2 c3' (sv (.int top)) (sv (.int low)) c6' c7 c8 c9 c10 c11)) :
    m_law_right_i_3 Dd (rr p c1 c2 c3 (sv (.int top)) (sv (.int low)) c6 c7 c8 c9 c10 c11) := by
  obtain ⟨a, b, hf, ha, hb, rt⟩ := s_ratio ht h1 hl
  have r2 := fun {Dd : DEnds} hD => ur2 (c1 := c1) (c2 := c2) (c3 := c3) (c4 := sv (.int top)) (c5 := sv (.int low)) (c7 := c7) (c8 := c8) (c9 := c9) (c10 := c10) (c11 := c11) (Dd := Dd) hp hk hf ha hb hD
  unfold m_law_right_i_3
  revert rt r2
  generalize w_law_ratio = W1
  generalize m_law_right_i_2 = M2
  revert W1 M2
  refine id ?_
  intro W1 M2 rt r2
  conv => whnf
  refine rt _ _ fun o2 => ?_
  exact r2 fun p' hp' => hD _ _ _ hp'
theorem pow40 : ((10 : Int) ^ 40).natAbs < 2 ^ 9000 := Nat.lt_of_lt_of_le (m := 2 ^ 140) (by decide) (Nat.pow_le_pow_right (by decide) (by decide))
theorem ur4 (hp : Pl k p) (hk : k < 2 ^ 48) (hD : ∀ p' c3' c4' c5' c6', Pl (k + 7) p' → Dd.nx (rr p' c1 c2 c3' c4' c5' c6' c7 c8 c9 c10 c11)) :
    m_law_right_i_4 Dd (rr p c1 c2 c3 c4 c5 c6 c7 c8 c9 c10 c11) := by
  have r3 := fun {k : Nat} {p : List D} {top low : Int} {Dd : DEnds} (hp : Pl k p) (hk : k < 2 ^ 50) ht h1 hl hD => ur3 (c1 := c1) (c2 := c2) (c3 := c3) (c6 := c6) (c7 := c7) (c8 := c8) (c9 := c9) (c10 := c10) (c11 := c11) (k := k) (p := p) (top := top) (low := low) (Dd := Dd) hp hk ht h1 hl hD
  have dr := fun {k : Nat} {p : List D} {many : Int} (hp : Pl k p) (hk : k < 2 ^ 50) (h1 : 1 ≤ many) (h9 : many.natAbs < 2 ^ 9000) {Qd : Cell → Outs → Prop} {Ed : Str → List (Str × D) → Outs → Prop} h => s_draw (many := many) hp (by omega) h1 h9 (Qd := Qd) (Ed := Ed) h
  have pk := fun {k : Nat} {p : List D} {ths : List D} (hp : Pl k p) (hk : k < 2 ^ 50) (h1 : 1 ≤ ths.length) (h2 : ths.length < 2 ^ 30) {Qd : Cell → Outs → Prop} {Ed : Str → List (Str × D) → Outs → Prop} h => s_pick (ths := ths) hp hk h1 h2 (Qd := Qd) (Ed := Ed) h
  have nm := fun {k : Nat} {p : List D} {way : Int} (hp : Pl k p) (hk : k < 2 ^ 49) {Qd : Cell → Outs → Prop} {Ed : Str → List (Str × D) → Outs → Prop} h => s_number (way := way) hp hk (Qd := Qd) (Ed := Ed) h
  have p40 := pow40
  unfold m_law_right_i_4
  revert r3 dr pk nm
  generalize m_law_right_i_3 = M3
  generalize w_law_draw_iv = W1
  generalize w_law_pick_iv = W2
  generalize w_law_number_iv = W3
  revert M3 W1 W2 W3
  refine id ?_
  intro M3 W1 W2 W3 r3 dr pk nm
  conv => whnf
  refine dr hp (by omega) (by decide) (by rw [show (3 : Int) = 3 from rfl]; exact Nat.lt_of_lt_of_le (m := 2 ^ 140) (by decide) (Nat.pow_le_pow_right (by decide) (by decide))) fun t o t0 t3 hp2 => ?_
  conv => whnf
  refine nm hp2 (by omega) fun top o2 h1 h2 hp3 => ?_
  conv => whnf
  repeat (refine ⟨_, rfl, ?_⟩; conv => whnf)
  refine ⟨small64 (by simp), ?_⟩
  conv => whnf
  refine pk hp3 (by omega) (by simp) (by simp) fun d o3 hd hp4 => ?_
  obtain ⟨m, rfl, m1, m2, m3⟩ : ∃ m : Int, d = .int m ∧ 1 ≤ m ∧ m.natAbs < 2 ^ 9000 ∧ m ≤ 10 ^ 40 := by
    simp only [List.mem_cons, List.not_mem_nil, or_false] at hd
    rcases hd with rfl | rfl | rfl
    · exact ⟨1, rfl, by decide, Nat.lt_of_lt_of_le (m := 2 ^ 140) (by decide) (Nat.pow_le_pow_right (by decide) (by decide)), by decide⟩
    · exact ⟨9, rfl, by decide, Nat.lt_of_lt_of_le (m := 2 ^ 140) (by decide) (Nat.pow_le_pow_right (by decide) (by decide)), by decide⟩
    · exact ⟨10 ^ 40, rfl, by decide, p40, by decide⟩
  conv => whnf
  refine dr hp4 (by omega) m1 m2 fun u o4 u0 u9 hp5 => ?_
  conv => whnf
  repeat (refine ⟨_, rfl, ?_⟩; conv => whnf)
  refine ⟨rfl, ?_⟩
  refine r3 hp5 (by omega) (by omega) (by omega) (by omega) fun p' c3' c6' hp' => ?_
  exact hD _ _ _ _ _ (hp'.mono (by omega))
theorem ur5 (hp : Pl k p) (hk : k < 2 ^ 48) (h : Rb r) (hD : ∀ p' c3' c4' c5' c6', Pl (k + 7) p' → Dd.nx (rr p' c1 (sv (ti r)) c3' c4' c5' c6' c7 c8 c9 c10 c11)) :
    m_law_right_i_5 Dd (rr p c1 (sv (ti r)) (sv (.str (rowT r))) c4 c5 c6 c7 c8 c9 c10 c11) := by
  have r4 := fun {Dd : DEnds} hD => ur4 (c1 := c1) (c2 := sv (ti r)) (c3 := sv (.str (rowT r))) (c4 := c4) (c5 := c5) (c6 := c6) (c7 := c7) (c8 := c8) (c9 := c9) (c10 := c10) (c11 := c11) (Dd := Dd) hp hk hD
  have tx := s_law_row_text h
  have rb := s_read_back h
  have e := fNe_str (okT_rowT r) (okT_rowT r)
  rw [decide_eq_true rfl] at e
  have e2 : fNe (ti r) (ti r) = some (.val (.bl false)) := fNe_self (n := 2) (by decide) (sz_ti 0 r)
  have hlm : (r.map D.int).length = r.length := List.length_map _
  generalize rowT r = z at *
  unfold m_law_right_i_5
  revert r4 tx rb
  generalize m_law_right_i_4 = M4
  generalize w_law_row_text = W1
  generalize w_law_read_row = W2
  revert M4 W1 W2
  refine id ?_
  intro M4 W1 W2 r4 tx rb
  conv => whnf
  (refine ⟨_, rfl, ?_⟩; conv => whnf)
  (refine ⟨_, rfl, ?_⟩; conv => whnf)
  refine tx _ _ fun o => ?_
  conv => whnf
  refine ⟨_, e, ?_⟩
  conv => whnf
  (refine ⟨_, rfl, ?_⟩; conv => whnf)
  rw [hlm]
  refine rb _ _ fun o => ?_
  conv => whnf
  refine ⟨_, e2, ?_⟩
  conv => whnf
  exact r4 fun p' c3' c4' c5' c6' hp' => hD _ _ _ _ _ hp'
theorem ur6 (hp : Pl k p) (hk : k < 2 ^ 47) (h : Rb r) (hD : ∀ p' c3' c4' c5' c6', Pl (k + 8) p' → Dd.nx (rr p' c1 (sv (ti r)) c3' c4' c5' c6' c7 c8 c9 c10 c11)) :
    m_law_right_i_6 Dd (rr p c1 (sv (ti r)) c3 c4 c5 c6 c7 c8 c9 c10 c11) := by
  have r5 := fun {k : Nat} {p : List D} {Dd : DEnds} (hp : Pl k p) (hk : k < 2 ^ 48) hD => ur5 (k := k) (p := p) (c1 := c1) (c4 := c4) (c5 := c5) (c6 := c6) (c7 := c7) (c8 := c8) (c9 := c9) (c10 := c10) (c11 := c11) (Dd := Dd) hp hk h hD
  have dr := fun {Qd : Cell → Outs → Prop} {Ed : Str → List (Str × D) → Outs → Prop} h => s_draw (many := 3) hp (by omega) (by decide) (many_pow (by decide) (by decide)) (Qd := Qd) (Ed := Ed) h
  have rt := row_is h
  unfold m_law_right_i_6
  revert r5 dr rt
  generalize m_law_right_i_5 = M5
  generalize w_law_draw_iv = W1
  generalize w_row_text = W2
  revert M5 W1 W2
  refine id ?_
  intro M5 W1 W2 r5 dr rt
  conv => whnf
  refine dr fun t o t0 t3 hp2 => ?_
  conv => whnf
  refine ⟨_, fEq_int t 0, ?_⟩
  by_cases q : t = 0
  · rw [decide_eq_true q]
    conv => whnf
    refine rt _ _ fun o2 => ?_
    refine r5 hp2 (by omega) fun p' c3' c4' c5' c6' hp' => ?_
    exact hD _ _ _ _ _ (hp'.mono (by omega))
  · rw [decide_eq_false q]
    conv => whnf
    refine rt _ _ fun o2 => ?_
    refine r5 hp2 (by omega) fun p' c3' c4' c5' c6' hp' => ?_
    exact hD _ _ _ _ _ (hp'.mono (by omega))
theorem ur7 (hp : Pl k p) (hk : k < 2 ^ 46) (h : Rb r) (hD : ∀ p' c2' c3' c4' c5' c6', Pl (k + 10) p' → Dd.nx (rr p' c1 c2' c3' c4' c5' c6' c7 c8 c9 c10 c11)) :
    m_law_right_i_7 Dd (rr p c1 (sv (ti r)) c3 c4 c5 c6 c7 c8 c9 c10 c11) := by
  have r6 := fun {k : Nat} {p : List D} {r : List Int} {Dd : DEnds} (hp : Pl k p) (hk : k < 2 ^ 47) (h : Rb r) hD => ur6 (k := k) (p := p) (c1 := c1) (c3 := c3) (c4 := c4) (c5 := c5) (c6 := c6) (c7 := c7) (c8 := c8) (c9 := c9) (c10 := c10) (c11 := c11) (Dd := Dd) hp hk h hD
  have dr := fun {k : Nat} {p : List D} {many : Int} (hp : Pl k p) (hk : k < 2 ^ 50) (h1 : 1 ≤ many) (h9 : many.natAbs < 2 ^ 9000) {Qd : Cell → Outs → Prop} {Ed : Str → List (Str × D) → Outs → Prop} h => s_draw (many := many) hp (by omega) h1 h9 (Qd := Qd) (Ed := Ed) h
  have pt := fun {xs : List D} {i : Nat} {d : D} (hi : i < xs.length) (hl : xs.length ≤ 60) => s_put (d := d) hi hl
  have p40 := pow40
  have hlm : (r.map D.int).length = r.length := List.length_map _
  have h1 : 1 ≤ r.length := by
    have := h.n
    cases r with
    | nil => exact absurd rfl this
    | cons x xs => simp
  have hl8 := h.l
  unfold m_law_right_i_7
  revert r6 dr pt
  generalize m_law_right_i_6 = M6
  generalize w_law_draw_iv = W1
  generalize w_law_put = W2
  revert M6 W1 W2
  refine id ?_
  intro M6 W1 W2 r6 dr pt
  conv => whnf
  refine dr hp (by omega) (by decide) (Nat.lt_of_lt_of_le (m := 2 ^ 140) (by decide) (Nat.pow_le_pow_right (by decide) (by decide))) fun t o t0 t3 hp2 => ?_
  conv => whnf
  refine ⟨_, fEq_int t 0, ?_⟩
  by_cases q : t = 0
  · rw [decide_eq_true q]
    conv => whnf
    refine ⟨_, (rfl : fPow (.int 10) (.int 40) = some (.val (.int (10 ^ 40)))), ?_⟩
    conv => whnf
    refine dr (many := 10 ^ 40) hp2 (by omega) (by decide) p40 fun u o2 u0 u9 hp3 => ?_
    conv => whnf
    refine ⟨_, (rfl : fPow (.int 10) (.int 39) = some (.val (.int (10 ^ 39)))), ?_⟩
    conv => whnf
    refine ⟨_, fMul_int (i := 5) (j := 10 ^ 39) (mulB_ok (a := 3) (b := 140) (by decide) (by decide) (by decide)), ?_⟩
    conv => whnf
    refine ⟨_, (rfl : fSub (.int u) (.int (5 * 10 ^ 39)) = some (.val (.int (u - 5 * 10 ^ 39)))), ?_⟩
    conv => whnf
    refine pt (i := 0) (by omega) (by omega) _ _ fun o3 => ?_
    have e : (D.tup ((r.map D.int).set 0 (.int (u - 5 * 10 ^ 39)))) = ti (r.set 0 (u - 5 * 10 ^ 39)) := by
      show _ = D.tup ((r.set 0 (u - 5 * 10 ^ 39)).map D.int)
      rw [List.map_set]
    show M6 _ (rr (o2 0) c1 (sv (.tup ((r.map D.int).set 0 (.int (u - 5 * 10 ^ 39))))) c3 c4 c5 c6 c7 c8 c9 c10 c11)
    rw [e]
    refine r6 hp3 (by omega) ⟨by rw [List.length_set]; exact hl8, fun z => ?_, fun x hx => ?_⟩ fun p' c3' c4' c5' c6' hp' => ?_
    · have := congrArg List.length z
      rw [List.length_set, List.length_nil] at this
      omega
    · rcases List.mem_or_eq_of_mem_set hx with z | z
      · exact h.x x z
      · rw [z]
        omega
    · exact hD _ _ _ _ _ _ (hp'.mono (by omega))
  · rw [decide_eq_false q]
    conv => whnf
    refine r6 hp2 (by omega) h fun p' c3' c4' c5' c6' hp' => ?_
    exact hD _ _ _ _ _ _ (hp'.mono (by omega))
theorem ur8 (hp : Pl k p) (hk : k < 2 ^ 45) (hD : ∀ p' c2' c3' c4' c5' c6', Pl (k + 35) p' → Dd.nx (rr p' c1 c2' c3' c4' c5' c6' c7 c8 c9 c10 c11)) :
    m_law_right_i_8 Dd (rr p c1 c2 c3 c4 c5 c6 c7 c8 c9 c10 c11) := by
  have r7 := fun {k : Nat} {p : List D} {r : List Int} {Dd : DEnds} (hp : Pl k p) (hk : k < 2 ^ 46) (h : Rb r) hD => ur7 (k := k) (p := p) (c1 := c1) (c3 := c3) (c4 := c4) (c5 := c5) (c6 := c6) (c7 := c7) (c8 := c8) (c9 := c9) (c10 := c10) (c11 := c11) (Dd := Dd) hp hk h hD
  have dr := fun {k : Nat} {p : List D} {many : Int} (hp : Pl k p) (hk : k < 2 ^ 50) (h1 : 1 ≤ many) (h9 : many ≤ 60) {Qd : Cell → Outs → Prop} {Ed : Str → List (Str × D) → Outs → Prop} h => s_draw (many := many) hp (by omega) h1 (many_pow (by omega) (by omega)) (Qd := Qd) (Ed := Ed) h
  have nm := fun {k : Nat} {p : List D} {way : Int} (hp : Pl k p) (hk : k < 2 ^ 49) {Qd : Cell → Outs → Prop} {Ed : Str → List (Str × D) → Outs → Prop} h => s_number (way := way) hp hk (Qd := Qd) (Ed := Ed) h
  unfold m_law_right_i_8
  revert r7 dr nm
  generalize m_law_right_i_7 = M7
  generalize w_law_draw_iv = W1
  generalize w_law_number_iv = W3
  revert M7 W1 W3
  refine id ?_
  intro M7 W1 W3 r7 dr nm
  conv => whnf
  refine dr hp (by omega) (by decide) (by decide) fun t o t0 t8 hp2 => ?_
  conv => whnf
  (refine ⟨_, rfl, ?_⟩; conv => whnf)
  refine ⟨⟨by omega, by omega⟩, ?_⟩
  refine ⟨rfl, ?_⟩
  refine lcGo_inv (fun acc ρ => ∃ p' xs, ρ = rr p' c1 c2 c3 c4 c5 c6 c7 c8 c9 c10 c11 ∧ acc = xs.map D.int ∧ Pl (k + 1 + 3 * acc.length) p' ∧ ∀ x ∈ xs, -9999 ≤ x ∧ x ≤ 9999) (rangeD 0 (1 + t).toNat) [] _ ?_ ?_ ⟨o 0, [], rfl, rfl, hp2, fun x hx => by cases hx⟩ ?_
  · rw [rangeD_len]
    exact small64 (by simp; omega)
  · rintro d hd acc ρ hla ⟨p', xs, rfl, rfl, hp3, hx⟩ Kt Kf hK
    rw [rangeD_len] at hla
    simp only [List.length_nil, List.length_map, Nat.zero_add] at hla
    rw [List.length_map] at hp3
    conv => whnf
    refine dr hp3 (by omega) (by decide) (by decide) fun u o2 u0 u3 hp4 => ?_
    conv => whnf
    refine nm hp4 (by omega) fun x o3 h1 h2 hp5 => ?_
    conv => whnf
    refine hK _ _ ⟨_, xs ++ [x], rfl, by rw [List.map_append]; rfl, ?_, ?_⟩
    · rw [List.length_append, List.length_map]
      exact hp5.mono (by simp only [List.length_cons, List.length_nil]; omega)
    · intro y hy
      rcases List.mem_append.mp hy with z | z
      · exact hx y z
      · have : y = x := by simpa using z
        rw [this]
        exact ⟨h1, h2⟩
  · rintro acc ρ hla ⟨p', xs, rfl, rfl, hp3, hx⟩
    rw [rangeD_len, List.length_map] at hla
    rw [List.length_map] at hp3
    simp only [List.length_nil, Nat.zero_add] at hla
    conv => whnf
    (refine ⟨_, rfl, ?_⟩; conv => whnf)
    refine r7 hp3 (by omega) ⟨by omega, fun e => ?_, fun x h => Nat.lt_of_le_of_lt (m := 9999) (by have := hx x h; omega) (by decide)⟩ fun p4 c2' c3' c4' c5' c6' hp4 => ?_
    · rw [e] at hla
      simp at hla
      omega
    · exact hD _ _ _ _ _ _ (hp4.mono (by omega))
end
end Lk80
set_option exponentiation.threshold 100000
namespace Lk80
open PySem PySem.Spec PyProof.Rows L2 DL TL
def w10 : List D := [(.tup []), .non, (.tup [.non]), (.tup [(.bl true)]), (.tup [(.str (Str.ofString "1"))]), (.lst [(.int 1)]), (.tup [(.tup [(.int 1)])]), (.tup [(.int 1), (.bl false)]), (.int 0), (.str (Str.ofString "1 2"))]
theorem xw10 (ρ : En) : ∀ (Q : CQ) E, Q (.own w10) ρ → x_law_right_i_1 ρ Q E := by
  unfold x_law_right_i_1 w10
  exact evc_lst (evl_c (eva_tup evl_n (by simp)) (evl_c (eva_K _) (evl_c (eva_tup (evl_c (eva_K _) evl_n) (by simp)) (evl_c (eva_tup (evl_c (eva_K _) evl_n) (by simp)) (evl_c (eva_tup (evl_c (eva_K _) evl_n) (by simp)) (evl_c (eva_lst (evl_c (eva_K _) evl_n) (by simp)) (evl_c (eva_tup (evl_c (eva_tup (evl_c (eva_K _) evl_n) (by simp)) evl_n) (by simp)) (evl_c (eva_tup (evl_c (eva_K _) (evl_c (eva_K _) evl_n)) (by simp)) (evl_c (eva_K _) (evl_c (eva_K _) evl_n)))))))))) (by simp)
section
variable {k n : Nat} {p : List D} {a b top low : Int} {r : List Int} {rows : List (List Int)} {c1 c2 c3 c4 c5 c6 c7 c8 c9 c10 c11 : Option Cell} {Dd : DEnds} {vs : List D} {d1 : D}
def w14 (n : Nat) (rows : List (List Int)) : List D := [.non, (.bl true), (.int 0), (.tup []), (.lst [(.str (Str.ofString "goods 1\n"))]), (.tup [(.str (Str.ofString "goods 1\n"))]), (.dic [] []), (.int (10 ^ 40)), (lsD n rows), (.str (Str.ofString "")), (.str (Str.ofString "x")), (.str (Str.ofString "goods")), (.str (Str.ofString "\n")), (.str (Str.ofString "goods 0\n"))]
theorem xw14 : ∀ (Q : CQ) E, Q (.own (w14 n rows)) (rr p c1 c2 c3 c4 c5 c6 c7 c8 (sv (lsD n rows)) c10 c11) → x_law_right_i_2 (rr p c1 c2 c3 c4 c5 c6 c7 c8 (sv (lsD n rows)) c10 c11) Q E := by
  unfold x_law_right_i_2 w14
  exact evc_lst (evl_c (eva_K _) (evl_c (eva_K _) (evl_c (eva_K _) (evl_c (eva_tup evl_n (by simp)) (evl_c (eva_lst (evl_c (eva_K _) evl_n) (by simp)) (evl_c (eva_tup (evl_c (eva_K _) evl_n) (by simp)) (evl_c (eva_K _) (evl_c (eva_2 (eva_K _) (eva_K _) rfl) (evl_c (eva_V rfl) (evl_c (eva_K _) (evl_c (eva_K _) (evl_c (eva_K _) (evl_c (eva_K _) (evl_c (eva_K _) evl_n)))))))))))))) (by simp)
theorem t1 : rowT [0] = Str.ofString "0" := ext_tl (by decide +kernel)
theorem t2 : rowT [-3, 0] = Str.ofString "-3 0" := ext_tl (by decide +kernel)
theorem t3 : fracT 0 1 = Str.ofString "0" := ext_tl (by decide +kernel)
theorem t4 : fracT (-1) 2 = Str.ofString "-1/2" := ext_tl (by decide +kernel)
theorem rbs {r : List Int} (h1 : r.length ≤ 8) (h2 : r ≠ []) (h3 : ∀ x ∈ r, x.natAbs < 10) : Rb r := ⟨h1, h2, fun x hx => Nat.lt_trans (h3 x hx) (by decide)⟩
theorem ur9 (hD : ∀ ρ, Dd.rt (.val (.bl true)) ρ) : m_law_right_i_9 Dd (rr p c1 c2 c3 c4 c5 c6 c7 c8 c9 c10 c11) := by
  have a1 := row_is (r := [0]) (rbs (by decide) (by decide) (by decide))
  have a2 := row_is (r := [-3, 0]) (rbs (by decide) (by decide) (by decide))
  have a3 := frac_is (a := 0) (b := 1) (by decide) (by decide) (by decide)
  have a4 := frac_is (a := -1) (b := 2) (by decide) (by decide) (by decide)
  rw [t1] at a1
  rw [t2] at a2
  rw [t3] at a3
  rw [t4] at a4
  have eq := fun (x : Str) (h : okT x) => fEq_str h h
  unfold m_law_right_i_9
  revert a1 a2 a3 a4 eq
  generalize w_row_text = W1
  generalize w_fraction_text = W2
  revert W1 W2
  refine id ?_
  intro W1 W2 a1 a2 a3 a4 eq
  conv => whnf
  refine ⟨small64 (by simp), ?_⟩
  conv => whnf
  refine a1 _ _ fun o => ?_
  conv => whnf
  refine ⟨_, eq _ (okT_lit (by decide)), ?_⟩
  rw [decide_eq_true rfl]
  conv => whnf
  repeat (refine ⟨_, rfl, ?_⟩; conv => whnf)
  refine ⟨small64 (by simp), ?_⟩
  conv => whnf
  refine a2 _ _ fun o => ?_
  conv => whnf
  refine ⟨_, eq _ (okT_lit (by decide)), ?_⟩
  rw [decide_eq_true rfl]
  conv => whnf
  repeat (refine ⟨_, rfl, ?_⟩; conv => whnf)
  refine ⟨small64 (by simp), ?_⟩
  conv => whnf
  refine a3 _ _ fun o => ?_
  conv => whnf
  refine ⟨_, eq _ (okT_lit (by decide)), ?_⟩
  rw [decide_eq_true rfl]
  conv => whnf
  repeat (refine ⟨_, rfl, ?_⟩; conv => whnf)
  refine ⟨small64 (by simp), ?_⟩
  conv => whnf
  refine a4 _ _ fun o => ?_
  conv => whnf
  refine ⟨_, eq _ (okT_lit (by decide)), ?_⟩
  rw [decide_eq_true rfl]
  exact hD _
abbrev gt (n : Nat) : Str := (Str.ofString "goods " ++ numT (n : Nat)) ++ Str.ofString "\n"
theorem gt_ok (hn : 1 ≤ n ∧ n ≤ 6) : okT (gt n) ∧ (gt n).length ≤ 640 ∧ progX (gt n) = some ((n : Int), []) := by
  refine ⟨okT_append (okT_append (okT_lit (by decide)) (okT_num _)) (okT_lit (by decide)), ?_, ?_⟩
  · have := len_numB (x := (n : Nat)) (Nat.lt_of_le_of_lt (m := 9) (by omega) (by decide))
    have e1 : (Str.ofString "goods ").length = 6 := by decide
    have e2 : (Str.ofString "\n").length = 1 := by decide
    rw [str_len, str_len, e1, e2]
    omega
  · have : ∀ m : Nat, 1 ≤ m → m ≤ 6 → progX (gt m) = some ((m : Int), []) := by
      intro m h1 h6
      have key : cutAt 10 (tl (gt m)) = ([goodsL m] ++ [no1]).map tl := by
        have : m = 1 ∨ m = 2 ∨ m = 3 ∨ m = 4 ∨ m = 5 ∨ m = 6 := by omega
        rcases this with rfl | rfl | rfl | rfl | rfl | rfl <;> decide +kernel
      rw [progX_of key (by simp), law_prog ⟨h1, h6⟩ rfl (by simp)]
      rfl
    exact this n hn.1 hn.2
theorem ur10 (hp : Pl k p) (hk : k + vs.length < 2 ^ 48) (hn : 1 ≤ n ∧ n ≤ 6) (hl : vs.length < 1000) (hv : ∀ v ∈ vs, Gv v ∧ RfV (Str.ofString "read") (Str.ofString "text") v) (hD : ∀ ρ, Dd.rt (.val (.bl true)) ρ) :
    m_law_right_i_10 Dd (rr p c1 c2 c3 c4 c5 c6 c7 (sv (.int (n : Nat))) c9 c10 (sv (.lst (vs.map (prD (Str.ofString "text")))))) := by
  obtain ⟨g1, g2, g3⟩ := gt_ok hn
  have r9 := fun {p : List D} {Dd : DEnds} hD => ur9 (p := p) (c1 := c1) (c2 := c2) (c3 := c3) (c4 := c4) (c5 := c5) (c6 := c6) (c7 := c7) (c8 := sv (.int (n : Nat))) (c9 := c9) (c10 := c10) (c11 := sv (.lst (vs.map (prD (Str.ofString "text"))))) (Dd := Dd) hD
  have re := fun {Qd : Cell → Outs → Prop} {Ed : Str → List (Str × D) → Outs → Prop} h => s_refused_each (word := Str.ofString "read") (v0 := .str (gt n)) hp (by omega) (okT_lit (by decide)) hl (fun b => refused_ok (ask_read_ok (read_ok g1 g2 g3))) hv (Qd := Qd) (Ed := Ed) h
  have hb : ((n : Nat) : Int).natAbs < 10 ^ 41 := Nat.lt_of_le_of_lt (m := 9) (by omega) (by decide)
  have ln := len_numB hb
  have e1 : (Str.ofString "goods ").length = 6 := by decide
  have e2 : (Str.ofString "\n").length = 1 := by decide
  unfold m_law_right_i_10
  revert r9 re
  generalize m_law_right_i_9 = M9
  generalize w_law_refused_each_ivvv = W1
  revert M9 W1
  refine id ?_
  intro M9 W1 r9 re
  conv => whnf
  refine ⟨_, gStr_num hb, ?_⟩
  conv => whnf
  refine ⟨_, fAdd_str (big64 (by omega)), ?_⟩
  conv => whnf
  refine ⟨_, fAdd_str (big64 (by rw [str_len]; omega)), ?_⟩
  conv => whnf
  refine ⟨small64 (by simp), ?_⟩
  conv => whnf
  refine ⟨small64 (by simp), ?_⟩
  conv => whnf
  refine re fun o hp2 => ?_
  conv => whnf
  repeat (refine ⟨_, rfl, ?_⟩; conv => whnf)
  exact r9 hD
theorem w14_ok (hl : Lst n rows) : ∀ v ∈ w14 n rows, Gv v ∧ RfV (Str.ofString "read") (Str.ofString "text") v := by
  have key : ∀ v, Gd 8 v → (∀ x, v = .str x → okT x ∧ x.length ≤ 640 ∧ progX x = none) → Gv v ∧ RfV (Str.ofString "read") (Str.ofString "text") v := fun v h h2 => ⟨h.gv, fun b => refused_viv_text (ask_viv_read_bad (read_bad h.a h2))⟩
  intro v hv
  unfold w14 at hv
  simp only [List.mem_cons, List.not_mem_nil, or_false] at hv
  rcases hv with rfl | rfl | rfl | rfl | rfl | rfl | rfl | rfl | rfl | rfl | rfl | rfl | rfl | rfl
  · exact key _ (Gd.of rfl) fun x e => by cases e
  · exact key _ (Gd.of rfl) fun x e => by cases e
  · exact key _ (Gd.of rfl) fun x e => by cases e
  · exact key _ (Gd.of rfl) fun x e => by cases e
  · exact key _ (Gd.of (by decide +kernel)) fun x e => by cases e
  · exact key _ (Gd.of (by decide +kernel)) fun x e => by cases e
  · exact key _ (Gd.of rfl) fun x e => by cases e
  · exact key _ (Gd.int 7 _) fun x e => by cases e
  · exact key _ ((gd_two (Gd.int 3 _) (hl.gt.le (by decide))).le (by decide)) fun x e => by cases e
  · exact key _ (Gd.of (by decide +kernel)) fun x e => by
      cases e
      exact ⟨okT_lit (by decide), by decide, progX_end (by decide +kernel)⟩
  · exact key _ (Gd.of (by decide +kernel)) fun x e => by
      cases e
      exact ⟨okT_lit (by decide), by decide, progX_end (by decide +kernel)⟩
  · exact key _ (Gd.of (by decide +kernel)) fun x e => by
      cases e
      exact ⟨okT_lit (by decide), by decide, progX_end (by decide +kernel)⟩
  · exact key _ (Gd.of (by decide +kernel)) fun x e => by
      cases e
      exact ⟨okT_lit (by decide), by decide, n1⟩
  · exact key _ (Gd.of (by decide +kernel)) fun x e => by
      cases e
      refine ⟨okT_lit (by decide), by decide, ?_⟩
      rw [progX_of (ps := [goodsL 0]) (by decide +kernel) (by simp)]
      show progC (headI (goodsL 0)) (allR []) = none
      rw [headI_goods (m := 0) (by decide)]
      rfl
theorem ur11 (hp : Pl k p) (hk : k < 2 ^ 40) (hl : Lst n rows) (hD : ∀ ρ, Dd.rt (.val (.bl true)) ρ) :
    m_law_right_i_11 Dd (rr p c1 c2 c3 c4 c5 c6 c7 (sv (.int (n : Nat))) (sv (lsD n rows)) c10 c11) := by
  have e14 : (w14 n rows).length = 14 := rfl
  have r10 := fun {Dd : DEnds} hD => ur10 (c1 := c1) (c2 := c2) (c3 := c3) (c4 := c4) (c5 := c5) (c6 := c6) (c7 := c7) (c9 := sv (lsD n rows)) (c10 := c10) (Dd := Dd) (vs := w14 n rows) hp (by omega) hl.g (by omega) (w14_ok hl) hD
  have x := xw14 (p := p) (n := n) (rows := rows) (c1 := c1) (c2 := c2) (c3 := c3) (c4 := c4) (c5 := c5) (c6 := c6) (c7 := c7) (c8 := sv (.int (n : Nat))) (c10 := c10) (c11 := c11)
  have wg := s_wrong_given (tag := Str.ofString "text") (vs := w14 n rows) (by omega)
  unfold m_law_right_i_11
  revert r10 x wg
  generalize m_law_right_i_10 = M10
  generalize x_law_right_i_2 = X1
  generalize w_law_wrong_given = W1
  revert M10 X1 W1
  refine id ?_
  intro M10 X1 W1 r10 x wg
  conv => whnf
  refine x _ _ ?_
  conv => whnf
  refine wg _ _ fun o => ?_
  exact r10 hD
theorem ur12 (hp : Pl k p) (hk : k + vs.length < 2 ^ 39) (hl : Lst n rows) (hvl : vs.length < 1000) (hv : ∀ v ∈ vs, Gd 8 v ∧ isLst v = false) (hD : ∀ ρ, Dd.rt (.val (.bl true)) ρ) :
    m_law_right_i_12 Dd (rr p c1 c2 c3 c4 c5 c6 c7 (sv (.int (n : Nat))) (sv (lsD n rows)) (sv (.lst vs)) c11) := by
  have r11 := fun {k : Nat} {p : List D} {Dd : DEnds} (hp : Pl k p) (hk : k < 2 ^ 40) hD => ur11 (k := k) (p := p) (c1 := c1) (c2 := c2) (c3 := c3) (c4 := c4) (c5 := c5) (c6 := c6) (c7 := c7) (c10 := sv (.lst vs)) (c11 := c11) (Dd := Dd) hp hk hl hD
  have re := fun {Qd : Cell → Outs → Prop} {Ed : Str → List (Str × D) → Outs → Prop} h => s_refused_each (word := Str.ofString "list") (tag := Str.ofString "list") (v0 := lsD n rows) hp (by omega) (okT_lit (by decide)) hvl (fun b => refused_ok (ask_list_ok (list_ok hl))) (fun v h => ⟨(hv v h).1.gv, fun b => refused_viv_list (ask_viv_list_bad (list_bad (hv v h).1.a (hv v h).2))⟩) (Qd := Qd) (Ed := Ed) h
  have wg := s_wrong_given (tag := Str.ofString "list") (vs := vs) hvl
  unfold m_law_right_i_12
  revert r11 re wg
  generalize m_law_right_i_11 = M11
  generalize w_law_refused_each_ivvv = W1
  generalize w_law_wrong_given = W2
  revert M11 W1 W2
  refine id ?_
  intro M11 W1 W2 r11 re wg
  conv => whnf
  refine ⟨small64 (by simp), ?_⟩
  conv => whnf
  refine wg _ _ fun o => ?_
  conv => whnf
  refine ⟨small64 (by simp), ?_⟩
  conv => whnf
  refine re fun o2 hp2 => ?_
  conv => whnf
  repeat (refine ⟨_, rfl, ?_⟩; conv => whnf)
  exact r11 hp2 (by omega) hD
theorem ur13 (hp : Pl k p) (hk : k + vs.length < 2 ^ 39) (hl : Lst n rows) (hvl : vs.length < 1000) (hv : ∀ v ∈ vs, Gd 8 v) (hD : ∀ ρ, Dd.rt (.val (.bl true)) ρ) :
    m_law_right_i_13 Dd (rr p c1 c2 c3 c4 c5 c6 c7 (sv (.int (n : Nat))) (sv (lsD n rows)) (sv (.lst vs)) c11) := by
  have r12 := fun {vs : List D} {Dd : DEnds} h1 h2 h3 hD => ur12 (vs := vs) (c1 := c1) (c2 := c2) (c3 := c3) (c4 := c4) (c5 := c5) (c6 := c6) (c7 := c7) (c11 := c11) (Dd := Dd) hp h1 hl h2 h3 hD
  have ll := fun {d : D} (hd : okA d = true) => a_law_list hd
  unfold m_law_right_i_13
  revert r12 ll
  generalize m_law_right_i_12 = M12
  generalize w_law_is_list = W1
  revert M12 W1
  refine id ?_
  intro M12 W1 r12 ll
  conv => whnf
  refine ⟨rfl, ?_⟩
  refine lcGo_filS (fun d => if isLst d = true then none else some d) vs [] (fun z hz Kt Kf h1 h2 => ?_) (ok_lineA (by omega)) ?_
  · conv => whnf
    refine ll (hv z hz).a _ _ fun o => ?_
    cases hi : isLst z with
    | true =>
      conv => whnf
      repeat (refine ⟨_, rfl, ?_⟩; conv => whnf)
      exact h2 (by rw [hi]; rfl)
    | false =>
      conv => whnf
      repeat (refine ⟨_, rfl, ?_⟩; conv => whnf)
      exact h1 _ (by rw [hi]; rfl)
  rw [List.nil_append]
  have hlen := List.length_filterMap_le (fun d => if isLst d = true then none else some d) vs
  refine r12 (by omega) (by omega) (fun v h => ?_) hD
  obtain ⟨d, hd, e⟩ := List.mem_filterMap.mp h
  cases hi : isLst d with
  | true => rw [hi] at e; cases e
  | false =>
    rw [hi] at e
    injection e with e
    subst e
    exact ⟨hv d hd, hi⟩
theorem ur14 (hp : Pl k p) (hk : k < 2 ^ 38) (hl : Lst n rows) (hr1 : 1 ≤ rows.length) (hD : ∀ ρ, Dd.rt (.val (.bl true)) ρ) :
    m_law_right_i_14 Dd (rr p (sv d1) c2 c3 c4 c5 c6 c7 (sv (.int (n : Nat))) (sv (lsD n rows)) c10 c11) := by
  have r13 := fun {k : Nat} {p : List D} {vs : List D} {Dd : DEnds} (hp : Pl k p) h1 h2 h3 hD => ur13 (k := k) (p := p) (vs := vs) (c1 := sv d1) (c2 := c2) (c3 := c3) (c4 := c4) (c5 := c5) (c6 := c6) (c7 := c7) (c11 := c11) (Dd := Dd) hp h1 hl h2 h3 hD
  have nl := fun {k : Nat} {p : List D} (hp : Pl k p) (hk : k < 2 ^ 46) {Qd : Cell → Outs → Prop} {Ed : Str → List (Str × D) → Outs → Prop} h => s_not_list hl hr1 hp hk (Qd := Qd) (Ed := Ed) h
  unfold m_law_right_i_14
  revert r13 nl
  generalize m_law_right_i_13 = M13
  generalize w_law_not_list_iv = W1
  revert M13 W1
  refine id ?_
  intro M13 W1 r13 nl
  conv => whnf
  refine ⟨⟨by decide, by decide⟩, ?_⟩
  refine ⟨rfl, ?_⟩
  refine lcGo_inv (fun acc ρ => ∃ p', ρ = rr p' none c2 c3 c4 c5 c6 c7 (sv (.int (n : Nat))) (sv (lsD n rows)) c10 c11 ∧ Pl (k + 8 * acc.length) p' ∧ ∀ d ∈ acc, Gd 8 d) (rangeD 0 (Int.toNat 18)) [] _ ?_ ?_ ⟨p, rfl, hp, fun d hd => by cases hd⟩ ?_
  · rw [rangeD_len]
    exact small64 (by simp)
  · rintro d hd acc ρ hla ⟨p', rfl, hp2, hx⟩ Kt Kf hK
    rw [rangeD_len] at hla
    simp only [List.length_nil, Nat.zero_add] at hla
    conv => whnf
    refine nl hp2 (by have : acc.length < 18 := hla; omega) fun x o hx2 hp3 => ?_
    conv => whnf
    refine hK _ _ ⟨_, rfl, ?_, ?_⟩
    · rw [List.length_append]
      exact hp3.mono (by simp only [List.length_cons, List.length_nil]; omega)
    · intro y hy
      rcases List.mem_append.mp hy with z | z
      · exact hx y z
      · have : y = x := List.mem_singleton.mp z
        rw [this]
        exact hx2
  · rintro acc ρ hla ⟨p', rfl, hp2, hx⟩
    rw [rangeD_len] at hla
    have h18 : acc.length = 18 := by simpa using hla
    conv => whnf
    exact r13 hp2 (by omega) (by omega) hx hD
theorem ur15 (hp : Pl k p) (hk : k < 2 ^ 37) (hn : 1 ≤ n ∧ n ≤ 6) (hD : ∀ ρ, Dd.rt (.val (.bl true)) ρ) :
    m_law_right_i_15 Dd (rr p (sv d1) c2 c3 c4 c5 c6 c7 (sv (.int (n : Nat))) c9 c10 c11) := by
  have r14 := fun {k : Nat} {p : List D} {rows : List (List Int)} {Dd : DEnds} (hp : Pl k p) h1 (hl : Lst n rows) h2 hD => ur14 (k := k) (p := p) (rows := rows) (d1 := d1) (c2 := c2) (c3 := c3) (c4 := c4) (c5 := c5) (c6 := c6) (c7 := c7) (c10 := c10) (c11 := c11) (Dd := Dd) hp h1 hl h2 hD
  have dr := fun {k : Nat} {p : List D} {many : Int} (hp : Pl k p) (hk : k < 2 ^ 50) (h1 : 1 ≤ many) (h9 : many ≤ 60) {Qd : Cell → Outs → Prop} {Ed : Str → List (Str × D) → Outs → Prop} h => s_draw (many := many) hp (by omega) h1 (many_pow (by omega) (by omega)) (Qd := Qd) (Ed := Ed) h
  have rw_ := fun {k : Nat} {p : List D} {way : Int} (hp : Pl k p) (hk : k < 2 ^ 48) {Qd : Cell → Outs → Prop} {Ed : Str → List (Str × D) → Outs → Prop} h => s_row (way := way) hp hk hn.2 (Qd := Qd) (Ed := Ed) h
  unfold m_law_right_i_15
  revert r14 dr rw_
  generalize m_law_right_i_14 = M14
  generalize w_law_draw_iv = W1
  generalize w_law_row_ivv = W2
  revert M14 W1 W2
  refine id ?_
  intro M14 W1 W2 r14 dr rw_
  conv => whnf
  refine dr hp (by omega) (by decide) (by decide) fun t o t0 t8 hp2 => ?_
  conv => whnf
  (refine ⟨_, rfl, ?_⟩; conv => whnf)
  refine ⟨⟨by omega, by omega⟩, ?_⟩
  refine ⟨rfl, ?_⟩
  refine lcGo_inv (fun acc ρ => ∃ p' rows, ρ = rr p' none c2 c3 c4 c5 c6 c7 (sv (.int (n : Nat))) c9 c10 c11 ∧ acc = rows.map ti ∧ Pl (k + 1 + 13 * acc.length) p' ∧ ∀ x ∈ rows, Rw n x) (rangeD 0 (1 + t).toNat) [] _ ?_ ?_ ⟨o 0, [], rfl, rfl, hp2, fun x hx => by cases hx⟩ ?_
  · rw [rangeD_len]
    exact small64 (by simp; omega)
  · rintro d hd acc ρ hla ⟨p', rows, rfl, rfl, hp3, hx⟩ Kt Kf hK
    rw [rangeD_len] at hla
    simp only [List.length_nil, List.length_map, Nat.zero_add] at hla
    rw [List.length_map] at hp3
    conv => whnf
    refine dr hp3 (by omega) (by decide) (by decide) fun u o2 u0 u3 hp4 => ?_
    conv => whnf
    refine rw_ hp4 (by omega) fun r o3 hr hp5 => ?_
    conv => whnf
    refine hK _ _ ⟨_, rows ++ [r], rfl, by rw [List.map_append]; rfl, ?_, ?_⟩
    · rw [List.length_append, List.length_map]
      exact hp5.mono (by simp only [List.length_cons, List.length_nil]; omega)
    · intro y hy
      rcases List.mem_append.mp hy with z | z
      · exact hx y z
      · have : y = r := List.mem_singleton.mp z
        rw [this]
        exact hr
  · rintro acc ρ hla ⟨p', rows, rfl, rfl, hp3, hx⟩
    rw [rangeD_len, List.length_map] at hla
    rw [List.length_map] at hp3
    simp only [List.length_nil, Nat.zero_add] at hla
    conv => whnf
    repeat (refine ⟨_, rfl, ?_⟩; conv => whnf)
    refine ⟨small64 (by simp), ?_⟩
    exact r14 hp3 (by omega) ⟨hn, by omega, hx⟩ (by omega) hD
theorem ur16 (hp : Pl k p) (hk : k < 2 ^ 36) (hD : ∀ ρ, Dd.rt (.val (.bl true)) ρ) : m_law_right_i_16 Dd (rr p (sv d1) c2 c3 c4 c5 c6 c7 c8 c9 c10 c11) := by
  have r15 := fun {k : Nat} {p : List D} {n : Nat} {Dd : DEnds} (hp : Pl k p) h1 (hn : 1 ≤ n ∧ n ≤ 6) hD => ur15 (k := k) (p := p) (n := n) (d1 := d1) (c2 := c2) (c3 := c3) (c4 := c4) (c5 := c5) (c6 := c6) (c7 := c7) (c9 := c9) (c10 := c10) (c11 := c11) (Dd := Dd) hp h1 hn hD
  have dr := fun {Qd : Cell → Outs → Prop} {Ed : Str → List (Str × D) → Outs → Prop} h => s_draw (many := 6) hp (by omega) (by decide) (many_pow (by decide) (by decide)) (Qd := Qd) (Ed := Ed) h
  unfold m_law_right_i_16
  revert r15 dr
  generalize m_law_right_i_15 = M15
  generalize w_law_draw_iv = W1
  revert M15 W1
  refine id ?_
  intro M15 W1 r15 dr
  conv => whnf
  refine dr fun t o t0 t6 hp2 => ?_
  obtain ⟨m, rfl⟩ := Int.eq_ofNat_of_zero_le t0
  conv => whnf
  repeat (refine ⟨_, rfl, ?_⟩; conv => whnf)
  have := fun {Dd : DEnds} hD => r15 (n := 1 + m) (Dd := Dd) hp2 (by omega) ⟨by omega, by omega⟩ hD
  rw [show ((1 + m : Nat) : Int) = 1 + (m : Int) by omega] at this
  exact this hD
theorem ur17 (hp : Pl k p) (hk : k < 2 ^ 35) (hD : ∀ ρ, Dd.rt (.val (.bl true)) ρ) : m_law_right_i_17 Dd (rr p (sv d1) c2 c3 c4 c5 c6 c7 c8 c9 c10 c11) := by
  have r16 := fun {k : Nat} {p : List D} {Dd : DEnds} (hp : Pl k p) h1 hD => ur16 (k := k) (p := p) (d1 := d1) (c2 := c2) (c3 := c3) (c4 := c4) (c5 := c5) (c6 := c6) (c7 := c7) (c8 := c8) (c9 := c9) (c10 := c10) (c11 := c11) (Dd := Dd) hp h1 hD
  have nf := fun {k : Nat} {p : List D} (hp : Pl k p) (hk : k < 2 ^ 49) {Qd : Cell → Outs → Prop} {Ed : Str → List (Str × D) → Outs → Prop} h => s_not_fraction hp hk (Qd := Qd) (Ed := Ed) h
  have re := fun {k : Nat} {p : List D} {vs : List D} (hp : Pl k p) (hk : k + vs.length < 2 ^ 49) (hvl : vs.length < 1000) (hv : ∀ v ∈ vs, Gd 8 v ∧ isFr v = false) {Qd : Cell → Outs → Prop} {Ed : Str → List (Str × D) → Outs → Prop} h => s_refused_each (word := Str.ofString "fraction") (tag := Str.ofString "number") (v0 := ti [-7, 3]) hp hk (okT_lit (by decide)) hvl (fun b => refused_ok (ask_fraction_ok (Okay.of (frac_is (by decide) (by decide) (by decide))))) (fun v h => ⟨(hv v h).1.gv, fun b => refused_viv_number (ask_viv_fraction_bad (frac_bad (hv v h).1.a (hv v h).2))⟩) (Qd := Qd) (Ed := Ed) h
  have wg := fun {vs : List D} hvl => s_wrong_given (tag := Str.ofString "number") (vs := vs) hvl
  unfold m_law_right_i_17
  revert r16 nf re wg
  generalize m_law_right_i_16 = M16
  generalize w_law_not_fraction_i = W1
  generalize w_law_refused_each_ivvv = W2
  generalize w_law_wrong_given = W3
  revert M16 W1 W2 W3
  refine id ?_
  intro M16 W1 W2 W3 r16 nf re wg
  conv => whnf
  repeat (refine ⟨_, rfl, ?_⟩; conv => whnf)
  refine ⟨small64 (by simp), ?_⟩
  conv => whnf
  refine ⟨small64 (by simp), ?_⟩
  conv => whnf
  refine ⟨⟨by decide, by decide⟩, ?_⟩
  refine ⟨rfl, ?_⟩
  refine lcGo_inv (fun acc ρ => ∃ p', ρ = rr p' none c2 c3 c4 c5 c6 c7 c8 c9 c10 c11 ∧ Pl (k + acc.length) p' ∧ ∀ d ∈ acc, Gd 8 d ∧ isFr d = false) (rangeD 0 (Int.toNat 14)) [] _ ?_ ?_ ⟨p, rfl, hp, fun d hd => by cases hd⟩ ?_
  · rw [rangeD_len]
    exact small64 (by simp)
  · rintro d hd acc ρ hla ⟨p', rfl, hp2, hx⟩ Kt Kf hK
    rw [rangeD_len] at hla
    simp only [List.length_nil, Nat.zero_add] at hla
    conv => whnf
    refine nf hp2 (by have : acc.length < 14 := hla; omega) fun x o hx2 hx3 hp3 => ?_
    conv => whnf
    refine hK _ _ ⟨_, rfl, ?_, ?_⟩
    · rw [List.length_append]
      exact hp3.mono (by simp only [List.length_cons, List.length_nil]; omega)
    · intro y hy
      rcases List.mem_append.mp hy with z | z
      · exact hx y z
      · have : y = x := List.mem_singleton.mp z
        rw [this]
        exact ⟨hx2, hx3⟩
  · rintro acc ρ hla ⟨p', rfl, hp2, hx⟩
    rw [rangeD_len] at hla
    have h14 : acc.length = 14 := by simpa using hla
    conv => whnf
    refine wg (by omega) _ _ fun o => ?_
    conv => whnf
    refine ⟨small64 (by simp), ?_⟩
    conv => whnf
    refine re hp2 (by omega) (by omega) hx fun o2 hp3 => ?_
    conv => whnf
    repeat (refine ⟨_, rfl, ?_⟩; conv => whnf)
    exact r16 hp3 (by omega) hD
theorem w10_ok : ∀ v ∈ w10, Gd 8 v ∧ ∀ r : List Int, v = ti r → r = [] := by
  intro v hv
  unfold w10 at hv
  simp only [List.mem_cons, List.not_mem_nil, or_false] at hv
  have no : ∀ (d : D) (ds : List D), isI d = false → ∀ r : List Int, D.tup (d :: ds) = ti r → r = [] := fun d ds h r e => by
    injection e with e
    cases r with
    | nil => rfl
    | cons x xs =>
      injection e with e1 e2
      rw [e1] at h
      cases h
  rcases hv with rfl | rfl | rfl | rfl | rfl | rfl | rfl | rfl | rfl | rfl
  · exact ⟨Gd.of rfl, fun r e => by
      injection e with e
      cases r with
      | nil => rfl
      | cons x xs => cases e⟩
  · exact ⟨Gd.of rfl, fun r e => by cases e⟩
  · exact ⟨Gd.of rfl, no _ _ rfl⟩
  · exact ⟨Gd.of rfl, no _ _ rfl⟩
  · exact ⟨Gd.of (by decide +kernel), no _ _ rfl⟩
  · exact ⟨Gd.of rfl, fun r e => by cases e⟩
  · exact ⟨Gd.of rfl, no _ _ rfl⟩
  · exact ⟨Gd.of rfl, fun r e => by
      injection e with e
      match r, e with
      | [_, _], e => cases e⟩
  · exact ⟨Gd.of rfl, fun r e => by cases e⟩
  · exact ⟨Gd.of (by decide +kernel), fun r e => by cases e⟩
theorem ur18 (hp : Pl k p) (hk : k + vs.length < 2 ^ 34) (h : Rb r) (hvl : vs.length < 1000) (hv : ∀ v ∈ vs, Gd 8 v ∧ ∀ r : List Int, v = ti r → r = []) (hD : ∀ ρ, Dd.rt (.val (.bl true)) ρ) :
    m_law_right_i_18 Dd (rr p (sv d1) (sv (ti r)) c3 c4 c5 c6 (sv (.lst vs)) c8 c9 c10 c11) := by
  have r17 := fun {k : Nat} {p : List D} {Dd : DEnds} (hp : Pl k p) h1 hD => ur17 (k := k) (p := p) (d1 := d1) (c2 := sv (ti r)) (c3 := c3) (c4 := c4) (c5 := c5) (c6 := c6) (c7 := sv (.lst vs)) (c8 := c8) (c9 := c9) (c10 := c10) (c11 := c11) (Dd := Dd) hp h1 hD
  have re := fun {Qd : Cell → Outs → Prop} {Ed : Str → List (Str × D) → Outs → Prop} h1 => s_refused_each (word := Str.ofString "row") (tag := Str.ofString "order") (v0 := ti r) hp (by omega) (okT_lit (by decide)) hvl (fun b => refused_ok (ask_row_ok (Okay.of (row_is h)))) (fun v h => ⟨(hv v h).1.gv, fun b => refused_viv_order (ask_viv_row_bad (row_bad (hv v h).1.a (hv v h).2))⟩) (Qd := Qd) (Ed := Ed) h1
  have wg := s_wrong_given (tag := Str.ofString "order") (vs := vs) hvl
  unfold m_law_right_i_18
  revert r17 re wg
  generalize m_law_right_i_17 = M17
  generalize w_law_refused_each_ivvv = W1
  generalize w_law_wrong_given = W2
  revert M17 W1 W2
  refine id ?_
  intro M17 W1 W2 r17 re wg
  conv => whnf
  refine ⟨small64 (by simp), ?_⟩
  conv => whnf
  refine wg _ _ fun o => ?_
  conv => whnf
  refine ⟨small64 (by simp), ?_⟩
  conv => whnf
  refine re fun o2 hp2 => ?_
  conv => whnf
  repeat (refine ⟨_, rfl, ?_⟩; conv => whnf)
  exact r17 hp2 (by omega) hD
theorem ur19 (hp : Pl k p) (hk : k + vs.length < 2 ^ 33) (h : Rb r) (hvl : vs.length < 900) (hv : ∀ v ∈ vs, Gd 8 v ∧ ∀ r : List Int, v = ti r → r = []) (hD : ∀ ρ, Dd.rt (.val (.bl true)) ρ) :
    m_law_right_i_19 Dd (rr p (sv d1) (sv (ti r)) c3 c4 c5 c6 (sv (.lst vs)) c8 c9 c10 c11) := by
  have r18 := fun {vs : List D} {Dd : DEnds} h1 h2 h3 hD => ur18 (vs := vs) (d1 := d1) (c3 := c3) (c4 := c4) (c5 := c5) (c6 := c6) (c8 := c8) (c9 := c9) (c10 := c10) (c11 := c11) (Dd := Dd) hp h1 h h2 h3 hD
  have x := xw10
  have e10 : w10.length = 10 := rfl
  unfold m_law_right_i_19
  revert r18 x
  generalize m_law_right_i_18 = M18
  generalize x_law_right_i_1 = X1
  revert M18 X1
  refine id ?_
  intro M18 X1 r18 x
  conv => whnf
  refine x _ _ _ ?_
  conv => whnf
  refine ⟨_, fAdd_lst (xs := vs) (ys := w10) (big64 (by omega)), ?_⟩
  refine r18 (vs := vs ++ w10) (by rw [List.length_append]; omega) (by rw [List.length_append]; omega) (fun v hv2 => ?_) hD
  rcases List.mem_append.mp hv2 with z | z
  · exact hv v z
  · exact w10_ok v z
theorem fEq0_ti (r : List Int) : fEq0 (ti r) (.tup []) = some (.val (.bl (decide (r = [])))) := by
  cases r with
  | nil => rfl
  | cons x xs => rfl
def isE : D → Bool
  | .tup [] => true
  | _ => false
theorem isE_ok {d : D} (h : isE d = true) : d = ti [] := by
  cases d <;> first | (cases h; done) | skip
  rename_i ds
  cases ds with
  | nil => rfl
  | cons x xs => cases h
def keepR (n : Nat) (d : D) : Option D := if ((!wholes ((n : Int) + 1) d && !wholes ((n : Int) - 1) d) || isE d) = true then some d else none
theorem keepR_ok {d e : D} (hd : NR n d) (h : keepR n d = some e) : e = d ∧ ∀ r : List Int, d = ti r → r = [] := by
  unfold keepR at h
  split at h
  · rename_i c
    injection h with h
    refine ⟨h.symm, fun r e => ?_⟩
    rw [Bool.or_eq_true, Bool.and_eq_true, Bool.not_eq_true', Bool.not_eq_true'] at c
    rcases c with ⟨c1, c2⟩ | c
    · have hw : ∀ m : Int, ((r.length : Nat) : Int) = m → wholes m d = true := fun m hm => by
        rw [e]
        show (decide (((r.map D.int).length : Nat) = m) && (r.map D.int).all isI) = true
        rw [List.length_map, decide_eq_true hm, Bool.true_and, List.all_map]
        exact List.all_eq_true.mpr fun _ _ => rfl
      rcases hd.r r e with q | q
      · rw [hw _ (by omega)] at c1
        cases c1
      · rw [hw _ (by omega)] at c2
        cases c2
    · have c := isE_ok c
      rw [e] at c
      injection c with c
      cases r with
      | nil => rfl
      | cons x xs => cases c
  · cases h
theorem ur20 (hp : Pl k p) (hk : k < 2 ^ 32) (hr : Rw n r) (hn : 1 ≤ n ∧ n ≤ 6) (hD : ∀ ρ, Dd.rt (.val (.bl true)) ρ) :
    m_law_right_i_20 Dd (rr p (sv d1) (sv (ti r)) c3 c4 c5 c6 c7 c8 c9 c10 c11) := by
  have r19 := fun {k : Nat} {p : List D} {vs : List D} {Dd : DEnds} (hp : Pl k p) h1 h2 h3 hD => ur19 (k := k) (p := p) (vs := vs) (d1 := d1) (c3 := c3) (c4 := c4) (c5 := c5) (c6 := c6) (c8 := c8) (c9 := c9) (c10 := c10) (c11 := c11) (Dd := Dd) hp h1 (hr.rb hn) h2 h3 hD
  have nr := fun {k : Nat} {p : List D} (hp : Pl k p) (hk : k < 2 ^ 48) {Qd : Cell → Outs → Prop} {Ed : Str → List (Str × D) → Outs → Prop} h => s_not_row hp hk hr.1 ⟨hn.1, by omega⟩ (Qd := Qd) (Ed := Ed) h
  have lr := fun {d : D} {m : Int} (hd : okA d = true) => a_law_row (n := m) hd
  have hlm : (((r.map D.int).length : Nat) : Int) = (n : Int) := by rw [List.length_map, hr.1]
  unfold m_law_right_i_20
  revert r19 nr lr
  generalize m_law_right_i_19 = M19
  generalize w_law_not_row_iv = W1
  generalize w_law_is_row = W2
  revert M19 W1 W2
  refine id ?_
  intro M19 W1 W2 r19 nr lr
  conv => whnf
  refine ⟨⟨by decide, by decide⟩, ?_⟩
  refine ⟨rfl, ?_⟩
  refine lcGo_inv (fun acc ρ => ∃ p', ρ = rr p' none (sv (ti r)) c3 c4 c5 c6 c7 c8 c9 c10 c11 ∧ Pl (k + 3 * acc.length) p' ∧ ∀ d ∈ acc, NR n d) (rangeD 0 (Int.toNat 14)) [] _ ?_ ?_ ⟨p, rfl, hp, fun d hd => by cases hd⟩ ?_
  · rw [rangeD_len]
    exact small64 (by simp)
  · rintro d hd acc ρ hla ⟨p', rfl, hp2, hx⟩ Kt Kf hK
    rw [rangeD_len] at hla
    simp only [List.length_nil, Nat.zero_add] at hla
    conv => whnf
    refine nr hp2 (by have : acc.length < 14 := hla; omega) fun x o hx2 hp3 => ?_
    conv => whnf
    refine hK _ _ ⟨_, rfl, ?_, ?_⟩
    · rw [List.length_append]
      exact hp3.mono (by simp only [List.length_cons, List.length_nil]; omega)
    · intro y hy
      rcases List.mem_append.mp hy with z | z
      · exact hx y z
      · have : y = x := List.mem_singleton.mp z
        rw [this]
        exact hx2
  · rintro acc ρ hla ⟨p', rfl, hp2, hx⟩
    rw [rangeD_len] at hla
    have h14 : acc.length = 14 := by simpa using hla
    conv => whnf
    refine ⟨rfl, ?_⟩
    refine lcGo_filS (keepR n) acc [] (fun z hz Kt Kf h1 h2 => ?_) (ok_lineA (by omega)) ?_
    · have hz2 := hx z hz
      conv => whnf
      (refine ⟨_, rfl, ?_⟩; conv => whnf)
      (refine ⟨_, rfl, ?_⟩; conv => whnf)
      rw [hlm]
      refine lr hz2.g.a _ _ fun o => ?_
      cases w1 : wholes ((n : Int) + 1) z with
      | false =>
        conv => whnf
        repeat (refine ⟨_, rfl, ?_⟩; conv => whnf)
        rw [hlm]
        refine lr hz2.g.a _ _ fun o => ?_
        cases w2 : wholes ((n : Int) - 1) z with
        | false =>
          conv => whnf
          repeat (refine ⟨_, rfl, ?_⟩; conv => whnf)
          exact h1 z (if_pos (by rw [w1, w2]; rfl))
        | true =>
          obtain ⟨xs, rfl, _⟩ := wholes_t w2
          conv => whnf
          repeat (refine ⟨_, rfl, ?_⟩; conv => whnf)
          refine ⟨small64 (by simp), ?_⟩
          conv => whnf
          refine ⟨_, fEq0_ti xs, ?_⟩
          by_cases q : xs = []
          · subst q
            conv => whnf
            exact h1 _ (if_pos (Bool.or_true _))
          · rw [decide_eq_false q]
            conv => whnf
            refine h2 (if_neg fun z2 => ?_)
            rw [w1, w2] at z2
            cases xs with
            | nil => exact q rfl
            | cons y ys => cases z2
      | true =>
        obtain ⟨xs, rfl, _⟩ := wholes_t w1
        conv => whnf
        repeat (refine ⟨_, rfl, ?_⟩; conv => whnf)
        refine ⟨small64 (by simp), ?_⟩
        conv => whnf
        refine ⟨_, fEq0_ti xs, ?_⟩
        by_cases q : xs = []
        · subst q
          conv => whnf
          exact h1 _ (if_pos (Bool.or_true _))
        · rw [decide_eq_false q]
          conv => whnf
          refine h2 (if_neg fun z2 => ?_)
          rw [w1] at z2
          cases xs with
          | nil => exact q rfl
          | cons y ys => cases z2
    rw [List.nil_append]
    have hlen := List.length_filterMap_le (keepR n) acc
    refine r19 hp2 (by omega) (by omega) (fun v hv => ?_) hD
    obtain ⟨d, hd, e⟩ := List.mem_filterMap.mp hv
    obtain ⟨rfl, e2⟩ := keepR_ok (hx d hd) e
    exact ⟨(hx v hd).g.up.up, e2⟩
theorem ur21 (hp : Pl k p) (hk : k < 2 ^ 31) (hD : ∀ ρ, Dd.rt (.val (.bl true)) ρ) : m_law_right_i_21 Dd (rr p (sv d1) c2 c3 c4 c5 c6 c7 c8 c9 c10 c11) := by
  have r20 := fun {k n : Nat} {p : List D} {r : List Int} {Dd : DEnds} (hp : Pl k p) h1 (hr : Rw n r) hn hD => ur20 (k := k) (p := p) (r := r) (n := n) (d1 := d1) (c3 := c3) (c4 := c4) (c5 := c5) (c6 := c6) (c7 := c7) (c8 := c8) (c9 := c9) (c10 := c10) (c11 := c11) (Dd := Dd) hp h1 hr hn hD
  have dr := fun {k : Nat} {p : List D} {many : Int} (hp : Pl k p) (hk : k < 2 ^ 50) (h1 : 1 ≤ many) (h9 : many ≤ 60) {Qd : Cell → Outs → Prop} {Ed : Str → List (Str × D) → Outs → Prop} h => s_draw (many := many) hp (by omega) h1 (many_pow (by omega) (by omega)) (Qd := Qd) (Ed := Ed) h
  have rw_ := fun {k n : Nat} {p : List D} {way i : Int} (e : i = (n : Nat)) (hp : Pl k p) (hk : k < 2 ^ 48) (hn : n ≤ 6) {Qd : Cell → Outs → Prop} {Ed : Str → List (Str × D) → Outs → Prop} (h : ∀ r (o : Outs), Rw n r → Pl (k + 12) (o 0) → Qd (.val (ti r)) o) => (show w_law_row_ivv [.own p, .val (.int i), .val (.int way)] Qd Ed by subst e; exact s_row (way := way) hp hk hn (Qd := Qd) (Ed := Ed) h)
  unfold m_law_right_i_21
  revert r20 dr rw_
  generalize m_law_right_i_20 = M20
  generalize w_law_draw_iv = W1
  generalize w_law_row_ivv = W2
  revert M20 W1 W2
  refine id ?_
  intro M20 W1 W2 r20 dr rw_
  conv => whnf
  refine dr hp (by omega) (by decide) (by decide) fun t o t0 t6 hp2 => ?_
  obtain ⟨m, rfl⟩ := Int.eq_ofNat_of_zero_le t0
  conv => whnf
  (refine ⟨_, rfl, ?_⟩; conv => whnf)
  refine dr hp2 (by omega) (by decide) (by decide) fun u o2 u0 u3 hp3 => ?_
  conv => whnf
  refine rw_ (n := 1 + m) (by omega) hp3 (by omega) (by omega) fun r o3 hr hp4 => ?_
  exact r20 hp4 (by omega) hr ⟨by omega, by omega⟩ hD
theorem s_right {ds : List D} (hp : Pl 0 ds) {Qd : Cell → Outs → Prop} {Ed : Str → List (Str × D) → Outs → Prop} (h : ∀ o, Qd (.val (.bl true)) o) : w_law_right_i [.own ds] Qd Ed := by
  unfold w_law_right_i m_law_right_i
  conv => whnf
  refine ⟨⟨by decide, by decide⟩, ?_⟩
  refine forGo_ix (fun i => D.int (0 + (i : Nat))) (fun i ρ => ∃ p' c1 c2 c3 c4 c5 c6, ρ = rr p' c1 c2 c3 c4 c5 c6 none none none none none ∧ Pl (35 * i) p' ∧ (i ≠ 0 → ∃ d1, c1 = sv d1)) (List.range (Int.toNat 10)) 0 _ (Nat.zero_le _) ?_ ?_ ⟨ds, _, _, _, _, _, _, rfl, hp, fun h => absurd rfl h⟩
  · rintro ρ ⟨p', c1, c2, c3, c4, c5, c6, rfl, hp2, hc⟩
    rw [List.length_range] at hp2 hc
    obtain ⟨d1, rfl⟩ := hc (by decide)
    exact ur21 hp2 (by decide) fun ρ => h _
  · rintro i z ρ hz ⟨p', c1, c2, c3, c4, c5, c6, rfl, hp2, hc⟩ N hN
    have hi : i < 10 := by
      have := (List.getElem?_eq_some_iff.mp hz).1
      rwa [List.length_range] at this
    refine ur8 (c1 := sv (.int (0 + (z : Nat)))) hp2 (by omega) fun p2 c2' c3' c4' c5' c6' hp3 => ?_
    exact hN _ ⟨_, _, _, _, _, _, _, rfl, hp3.mono (by omega), fun _ => ⟨_, rfl⟩⟩
end
theorem law_pure (ns : List Int) (hl : ns.length ≤ 63) (hb : ∀ i ∈ ns, Builtin.Int.intBits i ≤ 1048576) : w_law (lawD ns) (fun c _ => c = .val (.bl true)) (fun _ _ _ => False) := by
  have sr := fun (ds : List D) (hp : Pl 0 ds) (Qd : Cell → Outs → Prop) (Ed : Str → List (Str × D) → Outs → Prop) => s_right hp (Qd := Qd) (Ed := Ed)
  have sp := fun (lap : Nat) (hlap : lap < 64) (Qd : Cell → Outs → Prop) (Ed : Str → List (Str × D) → Outs → Prop) => s_pool ns lap hlap hb (Qd := Qd) (Ed := Ed)
  unfold w_law m_law m_law_1
  revert sr sp
  generalize w_law_right_i = W1
  generalize w_law_pool = W2
  revert W1 W2
  refine id ?_
  intro W1 W2 sr sp
  conv => whnf
  repeat (refine ⟨_, rfl, ?_⟩; conv => whnf)
  have hm : (if (if (3 : Int) < (((ns.map D.int).length : Nat) : Int) then (3 : Int) else (((ns.map D.int).length : Nat) : Int)) > 2 then (if (3 : Int) < (((ns.map D.int).length : Nat) : Int) then (3 : Int) else (((ns.map D.int).length : Nat) : Int)) else 2) ≤ 63 ∧ 0 ≤ (if (if (3 : Int) < (((ns.map D.int).length : Nat) : Int) then (3 : Int) else (((ns.map D.int).length : Nat) : Int)) > 2 then (if (3 : Int) < (((ns.map D.int).length : Nat) : Int) then (3 : Int) else (((ns.map D.int).length : Nat) : Int)) else 2) := by
    rw [List.length_map]
    split <;> split <;> omega
  generalize (if (if (3 : Int) < (((ns.map D.int).length : Nat) : Int) then (3 : Int) else (((ns.map D.int).length : Nat) : Int)) > 2 then (if (3 : Int) < (((ns.map D.int).length : Nat) : Int) then (3 : Int) else (((ns.map D.int).length : Nat) : Int)) else 2) = m at hm ⊢
  refine ⟨⟨by omega, by omega⟩, ?_⟩
  refine forGo_ix (fun i => D.int (0 + (i : Nat))) (fun i ρ => ∃ c1, ρ = [some (.val (.fix (ns.map D.int))), c1]) (List.range m.toNat) 0 _ (Nat.zero_le _) ?_ ?_ ⟨_, rfl⟩
  · rintro ρ ⟨c1, rfl⟩
    rfl
  · rintro i z ρ hz ⟨c1, rfl⟩ N hN
    have hz2 : z < m.toNat := by
      have := List.mem_of_getElem? hz
      simpa using this
    conv => whnf
    rw [Int.zero_add]
    refine sp z (by omega) _ _ fun ds o hp => ?_
    conv => whnf
    refine sr ds hp _ _ fun o2 => ?_
    conv => whnf
    repeat (refine ⟨_, rfl, ?_⟩; conv => whnf)
    exact hN _ ⟨_, rfl⟩
end Lk80
open PySem PySem.W PySem.Calls PyProof.Rows
theorem PySem.Challenge.cw_packtags_k80_whole_texts_of_rows_and_fra_holds : PySem.Challenge.rw_packtags_k80_whole_texts_of_rows_and_fra.Holds := by
  w_on; o_law
  refine HandSHeadRun.head_imp (r := OpenLaw.row PySem.Challenge.rw_packtags_k80_whole_texts_of_rows_and_fra) (q := view (OpenLaw.row PySem.Challenge.rw_packtags_k80_whole_texts_of_rows_and_fra).prog [71]) (H := Lk80.hk) (ob := Lk80.ob) (M := 5000) (loose := Lk80.loose) (d := HandSHeadRun.topDef (OpenLaw.row PySem.Challenge.rw_packtags_k80_whole_texts_of_rows_and_fra).prog 71) (kwd := []) Lk80.ob_eq
    Lk80.run (by kernel_rfl) (by kernel_rfl) (by kernel_rfl) (by rfl) (by first | assumption | decide +kernel) (by decide +kernel) ⟨rfl, rfl, rfl, rfl, rfl, by decide +kernel⟩ ?hw ?hc
  case hw => w_witness2
  case hc =>
    refine DL.walk_ofM (l := PySem.Challenge.rw_packtags_k80_whole_texts_of_rows_and_fra) (n := 63) (k := 14) (x := "script") (CX := fun w => L2.CX PySem.Challenge.rw_packtags_k80_whole_texts_of_rows_and_fra.prog w) rfl (by decide) (by kernel_rfl) ⟨rfl, by decide, by decide⟩ ?F ?X
    case X => exact fun w H s e s' ⟨_, _, _, _, _, _, _, _, _, _, _, _, z⟩ => z
    intro w mg fa h Y G hmg0
    obtain ⟨K, KX, c⟩ := Y
    have hmg : mg ("law" : PySem.Str) = some (.ref fa) := by
      have e : (HandSHeadRun.topDef (OpenLaw.row PySem.Challenge.rw_packtags_k80_whole_texts_of_rows_and_fra).prog 71).name = ("law" : PySem.Str) := by kernel_rfl
      rw [← e]
      exact hmg0
    obtain ⟨fd, gl, hb, hF⟩ := DL.law_def_of (fun base Z => Lk80.ok_law (P := PySem.Challenge.rw_packtags_k80_whole_texts_of_rows_and_fra.prog) (w := w) (base := base) Z) KX G c (fun _ _ _ _ _ _ us hl => match us, hl with | [_], _ => rfl)
    have e := hmg.symm.trans gl
    cases e
    exact ⟨K, fd, _, KX, hb, fun H a ns hl hbits hS => DL.law_sp hS (Lk80.law_pure ns hl hbits), hF⟩
