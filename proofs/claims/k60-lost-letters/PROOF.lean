import PyProof.Rows.All
import HandS.ForMost
import HandS.GenList
import HandS.Style
import HandS.RaiseMore
import HandS.SortInts
import PyProof.Rows.SortShellAny
import PyProof.Rows.StrRev
import HandS.Set
import HandS.Strs
import HandS.SetFor
import HandS.TupSets
import PyProof.Rows.SeqMore
import PySem.Challenge.RW_murmurline_k60_lost_letters
set_option Elab.async false
set_option linter.all false
set_option maxRecDepth 100000
set_option maxHeartbeats 4000000
/-! the mirror layer: data, states, expressions, statements -/
namespace ML
open PySem PySem.Spec PyProof.Rows L2

abbrev Fg := PySem.W.Frag

/-! ### heaps that grow -/
def Ex (H H' : Hp) : Prop := ∀ a o, H a = some o → H' a = some o
theorem Ex.refl (H : Hp) : Ex H H := fun _ _ h => h
theorem Ex.trans {H H1 H2 : Hp} (a : Ex H H1) (b : Ex H1 H2) : Ex H H2 := fun x o h => b x o (a x o h)
theorem Ex.new {H : Hp} {p : Addr} {o : HO} (h : H p = none) : Ex H (upd H p o) := fun a u e => by
  rw [upd_ne (ne_of_none e h)]
  exact e
theorem ex_rd {H H' : Hp} {a : Addr} {u : HO} (e : Ex H H') (h : Rd H a u) : Rd H' a u := by
  rcases h with h | ⟨o, h⟩
  · exact .inl (e a _ h)
  · exact .inr ⟨o, e a _ h⟩
theorem ex_l {K : Fg} {H H' : Hp} {a : Addr} {xs : List V} (e : Ex H H') (h : SqL K H a xs) : SqL K H' a xs := by
  rcases h with h | h
  · exact .inl (ex_rd e h)
  · exact .inr h
theorem ex_t {K : Fg} {H H' : Hp} {a : Addr} {xs : List V} (e : Ex H H') (h : SqT K H a xs) : SqT K H' a xs := by
  rcases h with h | h
  · exact .inl (ex_rd e h)
  · exact .inr h
theorem none_back {H H' : Hp} {a : Addr} (e : Ex H H') (h : H' a = none) : H a = none := by
  cases q : H a with
  | none => rfl
  | some o => rw [e a o q] at h; cases h

/-! ### data -/
/-- a type of data: how a value stands for it -/
structure Ty (α : Type) where
  rep : Fg → Hp → V → α → Prop
  mono : ∀ {K : Fg} {H H' : Hp} {v : V} {a : α}, Ex H H' → rep K H v a → rep K H' v a
/-- whatever the heap -/
def Ty.Sc {α : Type} (T : Ty α) : Prop := ∀ {K : Fg} {H H' : Hp} {v : V} {a : α}, T.rep K H v a → T.rep K H' v a

theorem Paired.imp {α β : Type} {F G : α → β → Prop} (f : ∀ a b, F a b → G a b) : ∀ {l₁ : List α} {l₂ : List β}, Paired F l₁ l₂ → Paired G l₁ l₂
  | _, _, .nil => .nil
  | _, _, .cons r t => .cons (f _ _ r) (Paired.imp f t)

def tInt : Ty Int := ⟨fun _ _ v i => v = .int i, fun _ h => h⟩
def tBool : Ty Bool := ⟨fun _ _ v i => v = .bl i, fun _ h => h⟩
def tNone : Ty Unit := ⟨fun _ _ v _ => v = .non, fun _ h => h⟩
/-- a text, by its signs -/
def tStr : Ty (List Nat) := ⟨fun _ _ v l => v = .str ⟨l.toArray⟩ ∧ ∀ c ∈ l, c < 1114112, fun _ h => h⟩
/-- a written text -/
def lit (s : String) : List Nat := s.toList.map Char.toNat
theorem lit_ok (s : String) : ∀ c ∈ lit s, c < 1114112 := fun c h => by
  obtain ⟨d, _, rfl⟩ := List.mem_map.mp h
  have hv := d.valid
  have : d.toNat = d.val.toNat := rfl
  rcases hv with h | ⟨_, h⟩
  · rw [this]; omega
  · rw [this]; exact h
theorem lit_tl (s : String) : (Str.ofString s).cps.toList = lit s := TL.tl_ofString s
def tList {α : Type} (T : Ty α) : Ty (List α) :=
  ⟨fun K H v xs => ∃ p vs, v = .ref p ∧ SqL K H p vs ∧ Paired (T.rep K H) vs xs, fun e ⟨p, vs, h1, h2, h3⟩ => ⟨p, vs, h1, ex_l e h2, Paired.imp (fun _ _ => T.mono e) h3⟩⟩
def tTup {α : Type} (T : Ty α) : Ty (List α) :=
  ⟨fun K H v xs => ∃ p vs, v = .ref p ∧ SqT K H p vs ∧ Paired (T.rep K H) vs xs, fun e ⟨p, vs, h1, h2, h3⟩ => ⟨p, vs, h1, ex_t e h2, Paired.imp (fun _ _ => T.mono e) h3⟩⟩
def tPair {α β : Type} (T : Ty α) (U : Ty β) : Ty (α × β) :=
  ⟨fun K H v a => ∃ p x y, v = .ref p ∧ SqT K H p [x, y] ∧ T.rep K H x a.1 ∧ U.rep K H y a.2, fun e ⟨p, x, y, h1, h2, h3, h4⟩ => ⟨p, x, y, h1, ex_t e h2, T.mono e h3, U.mono e h4⟩⟩
def tTri {α β γ : Type} (T : Ty α) (U : Ty β) (W : Ty γ) : Ty (α × β × γ) :=
  ⟨fun K H v a => ∃ p x y z, v = .ref p ∧ SqT K H p [x, y, z] ∧ T.rep K H x a.1 ∧ U.rep K H y a.2.1 ∧ W.rep K H z a.2.2, fun e ⟨p, x, y, z, h1, h2, h3, h4, h5⟩ => ⟨p, x, y, z, h1, ex_t e h2, T.mono e h3, U.mono e h4, W.mono e h5⟩⟩

/-- what an object of one's own holds -/
structure OTy (α : Type) where
  rep : Fg → Hp → HO → α → Prop
  mono : ∀ {K : Fg} {H H' : Hp} {o : HO} {a : α}, Ex H H' → rep K H o a → rep K H' o a
def oList {α : Type} (T : Ty α) : OTy (List α) :=
  ⟨fun K H o xs => ∃ vs, o = .lst vs ∧ Paired (T.rep K H) vs xs, fun e ⟨vs, h1, h3⟩ => ⟨vs, h1, Paired.imp (fun _ _ => T.mono e) h3⟩⟩

/-! ### states -/
inductive SK (E : Type) : Type 1 where
  | any
  | dat {α : Type} (T : Ty α) (g : E → α)
  | own {α : Type} (T : OTy α) (g : E → α)
  | ownAt (p : Addr) {α : Type} (T : OTy α) (g : E → α)
abbrev Ow := Addr → Option (Nat × HO)
section
variable {E : Type}
def SlotOk (K : Fg) (B : Hp) (O : Ow) (ρ : E) (i : Nat) : SK E → Option V → Prop
  | .any, _ => True
  | .dat T g, x => ∃ v, x = some v ∧ T.rep K B v (g ρ)
  | .own T g, x => ∃ p o, x = some (.ref p) ∧ O p = some (i, o) ∧ T.rep K B o (g ρ)
  | .ownAt p T g, x => ∃ o, x = some (.ref p) ∧ O p = some (i, o) ∧ T.rep K B o (g ρ)
structure SA (K : Fg) (B : Hp) (O : Ow) (ρ : E) (Γ : List (SK E)) (σ : L2.St) : Prop where
  len : σ.length = Γ.length
  at' : ∀ (i : Nat) (k : SK E), Γ[i]? = some k → ∃ x, σ[i]? = some x ∧ SlotOk K B O ρ i k x
theorem SlotOk.mono {K : Fg} {B B' : Hp} {O : Ow} {ρ : E} {i : Nat} {k : SK E} {x : Option V} (e : Ex B B') (h : SlotOk K B O ρ i k x) : SlotOk K B' O ρ i k x := by
  cases k with
  | any => trivial
  | dat T g => obtain ⟨v, h1, h2⟩ := h; exact ⟨v, h1, T.mono e h2⟩
  | own T g => obtain ⟨p, o, h1, h2, h3⟩ := h; exact ⟨p, o, h1, h2, T.mono e h3⟩
  | ownAt p T g => obtain ⟨o, h1, h2, h3⟩ := h; exact ⟨o, h1, h2, T.mono e h3⟩
theorem SA.mono {K : Fg} {B B' : Hp} {O : Ow} {ρ : E} {Γ : List (SK E)} {σ : L2.St} (e : Ex B B') (h : SA K B O ρ Γ σ) : SA K B' O ρ Γ σ :=
  ⟨h.len, fun i k hk => let ⟨x, h1, h2⟩ := h.at' i k hk; ⟨x, h1, h2.mono e⟩⟩

/-- within an expression -/
structure EI (B : Hp) (O : Ow) (H : Hp) : Prop where
  bh : Ex B H
  oo : ∀ a i o, O a = some (i, o) → H a = some o ∧ B a = none
structure Step (B H B' H' : Hp) : Prop where
  bb : Ex B B'
  bh : Ex B' H'
  hh : Ex H H'
  nw : ∀ a, B a = none → H a ≠ none → B' a = none
theorem Step.refl {B H : Hp} (e : Ex B H) : Step B H B H := ⟨Ex.refl _, e, Ex.refl _, fun _ h _ => h⟩
theorem Step.trans {B H B1 H1 B2 H2 : Hp} (a : Step B H B1 H1) (b : Step B1 H1 B2 H2) : Step B H B2 H2 :=
  ⟨a.bb.trans b.bb, b.bh, a.hh.trans b.hh, fun x h1 h2 => b.nw x (a.nw x h1 h2) fun z => h2 (none_back a.hh z)⟩
/-- a new object, kept as data -/
theorem Step.laid {B H : Hp} {p : Addr} {o : HO} (e : Ex B H) (h : H p = none) : Step B H (upd B p o) (upd H p o) where
  bb := Ex.new (none_back e h)
  bh := fun a u q => by
    by_cases z : a = p
    · subst z; rw [upd_same] at q ⊢; exact q
    · rw [upd_ne z] at q ⊢; exact e a u q
  hh := Ex.new h
  nw := fun a h1 h2 => by
    have : a ≠ p := fun z => by subst z; exact h2 h
    rw [upd_ne this]; exact h1
/-- a new object that is no data -/
theorem Step.other {B H : Hp} {p : Addr} {o : HO} (e : Ex B H) (h : H p = none) : Step B H B (upd H p o) :=
  ⟨Ex.refl _, e.trans (Ex.new h), Ex.new h, fun _ h _ => h⟩
theorem EI.step {B H B' H' : Hp} {O : Ow} (I : EI B O H) (s : Step B H B' H') : EI B' O H' :=
  ⟨s.bh, fun a i o e => let ⟨h1, h2⟩ := I.oo a i o e; ⟨s.hh a o h1, s.nw a h2 (by rw [h1]; exact fun z => by cases z)⟩⟩

/-- within a def's body: B0, H0 at its entry -/
structure FI (B0 H0 B : Hp) (O : Ow) (H : Hp) : Prop where
  bb : Ex B0 B
  bh : Ex B H
  hh : Ex H0 H
  oo : ∀ a i o, O a = some (i, o) → H a = some o ∧ B a = none ∧ H0 a = none
  nw : ∀ a, B0 a = none → H0 a ≠ none → B a = none
theorem FI.ei {B0 H0 B H : Hp} {O : Ow} (I : FI B0 H0 B O H) : EI B O H := ⟨I.bh, fun a i o e => ⟨(I.oo a i o e).1, (I.oo a i o e).2.1⟩⟩
theorem FI.step {B0 H0 B H B' H' : Hp} {O : Ow} (I : FI B0 H0 B O H) (s : Step B H B' H') : FI B0 H0 B' O H' where
  bb := I.bb.trans s.bb
  bh := s.bh
  hh := I.hh.trans s.hh
  oo := fun a i o e => let ⟨h1, h2, h3⟩ := I.oo a i o e; ⟨s.hh a o h1, s.nw a h2 (by rw [h1]; exact fun z => by cases z), h3⟩
  nw := fun a h1 h2 => s.nw a (I.nw a h1 h2) fun z => h2 (none_back I.hh z)
end

/-! ### weakest wishes -/
def wpE (X : Cx) (e : Expr) : TE := fun σ H Q => ∃ t, PE X e t ∧ t σ H Q
theorem pe_wp (X : Cx) (e : Expr) : PE X e (wpE X e) := ⟨fun pins s σ H Q I ⟨_, h, q⟩ => h.run pins s σ H Q I q⟩
def wpT (X : Cx) (e : Expr) : TT := fun σ H Q => ∃ t, PT X e t ∧ t σ H Q
theorem pt_wp (X : Cx) (e : Expr) : PT X e (wpT X e) := ⟨fun pins s σ H Q I ⟨_, h, q⟩ => h.run pins s σ H Q I q⟩
def wpW (X : Cx) (e : Expr) : TT := fun σ H Q => ∃ t, PW X e t ∧ t σ H Q
theorem pw_wp (X : Cx) (e : Expr) : PW X e (wpW X e) := ⟨fun wh pins s σ H Q I ⟨_, h, q⟩ => h.run wh pins s σ H Q I q⟩
def wpA (X : Cx) (es : List Expr) : TA := fun σ H Q => ∃ t, PA X es t ∧ t σ H Q
theorem pa_wp (X : Cx) (es : List Expr) : PA X es (wpA X es) := ⟨fun pos pins s σ H Q I ⟨_, h, q⟩ => h.run pos pins s σ H Q I q⟩
def wpO (X : Cx) (e : Option Expr) : TO := fun σ H Q => ∃ t, PO X e t ∧ t σ H Q
def wpS (X : Cx) (st : Stmt) : TS := fun D σ H => ∃ t, PS X st t ∧ t D σ H
theorem ps_wp (X : Cx) (st : Stmt) : PS X st (wpS X st) := ⟨fun pins s σ H D I ⟨_, h, q⟩ => h.run pins s σ H D I q⟩
def wpSs (X : Cx) (st : List Stmt) : TS := fun D σ H => ∃ t, PSs X st t ∧ t D σ H
theorem pss_wp (X : Cx) (st : List Stmt) : PSs X st (wpSs X st) := ⟨fun pins s σ H D I ⟨_, h, q⟩ => h.run pins s σ H D I q⟩

/-! ### what an expression evaluates to -/
def EV (X : Cx) {E α : Type} (Γ : List (SK E)) (e : Expr) (T : Ty α) (f : E → Option α) : Prop :=
  ∀ (ρ : E) (σ : L2.St) (B : Hp) (O : Ow) (H : Hp), SA X.K B O ρ Γ σ → EI B O H → ∀ a, f ρ = some a → ∀ Q : VK, (∀ v B' H', Step B H B' H' → T.rep X.K B' v a → Q v H') → wpE X e σ H Q
/-- a new object of one's own -/
def EVO (X : Cx) {E α : Type} (Γ : List (SK E)) (e : Expr) (T : OTy α) (f : E → Option α) : Prop :=
  ∀ (ρ : E) (σ : L2.St) (B : Hp) (O : Ow) (H : Hp), SA X.K B O ρ Γ σ → EI B O H → ∀ a, f ρ = some a → ∀ Q : VK, (∀ p o B' H', Step B H B' H' → H p = none → B' p = none → H' p = some o → T.rep X.K B' o a → Q (.ref p) H') → wpE X e σ H Q
/-- a test -/
def EVT (X : Cx) {E : Type} (Γ : List (SK E)) (e : Expr) (f : E → Option Bool) : Prop :=
  ∀ (ρ : E) (σ : L2.St) (B : Hp) (O : Ow) (H : Hp), SA X.K B O ρ Γ σ → EI B O H → ∀ a, f ρ = some a → ∀ Q : Bool → Hp → Prop, (∀ B' H', Step B H B' H' → Q a H') → wpT X e σ H Q
def EVW (X : Cx) {E : Type} (Γ : List (SK E)) (e : Expr) (f : E → Option Bool) : Prop :=
  ∀ (ρ : E) (σ : L2.St) (B : Hp) (O : Ow) (H : Hp), SA X.K B O ρ Γ σ → EI B O H → ∀ a, f ρ = some a → ∀ Q : Bool → Hp → Prop, (∀ B' H', Step B H B' H' → Q a H') → wpW X e σ H Q
/-- several arguments -/
structure TyA (α : Type) where
  rep : Fg → Hp → List V → α → Prop
  mono : ∀ {K : Fg} {H H' : Hp} {v : List V} {a : α}, Ex H H' → rep K H v a → rep K H' v a
def aNil : TyA Unit := ⟨fun _ _ vs _ => vs = [], fun _ h => h⟩
def aCons {α β : Type} (T : Ty α) (A : TyA β) : TyA (α × β) :=
  ⟨fun K H vs a => ∃ v r, vs = v :: r ∧ T.rep K H v a.1 ∧ A.rep K H r a.2, fun e ⟨v, r, h1, h2, h3⟩ => ⟨v, r, h1, T.mono e h2, A.mono e h3⟩⟩
def EVA (X : Cx) {E α : Type} (Γ : List (SK E)) (es : List Expr) (T : TyA α) (f : E → Option α) : Prop :=
  ∀ (ρ : E) (σ : L2.St) (B : Hp) (O : Ow) (H : Hp), SA X.K B O ρ Γ σ → EI B O H → ∀ a, f ρ = some a → ∀ Q : List V → Hp → Prop, (∀ vs B' H', Step B H B' H' → T.rep X.K B' vs a → Q vs H') → wpA X es σ H Q

section
variable {X : Cx} {E α β γ δ : Type} {Γ : List (SK E)} {T : Ty α} {U : Ty β} {W : Ty γ} {e a b : Expr} {pos : Pos}

/-- the mirrors of two parts in a row -/
def bind2 {E α β γ : Type} (f : E → Option α) (g : E → Option β) (m : α → β → Option γ) : E → Option γ := fun ρ => (f ρ).bind fun x => (g ρ).bind fun y => m x y
def bind1 {E α γ : Type} (f : E → Option α) (m : α → Option γ) : E → Option γ := fun ρ => (f ρ).bind m

theorem EV.run2 {f : E → Option α} {g : E → Option β} {m : α → β → Option γ} (ha : EV X Γ a T f) (hb : EV X Γ b U g) {ρ : E} {σ : L2.St} {B : Hp} {O : Ow} {H : Hp} (S : SA X.K B O ρ Γ σ) (I : EI B O H) {c : γ} (hc : bind2 f g m ρ = some c)
    {Q : V → V → Hp → Prop} (h : ∀ x y u v B' H', Step B H B' H' → T.rep X.K B' u x → U.rep X.K B' v y → m x y = some c → Q u v H') : wpE X a σ H fun u H1 => wpE X b σ H1 fun v H2 => Q u v H2 := by
  unfold bind2 at hc
  cases hf : f ρ with
  | none => rw [hf] at hc; cases hc
  | some x =>
    rw [hf] at hc
    cases hg : g ρ with
    | none => rw [hg] at hc; cases hc
    | some y =>
      rw [hg] at hc
      refine ha ρ σ B O H S I x hf _ fun u B1 H1 s1 r1 => ?_
      exact hb ρ σ B1 O H1 (S.mono s1.bb) (I.step s1) y hg _ fun v B2 H2 s2 r2 => h x y u v B2 H2 (s1.trans s2) (T.mono s2.bb r1) r2 hc
theorem EV.run1 {f : E → Option α} {m : α → Option γ} (ha : EV X Γ a T f) {ρ : E} {σ : L2.St} {B : Hp} {O : Ow} {H : Hp} (S : SA X.K B O ρ Γ σ) (I : EI B O H) {c : γ} (hc : bind1 f m ρ = some c)
    {Q : V → Hp → Prop} (h : ∀ x u B' H', Step B H B' H' → T.rep X.K B' u x → m x = some c → Q u H') : wpE X a σ H Q := by
  unfold bind1 at hc
  cases hf : f ρ with
  | none => rw [hf] at hc; cases hc
  | some x =>
    rw [hf] at hc
    exact ha ρ σ B O H S I x hf _ fun u B1 H1 s1 r1 => h x u B1 H1 s1 r1 hc

/-! names, constants -/
theorem ev_var {i : Nat} {x : Str} {g : E → α} (hk : Γ[i]? = some (.dat T g)) (hN : X.N[i]? = some x := by rfl) (hv : Vis X.env.scope x := by first | exact Or.inl rfl | exact Or.inr (Or.inl rfl) | exact Or.inr (Or.inr rfl))
    (hd : (x == ("__debug__" : Str)) = false := by decide) (hcd : (x == ("__classdict__" : Str)) = false := by decide) : EV X Γ (.Name x pos) T (fun ρ => some (g ρ)) := by
  intro ρ σ B O H S I a ha Q q
  cases ha
  obtain ⟨x', h1, v, h2, h3⟩ := S.at' i _ hk
  subst h2
  exact ⟨_, pe_var hN hv hd hcd, v, h1, q v B H (Step.refl I.bh) h3⟩
theorem ev_int {i : Int} {j} : EV X Γ (.Constant (.int i) j pos) tInt (fun _ => some i) := fun ρ σ B O H S I a ha Q q => by
  cases ha
  exact ⟨_, pe_int, q _ B H (Step.refl I.bh) rfl⟩
theorem ev_bl {i : Bool} {j} : EV X Γ (.Constant (.bool i) j pos) tBool (fun _ => some i) := fun ρ σ B O H S I a ha Q q => by
  cases ha
  exact ⟨_, pe_bl, q _ B H (Step.refl I.bh) rfl⟩
theorem ev_str {x : String} {j} : EV X Γ (.Constant (.str (Str.ofString x)) j pos) tStr (fun _ => some (lit x)) := fun ρ σ B O H S I a ha Q q => by
  cases ha
  exact ⟨_, pe_str, q _ B H (Step.refl I.bh) ⟨by rw [← lit_tl], lit_ok x⟩⟩
theorem ev_none {j} : EV X Γ (.Constant .none j pos) tNone (fun _ => some ()) := fun ρ σ B O H S I a ha Q q => by
  cases ha
  exact ⟨_, pe_non, q _ B H (Step.refl I.bh) rfl⟩
/-- a module's constant -/
theorem ev_glob {x : Str} {u : Value} {i : Int} (hg : Gl X x) (hm : X.mg x = some u) (r : RelV (.int i) u) (hd : (x == ("__debug__" : Str)) = false := by decide) : EV X Γ (.Name x pos) tInt (fun _ => some i) := fun ρ σ B O H S I a ha Q q => by
  cases ha
  exact ⟨_, pe_glob hg hm r hd, q _ B H (Step.refl I.bh) rfl⟩

/-! operators -/
/-- a rule of two values, read on data -/
def R2M (X : Cx) (r : R2) (T : Ty α) (U : Ty β) (W : Ty γ) (m : α → β → Option γ) : Prop :=
  ∀ (B : Hp) (H : Hp) (u v : V) (x : α) (y : β) (z : γ), Ex B H → T.rep X.K B u x → U.rep X.K B v y → m x y = some z → ∀ Q : VK, (∀ w B' H', Step B H B' H' → W.rep X.K B' w z → Q w H') → r u v H Q
theorem ev_op {op : Operator} {r : R2} {f : E → Option α} {g : E → Option β} {m : α → β → Option γ} (ho : OpR X (binaryOp op) r) (hr : R2M X r T U W m) (ha : EV X Γ a T f) (hb : EV X Γ b U g) : EV X Γ (.BinOp a op b pos) W (bind2 f g m) := by
  intro ρ σ B O H S I c hc Q q
  exact ⟨_, pe_op ho (pe_wp X a) (pe_wp X b), ha.run2 hb S I hc fun x y u v B1 H1 s1 r1 r2 hm => hr B1 H1 u v x y c s1.bh r1 r2 hm Q fun w B2 H2 s2 r3 => q w B2 H2 (s1.trans s2) r3⟩
theorem ev_cmp {op : CmpOp} {r : R2} {f : E → Option α} {g : E → Option β} {m : α → β → Option γ} (ho : OpR X (compareOp op) r) (hr : R2M X r T U W m) (ha : EV X Γ a T f) (hb : EV X Γ b U g) (hm : behindInMarks op b = false := by first | exact nomark _ | rfl) : EV X Γ (.Compare a [op] [b] pos) W (bind2 f g m) := by
  intro ρ σ B O H S I c hc Q q
  exact ⟨_, pe_cmpR ho (pe_wp X a) (pe_wp X b) hm, ha.run2 hb S I hc fun x y u v B1 H1 s1 r1 r2 hm => hr B1 H1 u v x y c s1.bh r1 r2 hm Q fun w B2 H2 s2 r3 => q w B2 H2 (s1.trans s2) r3⟩
theorem et_cmp {op : CmpOp} {r : R2} {f : E → Option α} {g : E → Option β} {m : α → β → Option Bool} (ho : OpR X (compareOp op) r) (hr : R2M X r T U tBool m) (ha : EV X Γ a T f) (hb : EV X Γ b U g) (hm : behindInMarks op b = false := by first | exact nomark _ | rfl) : EVT X Γ (.Compare a [op] [b] pos) (bind2 f g m) := by
  intro ρ σ B O H S I c hc Q q
  exact ⟨_, pt_cmpR ho (pe_wp X a) (pe_wp X b) hm, ha.run2 hb S I hc fun x y u v B1 H1 s1 r1 r2 hm => hr B1 H1 u v x y c s1.bh r1 r2 hm _ fun w B2 H2 s2 r3 => ⟨c, r3, q B2 H2 (s1.trans s2)⟩⟩
/-- an expression that is True or False, as a test -/
theorem et_val {f : E → Option Bool} (h : EV X Γ e tBool f) (he : ∀ whole, isTrue e X.env whole = (do let v ← whole; standAt e.pos; holding [v] (truthy v)) := by intro _; rfl) : EVT X Γ e f := fun ρ σ B O H S I c hc Q q =>
  ⟨_, pt_val (pe_wp X e) he, h ρ σ B O H S I c hc _ fun v B1 H1 s1 r1 => ⟨c, r1, q B1 H1 s1⟩⟩
theorem et_w {f : E → Option Bool} (h : EVW X Γ e f) : EVT X Γ e f := fun ρ σ B O H S I c hc Q q => ⟨_, PW.pt (pw_wp X e), h ρ σ B O H S I c hc Q q⟩
def andM {E : Type} (f g : E → Option Bool) : E → Option Bool := fun ρ => (f ρ).bind fun x => if x = true then g ρ else some false
def orM {E : Type} (f g : E → Option Bool) : E → Option Bool := fun ρ => (f ρ).bind fun x => if x = true then some true else g ρ
def notM {E : Type} (f : E → Option Bool) : E → Option Bool := fun ρ => (f ρ).map fun x => !x
theorem ew_and1 {f : E → Option Bool} (h : EVT X Γ a f) : EVW X Γ (.BoolOp .And [a] pos) f := fun ρ σ B O H S I c hc Q q => ⟨_, pw_and1 (pt_wp X a), h ρ σ B O H S I c hc Q q⟩
theorem ew_or1 {f : E → Option Bool} (h : EVT X Γ a f) : EVW X Γ (.BoolOp .Or [a] pos) f := fun ρ σ B O H S I c hc Q q => ⟨_, pw_or1 (pt_wp X a), h ρ σ B O H S I c hc Q q⟩
theorem ew_and {f g : E → Option Bool} {rest : List Expr} (h : EVT X Γ a f) (h2 : EVW X Γ (.BoolOp .And (b :: rest) pos) g) : EVW X Γ (.BoolOp .And (a :: b :: rest) pos) (andM f g) := by
  intro ρ σ B O H S I c hc Q q
  refine ⟨_, pw_and (pt_wp X a) (pw_wp X _), ?_⟩
  unfold andM at hc
  cases hf : f ρ with
  | none => rw [hf] at hc; cases hc
  | some x =>
    rw [hf] at hc
    refine h ρ σ B O H S I x hf _ fun B1 H1 s1 => ?_
    cases x with
    | true => exact h2 ρ σ B1 O H1 (S.mono s1.bb) (I.step s1) c hc Q fun B2 H2 s2 => q B2 H2 (s1.trans s2)
    | false => cases hc; exact q B1 H1 s1
theorem ew_or {f g : E → Option Bool} {rest : List Expr} (h : EVT X Γ a f) (h2 : EVW X Γ (.BoolOp .Or (b :: rest) pos) g) : EVW X Γ (.BoolOp .Or (a :: b :: rest) pos) (orM f g) := by
  intro ρ σ B O H S I c hc Q q
  refine ⟨_, pw_or (pt_wp X a) (pw_wp X _), ?_⟩
  unfold orM at hc
  cases hf : f ρ with
  | none => rw [hf] at hc; cases hc
  | some x =>
    rw [hf] at hc
    refine h ρ σ B O H S I x hf _ fun B1 H1 s1 => ?_
    cases x with
    | false => exact h2 ρ σ B1 O H1 (S.mono s1.bb) (I.step s1) c hc Q fun B2 H2 s2 => q B2 H2 (s1.trans s2)
    | true => cases hc; exact q B1 H1 s1
theorem et_not {f : E → Option Bool} (h : EVT X Γ a f) : EVT X Γ (.UnaryOp .Not a pos) (notM f) := by
  intro ρ σ B O H S I c hc Q q
  refine ⟨_, pt_not (pt_wp X a), ?_⟩
  unfold notM at hc
  cases hf : f ρ with
  | none => rw [hf] at hc; cases hc
  | some x =>
    rw [hf] at hc
    cases hc
    exact h ρ σ B O H S I x hf _ fun B1 H1 s1 => q B1 H1 s1
/-- and, or, not as values -/
theorem ev_one {op} {T : Ty α} {f : E → Option α} (h : EV X Γ a T f) : EV X Γ (.BoolOp op [a] pos) T f := fun ρ σ B O H S I c hc Q q => ⟨_, pe_one (pe_wp X a), h ρ σ B O H S I c hc Q q⟩
theorem ev_and {f g : E → Option Bool} {rest : List Expr} (h : EV X Γ a tBool f) (h2 : EV X Γ (.BoolOp .And (b :: rest) pos) tBool g) : EV X Γ (.BoolOp .And (a :: b :: rest) pos) tBool (andM f g) := by
  intro ρ σ B O H S I c hc Q q
  refine ⟨_, pe_and (pe_wp X a) (pe_wp X _), ?_⟩
  unfold andM at hc
  cases hf : f ρ with
  | none => rw [hf] at hc; cases hc
  | some x =>
    rw [hf] at hc
    refine h ρ σ B O H S I x hf _ fun v B1 H1 s1 r1 => ⟨x, r1, ?_⟩
    cases x with
    | true => exact h2 ρ σ B1 O H1 (S.mono s1.bb) (I.step s1) c hc Q fun v B2 H2 s2 r2 => q v B2 H2 (s1.trans s2) r2
    | false => cases hc; exact q _ B1 H1 s1 rfl
theorem ev_or {f g : E → Option Bool} {rest : List Expr} (h : EV X Γ a tBool f) (h2 : EV X Γ (.BoolOp .Or (b :: rest) pos) tBool g) : EV X Γ (.BoolOp .Or (a :: b :: rest) pos) tBool (orM f g) := by
  intro ρ σ B O H S I c hc Q q
  refine ⟨_, pe_or (pe_wp X a) (pe_wp X _), ?_⟩
  unfold orM at hc
  cases hf : f ρ with
  | none => rw [hf] at hc; cases hc
  | some x =>
    rw [hf] at hc
    refine h ρ σ B O H S I x hf _ fun v B1 H1 s1 r1 => ⟨x, r1, ?_⟩
    cases x with
    | false => exact h2 ρ σ B1 O H1 (S.mono s1.bb) (I.step s1) c hc Q fun v B2 H2 s2 r2 => q v B2 H2 (s1.trans s2) r2
    | true => cases hc; exact q _ B1 H1 s1 rfl
theorem ev_not {f : E → Option Bool} (h : EV X Γ a tBool f) : EV X Γ (.UnaryOp .Not a pos) tBool (notM f) := by
  intro ρ σ B O H S I c hc Q q
  refine ⟨_, pe_not (pe_wp X a), ?_⟩
  unfold notM at hc
  cases hf : f ρ with
  | none => rw [hf] at hc; cases hc
  | some x =>
    rw [hf] at hc
    cases hc
    exact h ρ σ B O H S I x hf _ fun v B1 H1 s1 r1 => ⟨x, r1, q _ B1 H1 s1 rfl⟩
def ifM {E α : Type} (c : E → Option Bool) (f g : E → Option α) : E → Option α := fun ρ => (c ρ).bind fun x => if x = true then f ρ else g ρ
theorem ev_if {c : Expr} {t : E → Option Bool} {f g : E → Option α} (hc : EVT X Γ c t) (ha : EV X Γ a T f) (hb : EV X Γ b T g) : EV X Γ (.IfExp c a b pos) T (ifM t f g) := by
  intro ρ σ B O H S I z hz Q q
  refine ⟨_, pe_ifExp (pt_wp X c) (pe_wp X a) (pe_wp X b), ?_⟩
  unfold ifM at hz
  cases hf : t ρ with
  | none => rw [hf] at hz; cases hz
  | some x =>
    rw [hf] at hz
    refine hc ρ σ B O H S I x hf _ fun B1 H1 s1 => ?_
    cases x with
    | true => exact ha ρ σ B1 O H1 (S.mono s1.bb) (I.step s1) z hz Q fun v B2 H2 s2 r2 => q v B2 H2 (s1.trans s2) r2
    | false => exact hb ρ σ B1 O H1 (S.mono s1.bb) (I.step s1) z hz Q fun v B2 H2 s2 r2 => q v B2 H2 (s1.trans s2) r2

/-! arguments -/
theorem ea_nil : EVA X Γ [] aNil (fun _ => some ()) := fun ρ σ B O H S I a ha Q q => by
  cases ha
  exact ⟨_, pa_nil, q [] B H (Step.refl I.bh) rfl⟩
theorem ea_cons {es : List Expr} {A : TyA β} {f : E → Option α} {g : E → Option β} (ha : EV X Γ a T f) (hr : EVA X Γ es A g) (hs : starEach (a :: es) X.env = (false, eval a X.env) :: starEach es X.env := by rfl) : EVA X Γ (a :: es) (aCons T A) (bind2 f g fun x y => some (x, y)) := by
  intro ρ σ B O H S I c hc Q q
  refine ⟨_, pa_cons (pe_wp X a) (pa_wp X es) hs, ?_⟩
  unfold bind2 at hc
  cases hf : f ρ with
  | none => rw [hf] at hc; cases hc
  | some x =>
    rw [hf] at hc
    cases hg : g ρ with
    | none => rw [hg] at hc; cases hc
    | some y =>
      rw [hg] at hc
      cases hc
      refine ha ρ σ B O H S I x hf _ fun u B1 H1 s1 r1 => ?_
      exact hr ρ σ B1 O H1 (S.mono s1.bb) (I.step s1) y hg _ fun vs B2 H2 s2 r2 => q _ B2 H2 (s1.trans s2) ⟨u, vs, rfl, T.mono s2.bb r1, r2⟩
/-- a rule of values, read on data -/
def RAM (X : Cx) (r : List V → Hp → VK → Prop) (A : TyA α) (W : Ty γ) (m : α → Option γ) : Prop :=
  ∀ (B : Hp) (H : Hp) (vs : List V) (x : α) (z : γ), Ex B H → A.rep X.K B vs x → m x = some z → ∀ Q : VK, (∀ w B' H', Step B H B' H' → W.rep X.K B' w z → Q w H') → r vs H Q
theorem EVA.run1 {es : List Expr} {A : TyA α} {f : E → Option α} {m : α → Option γ} (ha : EVA X Γ es A f) {ρ : E} {σ : L2.St} {B : Hp} {O : Ow} {H : Hp} (S : SA X.K B O ρ Γ σ) (I : EI B O H) {c : γ} (hc : bind1 f m ρ = some c)
    {Q : List V → Hp → Prop} (h : ∀ x u B' H', Step B H B' H' → A.rep X.K B' u x → m x = some c → Q u H') : wpA X es σ H Q := by
  unfold bind1 at hc
  cases hf : f ρ with
  | none => rw [hf] at hc; cases hc
  | some x =>
    rw [hf] at hc
    exact ha ρ σ B O H S I x hf _ fun u B1 H1 s1 r1 => h x u B1 H1 s1 r1 hc
theorem ev_callB {id : String} {x : Str} {r : List V → Hp → VK → Prop} {es : List Expr} {A : TyA α} {f : E → Option α} {m : α → Option γ} {p : Pos} (hc : CallR X (.builtin id) r) (hr : RAM X r A W m) (hm : X.mg x = none) (hv : bootBuiltins x = some (.builtin id)) (ha : EVA X Γ (e :: es) A f)
    (hg : Gl X x := by rfl) (hn : x ≠ "__name__" := by decide) (hdb : (x == ("__debug__" : Str)) = false := by decide)
    (hs : starEach (e :: es) X.env = (false, eval e X.env) :: starEach es X.env := by rfl) (hpl : (backTo pos (starEach es X.env)).any (·.1) = false := by rfl) : EV X Γ (.Call (.Name x p) (e :: es) [] pos) W (bind1 f m) := by
  intro ρ σ B O H S I c hcc Q q
  exact ⟨_, pe_callB hc hg hm hv (pa_wp X _) hn hdb hs hpl, ha.run1 S I hcc fun x u B1 H1 s1 r1 hm => hr B1 H1 u x c s1.bh r1 hm Q fun w B2 H2 s2 r2 => q w B2 H2 (s1.trans s2) r2⟩
theorem ev_callTy {id : String} {x : Str} {r : List V → Hp → VK → Prop} {es : List Expr} {A : TyA α} {f : E → Option α} {m : α → Option γ} {p : Pos} (hc : CallR X (.type id) r) (hr : RAM X r A W m) (hm : X.mg x = none) (hv : bootBuiltins x = some (.type id)) (ha : EVA X Γ (e :: es) A f)
    (hg : Gl X x := by rfl) (hn : x ≠ "__name__" := by decide) (hdb : (x == ("__debug__" : Str)) = false := by decide)
    (hs : starEach (e :: es) X.env = (false, eval e X.env) :: starEach es X.env := by rfl) (hpl : (backTo pos (starEach es X.env)).any (·.1) = false := by rfl) : EV X Γ (.Call (.Name x p) (e :: es) [] pos) W (bind1 f m) := by
  intro ρ σ B O H S I c hcc Q q
  exact ⟨_, pe_callTy hc hg hm hv (pa_wp X _) hn hdb hs hpl, ha.run1 S I hcc fun x u B1 H1 s1 r1 hm => hr B1 H1 u x c s1.bh r1 hm Q fun w B2 H2 s2 r2 => q w B2 H2 (s1.trans s2) r2⟩
end
end ML

/-! the mirror layer: effects, statements, loops -/
namespace ML
open PySem PySem.Spec PyProof.Rows L2

/-! ### a step that may write one's own objects -/
structure StO (B : Hp) (O : Ow) (H : Hp) (B' : Hp) (O' : Ow) (H' : Hp) : Prop where
  bb : Ex B B'
  bh : Ex B' H'
  hh : ∀ a o, H a = some o → O a = none → H' a = some o
  nw : ∀ a, B a = none → H a ≠ none → B' a = none
  ow : ∀ a i o, O' a = some (i, o) → H' a = some o ∧ ∃ o0, O a = some (i, o0)
  th : ∀ a, H a ≠ none → H' a ≠ none
theorem StO.of {B H B' H' : Hp} {O : Ow} (I : EI B O H) (s : Step B H B' H') : StO B O H B' O H' :=
  ⟨s.bb, s.bh, fun a o h _ => s.hh a o h, s.nw, fun a i o e => ⟨s.hh a o (I.oo a i o e).1, o, e⟩, fun a h z => h (none_back s.hh z)⟩
theorem StO.refl {B H : Hp} {O : Ow} (I : EI B O H) : StO B O H B O H := .of I (.refl I.bh)
theorem StO.trans {B H B1 H1 B2 H2 : Hp} {O O1 O2 : Ow} (a : StO B O H B1 O1 H1) (b : StO B1 O1 H1 B2 O2 H2) : StO B O H B2 O2 H2 where
  bb := a.bb.trans b.bb
  bh := b.bh
  hh := fun x o h n => b.hh x o (a.hh x o h n) (by
    cases q : O1 x with
    | none => rfl
    | some p => obtain ⟨_, o0, z⟩ := a.ow x p.1 p.2 q; rw [n] at z; cases z)
  nw := fun x h1 h2 => b.nw x (a.nw x h1 h2) (a.th x h2)
  ow := fun x i o e => by
    obtain ⟨h1, o1, e1⟩ := b.ow x i o e
    obtain ⟨_, o0, e0⟩ := a.ow x i o1 e1
    exact ⟨h1, o0, e0⟩
  th := fun x h => b.th x (a.th x h)
theorem EI.stO {B H B' H' : Hp} {O O' : Ow} (I : EI B O H) (s : StO B O H B' O' H') : EI B' O' H' :=
  ⟨s.bh, fun a i o e => by
    obtain ⟨h1, o0, e0⟩ := s.ow a i o e
    obtain ⟨h2, h3⟩ := I.oo a i o0 e0
    exact ⟨h1, s.nw a h3 (by rw [h2]; exact fun z => by cases z)⟩⟩
theorem FI.stO {B0 H0 B H B' H' : Hp} {O O' : Ow} (I : FI B0 H0 B O H) (s : StO B O H B' O' H') : FI B0 H0 B' O' H' where
  bb := I.bb.trans s.bb
  bh := s.bh
  hh := fun a o h => s.hh a o (I.hh a o h) (by
    cases q : O a with
    | none => rfl
    | some p => obtain ⟨_, _, z⟩ := I.oo a p.1 p.2 q; rw [h] at z; cases z)
  oo := fun a i o e => by
    obtain ⟨h1, o0, e0⟩ := s.ow a i o e
    obtain ⟨h2, h3, h4⟩ := I.oo a i o0 e0
    exact ⟨h1, s.nw a h3 (by rw [h2]; exact fun z => by cases z), h4⟩
  nw := fun a h1 h2 => s.nw a (I.nw a h1 h2) (fun z => h2 (none_back I.hh z))

def owPut (O : Ow) (p : Addr) (i : Nat) (o : HO) : Ow := fun a => if a = p then some (i, o) else O a
theorem owPut_same {O : Ow} {p : Addr} {i : Nat} {o : HO} : owPut O p i o p = some (i, o) := if_pos rfl
theorem owPut_ne {O : Ow} {p a : Addr} {i : Nat} {o : HO} (h : a ≠ p) : owPut O p i o a = O a := if_neg h
/-- one's own object is written -/
theorem StO.write {B H : Hp} {O : Ow} {p : Addr} {i : Nat} {o o' : HO} (I : EI B O H) (e : O p = some (i, o)) : StO B O H B (owPut O p i o') (upd H p o') where
  bb := Ex.refl _
  bh := fun a u q => by
    have : a ≠ p := fun z => by subst z; rw [(I.oo a i o e).2] at q; cases q
    rw [upd_ne this]; exact I.bh a u q
  hh := fun a u q n => by
    have : a ≠ p := fun z => by subst z; rw [e] at n; cases n
    rw [upd_ne this]; exact q
  nw := fun _ h _ => h
  ow := fun a j u q => by
    by_cases z : a = p
    · subst z
      rw [owPut_same] at q
      cases q
      exact ⟨upd_same, o, e⟩
    · rw [owPut_ne z] at q
      exact ⟨by rw [upd_ne z]; exact (I.oo a j u q).1, u, q⟩
  th := fun a h => by
    by_cases z : a = p
    · subst z; rw [upd_same]; exact fun z => by cases z
    · rw [upd_ne z]; exact h

/-! ### expressions with effects -/
section
variable {E : Type}
def EM (X : Cx) {E α : Type} (Γ : List (SK E)) (e : Expr) (T : Ty α) (f : E → Option (α × E)) : Prop :=
  ∀ (ρ : E) (σ : L2.St) (B : Hp) (O : Ow) (H : Hp), SA X.K B O ρ Γ σ → EI B O H → ∀ a ρ', f ρ = some (a, ρ') → ∀ Q : VK, (∀ v B' O' H', StO B O H B' O' H' → SA X.K B' O' ρ' Γ σ → T.rep X.K B' v a → Q v H') → wpE X e σ H Q
/-- by the way it is put: P e's own terms -/
def EMO (P : TE → Prop) (X : Cx) {E α : Type} (Γ : List (SK E)) (T : OTy α) (f : E → Option (α × E)) : Prop :=
  ∀ (ρ : E) (σ : L2.St) (B : Hp) (O : Ow) (H : Hp), SA X.K B O ρ Γ σ → EI B O H → ∀ a ρ', f ρ = some (a, ρ') → ∀ Q : VK, (∀ p o B' O' H', StO B O H B' O' H' → SA X.K B' O' ρ' Γ σ → H p = none → B' p = none → O' p = none → H' p = some o → T.rep X.K B' o a → Q (.ref p) H') → ∃ t, P t ∧ t σ H Q
def EMT (X : Cx) {E : Type} (Γ : List (SK E)) (e : Expr) (f : E → Option (Bool × E)) : Prop :=
  ∀ (ρ : E) (σ : L2.St) (B : Hp) (O : Ow) (H : Hp), SA X.K B O ρ Γ σ → EI B O H → ∀ a ρ', f ρ = some (a, ρ') → ∀ Q : Bool → Hp → Prop, (∀ B' O' H', StO B O H B' O' H' → SA X.K B' O' ρ' Γ σ → Q a H') → wpT X e σ H Q
def EMW (X : Cx) {E : Type} (Γ : List (SK E)) (e : Expr) (f : E → Option (Bool × E)) : Prop :=
  ∀ (ρ : E) (σ : L2.St) (B : Hp) (O : Ow) (H : Hp), SA X.K B O ρ Γ σ → EI B O H → ∀ a ρ', f ρ = some (a, ρ') → ∀ Q : Bool → Hp → Prop, (∀ B' O' H', StO B O H B' O' H' → SA X.K B' O' ρ' Γ σ → Q a H') → wpW X e σ H Q
def EMA (X : Cx) {E α : Type} (Γ : List (SK E)) (es : List Expr) (T : TyA α) (f : E → Option (α × E)) : Prop :=
  ∀ (ρ : E) (σ : L2.St) (B : Hp) (O : Ow) (H : Hp), SA X.K B O ρ Γ σ → EI B O H → ∀ a ρ', f ρ = some (a, ρ') → ∀ Q : List V → Hp → Prop, (∀ vs B' O' H', StO B O H B' O' H' → SA X.K B' O' ρ' Γ σ → T.rep X.K B' vs a → Q vs H') → wpA X es σ H Q
/-- a mirror without effect -/
def pu {E α : Type} (f : E → Option α) : E → Option (α × E) := fun ρ => (f ρ).map fun a => (a, ρ)
theorem pu_inv {α : Type} {f : E → Option α} {ρ ρ' : E} {a : α} (h : pu f ρ = some (a, ρ')) : f ρ = some a ∧ ρ' = ρ := by
  unfold pu at h
  cases q : f ρ with
  | none => rw [q] at h; cases h
  | some b => rw [q] at h; cases h; exact ⟨rfl, rfl⟩
/-- two parts in a row, with effects -/
def then2 {E α β γ : Type} (f : E → Option (α × E)) (g : E → Option (β × E)) (m : α → β → Option γ) : E → Option (γ × E) := fun ρ => (f ρ).bind fun x => (g x.2).bind fun y => (m x.1 y.1).map fun z => (z, y.2)
def then1 {E α γ : Type} (f : E → Option (α × E)) (m : α → Option γ) : E → Option (γ × E) := fun ρ => (f ρ).bind fun x => (m x.1).map fun z => (z, x.2)
theorem then1_inv {α γ : Type} {f : E → Option (α × E)} {m : α → Option γ} {ρ ρ' : E} {c : γ} (h : then1 f m ρ = some (c, ρ')) : ∃ x, f ρ = some (x, ρ') ∧ m x = some c := by
  unfold then1 at h
  cases q : f ρ with
  | none => rw [q] at h; cases h
  | some b =>
    rw [q] at h
    cases r : m b.1 with
    | none => simp only [Option.bind, r] at h; cases h
    | some d => simp only [Option.bind, r, Option.map] at h; cases h; exact ⟨b.1, rfl, r⟩
theorem then2_inv {α β γ : Type} {f : E → Option (α × E)} {g : E → Option (β × E)} {m : α → β → Option γ} {ρ ρ' : E} {c : γ} (h : then2 f g m ρ = some (c, ρ')) : ∃ x ρ1 y, f ρ = some (x, ρ1) ∧ g ρ1 = some (y, ρ') ∧ m x y = some c := by
  unfold then2 at h
  cases q : f ρ with
  | none => rw [q] at h; cases h
  | some b =>
    rw [q] at h
    cases r : g b.2 with
    | none => simp only [Option.bind, r] at h; cases h
    | some d =>
      cases z : m b.1 d.1 with
      | none => simp only [Option.bind, r, z] at h; cases h
      | some k => simp only [Option.bind, r, z, Option.map] at h; cases h; exact ⟨b.1, b.2, d.1, rfl, r, z⟩
variable {X : Cx} {α β γ δ : Type} {Γ : List (SK E)} {T : Ty α} {U : Ty β} {W : Ty γ} {e a b : Expr} {pos : Pos}
theorem em_of {f : E → Option α} (h : EV X Γ e T f) : EM X Γ e T (pu f) := fun ρ σ B O H S I a ρ' ha Q q => by
  obtain ⟨h1, rfl⟩ := pu_inv ha
  exact h ρ' σ B O H S I a h1 Q fun v B' H' s r => q v B' O H' (.of I s) (S.mono s.bb) r
theorem emt_of {f : E → Option Bool} (h : EVT X Γ e f) : EMT X Γ e (pu f) := fun ρ σ B O H S I a ρ' ha Q q => by
  obtain ⟨h1, rfl⟩ := pu_inv ha
  exact h ρ' σ B O H S I a h1 Q fun B' H' s => q B' O H' (.of I s) (S.mono s.bb)
theorem ema_of {es : List Expr} {A : TyA α} {f : E → Option α} (h : EVA X Γ es A f) : EMA X Γ es A (pu f) := fun ρ σ B O H S I a ρ' ha Q q => by
  obtain ⟨h1, rfl⟩ := pu_inv ha
  exact h ρ' σ B O H S I a h1 Q fun v B' H' s r => q v B' O H' (.of I s) (S.mono s.bb) r
/-- a fresh object is given away as data -/
theorem ev_list {f : E → Option (List α)} (h : EVO X Γ e (oList T) f) : EV X Γ e (tList T) f := fun ρ σ B O H S I a ha Q q =>
  h ρ σ B O H S I a ha Q fun p o B' H' s hn hb hp ⟨vs, ho, r⟩ => by
    subst ho
    refine q (.ref p) (upd B' p (.lst vs)) H' ⟨s.bb.trans (Ex.new hb), fun a u z => ?_, s.hh, fun a h1 h2 => ?_⟩ ⟨p, vs, rfl, SqL.of upd_same, Paired.imp (fun _ _ => T.mono (Ex.new hb)) r⟩
    · by_cases y : a = p
      · subst y; rw [upd_same] at z; cases z; exact hp
      · rw [upd_ne y] at z; exact s.bh a u z
    · have : a ≠ p := fun z => by subst z; exact h2 hn
      rw [upd_ne this]; exact s.nw a h1 h2
theorem emo_of {f : E → Option α} {T : OTy α} (h : EVO X Γ e T f) : EMO (PE X e) X Γ T (pu f) := fun ρ σ B O H S I a ρ' ha Q q => by
  obtain ⟨h1, rfl⟩ := pu_inv ha
  exact h ρ' σ B O H S I a h1 Q fun p o B' H' s hn hb hp r => q p o B' O H' (.of I s) (S.mono s.bb) hn hb (by
    cases z : O p with
    | none => rfl
    | some y => have := (I.oo p y.1 y.2 z).1; rw [hn] at this; cases this) hp r
theorem em_list {f : E → Option (List α × E)} (h : EMO (PE X e) X Γ (oList T) f) : EM X Γ e (tList T) f := fun ρ σ B O H S I a ρ' ha Q q =>
  h ρ σ B O H S I a ρ' ha Q fun p o B' O' H' s S' hn hb ho' hp ⟨vs, ho, r⟩ => by
    subst ho
    have I' := I.stO s
    refine q (.ref p) (upd B' p (.lst vs)) O' H' ⟨s.bb.trans (Ex.new hb), fun a u z => ?_, s.hh, fun a h1 h2 => ?_, s.ow, s.th⟩ (S'.mono (Ex.new hb)) ⟨p, vs, rfl, SqL.of upd_same, Paired.imp (fun _ _ => T.mono (Ex.new hb)) r⟩
    · by_cases y : a = p
      · subst y; rw [upd_same] at z; cases z; exact hp
      · rw [upd_ne y] at z; exact s.bh a u z
    · have : a ≠ p := fun z => by subst z; exact h2 hn
      rw [upd_ne this]; exact s.nw a h1 h2

theorem EM.run2 {f : E → Option (α × E)} {g : E → Option (β × E)} {m : α → β → Option γ} (ha : EM X Γ a T f) (hb : EM X Γ b U g) {ρ ρ' : E} {σ : L2.St} {B : Hp} {O : Ow} {H : Hp} (S : SA X.K B O ρ Γ σ) (I : EI B O H) {c : γ} (hc : then2 f g m ρ = some (c, ρ'))
    {Q : V → V → Hp → Prop} (h : ∀ x y u v B' O' H', StO B O H B' O' H' → SA X.K B' O' ρ' Γ σ → T.rep X.K B' u x → U.rep X.K B' v y → m x y = some c → Q u v H') : wpE X a σ H fun u H1 => wpE X b σ H1 fun v H2 => Q u v H2 := by
  obtain ⟨x, ρ1, y, h1, h2, h3⟩ := then2_inv hc
  refine ha ρ σ B O H S I x ρ1 h1 _ fun u B1 O1 H1 s1 S1 r1 => ?_
  exact hb ρ1 σ B1 O1 H1 S1 (I.stO s1) y ρ' h2 _ fun v B2 O2 H2 s2 S2 r2 => h x y u v B2 O2 H2 (s1.trans s2) S2 (T.mono s2.bb r1) r2 h3
theorem em_op {op : Operator} {r : R2} {f : E → Option (α × E)} {g : E → Option (β × E)} {m : α → β → Option γ} (ho : OpR X (binaryOp op) r) (hr : R2M X r T U W m) (ha : EM X Γ a T f) (hb : EM X Γ b U g) : EM X Γ (.BinOp a op b pos) W (then2 f g m) := by
  intro ρ σ B O H S I c ρ' hc Q q
  exact ⟨_, pe_op ho (pe_wp X a) (pe_wp X b), ha.run2 hb S I hc fun x y u v B1 O1 H1 s1 S1 r1 r2 hm => hr B1 H1 u v x y c s1.bh r1 r2 hm Q fun w B2 H2 s2 r3 => q w B2 O1 H2 (s1.trans (.of (I.stO s1) s2)) (S1.mono s2.bb) r3⟩
theorem em_cmp {op : CmpOp} {r : R2} {f : E → Option (α × E)} {g : E → Option (β × E)} {m : α → β → Option γ} (ho : OpR X (compareOp op) r) (hr : R2M X r T U W m) (ha : EM X Γ a T f) (hb : EM X Γ b U g) (hm : behindInMarks op b = false := by first | exact nomark _ | rfl) : EM X Γ (.Compare a [op] [b] pos) W (then2 f g m) := by
  intro ρ σ B O H S I c ρ' hc Q q
  exact ⟨_, pe_cmpR ho (pe_wp X a) (pe_wp X b) hm, ha.run2 hb S I hc fun x y u v B1 O1 H1 s1 S1 r1 r2 hm => hr B1 H1 u v x y c s1.bh r1 r2 hm Q fun w B2 H2 s2 r3 => q w B2 O1 H2 (s1.trans (.of (I.stO s1) s2)) (S1.mono s2.bb) r3⟩
theorem emt_cmp {op : CmpOp} {r : R2} {f : E → Option (α × E)} {g : E → Option (β × E)} {m : α → β → Option Bool} (ho : OpR X (compareOp op) r) (hr : R2M X r T U tBool m) (ha : EM X Γ a T f) (hb : EM X Γ b U g) (hm : behindInMarks op b = false := by first | exact nomark _ | rfl) : EMT X Γ (.Compare a [op] [b] pos) (then2 f g m) := by
  intro ρ σ B O H S I c ρ' hc Q q
  exact ⟨_, pt_cmpR ho (pe_wp X a) (pe_wp X b) hm, ha.run2 hb S I hc fun x y u v B1 O1 H1 s1 S1 r1 r2 hm => hr B1 H1 u v x y c s1.bh r1 r2 hm _ fun w B2 H2 s2 r3 => ⟨c, r3, q B2 O1 H2 (s1.trans (.of (I.stO s1) s2)) (S1.mono s2.bb)⟩⟩
theorem emt_val {f : E → Option (Bool × E)} (h : EM X Γ e tBool f) (he : ∀ whole, isTrue e X.env whole = (do let v ← whole; standAt e.pos; holding [v] (truthy v)) := by intro _; rfl) : EMT X Γ e f := fun ρ σ B O H S I c ρ' hc Q q =>
  ⟨_, pt_val (pe_wp X e) he, h ρ σ B O H S I c ρ' hc _ fun v B1 O1 H1 s1 S1 r1 => ⟨c, r1, q B1 O1 H1 s1 S1⟩⟩
theorem emt_w {f : E → Option (Bool × E)} (h : EMW X Γ e f) : EMT X Γ e f := fun ρ σ B O H S I c ρ' hc Q q => ⟨_, PW.pt (pw_wp X e), h ρ σ B O H S I c ρ' hc Q q⟩
def andE {E : Type} (f g : E → Option (Bool × E)) : E → Option (Bool × E) := fun ρ => (f ρ).bind fun x => if x.1 = true then g x.2 else some (false, x.2)
def orE {E : Type} (f g : E → Option (Bool × E)) : E → Option (Bool × E) := fun ρ => (f ρ).bind fun x => if x.1 = true then some (true, x.2) else g x.2
def notE {E : Type} (f : E → Option (Bool × E)) : E → Option (Bool × E) := fun ρ => (f ρ).map fun x => (!x.1, x.2)
theorem emw_and1 {f : E → Option (Bool × E)} (h : EMT X Γ a f) : EMW X Γ (.BoolOp .And [a] pos) f := fun ρ σ B O H S I c ρ' hc Q q => ⟨_, pw_and1 (pt_wp X a), h ρ σ B O H S I c ρ' hc Q q⟩
theorem emw_or1 {f : E → Option (Bool × E)} (h : EMT X Γ a f) : EMW X Γ (.BoolOp .Or [a] pos) f := fun ρ σ B O H S I c ρ' hc Q q => ⟨_, pw_or1 (pt_wp X a), h ρ σ B O H S I c ρ' hc Q q⟩
theorem emw_and {f g : E → Option (Bool × E)} {rest : List Expr} (h : EMT X Γ a f) (h2 : EMW X Γ (.BoolOp .And (b :: rest) pos) g) : EMW X Γ (.BoolOp .And (a :: b :: rest) pos) (andE f g) := by
  intro ρ σ B O H S I c ρ' hc Q q
  refine ⟨_, pw_and (pt_wp X a) (pw_wp X _), ?_⟩
  unfold andE at hc
  cases hf : f ρ with
  | none => rw [hf] at hc; cases hc
  | some x =>
    rw [hf] at hc
    obtain ⟨x, ρ1⟩ := x
    refine h ρ σ B O H S I x ρ1 hf _ fun B1 O1 H1 s1 S1 => ?_
    cases x with
    | true => exact h2 ρ1 σ B1 O1 H1 S1 (I.stO s1) c ρ' hc Q fun B2 O2 H2 s2 S2 => q B2 O2 H2 (s1.trans s2) S2
    | false => cases hc; exact q B1 O1 H1 s1 S1
theorem emw_or {f g : E → Option (Bool × E)} {rest : List Expr} (h : EMT X Γ a f) (h2 : EMW X Γ (.BoolOp .Or (b :: rest) pos) g) : EMW X Γ (.BoolOp .Or (a :: b :: rest) pos) (orE f g) := by
  intro ρ σ B O H S I c ρ' hc Q q
  refine ⟨_, pw_or (pt_wp X a) (pw_wp X _), ?_⟩
  unfold orE at hc
  cases hf : f ρ with
  | none => rw [hf] at hc; cases hc
  | some x =>
    rw [hf] at hc
    obtain ⟨x, ρ1⟩ := x
    refine h ρ σ B O H S I x ρ1 hf _ fun B1 O1 H1 s1 S1 => ?_
    cases x with
    | false => exact h2 ρ1 σ B1 O1 H1 S1 (I.stO s1) c ρ' hc Q fun B2 O2 H2 s2 S2 => q B2 O2 H2 (s1.trans s2) S2
    | true => cases hc; exact q B1 O1 H1 s1 S1
theorem emt_not {f : E → Option (Bool × E)} (h : EMT X Γ a f) : EMT X Γ (.UnaryOp .Not a pos) (notE f) := by
  intro ρ σ B O H S I c ρ' hc Q q
  refine ⟨_, pt_not (pt_wp X a), ?_⟩
  unfold notE at hc
  cases hf : f ρ with
  | none => rw [hf] at hc; cases hc
  | some x =>
    rw [hf] at hc
    cases hc
    exact h ρ σ B O H S I x.1 x.2 hf _ fun B1 O1 H1 s1 S1 => q B1 O1 H1 s1 S1
theorem ema_nil : EMA X Γ [] aNil (fun ρ => some ((), ρ)) := fun ρ σ B O H S I a ρ' ha Q q => by
  cases ha
  exact ⟨_, pa_nil, q [] B O H (.refl I) S rfl⟩
theorem ema_cons {es : List Expr} {A : TyA β} {f : E → Option (α × E)} {g : E → Option (β × E)} (ha : EM X Γ a T f) (hr : EMA X Γ es A g) (hs : starEach (a :: es) X.env = (false, eval a X.env) :: starEach es X.env := by rfl) : EMA X Γ (a :: es) (aCons T A) (then2 f g fun x y => some (x, y)) := by
  intro ρ σ B O H S I c ρ' hc Q q
  refine ⟨_, pa_cons (pe_wp X a) (pa_wp X es) hs, ?_⟩
  obtain ⟨x, ρ1, y, h1, h2, h3⟩ := then2_inv hc
  cases h3
  refine ha ρ σ B O H S I x ρ1 h1 _ fun u B1 O1 H1 s1 S1 r1 => ?_
  exact hr ρ1 σ B1 O1 H1 S1 (I.stO s1) y ρ' h2 _ fun vs B2 O2 H2 s2 S2 r2 => q _ B2 O2 H2 (s1.trans s2) S2 ⟨u, vs, rfl, T.mono s2.bb r1, r2⟩
theorem EMA.run1 {es : List Expr} {A : TyA α} {f : E → Option (α × E)} {m : α → Option γ} (ha : EMA X Γ es A f) {ρ ρ' : E} {σ : L2.St} {B : Hp} {O : Ow} {H : Hp} (S : SA X.K B O ρ Γ σ) (I : EI B O H) {c : γ} (hc : then1 f m ρ = some (c, ρ'))
    {Q : List V → Hp → Prop} (h : ∀ x u B' O' H', StO B O H B' O' H' → SA X.K B' O' ρ' Γ σ → A.rep X.K B' u x → m x = some c → Q u H') : wpA X es σ H Q := by
  obtain ⟨x, h1, h2⟩ := then1_inv hc
  exact ha ρ σ B O H S I x ρ' h1 _ fun u B1 O1 H1 s1 S1 r1 => h x u B1 O1 H1 s1 S1 r1 h2
theorem em_callB {id : String} {x : Str} {r : List V → Hp → VK → Prop} {es : List Expr} {A : TyA α} {f : E → Option (α × E)} {m : α → Option γ} {p : Pos} (hc : CallR X (.builtin id) r) (hr : RAM X r A W m) (hm : X.mg x = none) (hv : bootBuiltins x = some (.builtin id)) (ha : EMA X Γ (e :: es) A f)
    (hg : Gl X x := by rfl) (hn : x ≠ "__name__" := by decide) (hdb : (x == ("__debug__" : Str)) = false := by decide)
    (hs : starEach (e :: es) X.env = (false, eval e X.env) :: starEach es X.env := by rfl) (hpl : (backTo pos (starEach es X.env)).any (·.1) = false := by rfl) : EM X Γ (.Call (.Name x p) (e :: es) [] pos) W (then1 f m) := by
  intro ρ σ B O H S I c ρ' hcc Q q
  exact ⟨_, pe_callB hc hg hm hv (pa_wp X _) hn hdb hs hpl, ha.run1 S I hcc fun x u B1 O1 H1 s1 S1 r1 hm => hr B1 H1 u x c s1.bh r1 hm Q fun w B2 H2 s2 r2 => q w B2 O1 H2 (s1.trans (.of (I.stO s1) s2)) (S1.mono s2.bb) r2⟩
theorem em_callTy {id : String} {x : Str} {r : List V → Hp → VK → Prop} {es : List Expr} {A : TyA α} {f : E → Option (α × E)} {m : α → Option γ} {p : Pos} (hc : CallR X (.type id) r) (hr : RAM X r A W m) (hm : X.mg x = none) (hv : bootBuiltins x = some (.type id)) (ha : EMA X Γ (e :: es) A f)
    (hg : Gl X x := by rfl) (hn : x ≠ "__name__" := by decide) (hdb : (x == ("__debug__" : Str)) = false := by decide)
    (hs : starEach (e :: es) X.env = (false, eval e X.env) :: starEach es X.env := by rfl) (hpl : (backTo pos (starEach es X.env)).any (·.1) = false := by rfl) : EM X Γ (.Call (.Name x p) (e :: es) [] pos) W (then1 f m) := by
  intro ρ σ B O H S I c ρ' hcc Q q
  exact ⟨_, pe_callTy hc hg hm hv (pa_wp X _) hn hdb hs hpl, ha.run1 S I hcc fun x u B1 O1 H1 s1 S1 r1 hm => hr B1 H1 u x c s1.bh r1 hm Q fun w B2 H2 s2 r2 => q w B2 O1 H2 (s1.trans (.of (I.stO s1) s2)) (S1.mono s2.bb) r2⟩
end

/-! ### statements -/
/-- what an exception holds -/
inductive XF where | i (n : Int) | s (x : List Nat) | n
structure Xd where
  cls : Str
  fs : List (Str × XF)
inductive Fl (E R : Type) where
  | nx (ρ : E) | bk (ρ : E) | ct (ρ : E) | rt (r : R) (ρ : E) | ex (x : Xd) (ρ : E)
structure Rt (R : Type) where
  ok : Fg → Hp → Ow → V → R → Prop
def rtD {R : Type} (T : Ty R) : Rt R := ⟨fun K B _ v r => T.rep K B v r⟩
/-- an own object is handed out -/
def rtO {R : Type} (T : OTy R) : Rt R := ⟨fun K B O v r => ∃ p i o, v = .ref p ∧ O p = some (i + 1, o) ∧ T.rep K B o r⟩
/-- an object that was lent (slot 0) -/
structure Lent (E : Type) where
  p : Addr
  α : Type
  T : OTy α
  g : E → α
def LA (K : Fg) (B : Hp) (O : Ow) {E : Type} (ρ : E) : Option (Lent E) → Prop
  | none => True
  | some l => ∃ o, O l.p = some (0, o) ∧ l.T.rep K B o (l.g ρ)
structure J (E R : Type) where
  gb : List (SK E) := []
  gc : List (SK E) := []
  lent : Option (Lent E) := none
  rt : Rt R
  W : Value → Option Addr → L2.St → Hp → Prop := fun _ _ _ _ => False
  XR : Xd → Value → Option Addr → Hp → Prop := fun _ _ _ _ => True
section
variable {E R : Type}
def Post (K : Fg) (Jc : J E R) (Γn : List (SK E)) (B0 H0 : Hp) (D : Ends) : Fl E R → Prop
  | .nx ρ => ∀ σ B O H, SA K B O ρ Γn σ → FI B0 H0 B O H → D.nx σ H
  | .bk ρ => ∀ σ B O H, SA K B O ρ Jc.gb σ → FI B0 H0 B O H → D.bk σ H
  | .ct ρ => ∀ σ B O H, SA K B O ρ Jc.gc σ → FI B0 H0 B O H → D.ct σ H
  | .rt r ρ => ∀ v B O H, LA K B O ρ Jc.lent → FI B0 H0 B O H → Jc.rt.ok K B O v r → D.rt v H
  | .ex x ρ => ∀ c d σ B O H, LA K B O ρ Jc.lent → FI B0 H0 B O H → Jc.XR x c d H → Jc.W c d σ H
def SV (X : Cx) (Jc : J E R) (Γ : List (SK E)) (st : Stmt) (Γn : List (SK E)) (f : E → Option (Fl E R)) : Prop :=
  ∀ (ρ : E) (B0 H0 : Hp) (σ : L2.St) (B : Hp) (O : Ow) (H : Hp), SA X.K B O ρ Γ σ → FI B0 H0 B O H → ∀ fl, f ρ = some fl → ∀ D : Ends, Post X.K Jc Γn B0 H0 D fl → wpS X st D σ H
def SVs (X : Cx) (Jc : J E R) (Γ : List (SK E)) (st : List Stmt) (Γn : List (SK E)) (f : E → Option (Fl E R)) : Prop :=
  ∀ (ρ : E) (B0 H0 : Hp) (σ : L2.St) (B : Hp) (O : Ow) (H : Hp), SA X.K B O ρ Γ σ → FI B0 H0 B O H → ∀ fl, f ρ = some fl → ∀ D : Ends, Post X.K Jc Γn B0 H0 D fl → wpSs X st D σ H

/-- weaker kinds -/
def WeakL : List (SK E) → List (SK E) → Prop
  | [], [] => True
  | a :: r, b :: s => (b = .any ∨ a = b) ∧ WeakL r s
  | _, _ => False
theorem WeakL.refl : ∀ Γ : List (SK E), WeakL Γ Γ
  | [] => trivial
  | _ :: r => ⟨.inr rfl, WeakL.refl r⟩
theorem WeakL.len : ∀ {Γ Γ' : List (SK E)}, WeakL Γ Γ' → Γ.length = Γ'.length
  | [], [], _ => rfl
  | _ :: r, _ :: s, ⟨_, h⟩ => congrArg (· + 1) (WeakL.len h)
theorem WeakL.get : ∀ {Γ Γ' : List (SK E)} {i : Nat} {k : SK E}, WeakL Γ Γ' → Γ'[i]? = some k → ∃ k0, Γ[i]? = some k0 ∧ (k = .any ∨ k0 = k)
  | [], [], _, _, _, h => by simp at h
  | a :: r, b :: s, 0, k, ⟨h, _⟩, e => by
    have e : b = k := Option.some.inj e
    subst e
    exact ⟨a, rfl, h⟩
  | a :: r, b :: s, i + 1, k, ⟨_, h⟩, e => WeakL.get (Γ := r) (Γ' := s) (i := i) h e
theorem SA.weak {K : Fg} {B : Hp} {O : Ow} {ρ : E} {Γ Γ' : List (SK E)} {σ : L2.St} (h : SA K B O ρ Γ σ) (w : WeakL Γ Γ') : SA K B O ρ Γ' σ :=
  ⟨h.len.trans w.len, fun i k e => by
    obtain ⟨k0, e0, hk⟩ := w.get e
    obtain ⟨x, h1, h2⟩ := h.at' i k0 e0
    refine ⟨x, h1, ?_⟩
    rcases hk with rfl | rfl
    · trivial
    · exact h2⟩
theorem Post.weak {K : Fg} {Jc : J E R} {Γ Γ' : List (SK E)} {B0 H0 : Hp} {D : Ends} {fl : Fl E R} (w : WeakL Γ Γ') (h : Post K Jc Γ' B0 H0 D fl) : Post K Jc Γ B0 H0 D fl := by
  cases fl with
  | nx ρ => exact fun σ B O H S I => h σ B O H (S.weak w) I
  | bk ρ => exact h
  | ct ρ => exact h
  | rt r ρ => exact h
  | ex x ρ => exact h

def seqF (f g : E → Option (Fl E R)) : E → Option (Fl E R) := fun ρ => (f ρ).bind fun r => match r with
  | .nx ρ' => g ρ'
  | .bk ρ' => some (.bk ρ')
  | .ct ρ' => some (.ct ρ')
  | .rt v ρ' => some (.rt v ρ')
  | .ex x ρ' => some (.ex x ρ')
def nxF : E → Option (Fl E R) := fun ρ => some (.nx ρ)
variable {X : Cx} {Jc : J E R} {Γ Γ1 Γ2 Γn : List (SK E)} {st : Stmt} {rest : List Stmt} {f g : E → Option (Fl E R)} {pos : Pos} {e : Expr} {α β : Type} {T : Ty α}
theorem SV.congr {f' : E → Option (Fl E R)} (h : SV X Jc Γ st Γn f) (e : ∀ ρ, f' ρ = f ρ) : SV X Jc Γ st Γn f' := fun ρ B0 H0 σ B O H S I fl hf => h ρ B0 H0 σ B O H S I fl ((e ρ).symm.trans hf)
theorem svs_nil : SVs X Jc Γ [] Γ nxF := fun ρ B0 H0 σ B O H S I fl hf D q => by
  cases hf
  exact ⟨_, pss_nil, q σ B O H S I⟩
theorem svs_one (h : SV X Jc Γ st Γn f) : SVs X Jc Γ [st] Γn f := fun ρ B0 H0 σ B O H S I fl hf D q => ⟨_, pss_one (ps_wp X st), h ρ B0 H0 σ B O H S I fl hf D q⟩
theorem svs_cons (h1 : SV X Jc Γ st Γ1 f) (h2 : SVs X Jc Γ1 rest Γn g) : SVs X Jc Γ (st :: rest) Γn (seqF f g) := fun ρ B0 H0 σ B O H S I fl hf D q => by
  refine ⟨_, pss_cons (ps_wp X st) (pss_wp X rest), ?_⟩
  unfold seqF at hf
  cases hq : f ρ with
  | none => rw [hq] at hf; cases hf
  | some r =>
    rw [hq] at hf
    refine h1 ρ B0 H0 σ B O H S I r hq _ ?_
    cases r with
    | nx ρ' => exact fun σ' B' O' H' S' I' => h2 ρ' B0 H0 σ' B' O' H' S' I' fl hf D q
    | bk ρ' => cases hf; exact q
    | ct ρ' => cases hf; exact q
    | rt v ρ' => cases hf; exact q
    | ex x ρ' => cases hf; exact q
theorem svs_weak (h : SVs X Jc Γ rest Γ1 f) (w : WeakL Γ1 Γn) : SVs X Jc Γ rest Γn f := fun ρ B0 H0 σ B O H S I fl hf D q => h ρ B0 H0 σ B O H S I fl hf D (q.weak w)
theorem svs_pre (w : WeakL Γ Γ1) (h : SVs X Jc Γ1 rest Γn f) : SVs X Jc Γ rest Γn f := fun ρ B0 H0 σ B O H S I fl hf D q => h ρ B0 H0 σ B O H (S.weak w) I fl hf D q
theorem sv_pass : SV X Jc Γ (.Pass pos) Γ nxF := fun ρ B0 H0 σ B O H S I fl hf D q => by
  cases hf
  exact ⟨_, ps_pass, q σ B O H S I⟩
theorem sv_break (w : WeakL Γ Jc.gb) : SV X Jc Γ (.Break pos) Γn (fun ρ => some (.bk ρ)) := fun ρ B0 H0 σ B O H S I fl hf D q => by
  cases hf
  exact ⟨_, ps_break, q σ B O H (S.weak w) I⟩
theorem sv_continue (w : WeakL Γ Jc.gc) : SV X Jc Γ (.Continue pos) Γn (fun ρ => some (.ct ρ)) := fun ρ B0 H0 σ B O H S I fl hf D q => by
  cases hf
  exact ⟨_, ps_continue, q σ B O H (S.weak w) I⟩
def LentIn (Γ : List (SK E)) : Option (Lent E) → Prop
  | none => True
  | some l => Γ[0]? = some (.ownAt l.p l.T l.g)
theorem SA.lent {K : Fg} {B : Hp} {O : Ow} {ρ : E} {σ : L2.St} (h : SA K B O ρ Γ σ) : ∀ {l : Option (Lent E)}, LentIn Γ l → LA K B O ρ l
  | none, _ => trivial
  | some l, hl => by
    obtain ⟨x, h1, o, h2, h3, h4⟩ := h.at' 0 _ hl
    exact ⟨o, h3, h4⟩
def retF (f : E → Option (R × E)) : E → Option (Fl E R) := fun ρ => (f ρ).map fun r => .rt r.1 r.2
def retP (f : E → Option R) : E → Option (Fl E R) := fun ρ => (f ρ).map fun r => .rt r ρ
theorem sv_ret {T : Ty R} {f : E → Option R} (he : EV X Γ e T f) (hr : Jc.rt = rtD T := by rfl) (hl : LentIn Γ Jc.lent := by first | exact trivial | rfl) : SV X Jc Γ (.Return (some e) pos) Γn (retP f) := fun ρ B0 H0 σ B O H S I fl hf D q => by
  unfold retP at hf
  cases hq : f ρ with
  | none => rw [hq] at hf; cases hf
  | some r =>
    rw [hq] at hf
    cases hf
    exact ⟨_, ps_ret (pe_wp X e), he ρ σ B O H S I.ei r hq _ fun v B' H' s rr => q v B' O H' ((S.mono s.bb).lent hl) (I.step s) (by rw [hr]; exact rr)⟩
theorem sv_retM {T : Ty R} {f : E → Option (R × E)} (he : EM X Γ e T f) (hr : Jc.rt = rtD T := by rfl) (hl : LentIn Γ Jc.lent := by first | exact trivial | rfl) : SV X Jc Γ (.Return (some e) pos) Γn (retF f) := fun ρ B0 H0 σ B O H S I fl hf D q => by
  unfold retF at hf
  cases hq : f ρ with
  | none => rw [hq] at hf; cases hf
  | some r =>
    rw [hq] at hf
    cases hf
    exact ⟨_, ps_ret (pe_wp X e), he ρ σ B O H S I.ei r.1 r.2 hq _ fun v B' O' H' s S' rr => q v B' O' H' (S'.lent hl) (I.stO s) (by rw [hr]; exact rr)⟩
/-- the own object of slot i + 1 is handed out -/
theorem sv_retOwn {i : Nat} {x : Str} {T : OTy R} {g : E → R} {p : Pos} (hk : Γ[i + 1]? = some (.own T g)) (hr : Jc.rt = rtO T := by rfl) (hl : LentIn Γ Jc.lent := by first | exact trivial | rfl) (hN : X.N[i + 1]? = some x := by rfl) (hv : Vis X.env.scope x := by first | exact Or.inl rfl | exact Or.inr (Or.inl rfl) | exact Or.inr (Or.inr rfl))
    (hd : (x == ("__debug__" : Str)) = false := by decide) (hcd : (x == ("__classdict__" : Str)) = false := by decide) : SV X Jc Γ (.Return (some (.Name x p)) pos) Γn (fun ρ => some (.rt (g ρ) ρ)) := fun ρ B0 H0 σ B O H S I fl hf D q => by
  cases hf
  obtain ⟨x', h1, p', o, h2, h3, h4⟩ := S.at' (i + 1) _ hk
  subst h2
  exact ⟨_, ps_ret (pe_var hN hv hd hcd), _, h1, q _ B O H (S.lent hl) I (by rw [hr]; exact ⟨p', i, o, rfl, h3, h4⟩)⟩
theorem sv_retN {T : Ty R} {r : R} (hT : ∀ K B, T.rep K B .non r) (hr : Jc.rt = rtD T := by rfl) (hl : LentIn Γ Jc.lent := by first | exact trivial | rfl) : SV X Jc Γ (.Return none pos) Γn (fun ρ => some (.rt r ρ)) := fun ρ B0 H0 σ B O H S I fl hf D q => by
  cases hf
  exact ⟨_, ps_retN, q _ B O H (S.lent hl) I (by rw [hr]; exact hT _ _)⟩
/-- a fresh own object is handed out -/
theorem sv_retO {T : OTy R} {f : E → Option (R × E)} (he : EMO (PE X e) X Γ T f) (hr : Jc.rt = rtO T := by rfl) (hl : LentIn Γ Jc.lent := by first | exact trivial | rfl) : SV X Jc Γ (.Return (some e) pos) Γn (retF f) := fun ρ B0 H0 σ B O H S I fl hf D q => by
  unfold retF at hf
  cases hq : f ρ with
  | none => rw [hq] at hf; cases hf
  | some r =>
    rw [hq] at hf
    cases hf
    obtain ⟨t, h1, h2⟩ := he ρ σ B O H S I.ei r.1 r.2 hq D.rt fun p o B' O' H' s S' hn hb ho hp rr => by
      have I' := I.stO s
      refine q _ B' (owPut O' p 1 o) H' ?_ ⟨I'.bb, I'.bh, I'.hh, fun a i u z => ?_, I'.nw⟩ (by rw [hr]; exact ⟨p, 0, o, rfl, owPut_same, rr⟩)
      · have h := S'.lent hl
        revert h
        cases Jc.lent with
        | none => exact fun _ => trivial
        | some l =>
          rintro ⟨u, h1, h2⟩
          exact ⟨u, by rw [owPut_ne (fun z => by rw [z, ho] at h1; cases h1)]; exact h1, h2⟩
      · by_cases y : a = p
        · subst y
          rw [owPut_same] at z
          cases z
          exact ⟨hp, hb, none_back I.hh hn⟩
        · rw [owPut_ne y] at z
          exact I'.oo a i u z
    exact ⟨_, ps_ret h1, h2⟩
def dropF {α : Type} (f : E → Option (α × E)) : E → Option (Fl E R) := fun ρ => (f ρ).map fun r => .nx r.2
theorem sv_expr {f : E → Option (α × E)} (he : EM X Γ e T f) (hs : swapsWith e none pos.line X.env = pure false := by rfl) : SV X Jc Γ (.Expr e pos) Γ (dropF f) := fun ρ B0 H0 σ B O H S I fl hf D q => by
  unfold dropF at hf
  cases hq : f ρ with
  | none => rw [hq] at hf; cases hf
  | some r =>
    rw [hq] at hf
    cases hf
    exact ⟨_, ps_expr (pe_wp X e) hs, he ρ σ B O H S I.ei r.1 r.2 hq _ fun v B' O' H' s S' rr => q σ B' O' H' S' (I.stO s)⟩
theorem sv_doc {x j pos'} : SV X Jc Γ (.Expr (.Constant (.str x) j pos) pos') Γ nxF := fun ρ B0 H0 σ B O H S I fl hf D q => by
  cases hf
  exact ⟨_, ps_doc, q σ B O H S I⟩
def ifF (c : E → Option (Bool × E)) (f g : E → Option (Fl E R)) : E → Option (Fl E R) := fun ρ => (c ρ).bind fun x => if x.1 = true then f x.2 else g x.2
def ifP (c : E → Option Bool) (f g : E → Option (Fl E R)) : E → Option (Fl E R) := fun ρ => (c ρ).bind fun x => if x = true then f ρ else g ρ
theorem sv_ifM {c : Expr} {a b : List Stmt} {t : E → Option (Bool × E)} (hc : EMT X Γ c t) (ha : SVs X Jc Γ a Γ1 f) (hb : SVs X Jc Γ b Γ2 g) (w1 : WeakL Γ1 Γn) (w2 : WeakL Γ2 Γn) : SV X Jc Γ (.If c a b pos) Γn (ifF t f g) := fun ρ B0 H0 σ B O H S I fl hf D q => by
  refine ⟨_, ps_if (pt_wp X c) (pss_wp X a) (pss_wp X b), ?_⟩
  unfold ifF at hf
  cases hq : t ρ with
  | none => rw [hq] at hf; cases hf
  | some r =>
    rw [hq] at hf
    obtain ⟨r, ρ'⟩ := r
    refine hc ρ σ B O H S I.ei r ρ' hq _ fun B' O' H' s S' => ?_
    cases r with
    | true => exact ha ρ' B0 H0 σ B' O' H' S' (I.stO s) fl hf D (q.weak w1)
    | false => exact hb ρ' B0 H0 σ B' O' H' S' (I.stO s) fl hf D (q.weak w2)
theorem sv_if {c : Expr} {a b : List Stmt} {t : E → Option Bool} (hc : EVT X Γ c t) (ha : SVs X Jc Γ a Γ1 f) (hb : SVs X Jc Γ b Γ2 g) (w1 : WeakL Γ1 Γn) (w2 : WeakL Γ2 Γn) : SV X Jc Γ (.If c a b pos) Γn (ifP t f g) := by
  refine (sv_ifM (emt_of hc) ha hb w1 w2).congr fun ρ => ?_
  unfold ifP ifF pu
  cases t ρ <;> rfl

/-! ### names stored -/
def KeepK {α : Type} (s : E → α → E) : SK E → Prop
  | .any => True
  | .dat _ g => ∀ ρ a, g (s ρ a) = g ρ
  | .own _ g => ∀ ρ a, g (s ρ a) = g ρ
  | .ownAt _ _ g => ∀ ρ a, g (s ρ a) = g ρ
def KeepAll {α : Type} (s : E → α → E) : List (SK E) → Prop
  | [] => True
  | k :: r => KeepK s k ∧ KeepAll s r
/-- all slots but the i-th are as they were -/
def Keeps {α : Type} (s : E → α → E) : List (SK E) → Nat → Prop
  | [], _ => True
  | _ :: r, 0 => KeepAll s r
  | k :: r, i + 1 => KeepK s k ∧ Keeps s r i
theorem KeepAll.get {α : Type} {s : E → α → E} : ∀ {Γ : List (SK E)} {j : Nat} {k : SK E}, KeepAll s Γ → Γ[j]? = some k → KeepK s k
  | [], _, _, _, h => by simp at h
  | a :: r, 0, k, ⟨h, _⟩, e => by cases e; exact h
  | a :: r, j + 1, k, ⟨_, h⟩, e => KeepAll.get (Γ := r) (j := j) h e
theorem Keeps.get {α : Type} {s : E → α → E} : ∀ {Γ : List (SK E)} {i j : Nat} {k : SK E}, Keeps s Γ i → j ≠ i → Γ[j]? = some k → KeepK s k
  | [], _, _, _, _, _, h => by simp at h
  | a :: r, 0, 0, _, _, h, _ => absurd rfl h
  | a :: r, 0, j + 1, k, h, _, e => KeepAll.get (Γ := r) h e
  | a :: r, i + 1, 0, k, ⟨h, _⟩, _, e => by cases e; exact h
  | a :: r, i + 1, j + 1, k, ⟨_, h⟩, n, e => Keeps.get (Γ := r) (i := i) (j := j) h (fun z => n (by rw [z])) e
theorem SlotOk.keep {K : Fg} {B : Hp} {O : Ow} {ρ : E} {i : Nat} {k : SK E} {x : Option V} {s : E → α → E} {a : α} (h : SlotOk K B O ρ i k x) (kk : KeepK s k) : SlotOk K B O (s ρ a) i k x := by
  cases k with
  | any => trivial
  | dat T g => obtain ⟨v, h1, h2⟩ := h; exact ⟨v, h1, by rw [kk ρ a]; exact h2⟩
  | own T g => obtain ⟨p, o, h1, h2, h3⟩ := h; exact ⟨p, o, h1, h2, by rw [kk ρ a]; exact h3⟩
  | ownAt p T g => obtain ⟨o, h1, h2, h3⟩ := h; exact ⟨o, h1, h2, by rw [kk ρ a]; exact h3⟩
/-- the slot's own object is let go -/
def owDrop (O : Ow) (i : Nat) : Ow := fun a => match O a with
  | some (j, o) => if j = i then none else some (j, o)
  | none => none
theorem owDrop_some {O : Ow} {i j : Nat} {a : Addr} {o : HO} (h : owDrop O i a = some (j, o)) : O a = some (j, o) ∧ j ≠ i := by
  unfold owDrop at h
  cases q : O a with
  | none => rw [q] at h; cases h
  | some x =>
    obtain ⟨j', o'⟩ := x
    rw [q] at h
    by_cases z : j' = i
    · simp only [z, if_true] at h; cases h
    · simp only [z, if_false] at h; cases h; exact ⟨rfl, z⟩
theorem owDrop_of {O : Ow} {i j : Nat} {a : Addr} {o : HO} (h : O a = some (j, o)) (n : j ≠ i) : owDrop O i a = some (j, o) := by
  unfold owDrop
  rw [h]
  simp only [n, if_false]
theorem SlotOk.drop {K : Fg} {B : Hp} {O : Ow} {ρ : E} {i j : Nat} {k : SK E} {x : Option V} (h : SlotOk K B O ρ j k x) (n : j ≠ i) : SlotOk K B (owDrop O i) ρ j k x := by
  cases k with
  | any => trivial
  | dat T g => exact h
  | own T g => obtain ⟨p, o, h1, h2, h3⟩ := h; exact ⟨p, o, h1, owDrop_of h2 n, h3⟩
  | ownAt p T g => obtain ⟨o, h1, h2, h3⟩ := h; exact ⟨o, h1, owDrop_of h2 n, h3⟩
theorem FI.drop {B0 H0 B H : Hp} {O : Ow} (I : FI B0 H0 B O H) (i : Nat) : FI B0 H0 B (owDrop O i) H :=
  ⟨I.bb, I.bh, I.hh, fun a j o e => I.oo a j o (owDrop_some e).1, I.nw⟩
/-- a slot is set to data -/
theorem SA.set {K : Fg} {B : Hp} {O : Ow} {ρ : E} {σ : L2.St} {i : Nat} {v : V} {a : α} {g : E → α} {s : E → α → E} (h : SA K B O ρ Γ σ) (hi : i < Γ.length) (r : T.rep K B v a) (hg : ∀ ρ a, g (s ρ a) = a) (hk : Keeps s Γ i) :
    SA K B (owDrop O i) (s ρ a) (Γ.set i (.dat T g)) (σ.set i (some v)) :=
  ⟨by rw [List.length_set, List.length_set]; exact h.len, fun j k e => by
    by_cases z : j = i
    · subst z
      rw [List.getElem?_set_self hi] at e
      cases e
      exact ⟨some v, by rw [List.getElem?_set_self (by rw [h.len]; exact hi)], v, rfl, by rw [hg]; exact r⟩
    · rw [List.getElem?_set_ne (Ne.symm z)] at e
      obtain ⟨x, h1, h2⟩ := h.at' j k e
      exact ⟨x, by rw [List.getElem?_set_ne (Ne.symm z)]; exact h1, (h2.keep (hk.get z e)).drop z⟩⟩
/-- a slot is set to a new own object -/
theorem SA.setO {K : Fg} {B : Hp} {O : Ow} {ρ : E} {σ : L2.St} {i : Nat} {p : Addr} {o : HO} {a : α} {T : OTy α} {g : E → α} {s : E → α → E} (h : SA K B O ρ Γ σ) (hi : i < Γ.length) (hO : O p = none) (r : T.rep K B o a) (hg : ∀ ρ a, g (s ρ a) = a) (hk : Keeps s Γ i) :
    SA K B (owPut (owDrop O i) p i o) (s ρ a) (Γ.set i (.own T g)) (σ.set i (some (.ref p))) :=
  ⟨by rw [List.length_set, List.length_set]; exact h.len, fun j k e => by
    by_cases z : j = i
    · subst z
      rw [List.getElem?_set_self hi] at e
      cases e
      exact ⟨_, by rw [List.getElem?_set_self (by rw [h.len]; exact hi)], p, o, rfl, owPut_same, by rw [hg]; exact r⟩
    · rw [List.getElem?_set_ne (Ne.symm z)] at e
      obtain ⟨x, h1, h2⟩ := h.at' j k e
      refine ⟨x, by rw [List.getElem?_set_ne (Ne.symm z)]; exact h1, ?_⟩
      have h3 := (h2.keep (a := a) (hk.get z e)).drop z
      cases k with
      | any => trivial
      | dat T g => exact h3
      | own T g =>
        obtain ⟨q, u, h4, h5, h6⟩ := h3
        exact ⟨q, u, h4, by rw [owPut_ne (fun y => by rw [y] at h5; have := (owDrop_some h5).1; rw [hO] at this; cases this)]; exact h5, h6⟩
      | ownAt q T g =>
        obtain ⟨u, h4, h5, h6⟩ := h3
        exact ⟨u, h4, by rw [owPut_ne (fun y => by rw [y] at h5; have := (owDrop_some h5).1; rw [hO] at this; cases this)]; exact h5, h6⟩⟩
theorem FI.putNew {B0 H0 B H : Hp} {O : Ow} {p : Addr} {o : HO} (I : FI B0 H0 B O H) (i : Nat) (hp : H p = some o) (hb : B p = none) (h0 : H0 p = none) : FI B0 H0 B (owPut (owDrop O i) p i o) H :=
  ⟨I.bb, I.bh, I.hh, fun a j u e => by
    by_cases z : a = p
    · subst z; rw [owPut_same] at e; cases e; exact ⟨hp, hb, h0⟩
    · rw [owPut_ne z] at e; exact I.oo a j u (owDrop_some e).1, I.nw⟩
def setF {α : Type} (s : E → α → E) (f : E → Option (α × E)) : E → Option (Fl E R) := fun ρ => (f ρ).map fun r => .nx (s r.2 r.1)
def setP {α : Type} (s : E → α → E) (f : E → Option α) : E → Option (Fl E R) := fun ρ => (f ρ).map fun r => .nx (s ρ r)
theorem sv_setM {i : Nat} {x : Str} {pos' : Pos} {f : E → Option (α × E)} {g : E → α} {s : E → α → E} (he : EM X Γ e T f) (nd : X.N.Nodup) (hg : ∀ ρ a, g (s ρ a) = a) (hk : Keeps s Γ i) (hi : i < Γ.length) (hN : X.N[i]? = some x := by rfl) (hx : Loc X.env.scope x := by first | exact Or.inl rfl | exact Or.inr rfl)
    (hs : swapsWith e (some (.Name x pos')) pos.line X.env = pure false := by rfl) (hf : X.fn x = true ∨ X.env.scope.names.lookup x = some .local := by first | exact .inl rfl | exact .inr rfl) :
    SV X Jc Γ (.Assign [.Name x pos'] e pos) (Γ.set i (.dat T g)) (setF s f) := fun ρ B0 H0 σ B O H S I fl hfl D q => by
  unfold setF at hfl
  cases hq : f ρ with
  | none => rw [hq] at hfl; cases hfl
  | some r =>
    rw [hq] at hfl
    cases hfl
    exact ⟨_, ps_set nd hN hx (pe_wp X e) hs hf, he ρ σ B O H S I.ei r.1 r.2 hq _ fun v B' O' H' st S' rr => q _ B' _ H' (S'.set hi rr hg hk) ((I.stO st).drop i)⟩
theorem sv_set {i : Nat} {x : Str} {pos' : Pos} {f : E → Option α} {g : E → α} {s : E → α → E} (he : EV X Γ e T f) (nd : X.N.Nodup) (hg : ∀ ρ a, g (s ρ a) = a) (hk : Keeps s Γ i) (hi : i < Γ.length) (hN : X.N[i]? = some x := by rfl) (hx : Loc X.env.scope x := by first | exact Or.inl rfl | exact Or.inr rfl)
    (hs : swapsWith e (some (.Name x pos')) pos.line X.env = pure false := by rfl) (hf : X.fn x = true ∨ X.env.scope.names.lookup x = some .local := by first | exact .inl rfl | exact .inr rfl) :
    SV X Jc Γ (.Assign [.Name x pos'] e pos) (Γ.set i (.dat T g)) (setP s f) := by
  refine (sv_setM (em_of he) nd hg hk hi hN hx hs hf).congr fun ρ => ?_
  unfold setP setF pu
  cases f ρ <;> rfl
/-- to a fresh own object; P is how the store is put -/
theorem sv_setO {i : Nat} {T : OTy α} {f : E → Option (α × E)} {g : E → α} {s : E → α → E} (he : EMO (fun t => PS X st (tAsg t (gName i))) X Γ T f) (hg : ∀ ρ a, g (s ρ a) = a) (hk : Keeps s Γ i) (hi : i < Γ.length) : SV X Jc Γ st (Γ.set i (.own T g)) (setF s f) := fun ρ B0 H0 σ B O H S I fl hfl D q => by
  unfold setF at hfl
  cases hq : f ρ with
  | none => rw [hq] at hfl; cases hfl
  | some r =>
    rw [hq] at hfl
    cases hfl
    obtain ⟨t, h1, h2⟩ := he ρ σ B O H S I.ei r.1 r.2 hq (fun v H' => D.nx (σ.set i (some v)) H') fun p o B' O' H' st S' hn hb ho hp rr =>
      q _ B' _ H' (S'.setO hi ho rr hg hk) ((I.stO st).putNew i hp hb (none_back I.hh hn))
    exact ⟨_, h1, h2⟩
theorem emo_set {i : Nat} {x : Str} {pos' : Pos} {T : OTy α} {f : E → Option (α × E)} (he : EMO (PE X e) X Γ T f) (nd : X.N.Nodup) (hN : X.N[i]? = some x := by rfl) (hx : Loc X.env.scope x := by first | exact Or.inl rfl | exact Or.inr rfl)
    (hs : swapsWith e (some (.Name x pos')) pos.line X.env = pure false := by rfl) (hf : X.fn x = true ∨ X.env.scope.names.lookup x = some .local := by first | exact .inl rfl | exact .inr rfl) :
    EMO (fun t => PS X (.Assign [.Name x pos'] e pos) (tAsg t (gName i))) X Γ T f := fun ρ σ B O H S I a ρ' ha Q q => by
  obtain ⟨t, h1, h2⟩ := he ρ σ B O H S I a ρ' ha Q q
  exact ⟨t, ps_set nd hN hx h1 hs hf, h2⟩
/-- an own list becomes data -/
theorem svs_commit {i : Nat} {T : Ty α} {g : E → List α} (hk : Γ[i]? = some (.own (oList T) g)) (h : SVs X Jc (Γ.set i (.dat (tList T) g)) rest Γn f) : SVs X Jc Γ rest Γn f := fun ρ B0 H0 σ B O H S I fl hf D q => by
  obtain ⟨x, h1, p, o, h2, h3, vs, h4, h5⟩ := S.at' i _ hk
  subst h2 h4
  obtain ⟨hp, hb, h0⟩ := I.oo p i _ h3
  have hi : i < Γ.length := (List.getElem?_eq_some_iff.mp hk).1
  refine h ρ B0 H0 σ (upd B p (.lst vs)) (owDrop O i) H ⟨by rw [List.length_set]; exact S.len, fun j k e => ?_⟩ ⟨I.bb.trans (Ex.new hb), fun a u z => ?_, I.hh, fun a j u z => ?_, fun a z1 z2 => ?_⟩ fl hf D q
  · by_cases z : j = i
    · subst z
      rw [List.getElem?_set_self hi] at e
      cases e
      exact ⟨_, h1, _, rfl, p, vs, rfl, SqL.of upd_same, Paired.imp (fun _ _ => T.mono (Ex.new hb)) h5⟩
    · rw [List.getElem?_set_ne (Ne.symm z)] at e
      obtain ⟨x, y1, y2⟩ := S.at' j k e
      exact ⟨x, y1, (y2.mono (Ex.new hb)).drop z⟩
  · by_cases y : a = p
    · subst y; rw [upd_same] at z; cases z; exact hp
    · rw [upd_ne y] at z; exact I.bh a u z
  · obtain ⟨z1, z2⟩ := owDrop_some z
    obtain ⟨y1, y2, y3⟩ := I.oo a j u z1
    have : a ≠ p := fun y => by subst y; rw [h3] at z1; cases z1; exact z2 rfl
    exact ⟨y1, by rw [upd_ne this]; exact y2, y3⟩
  · have : a ≠ p := fun y => by subst y; exact z2 h0
    rw [upd_ne this]; exact I.nw a z1 z2
end
end ML

/-! the mirror layer: loops, comprehensions -/
namespace ML
open PySem PySem.Spec PyProof.Rows L2

theorem pr_getL {α β : Type} {F : α → β → Prop} : ∀ {l₁ : List α} {l₂ : List β} {i : Nat} {x : α}, Paired F l₁ l₂ → l₁[i]? = some x → ∃ y, l₂[i]? = some y ∧ F x y
  | _, _, _, _, .nil, e => by simp at e
  | _, _, 0, _, .cons r _, e => by simp at e; subst e; exact ⟨_, rfl, r⟩
  | _, _, i + 1, x, .cons _ t, e => by
    obtain ⟨u, h1, h2⟩ := pr_getL (i := i) (x := x) t (by simpa using e)
    exact ⟨u, by simpa using h1, h2⟩
theorem pr_getR {α β : Type} {F : α → β → Prop} : ∀ {l₁ : List α} {l₂ : List β} {i : Nat} {y : β}, Paired F l₁ l₂ → l₂[i]? = some y → ∃ x, l₁[i]? = some x ∧ F x y
  | _, _, _, _, .nil, e => by simp at e
  | _, _, 0, _, .cons r _, e => by simp at e; subst e; exact ⟨_, rfl, r⟩
  | _, _, i + 1, x, .cons _ t, e => by
    obtain ⟨u, h1, h2⟩ := pr_getR (i := i) (y := x) t (by simpa using e)
    exact ⟨u, by simpa using h1, h2⟩
theorem pr_len {α β : Type} {F : α → β → Prop} : ∀ {l₁ : List α} {l₂ : List β}, Paired F l₁ l₂ → l₁.length = l₂.length
  | _, _, .nil => rfl
  | _, _, .cons _ t => congrArg (· + 1) (pr_len t)
theorem pr_app {α β : Type} {F : α → β → Prop} : ∀ {l₁ m₁ : List α} {l₂ m₂ : List β}, Paired F l₁ l₂ → Paired F m₁ m₂ → Paired F (l₁ ++ m₁) (l₂ ++ m₂)
  | _, _, _, _, .nil, h => h
  | _, _, _, _, .cons r t, h => .cons r (pr_app t h)

/-! ### what is walked -/
structure ItOk (K : Fg) (Jt : It) (B : Hp) {α : Type} (T : Ty α) (xs : List α) : Prop where
  stop : ∀ i H, Ex B H → xs.length ≤ i → Jt.stop i H
  go : ∀ i H, Ex B H → i < xs.length → Jt.go i H
  yld : ∀ i H B1 x a H', Ex B B1 → Ex B1 H → xs[i]? = some a → Jt.yld i H x H' → ∃ B2, Step B1 H B2 H' ∧ T.rep K B2 x a
def wpI (X : Cx) (tg iter : Expr) : TI := fun σ H R => ∃ wi, PI X tg iter wi ∧ wi σ H R
theorem pi_wp (X : Cx) (tg iter : Expr) : PI X tg iter (wpI X tg iter) := ⟨fun pins s σ H R I ⟨_, h, q⟩ => h.run pins s σ H R I q⟩
def wpG (X : Cx) (tg : Expr) : TG := fun v σ H Q => ∃ g, PG X tg g ∧ g v σ H Q
theorem pg_wp (X : Cx) (tg : Expr) : PG X tg (wpG X tg) := ⟨fun pins s σ H v u Q I r ⟨_, h, q⟩ => h.run pins s σ H v u Q I r q⟩
section
variable {E R : Type} {X : Cx} {Jc : J E R} {Γ Γ1 Γ2 Γl Γn : List (SK E)} {α β γ : Type} {T : Ty α} {U : Ty β} {pos : Pos}
def IM (X : Cx) {E α : Type} (Γ : List (SK E)) (tg iter : Expr) (T : Ty α) (f : E → Option (List α × E)) : Prop :=
  ∀ (ρ : E) (σ : L2.St) (B : Hp) (O : Ow) (H : Hp), SA X.K B O ρ Γ σ → EI B O H → ∀ xs ρ', f ρ = some (xs, ρ') → ∀ R : It → Hp → Prop, (∀ Jt B' O' H', StO B O H B' O' H' → SA X.K B' O' ρ' Γ σ → ItOk X.K Jt B' T xs → R Jt H') → wpI X tg iter σ H R
theorem itl_ok {K : Fg} {B : Hp} {a : Addr} {vs : List V} {xs : List α} (h : SqL K B a vs) (r : Paired (T.rep K B) vs xs) : ItOk K (Itl K a) B T xs where
  stop := fun i H e hi => ⟨vs, ex_l e h, by rw [(pr_len r)]; exact hi⟩
  go := fun i H e hi => by
    obtain ⟨x, hx, _⟩ := pr_getR r (List.getElem?_eq_getElem hi)
    exact ⟨vs, x, ex_l e h, hx⟩
  yld := fun i H B1 x y H' e1 e2 hy hq => by
    obtain ⟨rfl, hx⟩ := hq
    have h1 := hx vs (ex_l (e1.trans e2) h)
    obtain ⟨y', h2, h3⟩ := pr_getL r h1
    rw [hy] at h2
    cases h2
    exact ⟨B1, .refl e2, T.mono e1 h3⟩
theorem itt_ok {K : Fg} {B : Hp} {a : Addr} {vs : List V} {xs : List α} (h : SqT K B a vs) (r : Paired (T.rep K B) vs xs) : ItOk K (Itt K a) B T xs where
  stop := fun i H e hi => ⟨vs, ex_t e h, by rw [(pr_len r)]; exact hi⟩
  go := fun i H e hi => by
    obtain ⟨x, hx, _⟩ := pr_getR r (List.getElem?_eq_getElem hi)
    exact ⟨vs, x, ex_t e h, hx⟩
  yld := fun i H B1 x y H' e1 e2 hy hq => by
    obtain ⟨rfl, hx⟩ := hq
    have h1 := hx vs (ex_t (e1.trans e2) h)
    obtain ⟨y', h2, h3⟩ := pr_getL r h1
    rw [hy] at h2
    cases h2
    exact ⟨B1, .refl e2, T.mono e1 h3⟩
/-- the ints lo, lo + c, .. -/
def rangeL (lo c : Int) (n : Nat) : List Int := (List.range n).map fun (k : Nat) => lo + (k : Int) * c
theorem rangeL_len (lo c : Int) (n : Nat) : (rangeL lo c n).length = n := by simp [rangeL]
theorem rangeL_get {lo c : Int} {n i : Nat} {a : Int} (h : (rangeL lo c n)[i]? = some a) : a = lo + (i : Int) * c := by
  unfold rangeL at h
  rw [List.getElem?_map] at h
  cases q : (List.range n)[i]? with
  | none => rw [q] at h; cases h
  | some k =>
    rw [q] at h
    cases h
    have := (List.getElem?_eq_some_iff.mp q).2
    rw [List.getElem_range] at this
    rw [this]
theorem itr_ok {K : Fg} {B : Hp} {lo : Int} {n : Nat} : ItOk K (Itr lo n) B tInt (rangeL lo 1 n) where
  stop := fun i H e hi => by rw [rangeL_len] at hi; exact hi
  go := fun i H e hi => by rw [rangeL_len] at hi; exact hi
  yld := fun i H B1 x y H' e1 e2 hy hq => by
    obtain ⟨rfl, rfl⟩ := hq
    exact ⟨B1, .refl e2, by rw [rangeL_get hy, Int.mul_one]; rfl⟩
theorem im_list {tg it : Expr} {f : E → Option (List α × E)} (h : EM X Γ it (tList T) f) : IM X Γ tg it T f := fun ρ σ B O H S I xs ρ' hf R q =>
  ⟨_, pi_list (pe_wp X it), h ρ σ B O H S I xs ρ' hf _ fun v B' O' H' s S' ⟨p, vs, e, hs, r⟩ => ⟨p, e, ⟨vs, ex_l s.bh hs⟩, q _ B' O' H' s S' (itl_ok hs r)⟩⟩
theorem im_tup {tg it : Expr} {f : E → Option (List α × E)} (h : EM X Γ it (tTup T) f) : IM X Γ tg it T f := fun ρ σ B O H S I xs ρ' hf R q =>
  ⟨_, pi_tup (pe_wp X it), h ρ σ B O H S I xs ρ' hf _ fun v B' O' H' s S' ⟨p, vs, e, hs, r⟩ => ⟨p, e, ⟨vs, ex_t s.bh hs⟩, q _ B' O' H' s S' (itt_ok hs r)⟩⟩
def rng1 {E : Type} (f : E → Option ((Int × Unit) × E)) : E → Option (List Int × E) := then1 f fun x => if x.1 < 2 ^ 62 ∧ -(2 ^ 62) ≤ x.1 then some (rangeL 0 1 x.1.toNat) else none
theorem im_range1 {tg a : Expr} {p : Pos} {f : E → Option ((Int × Unit) × E)} (h : EMA X Γ [a] (aCons tInt aNil) f) (hm : X.mg "range" = none) (hg : Gl X "range" := by rfl) (hs : starEach [a] X.env = [(false, eval a X.env)] := by rfl) : IM X Γ tg (.Call (.Name "range" p) [a] [] pos) tInt (rng1 f) := fun ρ σ B O H S I xs ρ' hf R q => by
  refine ⟨_, pi_range1 hg hm (pa_wp X _) hs, ?_⟩
  refine h.run1 S I hf fun x u B' O' H' s S' r hx => ?_
  obtain ⟨v, _, rfl, hv, hr⟩ := r
  have hr : _ = [] := hr
  subst hr
  have hv : v = .int x.1 := hv
  subst hv
  split at hx
  · rename_i hb
    cases hx
    exact ⟨x.1, rfl, hb.2, hb.1, q _ B' O' H' s S' itr_ok⟩
  · cases hx
def rng2 {E : Type} (f : E → Option ((Int × Int × Unit) × E)) : E → Option (List Int × E) := then1 f fun x => if (-(2 ^ 62) ≤ x.1 ∧ x.1 < 2 ^ 62) ∧ (-(2 ^ 62) ≤ x.2.1 ∧ x.2.1 < 2 ^ 62) then some (rangeL x.1 1 (x.2.1 - x.1).toNat) else none
theorem im_range2 {tg a b : Expr} {p : Pos} {f : E → Option ((Int × Int × Unit) × E)} (h : EMA X Γ [a, b] (aCons tInt (aCons tInt aNil)) f) (hm : X.mg "range" = none) (hg : Gl X "range" := by rfl) (hs : starEach [a, b] X.env = [(false, eval a X.env), (false, eval b X.env)] := by rfl) (hs2 : starEach [b] X.env = [(false, eval b X.env)] := by rfl) : IM X Γ tg (.Call (.Name "range" p) [a, b] [] pos) tInt (rng2 f) := fun ρ σ B O H S I xs ρ' hf R q => by
  refine ⟨_, pi_range2 hg hm (pa_wp X _) hs hs2, ?_⟩
  refine h.run1 S I hf fun x u B' O' H' s S' r hx => ?_
  obtain ⟨v, _, rfl, hv, v2, _, rfl, hv2, hr⟩ := r
  have hr : _ = [] := hr
  subst hr
  have hv : v = .int x.1 := hv
  subst hv
  have hv2 : v2 = .int x.2.1 := hv2
  subst hv2
  split at hx
  · rename_i hb
    cases hx
    exact ⟨x.1, x.2.1, rfl, ⟨hb.1.1, hb.1.2, hb.2.1, hb.2.2⟩, q _ B' O' H' s S' itr_ok⟩
  · cases hx

/-! ### targets -/
/-- the target takes an item -/
def GM (X : Cx) {E α : Type} (Γ : List (SK E)) (tg : Expr) (T : Ty α) (Γ1 : List (SK E)) (s : E → α → E) : Prop :=
  ∀ (ρ : E) (σ : L2.St) (B : Hp) (O : Ow) (H : Hp) (v : V) (a : α), SA X.K B O ρ Γ σ → EI B O H → T.rep X.K B v a → ∀ Q : L2.St → Hp → Prop, (∀ σ' O', SA X.K B O' (s ρ a) Γ1 σ' → (∀ x i o, O' x = some (i, o) → O x = some (i, o)) → Q σ' H) → wpG X tg v σ H Q
theorem gm_name {i : Nat} {x : Str} {p : Pos} {g : E → α} {s : E → α → E} (nd : X.N.Nodup) (hg : ∀ ρ a, g (s ρ a) = a) (hk : Keeps s Γ i) (hi : i < Γ.length) (hN : X.N[i]? = some x := by rfl) (hx : Loc X.env.scope x := by first | exact Or.inl rfl | exact Or.inr rfl)
    (hf : X.fn x = true ∨ X.env.scope.names.lookup x = some .local := by first | exact .inl rfl | exact .inr rfl) : GM X Γ (.Name x p) T (Γ.set i (.dat T g)) s := fun ρ σ B O H v a S I r Q q =>
  ⟨_, pg_name nd hN hx hf, q _ (owDrop O i) (S.set hi r hg hk) fun x j o e => (owDrop_some e).1⟩
theorem FI.less {B0 H0 B H : Hp} {O O' : Ow} (I : FI B0 H0 B O H) (h : ∀ x i o, O' x = some (i, o) → O x = some (i, o)) : FI B0 H0 B O' H := ⟨I.bb, I.bh, I.hh, fun a i o e => I.oo a i o (h a i o e), I.nw⟩
theorem EI.less {B H : Hp} {O O' : Ow} (I : EI B O H) (h : ∀ x i o, O' x = some (i, o) → O x = some (i, o)) : EI B O' H := ⟨I.bh, fun a i o e => I.oo a i o (h a i o e)⟩
/-- two parts -/
def set2 {E α β : Type} (s : E → α → E) (s' : E → β → E) : E → α × β → E := fun ρ x => s' (s ρ x.1) x.2
def set3 {E α β γ : Type} (s : E → α → E) (s' : E → β → E) (s'' : E → γ → E) : E → α × β × γ → E := fun ρ x => s'' (s' (s ρ x.1) x.2.1) x.2.2
theorem gm_pair {a b : Expr} {k : Nat} {p : Pos} {s : E → α → E} {s' : E → β → E} (h1 : GM X Γ a T Γ1 s) (h2 : GM X Γ1 b U Γ2 s') (hc : X.calm = true := by rfl)
    (e1 : (assignEach [a, b] X.env).map (·.2) = assign a X.env :: (assignEach [b] X.env).map (·.2) := by rfl) (e2 : (assignEach [b] X.env).map (·.2) = assign b X.env :: (assignEach [] X.env).map (·.2) := by rfl)
    (hn : (assignEach [a, b] X.env).length = 2 := by rfl) (hst : (assignEach [a, b] X.env).findIdx? (·.1) = none := by rfl) : GM X Γ (.Tuple [a, b] k p) (tPair T U) Γ2 (set2 s s') := fun ρ σ B O H v x S I ⟨q, y, z, hv, hq, ry, rz⟩ Q hQ => by
  subst hv
  refine ⟨_, pg_tup hc (pgs_cons (pg_wp X a) (pgs_cons (pg_wp X b) pgs_nil e2) e1) hn hst, q, [y, z], rfl, ex_t I.bh hq, rfl, y, [z], rfl, ?_⟩
  refine h1 ρ σ B O H y x.1 S I ry _ fun σ1 O1 S1 l1 => ⟨z, [], rfl, ?_⟩
  exact h2 _ σ1 B O1 H z x.2 S1 (I.less l1) rz _ fun σ2 O2 S2 l2 => ⟨rfl, hQ σ2 O2 S2 fun x i o e => l1 x i o (l2 x i o e)⟩
theorem gm_tri {a b c : Expr} {W : Ty γ} {Γ3 : List (SK E)} {k : Nat} {p : Pos} {s : E → α → E} {s' : E → β → E} {s'' : E → γ → E} (h1 : GM X Γ a T Γ1 s) (h2 : GM X Γ1 b U Γ2 s') (h3 : GM X Γ2 c W Γ3 s'') (hc : X.calm = true := by rfl)
    (e1 : (assignEach [a, b, c] X.env).map (·.2) = assign a X.env :: (assignEach [b, c] X.env).map (·.2) := by rfl) (e2 : (assignEach [b, c] X.env).map (·.2) = assign b X.env :: (assignEach [c] X.env).map (·.2) := by rfl) (e3 : (assignEach [c] X.env).map (·.2) = assign c X.env :: (assignEach [] X.env).map (·.2) := by rfl)
    (hn : (assignEach [a, b, c] X.env).length = 3 := by rfl) (hst : (assignEach [a, b, c] X.env).findIdx? (·.1) = none := by rfl) : GM X Γ (.Tuple [a, b, c] k p) (tTri T U W) Γ3 (set3 s s' s'') := fun ρ σ B O H v x S I ⟨q, y, z, w, hv, hq, ry, rz, rw'⟩ Q hQ => by
  subst hv
  refine ⟨_, pg_tup hc (pgs_cons (pg_wp X a) (pgs_cons (pg_wp X b) (pgs_cons (pg_wp X c) pgs_nil e3) e2) e1) hn hst, q, [y, z, w], rfl, ex_t I.bh hq, rfl, y, [z, w], rfl, ?_⟩
  refine h1 ρ σ B O H y x.1 S I ry _ fun σ1 O1 S1 l1 => ⟨z, [w], rfl, ?_⟩
  refine h2 _ σ1 B O1 H z x.2.1 S1 (I.less l1) rz _ fun σ2 O2 S2 l2 => ⟨w, [], rfl, ?_⟩
  exact h3 _ σ2 B O2 H w x.2.2 S2 ((I.less l1).less l2) rw' _ fun σ3 O3 S3 l3 => ⟨rfl, hQ σ3 O3 S3 fun x i o e => l1 x i o (l2 x i o (l3 x i o e))⟩
/-- target = e -/
theorem sv_asg {tg e : Expr} {f : E → Option (α × E)} {s : E → α → E} (he : EM X Γ e T f) (hg : GM X Γ tg T Γ1 s) (hs : swapsWithSole [tg] e pos.line X.env = pure false := by rfl) (hw : swappedStores [tg] e X.env = pure none := by rfl)
    (h1 : (assignEach [tg] X.env).map (·.2) = [assign tg X.env] := by rfl) : SV X Jc Γ (.Assign [tg] e pos) Γ1 (setF s f) := fun ρ B0 H0 σ B O H S I fl hfl D q => by
  unfold setF at hfl
  cases hq : f ρ with
  | none => rw [hq] at hfl; cases hfl
  | some r =>
    rw [hq] at hfl
    cases hfl
    exact ⟨_, ps_asg (pe_wp X e) (pg_wp X tg) hs hw h1, he ρ σ B O H S I.ei r.1 r.2 hq _ fun v B' O' H' st S' rr => hg _ σ B' O' H' v r.1 S' (I.ei.stO st) rr _ fun σ' O2 S2 l2 => q σ' B' O2 H' S2 ((I.stO st).less l2)⟩

/-! ### for -/
def forL {E R α : Type} (s : E → α → E) (fb : E → Option (Fl E R)) : List α → E → Option (Fl E R)
  | [], ρ => some (.nx ρ)
  | x :: r, ρ => (fb (s ρ x)).bind fun fl => match fl with
    | .nx ρ' => forL s fb r ρ'
    | .ct ρ' => forL s fb r ρ'
    | .bk ρ' => some (.nx ρ')
    | .rt v ρ' => some (.rt v ρ')
    | .ex x ρ' => some (.ex x ρ')
def forF {E R α : Type} (s : E → α → E) (f : E → Option (List α × E)) (fb : E → Option (Fl E R)) : E → Option (Fl E R) := fun ρ => (f ρ).bind fun x => forL s fb x.1 x.2
theorem FI.from {B0 H0 B1 B H : Hp} {O : Ow} (I : FI B0 H0 B O H) (e0 : Ex B0 B1) (e : Ex B1 B) : FI B1 H0 B O H :=
  ⟨e, I.bh, I.hh, I.oo, fun a h1 h2 => I.nw a (none_back e0 h1) h2⟩
theorem FI.rebase {B0 H0 B1 H1 B H : Hp} {O O1 : Ow} (I1 : FI B0 H0 B1 O1 H1) (I : FI B1 H0 B O H) : FI B0 H0 B O H :=
  ⟨I1.bb.trans I.bb, I.bh, I.hh, I.oo, fun a h1 h2 => I.nw a (I1.nw a h1 h2) h2⟩
theorem sv_for {tg iter : Expr} {body : List Stmt} {f : E → Option (List α × E)} {s : E → α → E} {fb : E → Option (Fl E R)} (hi : IM X Γ tg iter T f) (w0 : WeakL Γ Γl) (hg : GM X Γl tg T Γ1 s)
    (hb : SVs X { Jc with gb := Γn, gc := Γl } Γ1 body Γ2 fb) (w2 : WeakL Γ2 Γl) (wn : WeakL Γl Γn) (hp : PassesOwn (model X.prog X.w) X.A X.env X.xe) (hc : X.calm = true := by rfl) (hs : ∀ x, foldedSetIterable iter X.env x = pure x := by intro _; rfl) :
    SV X Jc Γ (.For tg iter body [] pos) Γn (forF s f fb) := fun ρ B0 H0 σ B O H S I fl hfl D q => by
  unfold forF at hfl
  cases hq : f ρ with
  | none => rw [hq] at hfl; cases hfl
  | some r =>
    rw [hq] at hfl
    obtain ⟨xs, ρ1⟩ := r
    refine ⟨_, ps_for hp hc (pi_wp X tg iter) (pg_wp X tg) (pss_wp X body) hs, ?_⟩
    refine hi ρ σ B O H S I.ei xs ρ1 hq _ fun Jt B1 O1 H1 s1 S1 ok => ?_
    have IL := I.stO s1
    refine ⟨fun i m σ' H' => m = xs.length - i ∧ i ≤ xs.length ∧ ∃ ρ' B' O', SA X.K B' O' ρ' Γl σ' ∧ FI B1 H0 B' O' H' ∧ forL s fb (xs.drop i) ρ' = some fl, ⟨xs.length, by simp, Nat.zero_le _, ρ1, B1, O1, S1.weak w0, IL.from IL.bb (Ex.refl _), hfl⟩, ?_⟩
    rintro i m σ' H' ⟨rfl, hle, ρ', B', O', S', I', hf'⟩
    by_cases hlt : i < xs.length
    · right
      refine ⟨ok.go i H' (I'.bb.trans I'.bh) hlt, fun σ' H' => ∃ ρ' B' O', SA X.K B' O' ρ' Γl σ' ∧ FI B1 H0 B' O' H' ∧ forL s fb (xs.drop (i + 1)) ρ' = some fl, fun σ2 H2 h2 => ⟨xs.length - (i + 1), by omega, rfl, hlt, h2⟩, fun x H2 hy => ?_⟩
      have hx : xs[i]? = some xs[i] := List.getElem?_eq_getElem hlt
      obtain ⟨B2, s2, r2⟩ := ok.yld i H' B' x xs[i] H2 I'.bb I'.bh hx hy
      rw [List.drop_eq_getElem_cons hlt] at hf'
      have I2 := I'.step s2
      refine hg ρ' σ' B2 O' H2 x xs[i] (S'.mono s2.bb) I2.ei r2 _ fun σ3 O3 S3 l3 => ?_
      have I3 := I2.less l3
      unfold forL at hf'
      cases hfb : fb (s ρ' xs[i]) with
      | none => rw [hfb] at hf'; cases hf'
      | some flb =>
        rw [hfb] at hf'
        refine hb _ B1 H0 σ3 B2 O3 H2 S3 I3 flb hfb _ ?_
        cases flb with
        | nx ρ4 => exact fun σ4 B4 O4 H4 S4 I4 => ⟨ρ4, B4, O4, S4.weak w2, I4, hf'⟩
        | ct ρ4 => exact fun σ4 B4 O4 H4 S4 I4 => ⟨ρ4, B4, O4, S4, I4, hf'⟩
        | bk ρ4 =>
          cases hf'
          exact fun σ4 B4 O4 H4 S4 I4 => q σ4 B4 O4 H4 S4 (IL.rebase I4)
        | rt v ρ4 =>
          cases hf'
          exact fun u B4 O4 H4 L4 I4 r4 => q u B4 O4 H4 L4 (IL.rebase I4) r4
        | ex x ρ4 =>
          cases hf'
          exact fun c d σ4 B4 O4 H4 L4 I4 r4 => q c d σ4 B4 O4 H4 L4 (IL.rebase I4) r4
    · left
      have e : i = xs.length := by omega
      subst e
      rw [List.drop_length] at hf'
      cases hf'
      exact ⟨ok.stop _ H' (I'.bb.trans I'.bh) (Nat.le_refl _), q σ' B' O' H' (S'.weak wn) (IL.rebase I')⟩

/-! ### while -/
def whileN {E R : Type} (c : E → Option (Bool × E)) (fb : E → Option (Fl E R)) : Nat → E → Option (Fl E R)
  | 0, _ => none
  | n + 1, ρ => (c ρ).bind fun x => if x.1 = true then (fb x.2).bind fun fl => match fl with
    | .nx ρ' => whileN c fb n ρ'
    | .ct ρ' => whileN c fb n ρ'
    | .bk ρ' => some (.nx ρ')
    | .rt v ρ' => some (.rt v ρ')
    | .ex x ρ' => some (.ex x ρ')
    else some (.nx x.2)
theorem sv_while {c : Expr} {body : List Stmt} {t : E → Option (Bool × E)} {fb f : E → Option (Fl E R)} (w0 : WeakL Γ Γl) (hc : EMT X Γl c t) (hb : SVs X { Jc with gb := Γn, gc := Γl } Γl body Γ2 fb) (w2 : WeakL Γ2 Γl) (wn : WeakL Γl Γn)
    (hf : ∀ ρ fl, f ρ = some fl → ∃ n, whileN t fb n ρ = some fl) (hp : PassesOwn (model X.prog X.w) X.A X.env X.xe) : SV X Jc Γ (.While c body [] pos) Γn f := fun ρ B0 H0 σ B O H S I fl hfl D q => by
  obtain ⟨n, hn⟩ := hf ρ fl hfl
  refine ⟨_, ps_while hp (pt_wp X c) (pss_wp X body), ?_⟩
  refine ⟨fun m σ' H' => ∃ ρ' B' O', SA X.K B' O' ρ' Γl σ' ∧ FI B0 H0 B' O' H' ∧ whileN t fb m ρ' = some fl, ⟨n, ρ, B, O, S.weak w0, I, hn⟩, ?_⟩
  rintro m σ' H' ⟨ρ', B', O', S', I', hw⟩
  cases m with
  | zero => cases hw
  | succ m =>
    unfold whileN at hw
    cases hq : t ρ' with
    | none => rw [hq] at hw; cases hw
    | some r =>
      rw [hq] at hw
      obtain ⟨b, ρ1⟩ := r
      refine hc ρ' σ' B' O' H' S' I'.ei b ρ1 hq _ fun B1 O1 H1 s1 S1 => ?_
      have I1 := I'.stO s1
      cases b with
      | false =>
        cases hw
        exact q σ' B1 O1 H1 (S1.weak wn) I1
      | true =>
        rw [if_pos rfl]
        refine ⟨fun σ' H' => ∃ ρ' B' O', SA X.K B' O' ρ' Γl σ' ∧ FI B0 H0 B' O' H' ∧ whileN t fb m ρ' = some fl, fun σ2 H2 h2 => ⟨m, Nat.lt_succ_self _, h2⟩, ?_⟩
        have hw : ((fb ρ1).bind fun fl => match fl with
            | .nx ρ' => whileN t fb m ρ'
            | .ct ρ' => whileN t fb m ρ'
            | .bk ρ' => some (.nx ρ')
            | .rt v ρ' => some (.rt v ρ')
            | .ex x ρ' => some (.ex x ρ')) = some fl := hw
        cases hfb : fb ρ1 with
        | none => rw [hfb] at hw; cases hw
        | some flb =>
          rw [hfb] at hw
          refine hb ρ1 B0 H0 σ' B1 O1 H1 S1 I1 flb hfb _ ?_
          cases flb with
          | nx ρ4 => exact fun σ4 B4 O4 H4 S4 I4 => ⟨ρ4, B4, O4, S4.weak w2, I4, hw⟩
          | ct ρ4 => exact fun σ4 B4 O4 H4 S4 I4 => ⟨ρ4, B4, O4, S4, I4, hw⟩
          | bk ρ4 => cases hw; exact q
          | rt v ρ4 => cases hw; exact q
          | ex x ρ4 => cases hw; exact q

/-! ### comprehensions -/
/-- the i-th slot is forgotten -/
theorem SA.wipe {K : Fg} {B : Hp} {O : Ow} {ρ : E} {σ : L2.St} {i : Nat} (h : SA K B O ρ Γ σ) (hi : i < Γ.length) : SA K B O ρ (Γ.set i .any) (L2.wipe σ [i]) :=
  ⟨by show (σ.set i none).length = _; rw [List.length_set, List.length_set]; exact h.len, fun j k e => by
    show ∃ x, (σ.set i none)[j]? = some x ∧ _
    by_cases z : j = i
    · subst z
      rw [List.getElem?_set_self hi] at e
      cases e
      exact ⟨none, List.getElem?_set_self (by rw [h.len]; exact hi), trivial⟩
    · rw [List.getElem?_set_ne (Ne.symm z)] at e
      obtain ⟨x, h1, h2⟩ := h.at' j k e
      exact ⟨x, by rw [List.getElem?_set_ne (Ne.symm z)]; exact h1, h2⟩⟩
theorem SA.unwipe {K : Fg} {B B' : Hp} {O O' : Ow} {ρ ρ' : E} {σ : L2.St} {i : Nat} (h : SA K B O ρ Γ σ) (hk : Γ[i]? = some .any) (h' : SA K B' O' ρ' (Γ.set i .any) (L2.wipe σ [i])) : SA K B' O' ρ' Γ σ :=
  ⟨h.len, fun j k e => by
    by_cases z : j = i
    · subst z
      rw [hk] at e
      cases e
      obtain ⟨x, h1, h2⟩ := h.at' j _ hk
      exact ⟨x, h1, trivial⟩
    · obtain ⟨x, h1, h2⟩ := h'.at' j k (by rw [List.getElem?_set_ne (Ne.symm z)]; exact e)
      refine ⟨x, ?_, h2⟩
      have h1 : (σ.set i none)[j]? = some x := h1
      rw [List.getElem?_set_ne (Ne.symm z)] at h1
      exact h1⟩
def lcE {E α β : Type} (s : E → α → E) (t : E → Option (Bool × E)) (fe : E → Option (β × E)) : List α → E → Option (List β × E)
  | [], ρ => some ([], ρ)
  | x :: r, ρ => (t (s ρ x)).bind fun b => if b.1 = true then (fe b.2).bind fun y => (lcE s t fe r y.2).map fun z => (y.1 :: z.1, z.2) else lcE s t fe r b.2
def lcF {E α β : Type} (s : E → α → E) (f : E → Option (List α × E)) (t : E → Option (Bool × E)) (fe : E → Option (β × E)) : E → Option (List β × E) := fun ρ => (f ρ).bind fun x => if x.1.length ≤ 16777216 then lcE s t fe x.1 x.2 else none
/-- the tests of a comprehension -/
def EMC (X : Cx) {E : Type} (Γ : List (SK E)) (ifs : List Expr) (f : E → Option (Bool × E)) : Prop :=
  ∀ (ρ : E) (σ : L2.St) (B : Hp) (O : Ow) (H : Hp), SA X.K B O ρ Γ σ → EI B O H → ∀ a ρ', f ρ = some (a, ρ') → ∀ Q : Bool → Hp → Prop, (∀ B' O' H', StO B O H B' O' H' → SA X.K B' O' ρ' Γ σ → Q a H') → ∃ t, PTs X ifs t ∧ t σ H Q
def yesE : E → Option (Bool × E) := fun ρ => some (true, ρ)
theorem emc_nil : EMC X Γ [] yesE := fun ρ σ B O H S I a ρ' ha Q q => by
  cases ha
  exact ⟨_, pts_nil, q B O H (.refl I) S⟩
theorem emc_one {c : Expr} {f : E → Option (Bool × E)} (h : EMT X Γ c f) : EMC X Γ [c] f := fun ρ σ B O H S I a ρ' ha Q q => ⟨_, pts_one (pt_wp X c), h ρ σ B O H S I a ρ' ha Q q⟩
abbrev blkAt (X : Cx) (scope : Scope) (s : Shared) (H : Hp) (C : Addr) (cl : List (Str × Addr)) (fp : List Addr) : Cx := X.blk s H scope (compEnvC scope cl C X.env) fp
theorem lc_gen {P : TE → Prop} {tg iter elt : Expr} {ifs : List Expr} {scope : Scope} {i : Nat} {f : E → Option (List α × E)} {s : E → α → E} {t : E → Option (Bool × E)} {fe : E → Option (β × E)} {g : E → α}
    (hP : ∀ {wi : TI} {tt : TT} {te : TE}, PI X tg iter wi → (∀ s H C cl fp, PTs (blkAt X scope s H C cl fp) ifs tt) → (∀ s H C cl fp, PE (blkAt X scope s H C cl fp) elt te) → P (tLc wi (gName i) tt te [i]))
    (hi : IM X Γ tg iter T f) (hany : Γ[i]? = some .any) (hg : ∀ ρ a, g (s ρ a) = a) (hk : Keeps s Γ i)
    (ht : ∀ s H C cl fp, EMC (blkAt X scope s H C cl fp) (Γ.set i (.dat T g)) ifs t) (he : ∀ s H C cl fp, EM (blkAt X scope s H C cl fp) (Γ.set i (.dat T g)) elt U fe) :
    EMO P X Γ (oList U) (lcF s f t fe) := fun ρ σ B O H S I res ρf hf Q q => by
  have hlen : i < Γ.length := (List.getElem?_eq_some_iff.mp hany).1
  unfold lcF at hf
  cases hq : f ρ with
  | none => rw [hq] at hf; cases hf
  | some r =>
    rw [hq] at hf
    obtain ⟨xs, ρ1⟩ := r
    have hf : (if xs.length ≤ 16777216 then lcE s t fe xs ρ1 else none) = some (res, ρf) := hf
    by_cases hz : xs.length ≤ 16777216
    · rw [if_pos hz] at hf
      refine ⟨_, hP (wi := wpI X tg iter) (tt := fun σ H Q => ∀ s Hs C cl fp, ∃ t, PTs (blkAt X scope s Hs C cl fp) ifs t ∧ t σ H Q) (te := fun σ H Q => ∀ s Hs C cl fp, wpE (blkAt X scope s Hs C cl fp) elt σ H Q) (pi_wp X tg iter)
        (fun s Hs C cl fp => ⟨fun pins s' σ' H' Q I w => by obtain ⟨t, h1, h2⟩ := w s Hs C cl fp; exact h1.run pins s' σ' H' Q I h2⟩) (fun s Hs C cl fp => ⟨fun pins s' σ' H' Q I w => (pe_wp _ elt).run pins s' σ' H' Q I (w s Hs C cl fp)⟩), ?_⟩
      refine hi ρ σ B O H S I xs ρ1 hq _ fun Jt B1 O1 H1 s1 S1 ok D hD => ?_
      have I1 := I.stO s1
      have hB1 : B1 D = none := none_back I1.bh hD
      have hO1 : ∀ {O2 : Ow} {B2 H2 : Hp}, StO B1 O1 H1 B2 O2 H2 → O2 D = none := fun {O2 B2 H2} st => by
        cases z : O2 D with
        | none => rfl
        | some y =>
          obtain ⟨_, o0, z0⟩ := st.ow D y.1 y.2 z
          have := (I1.oo D y.1 o0 z0).1
          rw [hD] at this; cases this
      -- the step up to now, beside the new list
      have grow : ∀ {B2 H2 : Hp} {O2 : Ow} {o : HO}, StO B1 O1 H1 B2 O2 H2 → B2 D = none → StO B1 O1 H1 B2 O2 (upd H2 D o) := fun {B2 H2 O2 o} st hb => ⟨st.bb, fun a u z => by
          have : a ≠ D := fun y => by subst y; rw [hb] at z; cases z
          rw [upd_ne this]; exact st.bh a u z, fun a u z n => by
          have : a ≠ D := fun y => by subst y; rw [hD] at z; cases z
          rw [upd_ne this]; exact st.hh a u z n, st.nw, fun a j u z => by
          have : a ≠ D := fun y => by subst y; rw [hO1 st] at z; cases z
          rw [upd_ne this]; exact st.ow a j u z, fun a z => by
          have : a ≠ D := fun y => by subst y; exact z hD
          rw [upd_ne this]; exact st.th a z⟩
      refine ⟨fun k m H' => m = xs.length - k ∧ k ≤ xs.length ∧ ∃ ρ' B' O' vs acc rest, SA X.K B' O' ρ' (Γ.set i .any) (L2.wipe σ [i]) ∧ StO B1 O1 H1 B' O' H' ∧ B' D = none ∧ H' D = some (.lst vs) ∧ Paired (U.rep X.K B') vs acc ∧ acc.length ≤ k ∧ lcE s t fe (xs.drop k) ρ' = some (rest, ρf) ∧ acc ++ rest = res,
        ⟨xs.length, by simp, Nat.zero_le _, ρ1, B1, O1, [], [], res, S1.wipe hlen, grow (.refl I1) hB1, hB1, upd_same, .nil, Nat.le_refl _, hf, rfl⟩, ?_⟩
      rintro k m H' ⟨rfl, hle, ρ', B', O', vs, acc, rest, S', st, hb, hD', rp, ha, hl, hr⟩
      by_cases hlt : k < xs.length
      · right
        refine ⟨ok.go k H' (st.bb.trans st.bh) hlt, fun H' => ∃ ρ' B' O' vs acc rest, SA X.K B' O' ρ' (Γ.set i .any) (L2.wipe σ [i]) ∧ StO B1 O1 H1 B' O' H' ∧ B' D = none ∧ H' D = some (.lst vs) ∧ Paired (U.rep X.K B') vs acc ∧ acc.length ≤ k + 1 ∧ lcE s t fe (xs.drop (k + 1)) ρ' = some (rest, ρf) ∧ acc ++ rest = res, fun H2 h2 => ⟨xs.length - (k + 1), by omega, rfl, hlt, h2⟩, fun x H2 hy => ?_⟩
        have hx : xs[k]? = some xs[k] := List.getElem?_eq_getElem hlt
        obtain ⟨B2, s2, r2⟩ := ok.yld k H' B' x xs[k] H2 st.bb st.bh hx hy
        rw [List.drop_eq_getElem_cons hlt] at hl
        have I2 : EI B2 O' H2 := (I1.stO st).step s2
        have hi2 : i < (Γ.set i SK.any).length := by rw [List.length_set]; exact hlen
        have hk2 : Keeps s (Γ.set i .any) i := by
          have aux : ∀ (Γ : List (SK E)) (i : Nat), Keeps s Γ i → Keeps s (Γ.set i .any) i := fun Γ => by
            induction Γ with
            | nil => intro i h; exact h
            | cons a r ih =>
              intro i h
              cases i with
              | zero => exact h
              | succ i => exact ⟨h.1, ih i h.2⟩
          exact aux Γ i hk
        have S2 := (S'.mono s2.bb).set hi2 r2 hg hk2
        rw [List.set_set] at S2
        have I2' : EI B2 (owDrop O' i) H2 := I2.less fun a j o e => (owDrop_some e).1
        refine ⟨by show (((σ.set i none).set i (some x)).set i none) = σ.set i none; rw [List.set_set, List.set_set], ?_⟩
        have stD : ∀ {B3 H3 : Hp} {O3 : Ow}, StO B2 (owDrop O' i) H2 B3 O3 H3 → H3 D = some (.lst vs) ∧ B3 D = none ∧ StO B1 O1 H1 B3 O3 H3 := fun {B3 H3 O3} s3 => by
          have hn : (owDrop O' i) D = none := by
            unfold owDrop
            rw [hO1 st]
          have hd2 : H2 D = some (.lst vs) := s2.hh D _ hD'
          refine ⟨s3.hh D _ hd2 hn, s3.nw D (s2.nw D hb (by rw [hD']; exact fun z => by cases z)) (by rw [hd2]; exact fun z => by cases z), ?_⟩
          have s2' : StO B' O' H' B2 (owDrop O' i) H2 := ⟨s2.bb, s2.bh, fun a o h _ => s2.hh a o h, s2.nw, fun a j o e => by
            have e1 := (owDrop_some e).1
            exact ⟨s2.hh a o ((I1.stO st).oo a j o e1).1, o, e1⟩, fun a h z => h (none_back s2.hh z)⟩
          exact (st.trans s2').trans s3
        have back : ∀ {B3 : Hp} {O3 : Ow} {ρ3 : E}, SA X.K B3 O3 ρ3 (Γ.set i (.dat T g)) ((L2.wipe σ [i]).set i (some x)) → SA X.K B3 O3 ρ3 (Γ.set i .any) (L2.wipe σ [i]) := fun {B3 O3 ρ3} h3 => by
          have h4 := h3.wipe (i := i) (by rw [List.length_set]; exact hlen)
          rw [List.set_set] at h4
          have : L2.wipe ((L2.wipe σ [i]).set i (some x)) [i] = L2.wipe σ [i] := by
            show (((σ.set i none).set i (some x)).set i none) = σ.set i none
            rw [List.set_set, List.set_set]
          rw [this] at h4
          exact h4
        unfold lcE at hl
        cases hb2 : t (s ρ' xs[k]) with
        | none => rw [hb2] at hl; cases hl
        | some bt =>
          rw [hb2] at hl
          obtain ⟨b, ρ3⟩ := bt
          intro sx Hx Cx clx fpx
          refine ht sx Hx Cx clx fpx _ _ B2 _ H2 S2 I2' b ρ3 hb2 _ fun B3 O3 H3 s3 S3 => ?_
          cases b with
          | false =>
            rw [if_neg Bool.false_ne_true]
            obtain ⟨d1, d2, d3⟩ := stD s3
            exact ⟨ρ3, B3, O3, vs, acc, rest, back S3, d3, d2, d1, Paired.imp (fun _ _ => U.mono (s2.bb.trans s3.bb)) rp, Nat.le_succ_of_le ha, hl, hr⟩
          | true =>
            rw [if_pos rfl]
            have hl : ((fe ρ3).bind fun y => (lcE s t fe (xs.drop (k + 1)) y.2).map fun z => (y.1 :: z.1, z.2)) = some (rest, ρf) := hl
            cases hfe : fe ρ3 with
            | none => rw [hfe] at hl; cases hl
            | some yr =>
              obtain ⟨y, ρ4⟩ := yr
              rw [hfe] at hl
              intro sy Hy Cy cly fpy
              refine he sy Hy Cy cly fpy _ _ B3 O3 H3 S3 (I2'.stO s3) y ρ4 hfe _ fun v B4 O4 H4 s4 S4 r4 => ?_
              obtain ⟨d1, d2, d3⟩ := stD (s3.trans s4)
              have hl : ((lcE s t fe (xs.drop (k + 1)) ρ4).map fun z => (y :: z.1, z.2)) = some (rest, ρf) := hl
              cases hrest : lcE s t fe (xs.drop (k + 1)) ρ4 with
              | none => rw [hrest] at hl; cases hl
              | some z =>
                rw [hrest] at hl
                cases hl
                have hlenv : vs.length = acc.length := pr_len rp
                refine ⟨vs, d1, by rw [sizeLine_eq, hlenv]; omega, ρ4, B4, O4, vs ++ [v], acc ++ [y], z.1, back S4, grow d3 d2, d2, upd_same, pr_app (Paired.imp (fun _ _ => U.mono ((s2.bb.trans s3.bb).trans s4.bb)) rp) (.cons r4 .nil), ?_, hrest, ?_⟩
                · rw [List.length_append]; exact Nat.add_le_add_right ha 1
                · rw [List.append_assoc]; exact hr
      · left
        have e : k = xs.length := by omega
        subst e
        rw [List.drop_length] at hl
        cases hl
        rw [List.append_nil] at hr
        subst hr
        refine ⟨ok.stop _ H' (st.bb.trans st.bh) (Nat.le_refl _), q D (.lst vs) B' O' H' (s1.trans st) (S1.unwipe hany S') ?_ hb (hO1 st) hD' ⟨vs, rfl, rp⟩⟩
        cases z : H D with
        | none => rfl
        | some u => exact absurd hD (s1.th D (by rw [z]; exact fun y => by cases y))
    · rw [if_neg hz] at hf; cases hf
/-- [elt for x in iter if ..] -/
theorem emo_lc {iter elt : Expr} {x : Str} {p : Pos} {ifs : List Expr} {scope : Scope} {i : Nat} {f : E → Option (List α × E)} {s : E → α → E} {t : E → Option (Bool × E)} {fe : E → Option (β × E)} {g : E → α}
    (nd : X.N.Nodup) (hi : IM X Γ (.Name x p) iter T f) (hany : Γ[i]? = some .any) (hg : ∀ ρ a, g (s ρ a) = a) (hk : Keeps s Γ i) (ok : BlkOk X.N X.env.scope scope [(x, i)])
    (ht : ∀ s H C cl fp, EMC (blkAt X scope s H C cl fp) (Γ.set i (.dat T g)) ifs t) (he : ∀ s H C cl fp, EM (blkAt X scope s H C cl fp) (Γ.set i (.dat T g)) elt U fe)
    (hx : ∀ C cl, Loc (compEnvC scope cl C X.env).scope x := by intro _ _; first | exact Or.inl rfl | exact Or.inr rfl) (hN : X.N[i]? = some x := by rfl) (hc : X.calm = true := by rfl) (hs : ∀ x, foldedSetIterable iter X.env x = pure x := by intro _; rfl)
    (hf : ∀ C cl, (scope.names.lookup x == some .cell) = true ∨ (compEnvC scope cl C X.env).scope.names.lookup x = some .local := by intro _ _; first | exact .inr rfl | exact .inl rfl) :
    EMO (PE X (.ListComp elt [⟨.Name x p, iter, ifs, 0⟩] scope pos)) X Γ (oList U) (lcF s f t fe) :=
  lc_gen (fun hpi hts hes => pe_lc (own := [(x, i)]) (g := gName i) hc nd hpi ok (fun _ _ C cl _ => pg_name nd hN (hx C cl) (hf C cl)) hts hes hs) hi hany hg hk ht he
/-- y = [elt for x in iter if ..] -/
theorem emo_lcSet {iter elt : Expr} {x y : Str} {p py spos : Pos} {ifs : List Expr} {scope : Scope} {i j : Nat} {f : E → Option (List α × E)} {s : E → α → E} {t : E → Option (Bool × E)} {fe : E → Option (β × E)} {g : E → α}
    (nd : X.N.Nodup) (hi : IM X Γ (.Name x p) iter T f) (hany : Γ[i]? = some .any) (hg : ∀ ρ a, g (s ρ a) = a) (hk : Keeps s Γ i) (ok : BlkOk X.N X.env.scope scope [(x, i)])
    (ht : ∀ s H C cl fp, EMC (blkAt X scope s H C cl fp) (Γ.set i (.dat T g)) ifs t) (he : ∀ s H C cl fp, EM (blkAt X scope s H C cl fp) (Γ.set i (.dat T g)) elt U fe)
    (hsw : swapsWith (.ListComp elt [⟨.Name x p, iter, ifs, 0⟩] scope pos) (some (.Name y py)) spos.line X.env = pure true) (hy : X.N[j]? = some y := by rfl) (hyl : X.env.scope.names.lookup y = some .local := by rfl)
    (hx : ∀ C cl, Loc (compEnvC scope cl C X.env).scope x := by intro _ _; first | exact Or.inl rfl | exact Or.inr rfl) (hN : X.N[i]? = some x := by rfl) (hc : X.calm = true := by rfl) (hs : ∀ x, foldedSetIterable iter X.env x = pure x := by intro _; rfl)
    (hf : ∀ C cl, (scope.names.lookup x == some .cell) = true ∨ (compEnvC scope cl C X.env).scope.names.lookup x = some .local := by intro _ _; first | exact .inr rfl | exact .inl rfl) :
    EMO (fun t => PS X (.Assign [.Name y py] (.ListComp elt [⟨.Name x p, iter, ifs, 0⟩] scope pos) spos) (tAsg t (gName j))) X Γ (oList U) (lcF s f t fe) :=
  lc_gen (fun hpi hts hes => ps_setLc (own := [(x, i)]) (g := gName i) hc nd hy hyl hsw hpi ok (fun _ _ C cl _ => pg_name nd hN (hx C cl) (hf C cl)) hts hes hs) hi hany hg hk ht he
/-- an own list handed over as data -/
theorem emd_list {P : TE → Prop} {f : E → Option (List α × E)} {Q : Prop} (h : EMO P X Γ (oList T) f) :
    ∀ (ρ : E) (σ : L2.St) (B : Hp) (O : Ow) (H : Hp), SA X.K B O ρ Γ σ → EI B O H → ∀ a ρ', f ρ = some (a, ρ') → ∀ Q : VK, (∀ v B' O' H', StO B O H B' O' H' → SA X.K B' O' ρ' Γ σ → (tList T).rep X.K B' v a → Q v H') → ∃ t, P t ∧ t σ H Q := fun ρ σ B O H S I a ρ' ha Q q =>
  h ρ σ B O H S I a ρ' ha Q fun p o B' O' H' s S' hn hb ho' hp ⟨vs, ho, r⟩ => by
    subst ho
    refine q (.ref p) (upd B' p (.lst vs)) O' H' ⟨s.bb.trans (Ex.new hb), fun a u z => ?_, s.hh, fun a h1 h2 => ?_, s.ow, s.th⟩ (S'.mono (Ex.new hb)) ⟨p, vs, rfl, SqL.of upd_same, Paired.imp (fun _ _ => T.mono (Ex.new hb)) r⟩
    · by_cases y : a = p
      · subst y; rw [upd_same] at z; cases z; exact hp
      · rw [upd_ne y] at z; exact s.bh a u z
    · have : a ≠ p := fun z => by subst z; exact h2 hn
      rw [upd_ne this]; exact s.nw a h1 h2
end
end ML

/-! the mirror layer: operators, built-ins, lists, texts -/
namespace ML
open PySem PySem.Spec PyProof.Rows L2

/-! ### texts as lists of signs -/
abbrev S (l : List Nat) : Str := ⟨l.toArray⟩
theorem S_len (l : List Nat) : (S l).length = l.length := by rw [TL.len_tl]
theorem S_app (a b : List Nat) : S a ++ S b = S (a ++ b) := TL.ext_tl (by rw [TL.tl_append])
theorem S_inj {a b : List Nat} (h : S a = S b) : a = b := by
  have := congrArg TL.tl h
  exact this
theorem S_mk (z : Str) : z = S z.cps.toList := rfl

section
variable {X : Cx} {E α β γ : Type} {Γ : List (SK E)} {T : Ty α} {U : Ty β} {W : Ty γ} {e a b : Expr} {pos : Pos}
/-! ### ints -/
theorem r_I0 {g : Int → Int → Int} : R2M X (rI0 fun i j => .int (g i j)) tInt tInt tInt (fun i j => some (g i j)) := fun B H u v x y z e hu hv hm Q q => by
  cases hm
  exact ⟨x, y, hu, hv, q _ B H (.refl e) rfl⟩
theorem r_I0b {g : Int → Int → Bool} : R2M X (rI0 fun i j => .bl (g i j)) tInt tInt tBool (fun i j => some (g i j)) := fun B H u v x y z e hu hv hm Q q => by
  cases hm
  exact ⟨x, y, hu, hv, q _ B H (.refl e) rfl⟩
theorem r_I {C : Int → Int → Prop} {D : Int → Int → Prop} [∀ i j, Decidable (D i j)] {g : Int → Int → Int} (hD : ∀ i j, D i j → C i j) : R2M X (rI C fun i j => .int (g i j)) tInt tInt tInt (fun i j => if D i j then some (g i j) else none) := fun B H u v x y z e hu hv hm Q q => by
  dsimp only at hm
  by_cases h : D x y
  · rw [if_pos h] at hm
    cases hm
    exact ⟨x, y, hu, hv, hD x y h, q _ B H (.refl e) rfl⟩
  · rw [if_neg h] at hm; cases hm
abbrev mAdd (i j : Int) : Option Int := some (i + j)
abbrev mSub (i j : Int) : Option Int := some (i - j)
abbrev mMul (i j : Int) : Option Int := if (-(2 ^ 64) < i ∧ i < 2 ^ 64) ∨ (-(2 ^ 64) < j ∧ j < 2 ^ 64) then some (i * j) else none
abbrev mFdiv (i j : Int) : Option Int := if j ≠ 0 ∧ j.natAbs < 1073741824 then some (i.fdiv j) else none
abbrev mMod (i j : Int) : Option Int := if j ≠ 0 then some (i.fmod j) else none
abbrev mPow (i j : Int) : Option Int := if 0 ≤ j ∧ j ≤ 1000000 ∧ i.natAbs < 2 ^ 64 then some (i ^ j.toNat) else none
abbrev mShl (i j : Int) : Option Int := if 0 ≤ j ∧ j ≤ 1000000 ∧ i.natAbs < 2 ^ 64 then some (i * 2 ^ j.toNat) else none
abbrev mShr (i j : Int) : Option Int := if 0 ≤ j then some (i / 2 ^ j.toNat) else none
theorem r_add : R2M X (rI0 fun i j => .int (i + j)) tInt tInt tInt mAdd := r_I0
theorem r_sub : R2M X (rI0 fun i j => .int (i - j)) tInt tInt tInt mSub := r_I0
theorem r_mul : R2M X (rI CMul fun i j => .int (i * j)) tInt tInt tInt mMul := r_I fun _ _ h => h
theorem r_fdiv : R2M X (rI CDivN fun i j => .int (i.fdiv j)) tInt tInt tInt mFdiv := r_I fun _ _ h => h
theorem r_mod : R2M X (rI (fun _ j => j ≠ 0) fun i j => .int (i.fmod j)) tInt tInt tInt mMod := r_I fun _ _ h => h
theorem r_pow : R2M X (rI CPow fun i j => .int (i ^ j.toNat)) tInt tInt tInt mPow := r_I fun _ _ h => h
theorem r_shl : R2M X (rI CPow fun i j => .int (i * 2 ^ j.toNat)) tInt tInt tInt mShl := r_I fun _ _ h => h
theorem r_shr : R2M X (rI (fun _ j => 0 ≤ j) fun i j => .int (i / 2 ^ j.toNat)) tInt tInt tInt mShr := r_I fun _ _ h => h
theorem r_and : R2M X (rI0 fun i j => .int (Builtin.bitAnd i j)) tInt tInt tInt (fun i j => some (Builtin.bitAnd i j)) := r_I0
theorem r_or : R2M X (rI0 fun i j => .int (Builtin.bitOr i j)) tInt tInt tInt (fun i j => some (Builtin.bitOr i j)) := r_I0
theorem r_lt : R2M X (rI0 fun i j => .bl (decide (i < j))) tInt tInt tBool (fun i j => some (decide (i < j))) := r_I0b
theorem r_le : R2M X (rI0 fun i j => .bl (decide (i ≤ j))) tInt tInt tBool (fun i j => some (decide (i ≤ j))) := r_I0b
theorem r_gt : R2M X (rI0 fun i j => .bl (decide (j < i))) tInt tInt tBool (fun i j => some (decide (j < i))) := r_I0b
theorem r_ge : R2M X (rI0 fun i j => .bl (decide (j ≤ i))) tInt tInt tBool (fun i j => some (decide (j ≤ i))) := r_I0b
abbrev mEq {α : Type} [DecidableEq α] (i j : α) : Option Bool := some (decide (i = j))
abbrev mNe {α : Type} [DecidableEq α] (i j : α) : Option Bool := some (!decide (i = j))
abbrev mIn {α : Type} [DecidableEq α] (x : α) (xs : List α) : Option Bool := some (decide (x ∈ xs))
abbrev mNotIn {α : Type} [DecidableEq α] (x : α) (xs : List α) : Option Bool := some (!decide (x ∈ xs))
theorem r_eqI : R2M X rEq tInt tInt tBool mEq := fun B H u v x y z e hu hv hm Q q => by
  cases hm
  cases hu
  cases hv
  refine ⟨rfl, q _ B H (.refl e) ?_⟩
  show V.bl _ = V.bl _
  rw [dec_int, Bool.beq_eq_decide_eq]
theorem r_neI : R2M X rNe tInt tInt tBool mNe := fun B H u v x y z e hu hv hm Q q => by
  cases hm
  cases hu
  cases hv
  refine ⟨rfl, q _ B H (.refl e) ?_⟩
  show V.bl _ = V.bl _
  rw [dec_int, Bool.beq_eq_decide_eq]
theorem dec_S (x y : List Nat) : decide (V.str (S x) = V.str (S y)) = decide (x = y) := by
  by_cases h : x = y
  · subst h; simp
  · rw [decide_eq_false h, decide_eq_false fun z => h (S_inj (V.str.inj z))]
theorem r_eqS : R2M X rEq tStr tStr tBool mEq := fun B H u v x y z e hu hv hm Q q => by
  cases hm
  obtain ⟨rfl, _⟩ := hu
  obtain ⟨rfl, _⟩ := hv
  exact ⟨rfl, q _ B H (.refl e) (by show V.bl _ = V.bl _; rw [dec_S])⟩
theorem r_neS : R2M X rNe tStr tStr tBool mNe := fun B H u v x y z e hu hv hm Q q => by
  cases hm
  obtain ⟨rfl, _⟩ := hu
  obtain ⟨rfl, _⟩ := hv
  exact ⟨rfl, q _ B H (.refl e) (by show V.bl _ = V.bl _; rw [dec_S])⟩
theorem r_eqB : R2M X rEq tBool tBool tBool mEq := fun B H u v x y z e hu hv hm Q q => by
  cases hm
  cases hu
  cases hv
  refine ⟨rfl, q _ B H (.refl e) ?_⟩
  show V.bl _ = V.bl _
  by_cases h : x = y
  · subst h; simp
  · rw [decide_eq_false h, decide_eq_false fun z => h (V.bl.inj z)]
theorem r_neB : R2M X rNe tBool tBool tBool mNe := fun B H u v x y z e hu hv hm Q q => by
  cases hm
  cases hu
  cases hv
  refine ⟨rfl, q _ B H (.refl e) ?_⟩
  show V.bl _ = V.bl _
  by_cases h : x = y
  · subst h; simp
  · rw [decide_eq_false h, decide_eq_false fun z => h (V.bl.inj z)]
abbrev mCat (i j : List Nat) : Option (List Nat) := if i.length + j.length ≤ 16777216 then some (i ++ j) else none
theorem r_cat : R2M X (fun x y H Q => ∃ i j, x = .str i ∧ y = .str j ∧ i.length + j.length ≤ sizeLine ∧ Q (.str (i ++ j)) H) tStr tStr tStr mCat := fun B H u v x y z e hu hv hm Q q => by
  obtain ⟨rfl, h1⟩ := hu
  obtain ⟨rfl, h2⟩ := hv
  unfold mCat at hm
  split at hm
  · rename_i hl
    cases hm
    refine ⟨S x, S y, rfl, rfl, by rw [S_len, S_len, sizeLine_eq]; exact hl, q _ B H (.refl e) ⟨by rw [S_app], fun c hc => ?_⟩⟩
    rcases List.mem_append.mp hc with hc | hc
    · exact h1 c hc
    · exact h2 c hc
  · cases hm
theorem r_ltS : R2M X (fun x y H Q => ∃ i j, x = .str i ∧ y = .str j ∧ Q (.bl (decide (i.cps.toList < j.cps.toList))) H) tStr tStr tBool (fun i j => some (decide (i < j))) := fun B H u v x y z e hu hv hm Q q => by
  cases hm
  obtain ⟨rfl, h1⟩ := hu
  obtain ⟨rfl, h2⟩ := hv
  exact ⟨S x, S y, rfl, rfl, q _ B H (.refl e) rfl⟩
/-- one sign in a text -/
abbrev mInS (i j : List Nat) : Option Bool := match i with
  | [c] => some (decide (c ∈ j))
  | _ => none
abbrev mNotInS (i j : List Nat) : Option Bool := match i with
  | [c] => some (!decide (c ∈ j))
  | _ => none
theorem r_inS : R2M X (fun x y H Q => ∃ (c : Nat) (z : Str), x = .str ⟨#[c]⟩ ∧ y = .str z ∧ Q (.bl (decide (c ∈ z.cps.toList))) H) tStr tStr tBool mInS := fun B H u v x y z e hu hv hm Q q => by
  obtain ⟨rfl, h1⟩ := hu
  obtain ⟨rfl, h2⟩ := hv
  match x, hm with
  | [c], hm =>
    cases hm
    exact ⟨c, S y, rfl, rfl, q _ B H (.refl e) rfl⟩
theorem r_notInS : R2M X (fun x y H Q => ∃ (c : Nat) (z : Str), x = .str ⟨#[c]⟩ ∧ y = .str z ∧ Q (.bl (!decide (c ∈ z.cps.toList))) H) tStr tStr tBool mNotInS := fun B H u v x y z e hu hv hm Q q => by
  obtain ⟨rfl, h1⟩ := hu
  obtain ⟨rfl, h2⟩ := hv
  match x, hm with
  | [c], hm =>
    cases hm
    exact ⟨c, S y, rfl, rfl, q _ B H (.refl e) rfl⟩

/-! ### data that is compared by == -/
structure DT {α : Type} (T : Ty α) where
  dat : α → PyData
  dp : ∀ {K H v a}, T.rep K H v a → Dp K H v (dat a) ∧ (dat a).canLay0 = true
  n : Nat
  dep : ∀ a, (dat a).depth ≤ n
  eqv : ∀ a b, PyData.eqv (dat a) (dat b) = true ↔ a = b
def dInt : DT tInt := ⟨.int, fun h => by cases h; exact ⟨.int _, rfl⟩, 0, fun _ => Nat.le_refl _, fun a b => by simp [PyData.eqv]⟩
def dBool : DT tBool := ⟨.bool, fun h => by cases h; exact ⟨.bl _, rfl⟩, 0, fun _ => Nat.le_refl _, fun a b => by simp [PyData.eqv]⟩
def dNone : DT tNone := ⟨fun _ => .none, fun h => by cases h; exact ⟨.non, rfl⟩, 0, fun _ => Nat.le_refl _, fun a b => by simp [PyData.eqv]⟩
theorem strOk_of {l : List Nat} (h : ∀ c ∈ l, c < 1114112) : PyData.strOk (S l) = true := by
  unfold PyData.strOk
  simpa using h
def dStr : DT tStr := ⟨fun l => .str (S l), fun h => by obtain ⟨rfl, h⟩ := h; exact ⟨.str _, strOk_of h⟩, 0, fun _ => Nat.le_refl _, fun a b => by
  simp only [PyData.eqv, beq_iff_eq]
  exact ⟨S_inj, fun h => by rw [h]⟩⟩
theorem dpAll {T : Ty α} (D : DT T) {K : Fg} {H : Hp} : ∀ {vs : List V} {xs : List α}, Paired (T.rep K H) vs xs → DpAll K H vs (xs.map D.dat) ∧ PyData.canLayAll0 (xs.map D.dat) = true
  | _, _, .nil => ⟨.nil, rfl⟩
  | _, _, .cons r t => by
    obtain ⟨h1, h2⟩ := D.dp r
    obtain ⟨h3, h4⟩ := dpAll D t
    exact ⟨.cons h1 h3, by simp [PyData.canLayAll0, h2, h4]⟩
theorem depAll {T : Ty α} (D : DT T) : ∀ xs : List α, PyData.depthAll (xs.map D.dat) ≤ D.n
  | [] => Nat.zero_le _
  | x :: xs => by
    show max _ _ ≤ _
    exact Nat.max_le.mpr ⟨D.dep x, depAll D xs⟩
theorem eqvAll' {T : Ty α} (D : DT T) : ∀ xs ys : List α, PyData.eqvAll (xs.map D.dat) (ys.map D.dat) = true ↔ xs = ys
  | [], [] => by simp [PyData.eqvAll]
  | [], _ :: _ => by simp [PyData.eqvAll]
  | _ :: _, [] => by simp [PyData.eqvAll]
  | x :: xs, y :: ys => by
    simp only [List.map_cons, PyData.eqvAll, Bool.and_eq_true, D.eqv, eqvAll' D xs ys, List.cons.injEq]
def dList {T : Ty α} (D : DT T) : DT (tList T) := ⟨fun xs => .list (xs.map D.dat), fun ⟨p, vs, h1, h2, h3⟩ => by
    subst h1
    exact ⟨.lst h2 (dpAll D h3).1, (dpAll D h3).2⟩, D.n + 1, fun xs => Nat.succ_le_succ (depAll D xs), fun xs ys => by
    show PyData.eqvAll _ _ = true ↔ _
    exact eqvAll' D xs ys⟩
def dTup {T : Ty α} (D : DT T) : DT (tTup T) := ⟨fun xs => .tuple (xs.map D.dat), fun ⟨p, vs, h1, h2, h3⟩ => by
    subst h1
    exact ⟨.tup h2 (dpAll D h3).1, (dpAll D h3).2⟩, D.n + 1, fun xs => Nat.succ_le_succ (depAll D xs), fun xs ys => by
    show PyData.eqvAll _ _ = true ↔ _
    exact eqvAll' D xs ys⟩
def dPair {T : Ty α} {U : Ty β} (D : DT T) (G : DT U) : DT (tPair T U) := ⟨fun x => .tuple [D.dat x.1, G.dat x.2], fun ⟨p, x, y, h1, h2, h3, h4⟩ => by
    subst h1
    obtain ⟨a1, a2⟩ := D.dp h3
    obtain ⟨b1, b2⟩ := G.dp h4
    exact ⟨.tup h2 (.cons a1 (.cons b1 .nil)), by simp [PyData.canLay0, PyData.canLayAll0, a2, b2]⟩, max D.n G.n + 1, fun x => by
    show max _ (max _ 0) + 1 ≤ _
    have := D.dep x.1
    have := G.dep x.2
    omega, fun x y => by
    obtain ⟨x1, x2⟩ := x
    obtain ⟨y1, y2⟩ := y
    simp [PyData.eqv, PyData.eqvAll, D.eqv, G.eqv]⟩
def dTri {T : Ty α} {U : Ty β} {W : Ty γ} (D : DT T) (G : DT U) (F : DT W) : DT (tTri T U W) := ⟨fun x => .tuple [D.dat x.1, G.dat x.2.1, F.dat x.2.2], fun ⟨p, x, y, z, h1, h2, h3, h4, h5⟩ => by
    subst h1
    obtain ⟨a1, a2⟩ := D.dp h3
    obtain ⟨b1, b2⟩ := G.dp h4
    obtain ⟨c1, c2⟩ := F.dp h5
    exact ⟨.tup h2 (.cons a1 (.cons b1 (.cons c1 .nil))), by simp [PyData.canLay0, PyData.canLayAll0, a2, b2, c2]⟩, max D.n (max G.n F.n) + 1, fun x => by
    show max _ (max _ (max _ 0)) + 1 ≤ _
    have := D.dep x.1
    have := G.dep x.2.1
    have := F.dep x.2.2
    omega, fun x y => by
    obtain ⟨x1, x2, x3⟩ := x
    obtain ⟨y1, y2, y3⟩ := y
    simp [PyData.eqv, PyData.eqvAll, D.eqv, G.eqv, F.eqv]⟩
theorem ex_dp {K : Fg} {H H' : Hp} (e : Ex H H') : (∀ {v : V} {d : PyData}, Dp K H v d → Dp K H' v d) := fun {v d} h => by
  refine Dp.rec (K := K) (H := H) (motive_1 := fun v d _ => Dp K H' v d) (motive_2 := fun vs ds _ => DpAll K H' vs ds) .non .bl .int .str (fun h _ ih => .lst (ex_l e h) ih) (fun h _ ih => .tup (ex_t e h) ih) .nil (fun _ _ h1 h2 => .cons h1 h2) h
theorem shaped_of {T : Ty α} (D : DT T) {a : α} (h : (D.dat a).canLay0 = true) (hn : D.n ≤ 64 := by decide) : SeqAt.shaped (D.dat a) = true := by
  unfold SeqAt.shaped
  rw [h, Bool.true_and]
  exact decide_eq_true (Nat.le_trans (D.dep a) hn)
theorem dec_eqv {T : Ty α} [DecidableEq α] (D : DT T) (x y : α) : PyData.eqv (D.dat x) (D.dat y) = decide (x = y) := by
  by_cases h : x = y
  · rw [decide_eq_true h]; exact (D.eqv x y).mpr h
  · rw [decide_eq_false h]
    cases q : PyData.eqv (D.dat x) (D.dat y) with
    | false => rfl
    | true => exact absurd ((D.eqv x y).mp q) h
theorem r_eqD [DecidableEq α] (D : DT T) (hn : D.n ≤ 64 := by decide) : R2M X (rEqD X.K) T T tBool mEq := fun B H u v x y z e hu hv hm Q q => by
  cases hm
  obtain ⟨h1, h2⟩ := D.dp hu
  obtain ⟨h3, h4⟩ := D.dp hv
  exact ⟨_, _, ex_dp e h1, ex_dp e h3, shaped_of D h2 hn, shaped_of D h4 hn, q _ B H (.refl e) (by show V.bl _ = V.bl _; rw [dec_eqv D])⟩
theorem r_neD [DecidableEq α] (D : DT T) (hn : D.n ≤ 64 := by decide) : R2M X (rNeD X.K) T T tBool mNe := fun B H u v x y z e hu hv hm Q q => by
  cases hm
  obtain ⟨h1, h2⟩ := D.dp hu
  obtain ⟨h3, h4⟩ := D.dp hv
  exact ⟨_, _, ex_dp e h1, ex_dp e h3, shaped_of D h2 hn, shaped_of D h4 hn, q _ B H (.refl e) (by show V.bl _ = V.bl _; rw [dec_eqv D])⟩

/-! ### in, not in, of flat things -/
structure FlatT {α : Type} (T : Ty α) where
  v : α → V
  rep : ∀ {K H u a}, T.rep K H u a → u = v a
  flat : ∀ a, flatV (v a) = true
  eq : ∀ a b, eqV (v a) (v b) = true ↔ a = b
def fInt : FlatT tInt := ⟨.int, fun h => h, fun _ => rfl, fun a b => by simp [eqV]⟩
def fStr : FlatT tStr := ⟨fun l => .str (S l), fun h => h.1, fun _ => rfl, fun a b => by
  simp only [eqV, decide_eq_true_eq]
  exact ⟨fun h => S_inj (by simpa using h), fun h => by simp [h]⟩⟩
theorem pr_map {F : FlatT T} {K : Fg} {H : Hp} : ∀ {vs : List V} {xs : List α}, Paired (T.rep K H) vs xs → vs = xs.map F.v
  | _, _, .nil => rfl
  | _, _, .cons r t => by rw [F.rep r, pr_map (F := F) t]; rfl
theorem inV_dec [DecidableEq α] (F : FlatT T) (x : α) (xs : List α) : inV (F.v x) (xs.map F.v) = decide (x ∈ xs) := by
  unfold inV
  rw [List.any_map]
  by_cases h : x ∈ xs
  · rw [decide_eq_true h, List.any_eq_true]
    exact ⟨x, h, (F.eq x x).mpr rfl⟩
  · rw [decide_eq_false h]
    cases q : xs.any ((fun y => eqV y (F.v x)) ∘ F.v) with
    | false => rfl
    | true =>
      obtain ⟨y, hy, e⟩ := List.any_eq_true.mp q
      have : y = x := (F.eq y x).mp e
      subst this
      exact absurd hy h
theorem flat_all (F : FlatT T) (xs : List α) : (xs.map F.v).all flatV = true := by
  rw [List.all_map, List.all_eq_true]
  exact fun x _ => F.flat x
theorem r_inL [DecidableEq α] (F : FlatT T) : R2M X (rIn X.K false) T (tList T) tBool mIn := fun B H u v x y z e hu hv hm Q q => by
  cases hm
  obtain ⟨p, vs, rfl, hs, r⟩ := hv
  rw [F.rep hu]
  rw [pr_map (F := F) r] at hs
  exact ⟨p, _, rfl, .inl (ex_l e hs), F.flat x, flat_all F y, q _ B H (.refl e) (by show V.bl _ = V.bl _; rw [inV_dec F]; rfl)⟩
theorem r_notInL [DecidableEq α] (F : FlatT T) : R2M X (rIn X.K true) T (tList T) tBool mNotIn := fun B H u v x y z e hu hv hm Q q => by
  cases hm
  obtain ⟨p, vs, rfl, hs, r⟩ := hv
  rw [F.rep hu]
  rw [pr_map (F := F) r] at hs
  exact ⟨p, _, rfl, .inl (ex_l e hs), F.flat x, flat_all F y, q _ B H (.refl e) (by show V.bl _ = V.bl _; rw [inV_dec F]; rfl)⟩
theorem r_inT [DecidableEq α] (F : FlatT T) : R2M X (rIn X.K false) T (tTup T) tBool mIn := fun B H u v x y z e hu hv hm Q q => by
  cases hm
  obtain ⟨p, vs, rfl, hs, r⟩ := hv
  rw [F.rep hu]
  rw [pr_map (F := F) r] at hs
  exact ⟨p, _, rfl, .inr (ex_t e hs), F.flat x, flat_all F y, q _ B H (.refl e) (by show V.bl _ = V.bl _; rw [inV_dec F]; rfl)⟩
theorem r_notInT [DecidableEq α] (F : FlatT T) : R2M X (rIn X.K true) T (tTup T) tBool mNotIn := fun B H u v x y z e hu hv hm Q q => by
  cases hm
  obtain ⟨p, vs, rfl, hs, r⟩ := hv
  rw [F.rep hu]
  rw [pr_map (F := F) r] at hs
  exact ⟨p, _, rfl, .inr (ex_t e hs), F.flat x, flat_all F y, q _ B H (.refl e) (by show V.bl _ = V.bl _; rw [inV_dec F]; rfl)⟩

/-! ### items, slices -/
abbrev mIx {α : Type} (xs : List α) (i : Int) : Option α := atI xs i
theorem pr_atI {F : V → α → Prop} {vs : List V} {xs : List α} {i : Int} {x : α} (r : Paired F vs xs) (h : atI xs i = some x) : ∃ v, atI vs i = some v ∧ F v x := by
  unfold atI at h ⊢
  rw [pr_len r]
  cases q : ixN xs.length i with
  | none => rw [q] at h; cases h
  | some j =>
    rw [q] at h
    exact pr_getR r h
theorem r_ixL : R2M X (rIxL X.K) (tList T) tInt T mIx := fun B H u v x y z e hu hv hm Q q => by
  obtain ⟨p, vs, rfl, hs, r⟩ := hu
  cases hv
  obtain ⟨w, h1, h2⟩ := pr_atI r hm
  exact ⟨p, vs, y, w, rfl, rfl, ex_l e hs, h1, q _ B H (.refl e) h2⟩
theorem r_ixT : R2M X (rIxT X.K) (tTup T) tInt T mIx := fun B H u v x y z e hu hv hm Q q => by
  obtain ⟨p, vs, rfl, hs, r⟩ := hu
  cases hv
  obtain ⟨w, h1, h2⟩ := pr_atI r hm
  exact ⟨p, vs, y, w, rfl, rfl, ex_t e hs, h1, q _ B H (.refl e) h2⟩
abbrev mIxS (xs : List Nat) (i : Int) : Option (List Nat) := if xs.length ≤ 16777216 then (atI xs i).map fun c => [c] else none
theorem atI_mem {α : Type} {xs : List α} {i : Int} {x : α} (h : atI xs i = some x) : x ∈ xs := by
  unfold atI at h
  cases q : ixN xs.length i with
  | none => rw [q] at h; cases h
  | some j => rw [q] at h; exact List.mem_of_getElem? h
theorem r_ixS : R2M X rIxS tStr tInt tStr mIxS := fun B H u v x y z e hu hv hm Q q => by
  obtain ⟨rfl, hok⟩ := hu
  cases hv
  unfold mIxS at hm
  split at hm
  · rename_i hl
    cases h : atI x y with
    | none => rw [h] at hm; cases hm
    | some c =>
      rw [h] at hm
      cases hm
      exact ⟨S x, y, c, rfl, rfl, by rw [S_len, sizeLine_eq]; exact hl, h, q _ B H (.refl e) ⟨rfl, fun d hd => by
        rw [List.mem_singleton.mp hd]
        exact hok c (atI_mem h)⟩⟩
  · cases hm
theorem ev_ix {r : R2} {f : E → Option α} {g : E → Option β} {m : α → β → Option γ} (ho : IxR X r) (hr : R2M X r T U W m) (ha : EV X Γ a T f) (hb : EV X Γ b U g) (hs : PlainIx b := by exact fun _ _ => rfl) : EV X Γ (.Subscript a b pos) W (bind2 f g m) := by
  intro ρ σ B O H S I c hc Q q
  exact ⟨_, pe_ix ho (pe_wp X a) (pe_wp X b) hs, ha.run2 hb S I hc fun x y u v B1 H1 s1 r1 r2 hm => hr B1 H1 u v x y c s1.bh r1 r2 hm Q fun w B2 H2 s2 r3 => q w B2 H2 (s1.trans s2) r3⟩
theorem em_ix {r : R2} {f : E → Option (α × E)} {g : E → Option (β × E)} {m : α → β → Option γ} (ho : IxR X r) (hr : R2M X r T U W m) (ha : EM X Γ a T f) (hb : EM X Γ b U g) (hs : PlainIx b := by exact fun _ _ => rfl) : EM X Γ (.Subscript a b pos) W (then2 f g m) := by
  intro ρ σ B O H S I c ρ' hc Q q
  exact ⟨_, pe_ix ho (pe_wp X a) (pe_wp X b) hs, ha.run2 hb S I hc fun x y u v B1 O1 H1 s1 S1 r1 r2 hm => hr B1 H1 u v x y c s1.bh r1 r2 hm Q fun w B2 H2 s2 r3 => q w B2 O1 H2 (s1.trans (.of (I.stO s1) s2)) (S1.mono s2.bb) r3⟩
/-- a part of a slice -/
def EVP (X : Cx) {E : Type} (Γ : List (SK E)) (e : Option Expr) (f : E → Option (Option Int)) : Prop :=
  ∀ (ρ : E) (σ : L2.St) (B : Hp) (O : Ow) (H : Hp), SA X.K B O ρ Γ σ → EI B O H → ∀ a, f ρ = some a → ∀ Q : Option Int → Hp → Prop, (∀ B' H', Step B H B' H' → Q a H') → wpO X e σ H Q
theorem po_wp (X : Cx) (e : Option Expr) : PO X e (wpO X e) := ⟨fun pins s σ H Q I ⟨_, h, q⟩ => h.run pins s σ H Q I q⟩
theorem ep_none : EVP X Γ none (fun _ => some none) := fun ρ σ B O H S I a ha Q q => by
  cases ha
  exact ⟨_, po_none, q B H (.refl I.bh)⟩
theorem ep_some {f : E → Option Int} (h : EV X Γ e tInt f) : EVP X Γ (some e) (fun ρ => (f ρ).map some) := fun ρ σ B O H S I a ha Q q => by
  dsimp only at ha
  cases hf : f ρ with
  | none => rw [hf] at ha; cases ha
  | some i =>
    rw [hf] at ha
    cases ha
    exact ⟨_, po_some (pe_wp X e), h ρ σ B O H S I i hf _ fun v B' H' s r => ⟨i, r, q B' H' s⟩⟩
/-- xs[lo:hi] -/
def cutL {α : Type} (xs : List α) (lo hi : Option Int) : List α := (xs.drop (HT.sIx xs.length 0 lo)).take (HT.sIx xs.length xs.length hi - HT.sIx xs.length 0 lo)
theorem pr_drop {F : α → β → Prop} : ∀ {l₁ : List α} {l₂ : List β} (n : Nat), Paired F l₁ l₂ → Paired F (l₁.drop n) (l₂.drop n)
  | _, _, 0, h => h
  | _, _, n + 1, .nil => .nil
  | _, _, n + 1, .cons _ t => pr_drop n t
theorem pr_take {F : α → β → Prop} : ∀ {l₁ : List α} {l₂ : List β} (n : Nat), Paired F l₁ l₂ → Paired F (l₁.take n) (l₂.take n)
  | _, _, 0, h => .nil
  | _, _, n + 1, .nil => .nil
  | _, _, n + 1, .cons r t => .cons r (pr_take n t)
def slM {E α γ : Type} (f : E → Option α) (lo hi : E → Option (Option Int)) (m : α → Option Int → Option Int → Option γ) : E → Option γ := fun ρ => (f ρ).bind fun x => (lo ρ).bind fun l => (hi ρ).bind fun h => m x l h
theorem slM_inv {f : E → Option α} {lo hi : E → Option (Option Int)} {m : α → Option Int → Option Int → Option γ} {ρ : E} {c : γ} (h : slM f lo hi m ρ = some c) : ∃ x l u, f ρ = some x ∧ lo ρ = some l ∧ hi ρ = some u ∧ m x l u = some c := by
  unfold slM at h
  cases h1 : f ρ with
  | none => rw [h1] at h; cases h
  | some x =>
    rw [h1] at h
    cases h2 : lo ρ with
    | none => simp only [Option.bind, h2] at h; cases h
    | some l =>
      cases h3 : hi ρ with
      | none => simp only [Option.bind, h2, h3] at h; cases h
      | some u => simp only [Option.bind, h2, h3] at h; exact ⟨x, l, u, rfl, rfl, rfl, h⟩
theorem ev_slS {lo hi : Option Expr} {p2 : Pos} {f : E → Option (List Nat)} {fl fh : E → Option (Option Int)} (he : EV X Γ e tStr f) (hl : EVP X Γ lo fl) (hh : EVP X Γ hi fh) : EV X Γ (.Subscript e (.Slice lo hi none p2) pos) tStr (slM f fl fh fun x l h => if x.length ≤ 16777216 then some (cutL x l h) else none) := by
  intro ρ σ B O H S I c hc Q q
  obtain ⟨x, l, u, h1, h2, h3, h4⟩ := slM_inv hc
  refine ⟨_, pe_slice sl_str (pe_wp X e) (po_wp X lo) (po_wp X hi), ?_⟩
  refine he ρ σ B O H S I x h1 _ fun v B1 H1 s1 r1 => ?_
  refine hl ρ σ B1 O H1 (S.mono s1.bb) (I.step s1) l h2 _ fun B2 H2 s2 => ?_
  refine hh ρ σ B2 O H2 ((S.mono s1.bb).mono s2.bb) ((I.step s1).step s2) u h3 _ fun B3 H3 s3 => ?_
  obtain ⟨rfl, hok⟩ := r1
  split at h4
  · rename_i hz
    cases h4
    refine ⟨ML.S x, rfl, by rw [S_len, sizeLine_eq]; exact hz, q _ B3 H3 ((s1.trans s2).trans s3) ⟨?_, fun c hc => hok c (List.mem_of_mem_drop (List.mem_of_mem_take hc))⟩⟩
    show V.str (cutS _ _ _) = _
    unfold cutS cutL
    rw [S_len]
  · cases h4
theorem evo_slL {lo hi : Option Expr} {p2 : Pos} {f : E → Option (List α)} {fl fh : E → Option (Option Int)} (he : EV X Γ e (tList T) f) (hl : EVP X Γ lo fl) (hh : EVP X Γ hi fh) : EVO X Γ (.Subscript e (.Slice lo hi none p2) pos) (oList T) (slM f fl fh fun x l h => some (cutL x l h)) := by
  intro ρ σ B O H S I c hc Q q
  obtain ⟨x, l, u, h1, h2, h3, h4⟩ := slM_inv hc
  cases h4
  refine ⟨_, pe_slice sl_list (pe_wp X e) (po_wp X lo) (po_wp X hi), ?_⟩
  refine he ρ σ B O H S I x h1 _ fun v B1 H1 s1 r1 => ?_
  refine hl ρ σ B1 O H1 (S.mono s1.bb) (I.step s1) l h2 _ fun B2 H2 s2 => ?_
  refine hh ρ σ B2 O H2 ((S.mono s1.bb).mono s2.bb) ((I.step s1).step s2) u h3 _ fun B3 H3 s3 => ?_
  obtain ⟨p, vs, rfl, hs, r⟩ := r1
  have s23 := s2.trans s3
  refine ⟨p, vs, rfl, ex_l (s23.bb.trans s23.bh) hs, fun p' hp' => ?_⟩
  have st := (s1.trans s23).trans (.other (o := .lst (cutV vs l u)) s23.bh hp')
  refine q p' _ B3 _ st (none_back (s1.trans s23).hh hp') (none_back s23.bh hp') upd_same ⟨_, rfl, ?_⟩
  unfold cutV cutL
  rw [pr_len r]
  exact pr_take _ (pr_drop _ (Paired.imp (fun _ _ => T.mono s23.bb) r))

/-! ### built-in calls -/
abbrev A1 (T : Ty α) : TyA (α × Unit) := aCons T aNil
abbrev A2 (T : Ty α) (U : Ty β) : TyA (α × β × Unit) := aCons T (aCons U aNil)
theorem A1.inv {K : Fg} {H : Hp} {vs : List V} {x : α × Unit} (h : (A1 T).rep K H vs x) : ∃ v, vs = [v] ∧ T.rep K H v x.1 := by
  obtain ⟨v, r, rfl, h1, h2⟩ := h
  cases h2
  exact ⟨v, rfl, h1⟩
theorem A2.inv {K : Fg} {H : Hp} {vs : List V} {x : α × β × Unit} (h : (A2 T U).rep K H vs x) : ∃ v w, vs = [v, w] ∧ T.rep K H v x.1 ∧ U.rep K H w x.2.1 := by
  obtain ⟨v, r, rfl, h1, w, r', rfl, h2, h3⟩ := h
  cases h3
  exact ⟨v, w, rfl, h1, h2⟩
theorem ra_lenL : RAM X (fun xs H Q => ∃ p ys, xs = [.ref p] ∧ (SqL X.K H p ys ∨ SqT X.K H p ys) ∧ Q (.int ys.length) H) (A1 (tList T)) tInt (fun x => some (x.1.length : Int)) := fun B H vs x z e h hm Q q => by
  cases hm
  obtain ⟨v, rfl, p, ys, rfl, hs, r⟩ := A1.inv h
  exact ⟨p, ys, rfl, .inl (ex_l e hs), q _ B H (.refl e) (by show V.int _ = V.int _; rw [pr_len r])⟩
theorem ra_lenT : RAM X (fun xs H Q => ∃ p ys, xs = [.ref p] ∧ (SqL X.K H p ys ∨ SqT X.K H p ys) ∧ Q (.int ys.length) H) (A1 (tTup T)) tInt (fun x => some (x.1.length : Int)) := fun B H vs x z e h hm Q q => by
  cases hm
  obtain ⟨v, rfl, p, ys, rfl, hs, r⟩ := A1.inv h
  exact ⟨p, ys, rfl, .inr (ex_t e hs), q _ B H (.refl e) (by show V.int _ = V.int _; rw [pr_len r])⟩
theorem ra_lenS : RAM X (fun xs H Q => ∃ z, xs = [.str z] ∧ z.length ≤ sizeLine ∧ Q (.int z.length) H) (A1 tStr) tInt (fun x => if x.1.length ≤ 16777216 then some (x.1.length : Int) else none) := fun B H vs x z e h hm Q q => by
  obtain ⟨v, rfl, rfl, hok⟩ := A1.inv h
  dsimp only at hm
  split at hm
  · rename_i hl
    cases hm
    exact ⟨S x.1, rfl, by rw [S_len, sizeLine_eq]; exact hl, q _ B H (.refl e) (by show V.int _ = V.int _; rw [S_len])⟩
  · cases hm
theorem ra_int : RAM X (fun xs H Q => (∃ i, xs = [.int i] ∧ Q (.int i) H) ∨ ∃ k, xs = [.bl k] ∧ Q (.int (if k then 1 else 0)) H) (A1 tInt) tInt (fun x => some x.1) := fun B H vs x z e h hm Q q => by
  cases hm
  obtain ⟨v, rfl, hv⟩ := A1.inv h
  cases hv
  exact .inl ⟨x.1, rfl, q _ B H (.refl e) rfl⟩
theorem ra_abs : RAM X (fun xs H Q => ∃ i, xs = [.int i] ∧ Q (.int (if i < 0 then -i else i)) H) (A1 tInt) tInt (fun x => some (if x.1 < 0 then -x.1 else x.1)) := fun B H vs x z e h hm Q q => by
  cases hm
  obtain ⟨v, rfl, hv⟩ := A1.inv h
  cases hv
  exact ⟨x.1, rfl, q _ B H (.refl e) rfl⟩
theorem ra_min : RAM X (fun xs H Q => ∃ i j, xs = [.int i, .int j] ∧ Q (.int (if j < i then j else i)) H) (A2 tInt tInt) tInt (fun x => some (if x.2.1 < x.1 then x.2.1 else x.1)) := fun B H vs x z e h hm Q q => by
  cases hm
  obtain ⟨v, w, rfl, hv, hw⟩ := A2.inv h
  cases hv
  cases hw
  exact ⟨x.1, x.2.1, rfl, q _ B H (.refl e) rfl⟩
theorem ra_max : RAM X (fun xs H Q => ∃ i j, xs = [.int i, .int j] ∧ Q (.int (if j > i then j else i)) H) (A2 tInt tInt) tInt (fun x => some (if x.2.1 > x.1 then x.2.1 else x.1)) := fun B H vs x z e h hm Q q => by
  cases hm
  obtain ⟨v, w, rfl, hv, hw⟩ := A2.inv h
  cases hv
  cases hw
  exact ⟨x.1, x.2.1, rfl, q _ B H (.refl e) rfl⟩
theorem ra_strS : RAM X (fun xs H Q => ∃ a, xs = [.str a] ∧ Q (.str a) H) (A1 tStr) tStr (fun x => some x.1) := fun B H vs x z e h hm Q q => by
  cases hm
  obtain ⟨v, rfl, rfl, hok⟩ := A1.inv h
  exact ⟨_, rfl, q _ B H (.refl e) ⟨rfl, hok⟩⟩
/-- a call that makes a new list -/
def RAO (X : Cx) (r : List V → Hp → VK → Prop) (A : TyA α) (W : OTy γ) (m : α → Option γ) : Prop :=
  ∀ (B : Hp) (H : Hp) (vs : List V) (x : α) (z : γ), Ex B H → A.rep X.K B vs x → m x = some z → ∀ Q : VK, (∀ p o H', Step B H B H' → H p = none → H' p = some o → W.rep X.K B o z → Q (.ref p) H') → r vs H Q
theorem evo_callTy {id : String} {x : Str} {r : List V → Hp → VK → Prop} {es : List Expr} {A : TyA α} {W : OTy γ} {f : E → Option α} {m : α → Option γ} {p : Pos} (hc : CallR X (.type id) r) (hr : RAO X r A W m) (hm : X.mg x = none) (hv : bootBuiltins x = some (.type id)) (ha : EVA X Γ (e :: es) A f)
    (hg : Gl X x := by rfl) (hn : x ≠ "__name__" := by decide) (hdb : (x == ("__debug__" : Str)) = false := by decide)
    (hs : starEach (e :: es) X.env = (false, eval e X.env) :: starEach es X.env := by rfl) (hpl : (backTo pos (starEach es X.env)).any (·.1) = false := by rfl) : EVO X Γ (.Call (.Name x p) (e :: es) [] pos) W (bind1 f m) := by
  intro ρ σ B O H S I c hcc Q q
  exact ⟨_, pe_callTy hc hg hm hv (pa_wp X _) hn hdb hs hpl, ha.run1 S I hcc fun x u B1 H1 s1 r1 hm => hr B1 H1 u x c s1.bh r1 hm Q fun p o H2 s2 h1 h2 r2 => q p o B1 H2 (s1.trans s2) (none_back s1.hh h1) (none_back s1.bh h1) h2 r2⟩
theorem evo_callB {id : String} {x : Str} {r : List V → Hp → VK → Prop} {es : List Expr} {A : TyA α} {W : OTy γ} {f : E → Option α} {m : α → Option γ} {p : Pos} (hc : CallR X (.builtin id) r) (hr : RAO X r A W m) (hm : X.mg x = none) (hv : bootBuiltins x = some (.builtin id)) (ha : EVA X Γ (e :: es) A f)
    (hg : Gl X x := by rfl) (hn : x ≠ "__name__" := by decide) (hdb : (x == ("__debug__" : Str)) = false := by decide)
    (hs : starEach (e :: es) X.env = (false, eval e X.env) :: starEach es X.env := by rfl) (hpl : (backTo pos (starEach es X.env)).any (·.1) = false := by rfl) : EVO X Γ (.Call (.Name x p) (e :: es) [] pos) W (bind1 f m) := by
  intro ρ σ B O H S I c hcc Q q
  exact ⟨_, pe_callB hc hg hm hv (pa_wp X _) hn hdb hs hpl, ha.run1 S I hcc fun x u B1 H1 s1 r1 hm => hr B1 H1 u x c s1.bh r1 hm Q fun p o H2 s2 h1 h2 r2 => q p o B1 H2 (s1.trans s2) (none_back s1.hh h1) (none_back s1.bh h1) h2 r2⟩
theorem emo_callTy {id : String} {x : Str} {r : List V → Hp → VK → Prop} {es : List Expr} {A : TyA α} {W : OTy γ} {f : E → Option (α × E)} {m : α → Option γ} {p : Pos} (hc : CallR X (.type id) r) (hr : RAO X r A W m) (hm : X.mg x = none) (hv : bootBuiltins x = some (.type id)) (ha : EMA X Γ (e :: es) A f)
    (hg : Gl X x := by rfl) (hn : x ≠ "__name__" := by decide) (hdb : (x == ("__debug__" : Str)) = false := by decide)
    (hs : starEach (e :: es) X.env = (false, eval e X.env) :: starEach es X.env := by rfl) (hpl : (backTo pos (starEach es X.env)).any (·.1) = false := by rfl) : EMO (PE X (.Call (.Name x p) (e :: es) [] pos)) X Γ W (then1 f m) := by
  intro ρ σ B O H S I c ρ' hcc Q q
  exact ⟨_, pe_callTy hc hg hm hv (pa_wp X _) hn hdb hs hpl, ha.run1 S I hcc fun x u B1 O1 H1 s1 S1 r1 hm => hr B1 H1 u x c s1.bh r1 hm Q fun p o H2 s2 h1 h2 r2 => by
    have I1 := I.stO s1
    refine q p o B1 O1 H2 (s1.trans (.of I1 s2)) S1 ?_ (none_back s1.bh h1) ?_ h2 r2
    · cases z : H p with
      | none => rfl
      | some u => exact absurd h1 (s1.th p (by rw [z]; exact fun y => by cases y))
    · cases z : O1 p with
      | none => rfl
      | some y => have := (I1.oo p y.1 y.2 z).1; rw [h1] at this; cases this⟩
theorem emo_callB {id : String} {x : Str} {r : List V → Hp → VK → Prop} {es : List Expr} {A : TyA α} {W : OTy γ} {f : E → Option (α × E)} {m : α → Option γ} {p : Pos} (hc : CallR X (.builtin id) r) (hr : RAO X r A W m) (hm : X.mg x = none) (hv : bootBuiltins x = some (.builtin id)) (ha : EMA X Γ (e :: es) A f)
    (hg : Gl X x := by rfl) (hn : x ≠ "__name__" := by decide) (hdb : (x == ("__debug__" : Str)) = false := by decide)
    (hs : starEach (e :: es) X.env = (false, eval e X.env) :: starEach es X.env := by rfl) (hpl : (backTo pos (starEach es X.env)).any (·.1) = false := by rfl) : EMO (PE X (.Call (.Name x p) (e :: es) [] pos)) X Γ W (then1 f m) := by
  intro ρ σ B O H S I c ρ' hcc Q q
  exact ⟨_, pe_callB hc hg hm hv (pa_wp X _) hn hdb hs hpl, ha.run1 S I hcc fun x u B1 O1 H1 s1 S1 r1 hm => hr B1 H1 u x c s1.bh r1 hm Q fun p o H2 s2 h1 h2 r2 => by
    have I1 := I.stO s1
    refine q p o B1 O1 H2 (s1.trans (.of I1 s2)) S1 ?_ (none_back s1.bh h1) ?_ h2 r2
    · cases z : H p with
      | none => rfl
      | some u => exact absurd h1 (s1.th p (by rw [z]; exact fun y => by cases y))
    · cases z : O1 p with
      | none => rfl
      | some y => have := (I1.oo p y.1 y.2 z).1; rw [h1] at this; cases this⟩
theorem ra_list : RAO X (fun xs H Q => ∃ p ys, xs = [.ref p] ∧ (SqL X.K H p ys ∨ SqT X.K H p ys) ∧ ∀ l, H l = none → Q (.ref l) (upd H l (.lst ys))) (A1 (tList T)) (oList T) (fun x => some x.1) := fun B H vs x z e h hm Q q => by
  cases hm
  obtain ⟨v, rfl, p, ys, rfl, hs, r⟩ := A1.inv h
  exact ⟨p, ys, rfl, .inl (ex_l e hs), fun l hl => q l _ _ (.other e hl) hl upd_same ⟨_, rfl, r⟩⟩
theorem ra_listT : RAO X (fun xs H Q => ∃ p ys, xs = [.ref p] ∧ (SqL X.K H p ys ∨ SqT X.K H p ys) ∧ ∀ l, H l = none → Q (.ref l) (upd H l (.lst ys))) (A1 (tTup T)) (oList T) (fun x => some x.1) := fun B H vs x z e h hm Q q => by
  cases hm
  obtain ⟨v, rfl, p, ys, rfl, hs, r⟩ := A1.inv h
  exact ⟨p, ys, rfl, .inr (ex_t e hs), fun l hl => q l _ _ (.other e hl) hl upd_same ⟨_, rfl, r⟩⟩
/-- tuple(list) -/
theorem ra_tuple : RAM X (fun xs H Q => ∃ p ys, xs = [.ref p] ∧ ((SqL X.K H p ys ∧ ∀ l, H l = none → Q (.ref l) (upd H l (.tup ys))) ∨ (SqT X.K H p ys ∧ Q (.ref p) H))) (A1 (tList T)) (tTup T) (fun x => some x.1) := fun B H vs x z e h hm Q q => by
  cases hm
  obtain ⟨v, rfl, p, ys, rfl, hs, r⟩ := A1.inv h
  refine ⟨p, ys, rfl, .inl ⟨ex_l e hs, fun l hl => q _ _ _ (.laid e hl) ⟨l, ys, rfl, SqT.of upd_same, Paired.imp (fun _ _ => T.mono (Ex.new (none_back e hl))) r⟩⟩⟩

/-! ### displays -/
theorem evo_lst1 {es : List Expr} {A : TyA α} {f : E → Option α} {W : OTy γ} {m : α → Option γ} (ha : EVA X Γ es A f) (hr : ∀ K B vs x z, A.rep K B vs x → m x = some z → vs.length ≤ sizeLine ∧ W.rep K B (.lst vs) z) : EVO X Γ (.List es pos) W (bind1 f m) := by
  intro ρ σ B O H S I c hc Q q
  exact ⟨_, pe_lst (pa_wp X es), ha.run1 S I hc fun x u B1 H1 s1 r1 hm => ⟨(hr _ _ _ _ _ r1 hm).1, fun p hp => q p _ B1 _ (s1.trans (.other s1.bh hp)) (none_back s1.hh hp) (none_back s1.bh hp) upd_same (hr _ _ _ _ _ r1 hm).2⟩⟩
theorem emo_lst1 {es : List Expr} {A : TyA α} {f : E → Option (α × E)} {W : OTy γ} {m : α → Option γ} (ha : EMA X Γ es A f) (hr : ∀ K B vs x z, A.rep K B vs x → m x = some z → vs.length ≤ sizeLine ∧ W.rep K B (.lst vs) z) : EMO (PE X (.List es pos)) X Γ W (then1 f m) := by
  intro ρ σ B O H S I c ρ' hc Q q
  exact ⟨_, pe_lst (pa_wp X es), ha.run1 S I hc fun x u B1 O1 H1 s1 S1 r1 hm => ⟨(hr _ _ _ _ _ r1 hm).1, fun p hp => by
    have hn : H p = none := by
      cases z : H p with
      | none => rfl
      | some u => exact absurd hp (s1.th p (by rw [z]; exact fun y => by cases y))
    have I1 := I.stO s1
    refine q p _ B1 O1 _ (s1.trans (.of I1 (.other s1.bh hp))) S1 hn (none_back s1.bh hp) ?_ upd_same (hr _ _ _ _ _ r1 hm).2
    cases z : O1 p with
    | none => rfl
    | some y => have := (I1.oo p y.1 y.2 z).1; rw [hp] at this; cases this⟩⟩
/-- a homogeneous list's arguments -/
def aList {α : Type} (T : Ty α) : Nat → (γ : Type) × TyA γ × (γ → List α)
  | 0 => ⟨Unit, aNil, fun _ => []⟩
  | n + 1 => ⟨α × (aList T n).1, aCons T (aList T n).2.1, fun x => x.1 :: (aList T n).2.2 x.2⟩
theorem aList_rep {T : Ty α} {K : Fg} {H : Hp} : ∀ {n : Nat} {vs : List V} {x : (aList T n).1}, (aList T n).2.1.rep K H vs x → Paired (T.rep K H) vs ((aList T n).2.2 x) ∧ vs.length = n
  | 0, vs, x, h => by cases h; exact ⟨.nil, rfl⟩
  | n + 1, vs, x, h => by
    obtain ⟨v, r, rfl, h1, h2⟩ := h
    obtain ⟨h3, h4⟩ := aList_rep (n := n) h2
    exact ⟨.cons h1 h3, congrArg (· + 1) h4⟩
theorem evo_lst {n : Nat} {es : List Expr} {f : E → Option (aList T n).1} (ha : EVA X Γ es (aList T n).2.1 f) (hn : n ≤ 1000 := by decide) : EVO X Γ (.List es pos) (oList T) (bind1 f fun x => some ((aList T n).2.2 x)) :=
  evo_lst1 ha fun K B vs x z h hm => by
    cases hm
    obtain ⟨h1, h2⟩ := aList_rep h
    exact ⟨by rw [h2, sizeLine_eq]; omega, vs, rfl, h1⟩
theorem emo_lst {n : Nat} {es : List Expr} {f : E → Option ((aList T n).1 × E)} (ha : EMA X Γ es (aList T n).2.1 f) (hn : n ≤ 1000 := by decide) : EMO (PE X (.List es pos)) X Γ (oList T) (then1 f fun x => some ((aList T n).2.2 x)) :=
  emo_lst1 ha fun K B vs x z h hm => by
    cases hm
    obtain ⟨h1, h2⟩ := aList_rep h
    exact ⟨by rw [h2, sizeLine_eq]; omega, vs, rfl, h1⟩
/-- (a, b) -/
theorem ev_tup {es : List Expr} {A : TyA α} {f : E → Option α} {W : Ty γ} {m : α → Option γ} {k : Nat} (ha : EVA X Γ es A f) (hr : ∀ K B p vs x z, SqT K B p vs → A.rep K B vs x → m x = some z → W.rep K B (.ref p) z) (hl : es.length ≤ 1000 := by decide) (hlen : ∀ K B vs x, A.rep K B vs x → vs.length = es.length := by intros; rfl) : EV X Γ (.Tuple es k pos) W (bind1 f m) := by
  intro ρ σ B O H S I c hc Q q
  exact ⟨_, pe_tup (pa_wp X es), ha.run1 S I hc fun x u B1 H1 s1 r1 hm => ⟨by rw [hlen _ _ _ _ r1, sizeLine_eq]; omega, fun p hp => q _ _ _ (s1.trans (.laid s1.bh hp)) (hr _ _ p u x c (SqT.of upd_same) (A.mono (Ex.new (none_back s1.bh hp)) r1) hm)⟩⟩
theorem em_tup {es : List Expr} {A : TyA α} {f : E → Option (α × E)} {W : Ty γ} {m : α → Option γ} {k : Nat} (ha : EMA X Γ es A f) (hr : ∀ K B p vs x z, SqT K B p vs → A.rep K B vs x → m x = some z → W.rep K B (.ref p) z) (hl : es.length ≤ 1000 := by decide) (hlen : ∀ K B vs x, A.rep K B vs x → vs.length = es.length := by intros; rfl) : EM X Γ (.Tuple es k pos) W (then1 f m) := by
  intro ρ σ B O H S I c ρ' hc Q q
  exact ⟨_, pe_tup (pa_wp X es), ha.run1 S I hc fun x u B1 O1 H1 s1 S1 r1 hm => ⟨by rw [hlen _ _ _ _ r1, sizeLine_eq]; omega, fun p hp => q _ _ _ _ (s1.trans (.of (I.stO s1) (.laid s1.bh hp))) (S1.mono (Ex.new (none_back s1.bh hp))) (hr _ _ p u x c (SqT.of upd_same) (A.mono (Ex.new (none_back s1.bh hp)) r1) hm)⟩⟩
theorem tr_pair : ∀ K B p vs (x : α × β × Unit) z, SqT K B p vs → (A2 T U).rep K B vs x → some (x.1, x.2.1) = some z → (tPair T U).rep K B (.ref p) z := fun K B p vs x z hs h hm => by
  cases hm
  obtain ⟨v, w, rfl, h1, h2⟩ := A2.inv h
  exact ⟨p, v, w, rfl, hs, h1, h2⟩
abbrev A3 (T : Ty α) (U : Ty β) (W : Ty γ) : TyA (α × β × γ × Unit) := aCons T (aCons U (aCons W aNil))
theorem tr_tri : ∀ K B p vs (x : α × β × γ × Unit) z, SqT K B p vs → (A3 T U W).rep K B vs x → some (x.1, x.2.1, x.2.2.1) = some z → (tTri T U W).rep K B (.ref p) z := fun K B p vs x z hs h hm => by
  cases hm
  obtain ⟨v, r, rfl, h1, w, r', rfl, h2, y, r'', rfl, h3, h4⟩ := h
  cases h4
  exact ⟨p, v, w, y, rfl, hs, h1, h2, h3⟩
theorem len2 : ∀ K B vs x, (A2 T U).rep K B vs x → vs.length = 2 := fun K B vs x h => by
  obtain ⟨v, w, rfl, _⟩ := A2.inv h
  rfl
theorem len3 : ∀ K B vs x, (A3 T U W).rep K B vs x → vs.length = 3 := fun K B vs x h => by
  obtain ⟨v, r, rfl, h1, w, r', rfl, h2, y, r'', rfl, h3, h4⟩ := h
  cases h4
  rfl
abbrev mPair {α β : Type} (x : α × β × Unit) : Option (α × β) := some (x.1, x.2.1)
abbrev mTri {α β γ : Type} (x : α × β × γ × Unit) : Option (α × β × γ) := some (x.1, x.2.1, x.2.2.1)
theorem ev_pair {k : Nat} {f : E → Option (α × β × Unit)} (ha : EVA X Γ [a, b] (A2 T U) f) : EV X Γ (.Tuple [a, b] k pos) (tPair T U) (bind1 f mPair) := ev_tup ha tr_pair (by show 2 ≤ 1000; decide) len2
theorem em_pair {k : Nat} {f : E → Option ((α × β × Unit) × E)} (ha : EMA X Γ [a, b] (A2 T U) f) : EM X Γ (.Tuple [a, b] k pos) (tPair T U) (then1 f mPair) := em_tup ha tr_pair (by show 2 ≤ 1000; decide) len2
theorem ev_tri {c : Expr} {k : Nat} {f : E → Option (α × β × γ × Unit)} (ha : EVA X Γ [a, b, c] (A3 T U W) f) : EV X Γ (.Tuple [a, b, c] k pos) (tTri T U W) (bind1 f mTri) := ev_tup ha tr_tri (by show 3 ≤ 1000; decide) len3
theorem em_tri {c : Expr} {k : Nat} {f : E → Option ((α × β × γ × Unit) × E)} (ha : EMA X Γ [a, b, c] (A3 T U W) f) : EM X Γ (.Tuple [a, b, c] k pos) (tTri T U W) (then1 f mTri) := em_tup ha tr_tri (by show 3 ≤ 1000; decide) len3
end
end ML

/-! the mirror layer: one's own lists, texts, calls, defs -/
namespace ML
open PySem PySem.Spec PyProof.Rows L2

/-! ### own objects behind a name -/
def IsOwn {E α : Type} (k : Option (SK E)) (T : OTy α) (g : E → α) : Prop := k = some (.own T g) ∨ ∃ p, k = some (.ownAt p T g)
section
variable {X : Cx} {E R α β γ δ : Type} {Γ Γ1 Γ2 Γn : List (SK E)} {T : Ty α} {U : Ty β} {W : Ty γ} {e a b : Expr} {pos : Pos} {Jc : J E R}
theorem SA.ownGet {K : Fg} {B : Hp} {O : Ow} {ρ : E} {σ : L2.St} {i : Nat} {T : OTy α} {g : E → α} (h : SA K B O ρ Γ σ) (hk : IsOwn Γ[i]? T g) : ∃ p o, σ[i]? = some (some (.ref p)) ∧ O p = some (i, o) ∧ T.rep K B o (g ρ) := by
  rcases hk with hk | ⟨p, hk⟩
  · obtain ⟨x, h1, p, o, h2, h3, h4⟩ := h.at' i _ hk
    subst h2
    exact ⟨p, o, h1, h3, h4⟩
  · obtain ⟨x, h1, o, h2, h3, h4⟩ := h.at' i _ hk
    subst h2
    exact ⟨p, o, h1, h3, h4⟩
theorem SA.put {K : Fg} {B : Hp} {O : Ow} {ρ : E} {σ : L2.St} {i : Nat} {T : OTy α} {g : E → α} {s : E → α → E} {p : Addr} {o o' : HO} {a : α} (h : SA K B O ρ Γ σ) (hk : IsOwn Γ[i]? T g) (hp : σ[i]? = some (some (.ref p))) (ho : O p = some (i, o))
    (r : T.rep K B o' a) (hg : ∀ ρ a, g (s ρ a) = a) (hs : Keeps s Γ i) : SA K B (owPut O p i o') (s ρ a) Γ σ :=
  ⟨h.len, fun j k e => by
    by_cases z : j = i
    · subst z
      rcases hk with hk | ⟨q, hk⟩
      · rw [hk] at e
        cases e
        exact ⟨_, hp, p, o', rfl, owPut_same, by rw [hg]; exact r⟩
      · rw [hk] at e
        cases e
        obtain ⟨x, h1, u, h2, h3, h4⟩ := h.at' j _ hk
        subst h2
        rw [hp] at h1
        cases h1
        exact ⟨_, hp, o', rfl, owPut_same, by rw [hg]; exact r⟩
    · obtain ⟨x, h1, h2⟩ := h.at' j k e
      refine ⟨x, h1, ?_⟩
      have h3 := h2.keep (a := a) (hs.get z e)
      cases k with
      | any => trivial
      | dat T g => exact h3
      | own T g =>
        obtain ⟨q, u, h4, h5, h6⟩ := h3
        exact ⟨q, u, h4, by rw [owPut_ne (fun y => by rw [y, ho] at h5; cases h5; exact z rfl)]; exact h5, h6⟩
      | ownAt q T g =>
        obtain ⟨u, h4, h5, h6⟩ := h3
        exact ⟨u, h4, by rw [owPut_ne (fun y => by rw [y, ho] at h5; cases h5; exact z rfl)]; exact h5, h6⟩⟩
/-- xs.append(e), xs one's own -/
theorem em_append {i : Nat} {x : Str} {p apos : Pos} {g : E → List α} {s : E → List α → E} {f : E → Option (α × E)} (hk : IsOwn Γ[i]? (oList T) g) (he : EM X Γ e T f) (hg : ∀ ρ a, g (s ρ a) = a) (hs : Keeps s Γ i) (hN : X.N[i]? = some x := by rfl) (hv : Vis X.env.scope x := by first | exact Or.inl rfl | exact Or.inr (Or.inl rfl) | exact Or.inr (Or.inr rfl))
    (hd : (x == ("__debug__" : Str)) = false := by decide) (hcd : (x == ("__classdict__" : Str)) = false := by decide)
    (hbase : attributeBase (.Name x p) "append" X.env (eval (.Name x p) X.env) = eval (.Name x p) X.env := by rfl)
    (hfew : ((backTo pos (starEach [e] X.env)).all (fun x => !x.1) && (backToKw pos (keywordEach [] X.env)).all (fun x => x.1.isSome) && decide ([e].length + ([] : List Keyword).length + (if ([] : List Keyword).isEmpty then 0 else 1) < 30)) = true := by rfl)
    (hline : (apos.endLine == pos.line) = true := by rfl) (hst : starEach [e] X.env = (false, eval e X.env) :: starEach [] X.env := by rfl) (hplain : (backTo pos (starEach [] X.env)).any (·.1) = false := by rfl) :
    EM X Γ (.Call (.Attribute (.Name x p) "append" apos) [e] [] pos) tNone (fun ρ => (f ρ).bind fun y => if (g y.2).length < 16777216 then some ((), s y.2 (g y.2 ++ [y.1])) else none) := by
  intro ρ σ B O H S I c ρ' hc Q q
  refine ⟨_, pe_bm PySem.F.plainAttrs_list PySem.F.slot_list_append PySem.F.type_list_append mt_append (pe_var hN hv hd hcd) (pa_cons (pe_wp X e) pa_nil hst) hbase hfew hline hst hplain, ?_⟩
  obtain ⟨l, o, h1, h2, vs, rfl, h3⟩ := S.ownGet hk
  refine ⟨.ref l, h1, .inl ⟨rfl, vs, SqL.of (I.oo l i _ h2).1⟩, ?_⟩
  dsimp only at hc
  cases hf : f ρ with
  | none => rw [hf] at hc; cases hc
  | some y =>
    rw [hf] at hc
    refine he ρ σ B O H S I y.1 y.2 hf _ fun v B1 O1 H1 s1 S1 r1 => ?_
    obtain ⟨l', o', h1', h2', vs', rfl, h3'⟩ := S1.ownGet hk
    rw [h1] at h1'
    cases h1'
    have I1 := I.stO s1
    have hc : (if (g y.2).length < 16777216 then some ((), s y.2 (g y.2 ++ [y.1])) else none) = some (c, ρ') := hc
    split at hc
    · rename_i hz
      cases hc
      have hp := (I1.oo l i _ h2').1
      refine ⟨l, vs', v, rfl, rfl, hp, by rw [pr_len h3', sizeLine_eq]; exact hz, ?_⟩
      exact q _ B1 _ _ (s1.trans (.write I1 h2')) (S1.put hk h1 h2' ⟨_, rfl, pr_app h3' (.cons r1 .nil)⟩ hg hs) rfl
    · cases hc
/-- xs.pop() -/
theorem em_pop {i : Nat} {x : Str} {p apos : Pos} {g : E → List α} {s : E → List α → E} (hk : IsOwn Γ[i]? (oList T) g) (hg : ∀ ρ a, g (s ρ a) = a) (hs : Keeps s Γ i) (hN : X.N[i]? = some x := by rfl) (hv : Vis X.env.scope x := by first | exact Or.inl rfl | exact Or.inr (Or.inl rfl) | exact Or.inr (Or.inr rfl))
    (hd : (x == ("__debug__" : Str)) = false := by decide) (hcd : (x == ("__classdict__" : Str)) = false := by decide)
    (hbase : attributeBase (.Name x p) "pop" X.env (eval (.Name x p) X.env) = eval (.Name x p) X.env := by rfl) (hline : (apos.endLine == pos.line) = true := by rfl) :
    EM X Γ (.Call (.Attribute (.Name x p) "pop" apos) [] [] pos) T (fun ρ => ((g ρ)[(g ρ).length - 1]?).map fun y => (y, s ρ (g ρ).dropLast)) := by
  intro ρ σ B O H S I c ρ' hc Q q
  refine ⟨_, pe_bm0 PySem.F.plainAttrs_list PySem.F.slot_list_pop PySem.F.type_list_pop mt_pop (pe_var hN hv hd hcd) hbase hline, ?_⟩
  obtain ⟨l, o, h1, h2, vs, rfl, h3⟩ := S.ownGet hk
  have hp := (I.oo l i _ h2).1
  refine ⟨.ref l, h1, .inl ⟨rfl, vs, SqL.of hp⟩, ?_⟩
  dsimp only at hc
  cases hy : (g ρ)[(g ρ).length - 1]? with
  | none => rw [hy] at hc; cases hc
  | some y =>
    rw [hy] at hc
    cases hc
    obtain ⟨v, hv, rv⟩ := pr_getR h3 hy
    refine ⟨l, vs, v, rfl, rfl, hp, by rw [pr_len h3]; exact hv, ?_⟩
    refine q _ B _ _ (.write I h2) (S.put hk h1 h2 ⟨_, rfl, ?_⟩ hg hs) rv
    have aux : ∀ {vs : List V} {xs : List α}, Paired (T.rep X.K B) vs xs → Paired (T.rep X.K B) vs.dropLast xs.dropLast := fun {vs xs} h => by
      rw [List.dropLast_eq_take, List.dropLast_eq_take, pr_len h]
      exact pr_take _ h
    exact aux h3
/-- xs[k] = e, xs one's own -/
def setIxF {E R α : Type} (g : E → List α) (s : E → List α → E) (f : E → Option (α × E)) (k : E → Option (Int × E)) : E → Option (Fl E R) := fun ρ => (f ρ).bind fun y => (k y.2).bind fun z => (ixN (g z.2).length z.1).map fun j => .nx (s z.2 ((g z.2).set j y.1))
theorem sv_setIx {i : Nat} {x : Str} {p p2 : Pos} {g : E → List α} {s : E → List α → E} {f : E → Option (α × E)} {ix : Expr} {k : E → Option (Int × E)} (hk : IsOwn Γ[i]? (oList T) g) (he : EM X Γ e T f) (hi : EM X Γ ix tInt k) (hg : ∀ ρ a, g (s ρ a) = a) (hs : Keeps s Γ i) (hN : X.N[i]? = some x := by rfl) (hv : Vis X.env.scope x := by first | exact Or.inl rfl | exact Or.inr (Or.inl rfl) | exact Or.inr (Or.inr rfl))
    (hd : (x == ("__debug__" : Str)) = false := by decide) (hcd : (x == ("__classdict__" : Str)) = false := by decide)
    (ha : ∀ v, assign (.Subscript (.Name x p) ix p2) X.env v = (do
      let ov ← holding [v] (eval (.Name x p) X.env)
      let iv ← holding [v, ov] (eval ix X.env)
      standAt p2
      holding [v, ov, iv] (setItem ov iv v)
      release [v, ov, iv] []) := by intro _; rfl)
    (hsw : swapsWithSole [.Subscript (.Name x p) ix p2] e pos.line X.env = pure false := by rfl) (hw : swappedStores [.Subscript (.Name x p) ix p2] e X.env = pure none := by rfl)
    (h1 : (assignEach [.Subscript (.Name x p) ix p2] X.env).map (·.2) = [assign (.Subscript (.Name x p) ix p2) X.env] := by rfl) :
    SV X Jc Γ (.Assign [.Subscript (.Name x p) ix p2] e pos) Γ (setIxF g s f k) := fun ρ B0 H0 σ B O H S I fl hfl D q => by
  unfold setIxF at hfl
  cases hf : f ρ with
  | none => rw [hf] at hfl; cases hfl
  | some y =>
    rw [hf] at hfl
    have hfl : ((k y.2).bind fun z => (ixN (g z.2).length z.1).map fun j => (Fl.nx (s z.2 ((g z.2).set j y.1)) : Fl E R)) = some fl := hfl
    cases hz : k y.2 with
    | none => rw [hz] at hfl; cases hfl
    | some z =>
      rw [hz] at hfl
      have hfl : ((ixN (g z.2).length z.1).map fun j => (Fl.nx (s z.2 ((g z.2).set j y.1)) : Fl E R)) = some fl := hfl
      cases hj : ixN (g z.2).length z.1 with
      | none => rw [hj] at hfl; cases hfl
      | some j =>
        rw [hj] at hfl
        cases hfl
        refine ⟨_, ps_asg (pe_wp X e) (pg_sub (pe_var hN hv hd hcd) (pe_wp X ix) set_list ha) hsw hw h1, ?_⟩
        refine he ρ σ B O H S I.ei y.1 y.2 hf _ fun v B1 O1 H1 s1 S1 r1 => ?_
        obtain ⟨l, o, e1, e2, vs, rfl, e3⟩ := S1.ownGet hk
        have I1 := I.ei.stO s1
        refine ⟨.ref l, e1, ?_⟩
        refine hi y.2 σ B1 O1 H1 S1 I1 z.1 z.2 hz _ fun w B2 O2 H2 s2 S2 r2 => ?_
        have r2 : w = .int z.1 := r2
        subst r2
        obtain ⟨l', o', e1', e2', vs', rfl, e3'⟩ := S2.ownGet hk
        rw [e1] at e1'
        cases e1'
        have I2 := I1.stO s2
        refine ⟨l, vs', z.1, j, rfl, rfl, (I2.oo l i _ e2').1, by rw [pr_len e3']; exact hj, ?_⟩
        have set_pr : ∀ {vs : List V} {xs : List α} (j : Nat), Paired (T.rep X.K B2) vs xs → Paired (T.rep X.K B2) (vs.set j v) (xs.set j y.1) := fun {vs xs} j h => by
          induction h generalizing j with
          | nil => exact .nil
          | cons r t ih =>
            cases j with
            | zero => exact .cons (T.mono s2.bb r1) t
            | succ j => exact .cons r (ih j)
        exact q σ B2 _ _ (S2.put hk e1 e2' ⟨_, rfl, set_pr j e3'⟩ hg hs) (I.stO ((s1.trans s2).trans (.write I2 e2')))
/-- an own list read as data, where the answer leans on no heap -/
theorem borrow {i : Nat} {g : E → List α} {ρ : E} {σ : L2.St} {B H : Hp} {O : Ow} (hk : IsOwn Γ[i]? (oList T) g) (S : SA X.K B O ρ Γ σ) (I : EI B O H) : ∃ B1 O1, SA X.K B1 O1 ρ (Γ.set i (.dat (tList T) g)) σ ∧ EI B1 O1 H ∧ (∀ {B' H'}, Step B1 H B' H' → Step B H B H') := by
  obtain ⟨p, o, h1, h3, vs, rfl, h5⟩ := S.ownGet hk
  obtain ⟨hp, hb⟩ := I.oo p i _ h3
  have hi : i < Γ.length := by rw [← S.len]; exact (List.getElem?_eq_some_iff.mp h1).1
  have e1 : Ex B (upd B p (.lst vs)) := Ex.new hb
  refine ⟨upd B p (.lst vs), owDrop O i, ⟨by rw [List.length_set]; exact S.len, fun j k e => ?_⟩, ⟨fun a u z => ?_, fun a j u z => ?_⟩, fun {B' H'} st => ⟨Ex.refl _, I.bh.trans st.hh, st.hh, fun _ h _ => h⟩⟩
  · by_cases z : j = i
    · subst z
      rw [List.getElem?_set_self hi] at e
      cases e
      exact ⟨_, h1, _, rfl, p, vs, rfl, SqL.of upd_same, Paired.imp (fun _ _ => T.mono e1) h5⟩
    · rw [List.getElem?_set_ne (Ne.symm z)] at e
      obtain ⟨x, y1, y2⟩ := S.at' j k e
      exact ⟨x, y1, (y2.mono e1).drop z⟩
  · by_cases y : a = p
    · subst y; rw [upd_same] at z; cases z; exact hp
    · rw [upd_ne y] at z; exact I.bh a u z
  · obtain ⟨z1, z2⟩ := owDrop_some z
    obtain ⟨y1, y2⟩ := I.oo a j u z1
    have : a ≠ p := fun y => by subst y; rw [h3] at z1; cases z1; exact z2 rfl
    exact ⟨y1, by rw [upd_ne this]; exact y2⟩
theorem ev_borrow (i : Nat) {g : E → List α} {f : E → Option β} (hk : IsOwn Γ[i]? (oList T) g) (h : EV X (Γ.set i (.dat (tList T) g)) e U f) (hU : U.Sc) : EV X Γ e U f := fun ρ σ B O H S I a ha Q q => by
  obtain ⟨B1, O1, S1, I1, st⟩ := borrow hk S I
  exact h ρ σ B1 O1 H S1 I1 a ha Q fun v B' H' s r => q v B H' (st s) (hU r)
theorem et_borrow (i : Nat) {g : E → List α} {f : E → Option Bool} (hk : IsOwn Γ[i]? (oList T) g) (h : EVT X (Γ.set i (.dat (tList T) g)) e f) : EVT X Γ e f := fun ρ σ B O H S I a ha Q q => by
  obtain ⟨B1, O1, S1, I1, st⟩ := borrow hk S I
  exact h ρ σ B1 O1 H S1 I1 a ha Q fun B' H' s => q B H' (st s)
def OTy.Sc {α : Type} (T : OTy α) : Prop := ∀ {K : Fg} {H H' : Hp} {o : HO} {a : α}, T.rep K H o a → T.rep K H' o a
theorem evo_borrow (i : Nat) {g : E → List α} {V : OTy β} {f : E → Option β} (hk : IsOwn Γ[i]? (oList T) g) (h : EVO X (Γ.set i (.dat (tList T) g)) e V f) (hU : V.Sc) : EVO X Γ e V f := fun ρ σ B O H S I a ha Q q => by
  obtain ⟨B1, O1, S1, I1, st⟩ := borrow hk S I
  exact h ρ σ B1 O1 H S1 I1 a ha Q fun p o B' H' s hn hb hp r => q p o B H' (st s) hn (none_back I.bh hn) hp (hU r)
theorem sc_int : tInt.Sc := fun h => h
theorem sc_bool : tBool.Sc := fun h => h
theorem sc_str : tStr.Sc := fun h => h
theorem sc_none : tNone.Sc := fun h => h
theorem sc_oList {T : Ty α} (h : T.Sc) : (oList T).Sc := fun ⟨vs, h1, h2⟩ => ⟨vs, h1, Paired.imp (fun _ _ => h) h2⟩

/-! ### texts -/
theorem im_str {tg it : Expr} {f : E → Option (List Nat × E)} (h : EM X Γ it tStr f) : IM X Γ tg it tStr (then1 f fun x => some (x.map fun c => [c])) := fun ρ σ B O H S I xs ρ' hf R q => by
  obtain ⟨x, h1, h2⟩ := then1_inv hf
  cases h2
  refine ⟨_, pi_str (pe_wp X it), h ρ σ B O H S I x ρ' h1 _ fun v B' O' H' s S' ⟨hv, hok⟩ => ⟨ML.S x, hv, q _ B' O' H' s S' ⟨fun i H e hi => ?_, fun i H e hi => ?_, fun i H B1 y a H' e1 e2 ha hy => ?_⟩⟩⟩
  · rw [List.length_map] at hi
    show (ML.S x).cps.size ≤ i
    simpa using hi
  · rw [List.length_map] at hi
    show i < (ML.S x).cps.size
    simpa using hi
  · obtain ⟨rfl, c, hc, rfl⟩ := hy
    rw [List.getElem?_map] at ha
    have hc : x[i]? = some c := by simpa using hc
    rw [hc] at ha
    cases ha
    exact ⟨B1, .refl e2, rfl, fun d hd => by rw [List.mem_singleton.mp hd]; exact hok c (List.mem_of_getElem? hc)⟩
def joinL (s : List Nat) : List (List Nat) → List Nat
  | [] => []
  | [x] => x
  | x :: y :: r => x ++ (s ++ joinL s (y :: r))
theorem tl_joinS (s : List Nat) : ∀ ys : List (List Nat), TL.tl (Txt.join (S s) (ys.map S)) = joinL s ys := fun ys => by
  rw [TL.join_eq, TL.tl_join]
  have : ∀ ys : List (List Nat), TL.joinL s (((ys.map S).map TL.tl)) = joinL s ys := fun ys => by
    induction ys with
    | nil => rfl
    | cons x r ih =>
      cases r with
      | nil => simp [TL.joinL, joinL]
      | cons y r =>
        simp only [List.map_cons] at ih ⊢
        simp only [joinL]
        rw [← ih]
        simp [TL.joinL]
  exact this ys
theorem joinL_mem {s : List Nat} : ∀ {ys : List (List Nat)} {c : Nat}, c ∈ joinL s ys → c ∈ s ∨ ∃ y ∈ ys, c ∈ y
  | [], _, h => by cases h
  | [x], c, h => .inr ⟨x, by simp, h⟩
  | x :: y :: r, c, h => by
    simp only [joinL] at h
    rcases List.mem_append.mp h with h | h
    · exact .inr ⟨x, by simp, h⟩
    · rcases List.mem_append.mp h with h | h
      · exact .inl h
      · rcases joinL_mem h with h | ⟨z, h1, h2⟩
        · exact .inl h
        · exact .inr ⟨z, List.mem_cons_of_mem _ h1, h2⟩
abbrev mJoin (s : List Nat) (ys : List (List Nat)) : Option (List Nat) := if (ys.map List.length).sum + ys.length * s.length ≤ 16777216 then some (joinL s ys) else none
theorem pr_strs {K : Fg} {H : Hp} : ∀ {vs : List V} {xs : List (List Nat)}, Paired (tStr.rep K H) vs xs → vs = (xs.map S).map V.str ∧ ∀ x ∈ xs, ∀ c ∈ x, c < 1114112
  | _, _, .nil => ⟨rfl, fun _ h => by cases h⟩
  | _, _, .cons ⟨h1, h2⟩ t => by
    obtain ⟨h3, h4⟩ := pr_strs t
    subst h1 h3
    exact ⟨rfl, fun x hx => by
      rcases List.mem_cons.mp hx with rfl | hx
      · exact h2
      · exact h4 x hx⟩
theorem ev_join {f : E → Option (List Nat)} {g : E → Option (List (List Nat))} {apos : Pos} (ho : EV X Γ a tStr f) (he : EV X Γ e (tList tStr) g) (hs : starEach [e] X.env = [(false, eval e X.env)] := by rfl) (hbase : attributeBase a "join" X.env (eval a X.env) = eval a X.env := by rfl) (hline : (apos.endLine == pos.line) = true := by rfl) :
    EV X Γ (.Call (.Attribute a "join" apos) [e] [] pos) tStr (bind2 f g mJoin) := by
  intro ρ σ B O H S I c hc Q q
  refine ⟨_, pe_join (pe_wp X a) (pe_wp X e) hs hbase hline, ?_⟩
  unfold bind2 at hc
  cases hf : f ρ with
  | none => rw [hf] at hc; cases hc
  | some x =>
    rw [hf] at hc
    cases hg : g ρ with
    | none => simp only [Option.bind, hg] at hc; cases hc
    | some ys =>
      simp only [Option.bind, hg] at hc
      unfold mJoin at hc
      split at hc
      · rename_i hz
        cases hc
        refine ho ρ σ B O H S I x hf _ fun u B1 H1 s1 r1 => ?_
        obtain ⟨rfl, hok⟩ := r1
        refine ⟨⟨_, rfl⟩, ?_⟩
        refine he ρ σ B1 O H1 (S.mono s1.bb) (I.step s1) ys hg _ fun v B2 H2 s2 r2 => ?_
        obtain ⟨p, vs, rfl, hsq, hr⟩ := r2
        obtain ⟨h1, h2⟩ := pr_strs hr
        subst h1
        have hlen : ((ys.map ML.S).map (·.length)) = ys.map List.length := by
          rw [List.map_map]
          exact List.map_congr_left fun y _ => S_len y
        refine ⟨ML.S x, p, ys.map ML.S, rfl, rfl, .inl (ex_l s2.bh hsq), by rw [hlen, List.length_map, S_len]; exact hz, q _ B2 H2 (s1.trans s2) ⟨?_, fun c hc => ?_⟩⟩
        · show V.str _ = V.str _
          rw [S_mk (Txt.join (ML.S x) (ys.map ML.S))]
          show V.str (ML.S _) = V.str (ML.S _)
          rw [show (Txt.join (ML.S x) (ys.map ML.S)).cps.toList = joinL x ys from tl_joinS x ys]
        · rcases joinL_mem hc with h | ⟨y, h1, h3⟩
          · exact hok c h
          · exact h2 y h1 c h3
      · cases hc
/-- a text's method of one argument -/
theorem ev_m1 {id : String} {name : Str} {apos : Pos} {r : V → List V → Hp → VK → Prop} {f : E → Option (List Nat)} {g : E → Option β} {m : List Nat → β → Option γ} (slot : Slot "str" name id) (ty : typeOf (.builtin id) = pure (.type "method_descriptor")) (rule : MtR X id r) (hr : R2M X (fun x y H Q => r x [y] H Q) tStr U W m)
    (ho : EV X Γ a tStr f) (he : EV X Γ e U g) (hs : starEach [e] X.env = [(false, eval e X.env)] := by rfl) (hbase : attributeBase a name X.env (eval a X.env) = eval a X.env := by rfl) (hline : (apos.endLine == pos.line) = true := by rfl) :
    EV X Γ (.Call (.Attribute a name apos) [e] [] pos) W (bind2 f g m) := by
  intro ρ σ B O H S I c hc Q q
  refine ⟨_, pe_m1 slot ty rule (pe_wp X a) (pe_wp X e) hs hbase hline, ?_⟩
  unfold bind2 at hc
  cases hf : f ρ with
  | none => rw [hf] at hc; cases hc
  | some x =>
    rw [hf] at hc
    cases hg : g ρ with
    | none => simp only [Option.bind, hg] at hc; cases hc
    | some y =>
      simp only [Option.bind, hg] at hc
      refine ho ρ σ B O H S I x hf _ fun u B1 H1 s1 r1 => ?_
      refine ⟨⟨_, r1.1⟩, ?_⟩
      refine he ρ σ B1 O H1 (S.mono s1.bb) (I.step s1) y hg _ fun v B2 H2 s2 r2 => ?_
      exact hr B2 H2 u v x y c s2.bh r1 r2 hc Q fun w B3 H3 s3 r3 => q w B3 H3 ((s1.trans s2).trans s3) r3
theorem r_find : R2M X (fun x y H Q => (fun x xs H Q => ∃ a b, x = .str a ∧ xs = [.str b] ∧ Q (.int (Txt.find a b)) H) x [y] H Q) tStr tStr tInt (fun x y => some (Txt.find (S x) (S y))) := fun B H u v x y z e hu hv hm Q q => by
  cases hm
  obtain ⟨rfl, _⟩ := hu
  obtain ⟨rfl, _⟩ := hv
  exact ⟨_, _, rfl, rfl, q _ B H (.refl e) rfl⟩
/-- x[::-1] of a text -/
def tRevS (te : TE) : TE := fun σ H Q => te σ H fun x H1 => ∃ z, x = .str z ∧ z.length ≤ sizeLine ∧ Q (.str ⟨z.cps.toList.reverse.toArray⟩) H1
theorem sliceBy_rev (z : Str) (u : Tok) : Txt.sliceBy z none none (-1, u) = ⟨z.cps.toList.reverse.toArray⟩ := by
  refine TL.ext_tl ?_
  show (Txt.sliceBy z none none (-1, u)).cps.toList = z.cps.toList.reverse
  rw [PyProof.Rows.step_rev_list]
  refine List.ext_getElem? fun i => ?_
  rw [List.getElem?_map]
  by_cases h : i < z.length
  · rw [List.getElem?_range h, List.getElem?_reverse (by simpa [Str.length] using h)]
    have h2 : z.length - 1 - i < z.cps.toList.length := by
      have : z.length = z.cps.toList.length := TL.len_tl z
      omega
    show some (z.cps.getD (z.length - 1 - i) 0) = _
    have e : z.cps.toList.length - 1 - i = z.length - 1 - i := by rw [TL.len_tl z]
    rw [e, List.getElem?_eq_getElem h2]
    have h3 : z.length - 1 - i < z.cps.size := by simpa using h2
    simp [Array.getD, h3]
  · have h1 : (List.range z.length)[i]? = none := List.getElem?_eq_none (by simpa using h)
    rw [h1]
    symm
    exact List.getElem?_eq_none (by rw [List.length_reverse]; simpa [Str.length] using h)
theorem pe_revS {te : TE} {k : Nat} {p1 p2 p3 : Pos} (he : PE X e te) : PE X (.Subscript e (.Slice none none (some (.UnaryOp .USub (.Constant (.int 1) k p1) p2)) p3) pos) (tRevS te) := by
  refine ⟨fun pins s σ H Q I h => ?_⟩
  refine Subscript_ (thn (he.run pins s σ H _ I h) fun v s1 ⟨x, H1, I1, r1, q1⟩ => ?_)
  obtain ⟨z, ex, hz, q⟩ := q1
  subst ex
  obtain ⟨t, rfl⟩ := r1
  have hst : PO X (some (.UnaryOp .USub (.Constant (.int 1) k p1) p2)) (tPart (tUn (rU fun i => .int (-i)) (tC (.int 1)))) := po_some (pe_un un_neg pe_int)
  refine wpAny_Slice (thn (po_none.run pins s1 σ H1 (fun o H2 => o = none ∧ H2 = H1) I1 ⟨rfl, rfl⟩) fun vl s2 ⟨l, H2, I2, pl, el, e2⟩ => ?_)
  subst el e2
  refine thn (po_none.run pins s2 σ H2 (fun o H3 => o = none ∧ H3 = H2) I2 ⟨rfl, rfl⟩) fun vu s3 ⟨u, H3, I3, pu, eu, e3⟩ => ?_
  subst eu e3
  refine thn (hst.run pins s3 σ H3 (fun o H4 => o = some (-1) ∧ H4 = H3) I3 ⟨1, rfl, -1, rfl, rfl, rfl⟩) fun vs s4 ⟨o, H4, I4, ps, eo, e4⟩ => ?_
  subst eo e4
  have I5 : Inv X pins σ H4 { s4 with heap := s4.heap.push { cls := .type "slice", data := .fields #[vl, vu, vs] } } := I4.kept (t' := s4.toks) fun b ob q => Heap.get?_push_of_some _ q
  obtain ⟨lo, rfl, hlo⟩ := IsPart.raw pl
  obtain ⟨hi, rfl, hhi⟩ := IsPart.raw pu
  obtain ⟨st, rfl, hst'⟩ := IsPart.raw ps
  obtain rfl : lo = none := by cases lo with | none => rfl | some y => cases hlo
  obtain rfl : hi = none := by cases hi with | none => rfl | some y => cases hhi
  obtain ⟨u', rfl⟩ : ∃ u', st = some (-1, u') := by
    cases st with
    | none => cases hst'
    | some y =>
      obtain ⟨y1, y2⟩ := y
      have : y1 = -1 := Option.some.inj hst'
      subst this
      exact ⟨y2, rfl⟩
  show wpAny (model X.prog X.w) X.A (subscriptTail e (.Slice none none (some (.UnaryOp .USub (.Constant (.int 1) k p1) p2)) p3) (.str z t) (.ref s4.heap.objs.size)) (EP X pins σ Q) X.xe { s4 with heap := s4.heap.push { cls := .type "slice", data := .fields #[partValue none, partValue none, partValue (some (-1, u'))] } }
  refine tail_any (ops := [.str z t, .ref s4.heap.objs.size]) (typeIs_str _ _ _) (F.slot_str_getitem.lookup) ?_ (by with_unfolding_all rfl)
  refine wpAny_getItem_str_slice (l := none) (u := none) (st := some (-1, u')) ⟨_, Heap.get?_push_size _ rfl, rfl, rfl⟩ rfl ?_
  have e0 := sliceBy_rev z u'
  unfold Txt.sliceBy at e0
  have hc : ¬ (((((some ((-1 : Int), u')).map (·.1)).getD 1 == 1) && ((slicePicked z none none (some (-1, u'))).length == z.length)) = true) := by
    have : ((((some ((-1 : Int), u')).map (·.1)).getD 1 == 1)) = false := rfl
    rw [this, Bool.false_and]
    exact Bool.false_ne_true
  unfold sliceMade
  rw [if_neg hc] at e0 ⊢
  rw [e0]
  exact ⟨by rw [TL.len_tl, TL.tl_mk, List.length_reverse, ← TL.len_tl]; exact hz, .str _, H4, I5.tok _, ⟨_, rfl⟩, q⟩
theorem ev_revS {k : Nat} {p1 p2 p3 : Pos} {f : E → Option (List Nat)} (he : EV X Γ e tStr f) : EV X Γ (.Subscript e (.Slice none none (some (.UnaryOp .USub (.Constant (.int 1) k p1) p2)) p3) pos) tStr (bind1 f fun x => if x.length ≤ 16777216 then some x.reverse else none) := by
  intro ρ σ B O H S I c hc Q q
  refine ⟨_, pe_revS (pe_wp X e), ?_⟩
  refine he.run1 S I hc fun x u B1 H1 s1 r1 hm => ?_
  split at hm
  · rename_i hz
    cases hm
    exact ⟨ML.S x, r1.1, by rw [S_len, sizeLine_eq]; exact hz, q _ B1 H1 s1 ⟨rfl, fun c hc => r1.2 c (List.mem_reverse.mp hc)⟩⟩
  · cases hm
theorem evo_revL {k : Nat} {p1 p2 p3 : Pos} {f : E → Option (List α)} (he : EV X Γ e (tList T) f) : EVO X Γ (.Subscript e (.Slice none none (some (.UnaryOp .USub (.Constant (.int 1) k p1) p2)) p3) pos) (oList T) (bind1 f fun x => some x.reverse) := by
  intro ρ σ B O H S I c hc Q q
  refine ⟨_, pe_revL (pe_wp X e), ?_⟩
  refine he.run1 S I hc fun x u B1 H1 s1 r1 hm => ?_
  cases hm
  obtain ⟨p, vs, rfl, hs, r⟩ := r1
  refine ⟨p, vs, rfl, ex_l s1.bh hs, fun l hl => q l _ B1 _ (s1.trans (.other s1.bh hl)) (none_back s1.hh hl) (none_back s1.bh hl) upd_same ⟨_, rfl, ?_⟩⟩
  have aux : ∀ {vs : List V} {xs : List α}, Paired (T.rep X.K B1) vs xs → Paired (T.rep X.K B1) vs.reverse xs.reverse := fun {vs xs} h => by
    induction h with
    | nil => exact .nil
    | cons r t ih =>
      rw [List.reverse_cons, List.reverse_cons]
      exact pr_app ih (.cons r .nil)
  exact aux r

/-! ### sorted of texts -/
def leN (a b : List Nat) : Bool := !decide (b < a)
def sortT (xs : List (List Nat)) : List (List Nat) := xs.mergeSort leN
theorem lex_trans {a b c : List Nat} (h1 : leN a b = true) (h2 : leN b c = true) : leN a c = true := by
  unfold leN at *
  simp only [Bool.not_eq_true', decide_eq_false_iff_not, List.not_lt] at *
  exact List.le_trans h1 h2
theorem lex_total (a b : List Nat) : (leN a b || leN b a) = true := by
  unfold leN
  simp only [Bool.or_eq_true, Bool.not_eq_true', decide_eq_false_iff_not, List.not_lt]
  exact List.le_total a b
theorem lex_anti {a b : List Nat} (h1 : leN a b = true) (h2 : leN b a = true) : a = b := by
  unfold leN at *
  simp only [Bool.not_eq_true', decide_eq_false_iff_not, List.not_lt] at *
  exact List.le_antisymm h1 h2
theorem sorted_unique : ∀ {xs ys : List (List Nat)}, xs.Perm ys → xs.Pairwise (fun a b => leN a b = true) → ys.Pairwise (fun a b => leN a b = true) → xs = ys
  | [], ys, p, _, _ => (List.Perm.nil_eq p)
  | x :: xs, [], p, _, _ => absurd p.length_eq (by simp)
  | x :: xs, y :: ys, p, h1, h2 => by
    have e : x = y := by
      have hx : x ∈ y :: ys := p.mem_iff.mp List.mem_cons_self
      have hy : y ∈ x :: xs := p.mem_iff.mpr List.mem_cons_self
      rcases List.mem_cons.mp hx with e | hx
      · exact e
      · rcases List.mem_cons.mp hy with e | hy
        · exact e.symm
        · exact lex_anti ((List.pairwise_cons.mp h1).1 y hy) ((List.pairwise_cons.mp h2).1 x hx)
    subst e
    rw [sorted_unique (p.cons_inv) (List.pairwise_cons.mp h1).2 (List.pairwise_cons.mp h2).2]
theorem sortT_perm (xs : List (List Nat)) : (sortT xs).Perm xs := List.mergeSort_perm xs leN
theorem sortT_sorted (xs : List (List Nat)) : (sortT xs).Pairwise (fun a b => leN a b = true) := List.pairwise_mergeSort (le := leN) (fun _ _ _ h1 h2 => lex_trans h1 h2) lex_total xs
theorem rising_pw : ∀ (p : Str) (xs : List Str), PyProof.Rows.risingS p xs = true → (p :: xs).Pairwise (fun a b => leN a.cps.toList b.cps.toList = true)
  | p, [], _ => by simp
  | p, x :: r, h => by
    simp only [PyProof.Rows.risingS, Bool.and_eq_true] at h
    have ih := rising_pw x r h.2
    have hpx : leN p.cps.toList x.cps.toList = true := by
      have := h.1
      rw [PyProof.Rows.ltCps_eq] at this
      exact this
    refine List.pairwise_cons.mpr ⟨fun y hy => ?_, ih⟩
    rcases List.mem_cons.mp hy with rfl | hy
    · exact hpx
    · exact lex_trans hpx ((List.pairwise_cons.mp ih).1 y hy)
theorem sortedS_pw {xs : List Str} (h : PyProof.Rows.sortedS xs = true) : xs.Pairwise (fun a b => leN a.cps.toList b.cps.toList = true) := by
  cases xs with
  | nil => exact .nil
  | cons x r => exact rising_pw x r h
def rSortT (K : Fg) : List V → Hp → VK → Prop := fun vs H Q => ∃ (a : Addr) (xs : List (List Nat)), vs = [V.ref a] ∧ SqL K H a ((xs.map S).map V.str) ∧ ∀ p, H p = none → Q (.ref p) (upd H p (.lst (((sortT xs).map S).map V.str)))
theorem cr_sortT : CallR X (.builtin "sorted") (rSortT X.K) := by
  intro pins s σ H vs us Q I r h
  obtain ⟨a, xs, rfl, hs, q⟩ := h
  obtain ⟨its, rv, hl, hz⟩ := I.list hs
  rw [Vals.ref1 r]
  refine PyProof.Rows.sorted_strsAny hl.isList rv.strs (by rw [← rv.length]; exact hz) fun out ys h1 h2 h3 => ?_
  obtain ⟨ep, he'⟩ := PyProof.Rows.sortedAll_at s.heap its out
  have hlen : (ys.map V.str).length ≤ sizeLine := by
    rw [List.length_map] at hz ⊢
    rw [h2.length_eq]; exact hz
  have key : ys = (sortT xs).map S := by
    have p1 : (ys.map TL.tl).Perm (sortT xs) := by
      have p := h2.map TL.tl
      have e : (xs.map S).map TL.tl = xs := by
        rw [List.map_map]
        exact List.map_id'' (fun _ => rfl) xs
      rw [e] at p
      exact p.trans (sortT_perm xs).symm
    have e2 := sorted_unique p1 (List.pairwise_map.mpr (sortedS_pw h3)) (sortT_sorted xs)
    rw [← e2, List.map_map]
    exact (List.map_id'' (fun _ => rfl) ys).symm
  rw [key] at hlen h1
  exact ⟨.ref _, upd H (s.heap.objs.size + 1) (.lst (((sortT xs).map S).map V.str)), I.laid (t' := s.toks) (fun _ _ => PyProof.Rows.sortedAll_old) (Nat.le_succ _) ⟨hlen, out.toList, ep, vals_of_strs h1, he'⟩, rfl, q _ (I.hok.fresh (Nat.le_succ _))⟩
theorem pr_ofS {K : Fg} {H : Hp} : ∀ {xs : List (List Nat)}, (∀ x ∈ xs, ∀ c ∈ x, c < 1114112) → Paired (tStr.rep K H) ((xs.map S).map V.str) xs
  | [], _ => .nil
  | x :: xs, h => .cons ⟨rfl, h x List.mem_cons_self⟩ (pr_ofS fun y hy => h y (List.mem_cons_of_mem _ hy))
theorem ra_sortT : RAO X (rSortT X.K) (A1 (tList tStr)) (oList tStr) (fun x => some (sortT x.1)) := fun B H vs x z e h hm Q q => by
  cases hm
  obtain ⟨v, rfl, p, ys, rfl, hs, r⟩ := A1.inv h
  obtain ⟨h1, h2⟩ := pr_strs r
  subst h1
  exact ⟨p, x.1, rfl, ex_l e hs, fun l hl => q l _ _ (.other e hl) hl upd_same ⟨_, rfl, pr_ofS fun y hy => h2 y ((sortT_perm x.1).mem_iff.mp hy)⟩⟩

/-! ### calls of one's own defs -/
/-- a promise on data -/
def spD {α R : Type} (K : Fg) (A : TyA α) (T : Ty R) (m : α → Option R) : Sp := fun vs H Q _ => ∃ B a r, Ex B H ∧ A.rep K B vs a ∧ m a = some r ∧ ∀ v B' H', Step B H B' H' → T.rep K B' v r → Q v H'
/-- a new object of one's own comes back -/
def spO {α R : Type} (K : Fg) (A : TyA α) (T : OTy R) (m : α → Option R) : Sp := fun vs H Q _ => ∃ B a r, Ex B H ∧ A.rep K B vs a ∧ m a = some r ∧ ∀ p o B' H', Step B H B' H' → H p = none → B' p = none → H' p = some o → T.rep K B' o r → Q (.ref p) H'
/-- the first argument is an object that is lent and written -/
structure StL (p : Addr) (B H B' H' : Hp) : Prop where
  bb : Ex B B'
  bh : Ex B' H'
  hh : ∀ q u, q ≠ p → H q = some u → H' q = some u
  nw : ∀ q, B q = none → H q ≠ none → B' q = none
def spL {α β R : Type} (K : Fg) (OT : OTy β) (A : TyA α) (T : Ty R) (m : β → α → Option (R × β)) : Sp := fun vs H Q _ => ∃ p rest o B b a r b', vs = .ref p :: rest ∧ H p = some o ∧ B p = none ∧ Ex B H ∧ OT.rep K B o b ∧ A.rep K B rest a ∧ m b a = some (r, b') ∧
  ∀ v B' H' o', StL p B H B' H' → B' p = none → H' p = some o' → OT.rep K B' o' b' → T.rep K B' v r → Q v H'
theorem ev_call {k : Nat} {x : Str} {p : Pos} {f : Addr} {fd : FuncData} {ps : List Str} {es : List Expr} {A : TyA α} {V : Ty δ} {fa : E → Option α} {m : α → Option δ} (F : FnOk X.prog X.w X.K X.mg X.base CX0 k f fd ps (spD X.K A V m)) (hr : Room k X.A) (hm : X.mg x = some (.ref f)) (hk : PySem.W.keepIn X.K (.ref f) = true) (hb : Binds X.K fd ps [])
    (ha : EVA X Γ (e :: es) A fa) (hg : Gl X x := by rfl) (hdb : (x == ("__debug__" : Str)) = false := by decide) (hst : starEach (e :: es) X.env = (false, eval e X.env) :: starEach es X.env := by rfl) (hpl : (backTo pos (starEach es X.env)).any (·.1) = false := by rfl) : EV X Γ (.Call (.Name x p) (e :: es) [] pos) V (bind1 fa m) := by
  intro ρ σ B O H S I c hc Q q
  refine ⟨_, pe_call F hr hg hm hk hb .nil pass0 (pa_wp X _) hdb hst hpl, ?_⟩
  refine ha.run1 S I hc fun a vs B1 H1 s1 r1 hm => ⟨B1, a, c, s1.bh, by rw [List.append_nil]; exact r1, hm, fun v B2 H2 s2 r2 => q v B2 H2 (s1.trans s2) r2⟩
theorem em_call {k : Nat} {x : Str} {p : Pos} {f : Addr} {fd : FuncData} {ps : List Str} {es : List Expr} {A : TyA α} {V : Ty δ} {fa : E → Option (α × E)} {m : α → Option δ} (F : FnOk X.prog X.w X.K X.mg X.base CX0 k f fd ps (spD X.K A V m)) (hr : Room k X.A) (hm : X.mg x = some (.ref f)) (hk : PySem.W.keepIn X.K (.ref f) = true) (hb : Binds X.K fd ps [])
    (ha : EMA X Γ (e :: es) A fa) (hg : Gl X x := by rfl) (hdb : (x == ("__debug__" : Str)) = false := by decide) (hst : starEach (e :: es) X.env = (false, eval e X.env) :: starEach es X.env := by rfl) (hpl : (backTo pos (starEach es X.env)).any (·.1) = false := by rfl) : EM X Γ (.Call (.Name x p) (e :: es) [] pos) V (then1 fa m) := by
  intro ρ σ B O H S I c ρ' hc Q q
  refine ⟨_, pe_call F hr hg hm hk hb .nil pass0 (pa_wp X _) hdb hst hpl, ?_⟩
  exact ha.run1 S I hc fun a vs B1 O1 H1 s1 S1 r1 hm => ⟨B1, a, c, s1.bh, by rw [List.append_nil]; exact r1, hm, fun v B2 H2 s2 r2 => q v B2 O1 H2 (s1.trans (.of (I.stO s1) s2)) (S1.mono s2.bb) r2⟩
theorem emo_call {k : Nat} {x : Str} {p : Pos} {f : Addr} {fd : FuncData} {ps : List Str} {es : List Expr} {A : TyA α} {V : OTy δ} {fa : E → Option (α × E)} {m : α → Option δ} (F : FnOk X.prog X.w X.K X.mg X.base CX0 k f fd ps (spO X.K A V m)) (hr : Room k X.A) (hm : X.mg x = some (.ref f)) (hk : PySem.W.keepIn X.K (.ref f) = true) (hb : Binds X.K fd ps [])
    (ha : EMA X Γ (e :: es) A fa) (hg : Gl X x := by rfl) (hdb : (x == ("__debug__" : Str)) = false := by decide) (hst : starEach (e :: es) X.env = (false, eval e X.env) :: starEach es X.env := by rfl) (hpl : (backTo pos (starEach es X.env)).any (·.1) = false := by rfl) : EMO (PE X (.Call (.Name x p) (e :: es) [] pos)) X Γ V (then1 fa m) := by
  intro ρ σ B O H S I c ρ' hc Q q
  refine ⟨_, pe_call F hr hg hm hk hb .nil pass0 (pa_wp X _) hdb hst hpl, ?_⟩
  exact ha.run1 S I hc fun a vs B1 O1 H1 s1 S1 r1 hm => ⟨B1, a, c, s1.bh, by rw [List.append_nil]; exact r1, hm, fun p o B2 H2 s2 h1 h2 h3 r2 => by
    have I1 := I.stO s1
    have hn : H p = none := by
      cases z : H p with
      | none => rfl
      | some u => exact absurd h1 (s1.th p (by rw [z]; exact fun y => by cases y))
    refine q p o B2 O1 H2 (s1.trans (.of I1 s2)) (S1.mono s2.bb) hn h2 ?_ h3 r2
    cases z : O1 p with
    | none => rfl
    | some y => have := (I1.oo p y.1 y.2 z).1; rw [h1] at this; cases this⟩
/-- f(own, e, ..) -/
def lendE {E α β δ : Type} (g : E → β) (s : E → β → E) (fa : E → Option (α × E)) (m : β → α → Option (δ × β)) : E → Option (δ × E) := fun ρ => (fa ρ).bind fun x => (m (g x.2) x.1).map fun r => (r.1, s x.2 r.2)
theorem em_lend {k i : Nat} {x y : Str} {p py : Pos} {f : Addr} {fd : FuncData} {ps : List Str} {es : List Expr} {A : TyA α} {OT : OTy β} {V : Ty δ} {g : E → β} {s : E → β → E} {fa : E → Option (α × E)} {m : β → α → Option (δ × β)} (F : FnOk X.prog X.w X.K X.mg X.base CX0 k f fd ps (spL X.K OT A V m)) (hr : Room k X.A) (hm : X.mg x = some (.ref f)) (hk : PySem.W.keepIn X.K (.ref f) = true) (hb : Binds X.K fd ps [])
    (ho : IsOwn Γ[i]? OT g) (hgs : ∀ ρ a, g (s ρ a) = a) (hks : Keeps s Γ i) (ha : EMA X Γ es A fa) (hN : X.N[i]? = some y := by rfl) (hv : Vis X.env.scope y := by first | exact Or.inl rfl | exact Or.inr (Or.inl rfl) | exact Or.inr (Or.inr rfl))
    (hd : (y == ("__debug__" : Str)) = false := by decide) (hcd : (y == ("__classdict__" : Str)) = false := by decide) (hg : Gl X x := by rfl) (hdb : (x == ("__debug__" : Str)) = false := by decide)
    (hst : starEach (.Name y py :: es) X.env = (false, eval (.Name y py) X.env) :: starEach es X.env := by rfl) (hpl : (backTo pos (starEach es X.env)).any (·.1) = false := by rfl) : EM X Γ (.Call (.Name x p) (.Name y py :: es) [] pos) V (lendE g s fa m) := by
  intro ρ σ B O H S I c ρ' hc Q q
  unfold lendE at hc
  cases hf : fa ρ with
  | none => rw [hf] at hc; cases hc
  | some z =>
    rw [hf] at hc
    have hc : ((m (g z.2) z.1).map fun r => (r.1, s z.2 r.2)) = some (c, ρ') := hc
    cases hmz : m (g z.2) z.1 with
    | none => rw [hmz] at hc; cases hc
    | some r =>
      rw [hmz] at hc
      cases hc
      refine ⟨_, pe_call F hr hg hm hk hb .nil pass0 (pa_cons (pe_var hN hv hd hcd) (pa_wp X es) hst) hdb hst hpl, ?_⟩
      obtain ⟨l, o, e1, e2, e3⟩ := S.ownGet ho
      refine ⟨.ref l, e1, ?_⟩
      refine ha ρ σ B O H S I z.1 z.2 hf _ fun vs B1 O1 H1 s1 S1 r1 => ?_
      obtain ⟨l', o', e1', e2', e3'⟩ := S1.ownGet ho
      rw [e1] at e1'
      cases e1'
      have I1 := I.stO s1
      obtain ⟨hp, hbp⟩ := I1.oo l i o' e2'
      refine ⟨l, vs, o', B1, g z.2, z.1, r.1, r.2, by rw [List.append_nil], hp, hbp, s1.bh, e3', r1, hmz, fun v B2 H2 o2 st hb2 hp2 ro rv => ?_⟩
      have s2 : StO B1 O1 H1 B2 (owPut O1 l i o2) H2 := ⟨st.bb, st.bh, fun a u h n => st.hh a u (fun w => by rw [w, e2'] at n; cases n) h, st.nw, fun a j u w => by
        by_cases y : a = l
        · subst y; rw [owPut_same] at w; cases w; exact ⟨hp2, o', e2'⟩
        · rw [owPut_ne y] at w; exact ⟨st.hh a u y (I1.oo a j u w).1, u, w⟩, fun a h => by
        by_cases y : a = l
        · subst y; rw [hp2]; exact fun w => by cases w
        · cases w : H1 a with
          | none => exact absurd w h
          | some u => rw [st.hh a u y w]; exact fun w => by cases w⟩
      exact q v B2 _ H2 (s1.trans s2) ((S1.mono st.bb).put ho e1 e2' ro hgs hks) rv

/-! ### defs -/
def endF {E R : Type} (nv : Option R) (f : E → Option (Fl E R)) : E → Option R := fun ρ => (f ρ).bind fun fl => match fl with
  | .rt r _ => some r
  | .nx _ => nv
  | _ => none
def endL {E R β : Type} (nv : Option R) (g : E → β) (f : E → Option (Fl E R)) : E → Option (R × β) := fun ρ => (f ρ).bind fun fl => match fl with
  | .rt r ρ' => some (r, g ρ')
  | .nx ρ' => nv.map fun r => (r, g ρ')
  | _ => none
/-- the slots at a def's start -/
def StOk (K : Fg) (B : Hp) {E : Type} (ρ : E) : List V → List (SK E) → Prop
  | [], Γ => ∀ k ∈ Γ, k = .any
  | v :: vs, .dat T g :: Γ => T.rep K B v (g ρ) ∧ StOk K B ρ vs Γ
  | _ :: vs, .any :: Γ => StOk K B ρ vs Γ
  | _, _ => False
theorem StOk.sa {K : Fg} {B : Hp} {O : Ow} {ρ : E} : ∀ {vs : List V} {Γ : List (SK E)} (j : Nat), StOk K B ρ vs Γ → ∀ (i : Nat) (k : SK E), Γ[i]? = some k → i < Γ.length → ∃ x, (vs.map some ++ List.replicate (Γ.length - vs.length) none)[i]? = some x ∧ SlotOk K B O ρ (i + j) k x
  | [], Γ, j, h, i, k, e, hi => by
    refine ⟨none, ?_, ?_⟩
    · simp [hi]
    · rw [h k (List.mem_of_getElem? e)]; trivial
  | v :: vs, .dat T g :: Γ, j, h, 0, k, e, hi => by
    cases e
    exact ⟨some v, rfl, v, rfl, h.1⟩
  | v :: vs, .any :: Γ, j, h, 0, k, e, hi => by
    cases e
    exact ⟨some v, rfl, trivial⟩
  | v :: vs, .dat T g :: Γ, j, h, i + 1, k, e, hi => by
    obtain ⟨x, h1, h2⟩ := StOk.sa (vs := vs) (Γ := Γ) (j + 1) h.2 i k e (Nat.lt_of_succ_lt_succ hi)
    refine ⟨x, ?_, by rw [show i + 1 + j = i + (j + 1) by omega]; exact h2⟩
    rw [show (SK.dat T g :: Γ).length - (v :: vs).length = Γ.length - vs.length by simp]
    exact h1
  | v :: vs, .any :: Γ, j, h, i + 1, k, e, hi => by
    obtain ⟨x, h1, h2⟩ := StOk.sa (vs := vs) (Γ := Γ) (j + 1) h i k e (Nat.lt_of_succ_lt_succ hi)
    refine ⟨x, ?_, by rw [show i + 1 + j = i + (j + 1) by omega]; exact h2⟩
    rw [show (SK.any :: Γ).length - (v :: vs).length = Γ.length - vs.length by simp]
    exact h1
  | v :: vs, [], _, h, _, _, _, _ => h.elim
  | v :: vs, .own T g :: Γ, _, h, _, _, _, _ => h.elim
  | v :: vs, .ownAt p T g :: Γ, _, h, _, _, _, _ => h.elim
theorem StOk.len {K : Fg} {B : Hp} {ρ : E} : ∀ {vs : List V} {Γ : List (SK E)}, StOk K B ρ vs Γ → vs.length ≤ Γ.length
  | [], _, _ => Nat.zero_le _
  | v :: vs, .dat T g :: Γ, h => Nat.succ_le_succ (StOk.len h.2)
  | v :: vs, .any :: Γ, h => Nat.succ_le_succ (StOk.len (vs := vs) (Γ := Γ) h)
  | v :: vs, [], h => h.elim
  | v :: vs, .own T g :: Γ, h => h.elim
  | v :: vs, .ownAt p T g :: Γ, h => h.elim
section
variable {P : Program} {w : World} {K : Fg} {mg : Str → Option Value} {base : Heap}
abbrev bodyX (P : Program) (w : World) (K : Fg) (mg : Str → Option Value) (base : Heap) (N : List Str) (qual : Str) (st : Stmt) (f : Addr) (cdv : Value) (A : Around) (outer : List Env) (s : Shared) (H : Hp) (E : XK) : Cx := (cxOf CX0 P w K mg base N qual (defScope st) f cdv A outer s H E).nox
theorem fn_D {x qual : Str} {st : Stmt} {f : Addr} {fd : FuncData} {N ps : List Str} {k : Nat} {Ar : TyA α} {T : Ty R} {init : α → E} {body : E → Option (Fl E R)} {nv : Option R} (F : Fun K x qual st f fd) (Sc : FnScope N ps (defScope st)) (hl : ∀ K B vs a, Ar.rep K B vs a → vs.length = ps.length)
    (hΓ : Γ.length = N.length) (hst : ∀ K B vs a, Ar.rep K B vs a → StOk K B (init a) vs Γ) (hnv : ∀ r, nv = some r → ∀ K B, T.rep K B .non r)
    (hbody : ∀ (cdv : Value) (A : Around) (outer : List Env) (s : Shared) (H : Hp) (E' : XK), Room k (A.deeper (envOfC qual (defScope st) s.heap.objs.size f cdv)) → SVs (bodyX P w K mg base N qual st f cdv A outer s H E') ({ rt := rtD T } : J E R) Γ (defBody st) Γn body) :
    FnOk P w K mg base CX0 (k + 1) f fd ps (spD K Ar T fun a => endF nv body (init a)) := by
  refine F.ok Sc (fun vs H Q E h => ?_) (fun cdv A outer s H vs Q E hr h => ?_)
  · obtain ⟨B, a, r, _, h1, _⟩ := h
    exact hl _ _ _ _ h1
  · obtain ⟨B, a, r, hB, h1, h2, q⟩ := h
    have hb := hbody cdv A outer s H E hr
    unfold endF at h2
    dsimp only at h2
    cases hf : body (init a) with
    | none => rw [hf] at h2; cases h2
    | some fl =>
      rw [hf] at h2
      have hs := hst _ _ _ _ h1
      have S0 : SA K B (fun _ => none) (init a) Γ (start N vs) := ⟨by
        show (vs.map some ++ List.replicate (N.length - vs.length) none).length = _
        have := hs.len
        rw [List.length_append, List.length_map, List.length_replicate, hΓ]
        omega, fun i k e => by
        obtain ⟨x, h3, h4⟩ := hs.sa (O := fun _ => none) 0 i k e (List.getElem?_eq_some_iff.mp e).1
        refine ⟨x, ?_, h4⟩
        rw [hΓ] at h3
        exact h3⟩
      have I0 : FI B H B (fun _ => none) H := ⟨Ex.refl _, hB, Ex.refl _, fun _ _ _ e => (by cases e), fun _ h _ => h⟩
      obtain ⟨t, ht1, ht2⟩ := hb (init a) B H (start N vs) B (fun _ => none) H S0 I0 fl hf { nx := fun _ H' => Q .non H', rt := Q } (by
        cases fl with
        | nx ρ' => exact fun σ' B' O' H' S' I' => q .non B' H' ⟨I'.bb, I'.bh, I'.hh, I'.nw⟩ (hnv r h2 _ _)
        | rt v ρ' =>
          cases h2
          exact fun u B' O' H' L' I' rr => q u B' H' ⟨I'.bb, I'.bh, I'.hh, I'.nw⟩ rr
        | bk ρ' => cases h2
        | ct ρ' => cases h2
        | ex x ρ' => cases h2)
      exact ⟨t, ht1, ht2⟩
theorem fn_O {x qual : Str} {st : Stmt} {f : Addr} {fd : FuncData} {N ps : List Str} {k : Nat} {Ar : TyA α} {T : OTy R} {init : α → E} {body : E → Option (Fl E R)} (F : Fun K x qual st f fd) (Sc : FnScope N ps (defScope st)) (hl : ∀ K B vs a, Ar.rep K B vs a → vs.length = ps.length)
    (hΓ : Γ.length = N.length) (hst : ∀ K B vs a, Ar.rep K B vs a → StOk K B (init a) vs Γ)
    (hbody : ∀ (cdv : Value) (A : Around) (outer : List Env) (s : Shared) (H : Hp) (E' : XK), Room k (A.deeper (envOfC qual (defScope st) s.heap.objs.size f cdv)) → SVs (bodyX P w K mg base N qual st f cdv A outer s H E') ({ rt := rtO T } : J E R) Γ (defBody st) Γn body) :
    FnOk P w K mg base CX0 (k + 1) f fd ps (spO K Ar T fun a => endF none body (init a)) := by
  refine F.ok Sc (fun vs H Q E h => ?_) (fun cdv A outer s H vs Q E hr h => ?_)
  · obtain ⟨B, a, r, _, h1, _⟩ := h
    exact hl _ _ _ _ h1
  · obtain ⟨B, a, r, hB, h1, h2, q⟩ := h
    have hb := hbody cdv A outer s H E hr
    unfold endF at h2
    dsimp only at h2
    cases hf : body (init a) with
    | none => rw [hf] at h2; cases h2
    | some fl =>
      rw [hf] at h2
      have hs := hst _ _ _ _ h1
      have S0 : SA K B (fun _ => none) (init a) Γ (start N vs) := ⟨by
        show (vs.map some ++ List.replicate (N.length - vs.length) none).length = _
        have := hs.len
        rw [List.length_append, List.length_map, List.length_replicate, hΓ]
        omega, fun i k e => by
        obtain ⟨x, h3, h4⟩ := hs.sa (O := fun _ => none) 0 i k e (List.getElem?_eq_some_iff.mp e).1
        refine ⟨x, ?_, h4⟩
        rw [hΓ] at h3
        exact h3⟩
      have I0 : FI B H B (fun _ => none) H := ⟨Ex.refl _, hB, Ex.refl _, fun _ _ _ e => (by cases e), fun _ h _ => h⟩
      obtain ⟨t, ht1, ht2⟩ := hb (init a) B H (start N vs) B (fun _ => none) H S0 I0 fl hf { nx := fun _ H' => Q .non H', rt := Q } (by
        cases fl with
        | nx ρ' => cases h2
        | rt v ρ' =>
          cases h2
          exact fun u B' O' H' L' I' rr => by
            obtain ⟨p, i, o, rfl, h4, h5⟩ := rr
            obtain ⟨y1, y2, y3⟩ := I'.oo p _ o h4
            exact q p o B' H' ⟨I'.bb, I'.bh, I'.hh, I'.nw⟩ y3 y2 y1 h5
        | bk ρ' => cases h2
        | ct ρ' => cases h2
        | ex x ρ' => cases h2)
      exact ⟨t, ht1, ht2⟩
theorem fn_L {x qual : Str} {st : Stmt} {f : Addr} {fd : FuncData} {N ps : List Str} {k : Nat} {Ar : TyA α} {OT : OTy β} {T : Ty R} {g : E → β} {init : β → α → E} {Γr : List (SK E)} {body : E → Option (Fl E R)} {nv : Option R} {Γe : Addr → List (SK E)} (F : Fun K x qual st f fd) (Sc : FnScope N ps (defScope st)) (hl : ∀ K B vs a, Ar.rep K B vs a → vs.length + 1 = ps.length)
    (hΓ : Γr.length + 1 = N.length) (hg : ∀ b a, g (init b a) = b) (hst : ∀ K B vs b a, Ar.rep K B vs a → StOk K B (init b a) vs Γr) (hnv : ∀ r, nv = some r → ∀ K B, T.rep K B .non r) (hn : ∀ p, (Γe p)[0]? = some (.ownAt p OT g) ∨ nv = none)
    (hbody : ∀ (p : Addr) (cdv : Value) (A : Around) (outer : List Env) (s : Shared) (H : Hp) (E' : XK), Room k (A.deeper (envOfC qual (defScope st) s.heap.objs.size f cdv)) → SVs (bodyX P w K mg base N qual st f cdv A outer s H E') ({ rt := rtD T, lent := some ⟨p, β, OT, g⟩ } : J E R) (.ownAt p OT g :: Γr) (defBody st) (Γe p) body) :
    FnOk P w K mg base CX0 (k + 1) f fd ps (spL K OT Ar T fun b a => endL nv g body (init b a)) := by
  refine F.ok Sc (fun vs H Q E h => ?_) (fun cdv A outer s H vs Q XE hr h => ?_)
  · obtain ⟨p, rest, o, B, b, a, r, b', rfl, _, _, _, _, h1, _⟩ := h
    exact hl _ _ _ _ h1
  · obtain ⟨p, rest, o, B, b, a, r, b', rfl, hp, hbp, hB, ho, h1, h2, q⟩ := h
    have hb := hbody p cdv A outer s H XE hr
    unfold endL at h2
    dsimp only at h2
    cases hf : body (init b a) with
    | none => rw [hf] at h2; cases h2
    | some fl =>
      rw [hf] at h2
      have hs := hst _ _ _ b _ h1
      have S0 : SA K B (fun x => if x = p then some (0, o) else none) (init b a) (.ownAt p OT g :: Γr) (start N (.ref p :: rest)) := ⟨by
        show ((V.ref p :: rest).map some ++ List.replicate (N.length - (V.ref p :: rest).length) none).length = _
        have := hs.len
        rw [List.length_append, List.length_map, List.length_replicate, List.length_cons, List.length_cons, hΓ]
        omega, fun i k e => by
        cases i with
        | zero =>
          cases e
          exact ⟨some (.ref p), rfl, o, rfl, if_pos rfl, by rw [hg]; exact ho⟩
        | succ i =>
          obtain ⟨x, h3, h4⟩ := hs.sa (O := fun x => if x = p then some (0, o) else none) 1 i k e (List.getElem?_eq_some_iff.mp (show Γr[i]? = some k from e)).1
          refine ⟨x, ?_, h4⟩
          show ((V.ref p :: rest).map some ++ List.replicate (N.length - (V.ref p :: rest).length) none)[i + 1]? = some x
          rw [← hΓ, List.length_cons, Nat.add_sub_add_right]
          exact h3⟩
      have I0 : FI B (fun x => if x = p then none else H x) B (fun x => if x = p then some (0, o) else none) H := by
        refine ⟨Ex.refl _, hB, fun x u e => ?_, fun x i u e => ?_, fun _ h _ => h⟩
        · by_cases z : x = p
          · rw [if_pos z] at e; cases e
          · rw [if_neg z] at e; exact e
        · by_cases z : x = p
          · rw [if_pos z] at e
            cases e
            subst z
            exact ⟨hp, hbp, if_pos rfl⟩
          · rw [if_neg z] at e; cases e
      have fin : ∀ {v : V} {B' : Hp} {O' : Ow} {H' : Hp} {ρ' : E}, LA K B' O' ρ' (some ⟨p, β, OT, g⟩) → FI B (fun x => if x = p then none else H x) B' O' H' → T.rep K B' v r → g ρ' = b' → Q v H' := fun {v B' O' H' ρ'} L' I' rr e => by
        obtain ⟨o', h4, h5⟩ := L'
        obtain ⟨y1, y2, y3⟩ := I'.oo p 0 o' h4
        refine q v B' H' o' ⟨I'.bb, I'.bh, fun x u hx hu => I'.hh x u (by rw [if_neg hx]; exact hu), fun x hx hu => ?_⟩ y2 y1 (by rw [← e]; exact h5) rr
        by_cases z : x = p
        · rw [z]; exact y2
        · exact I'.nw x hx (by rw [if_neg z]; exact hu)
      obtain ⟨t, ht1, ht2⟩ := hb (init b a) B _ (start N (.ref p :: rest)) B _ H S0 I0 fl hf { nx := fun _ H' => Q .non H', rt := Q } (by
        cases fl with
        | nx ρ' =>
          have h2 : (nv.map fun r => (r, g ρ')) = some (r, b') := h2
          cases hv : nv with
          | none => rw [hv] at h2; cases h2
          | some r' =>
            rw [hv] at h2
            cases h2
            exact fun σ' B' O' H' S' I' => by
              rcases hn p with e | e
              · obtain ⟨x, y1, o', y2, y3, y4⟩ := S'.at' 0 _ e
                exact fin (ρ' := ρ') ⟨o', y3, y4⟩ I' (hnv r hv _ _) rfl
              · rw [hv] at e; cases e
        | rt v ρ' =>
          cases h2
          exact fun u B' O' H' L' I' rr => fin L' I' rr rfl
        | bk ρ' => cases h2
        | ct ρ' => cases h2
        | ex x ρ' => cases h2)
      exact ⟨t, ht1, ht2⟩
end
end
end ML

/-! the mirror layer: the law's box of draws -/
namespace ML
open PySem PySem.Spec PyProof.Rows L2

structure Box where
  cells : List Int
  at' : Int
  left : Int
  seed : Int
deriving Inhabited
def Box.set (b : Box) : Nat → Int → Box
  | 1, v => { b with at' := v }
  | 2, v => { b with left := v }
  | _, v => { b with seed := v }
def Box.get (b : Box) : Nat → Int
  | 1 => b.at'
  | 2 => b.left
  | _ => b.seed
def oBox : OTy Box := ⟨fun K H o b => ∃ vc, o = .lst [vc, .int b.at', .int b.left, .int b.seed] ∧ (tList tInt).rep K H vc b.cells, fun e ⟨vc, h1, h2⟩ => ⟨vc, h1, (tList tInt).mono e h2⟩⟩
section
variable {X : Cx} {E R α β γ δ : Type} {Γ Γ1 Γ2 Γn : List (SK E)} {T : Ty α} {e a b : Expr} {pos : Pos} {Jc : J E R}
theorem ev_box0 {i : Nat} {x : Str} {p pc : Pos} {j} {g : E → Box} (hk : IsOwn Γ[i]? oBox g) (hN : X.N[i]? = some x := by rfl) (hv : Vis X.env.scope x := by first | exact Or.inl rfl | exact Or.inr (Or.inl rfl) | exact Or.inr (Or.inr rfl))
    (hd : (x == ("__debug__" : Str)) = false := by decide) (hcd : (x == ("__classdict__" : Str)) = false := by decide) (hs : PlainIx (.Constant (.int 0) j pc) := by exact fun _ _ => rfl) : EV X Γ (.Subscript (.Name x p) (.Constant (.int 0) j pc) pos) (tList tInt) (fun ρ => some (g ρ).cells) := by
  intro ρ σ B O H S I c hc Q q
  cases hc
  obtain ⟨l, o, h1, h2, vc, rfl, h3⟩ := S.ownGet hk
  exact ⟨_, pe_ix ix_list (pe_var hN hv hd hcd) pe_int hs, .ref l, h1, l, _, 0, vc, rfl, rfl, SqL.of (I.oo l i _ h2).1, rfl, q _ B H (.refl I.bh) h3⟩
theorem ev_box {i : Nat} {n : Nat} {x : Str} {p pc : Pos} {j} {g : E → Box} (hk : IsOwn Γ[i]? oBox g) (hn : n = 1 ∨ n = 2 ∨ n = 3) (hN : X.N[i]? = some x := by rfl) (hv : Vis X.env.scope x := by first | exact Or.inl rfl | exact Or.inr (Or.inl rfl) | exact Or.inr (Or.inr rfl))
    (hd : (x == ("__debug__" : Str)) = false := by decide) (hcd : (x == ("__classdict__" : Str)) = false := by decide) (hs : PlainIx (.Constant (.int (n : Int)) j pc) := by exact fun _ _ => rfl) : EV X Γ (.Subscript (.Name x p) (.Constant (.int (n : Int)) j pc) pos) tInt (fun ρ => some ((g ρ).get n)) := by
  intro ρ σ B O H S I c hc Q q
  cases hc
  obtain ⟨l, o, h1, h2, vc, rfl, h3⟩ := S.ownGet hk
  refine ⟨_, pe_ix ix_list (pe_var hN hv hd hcd) pe_int hs, .ref l, h1, l, _, n, .int ((g ρ).get n), rfl, rfl, SqL.of (I.oo l i _ h2).1, ?_, q _ B H (.refl I.bh) rfl⟩
  rcases hn with rfl | rfl | rfl <;> rfl
def boxSet {E R : Type} (g : E → Box) (s : E → Box → E) (n : Nat) (f : E → Option (Int × E)) : E → Option (Fl E R) := fun ρ => (f ρ).map fun y => .nx (s y.2 ((g y.2).set n y.1))
theorem sv_boxSet {i : Nat} {n : Nat} {x : Str} {p pc p2 : Pos} {j} {g : E → Box} {s : E → Box → E} {f : E → Option (Int × E)} (hk : IsOwn Γ[i]? oBox g) (he : EM X Γ e tInt f) (hg : ∀ ρ a, g (s ρ a) = a) (hs : Keeps s Γ i) (hn : n = 1 ∨ n = 2 ∨ n = 3) (hN : X.N[i]? = some x := by rfl) (hv : Vis X.env.scope x := by first | exact Or.inl rfl | exact Or.inr (Or.inl rfl) | exact Or.inr (Or.inr rfl))
    (hd : (x == ("__debug__" : Str)) = false := by decide) (hcd : (x == ("__classdict__" : Str)) = false := by decide)
    (ha : ∀ v, assign (.Subscript (.Name x p) (.Constant (.int (n : Int)) j pc) p2) X.env v = (do
      let ov ← holding [v] (eval (.Name x p) X.env)
      let iv ← holding [v, ov] (eval (.Constant (.int (n : Int)) j pc) X.env)
      standAt p2
      holding [v, ov, iv] (setItem ov iv v)
      release [v, ov, iv] []) := by intro _; rfl)
    (hsw : swapsWithSole [.Subscript (.Name x p) (.Constant (.int (n : Int)) j pc) p2] e pos.line X.env = pure false := by rfl) (hw : swappedStores [.Subscript (.Name x p) (.Constant (.int (n : Int)) j pc) p2] e X.env = pure none := by rfl)
    (h1 : (assignEach [.Subscript (.Name x p) (.Constant (.int (n : Int)) j pc) p2] X.env).map (·.2) = [assign (.Subscript (.Name x p) (.Constant (.int (n : Int)) j pc) p2) X.env] := by rfl) :
    SV X Jc Γ (.Assign [.Subscript (.Name x p) (.Constant (.int (n : Int)) j pc) p2] e pos) Γ (boxSet g s n f) := fun ρ B0 H0 σ B O H S I fl hfl D q => by
  unfold boxSet at hfl
  cases hf : f ρ with
  | none => rw [hf] at hfl; cases hfl
  | some y =>
    rw [hf] at hfl
    cases hfl
    refine ⟨_, ps_asg (pe_wp X e) (pg_sub (pe_var hN hv hd hcd) pe_int set_list ha) hsw hw h1, ?_⟩
    refine he ρ σ B O H S I.ei y.1 y.2 hf _ fun v B1 O1 H1 s1 S1 r1 => ?_
    have r1 : v = .int y.1 := r1
    subst r1
    obtain ⟨l, o, e1, e2, vc, rfl, e3⟩ := S1.ownGet hk
    have I1 := I.ei.stO s1
    refine ⟨.ref l, e1, l, _, n, n, rfl, rfl, (I1.oo l i _ e2).1, by rcases hn with rfl | rfl | rfl <;> rfl, ?_⟩
    refine q σ B1 _ _ (S1.put hk e1 e2 ?_ hg hs) (I.stO (s1.trans (.write I1 e2)))
    rcases hn with rfl | rfl | rfl <;> exact ⟨vc, rfl, e3⟩
/-- [cells, 0, 0, 0] -/
abbrev aBox : TyA (List Int × Int × Int × Int × Unit) := aCons (tList tInt) (aCons tInt (aCons tInt (aCons tInt aNil)))
theorem box_rep : ∀ K B vs x z, aBox.rep K B vs x → some (Box.mk x.1 x.2.1 x.2.2.1 x.2.2.2.1) = some z → vs.length ≤ sizeLine ∧ oBox.rep K B (.lst vs) z := fun K B vs x z h hm => by
  cases hm
  obtain ⟨v0, r, rfl, h1, v1, r', rfl, h2, v2, r'', rfl, h3, v3, r3, rfl, h4, h5⟩ := h
  cases h5
  cases h2
  cases h3
  cases h4
  exact ⟨by show 4 ≤ _; rw [sizeLine_eq]; decide, v0, rfl, h1⟩
abbrev mBox (x : List Int × Int × Int × Int × Unit) : Option Box := some (Box.mk x.1 x.2.1 x.2.2.1 x.2.2.2.1)
theorem emo_box {es : List Expr} {f : E → Option ((List Int × Int × Int × Int × Unit) × E)} (ha : EMA X Γ es aBox f) : EMO (PE X (.List es pos)) X Γ oBox (then1 f mBox) := emo_lst1 ha box_rep
end
end ML
namespace ML
open PySem PySem.Spec PyProof.Rows L2
section
variable {X : Cx} {E R α β γ δ : Type} {Γ Γ1 Γ2 Γn : List (SK E)} {T : Ty α} {e a b : Expr} {pos : Pos} {Jc : J E R} {st : Stmt}
theorem ltl {i n : Nat} {Γ : List (SK E)} (h : i < n) (e : n = Γ.length) : i < Γ.length := by rw [← e]; exact h
theorem ev_neg {f : E → Option Int} (ha : EV X Γ a tInt f) : EV X Γ (.UnaryOp .USub a pos) tInt (bind1 f fun x => some (-x)) := by
  intro ρ σ B O H S I c hc Q q
  refine ⟨_, pe_un un_neg (pe_wp X a), ha.run1 S I hc fun x u B1 H1 s1 r1 hm => ?_⟩
  cases hm
  exact ⟨x, r1, q _ B1 H1 s1 rfl⟩
/-- a store of data that is put its own way -/
theorem sv_setD {i : Nat} {f : E → Option (α × E)} {g : E → α} {s : E → α → E} (he : ∀ (ρ : E) (σ : L2.St) (B : Hp) (O : Ow) (H : Hp), SA X.K B O ρ Γ σ → EI B O H → ∀ a ρ', f ρ = some (a, ρ') → ∀ Q : VK, (∀ v B' O' H', StO B O H B' O' H' → SA X.K B' O' ρ' Γ σ → T.rep X.K B' v a → Q v H') → ∃ t, PS X st (tAsg t (gName i)) ∧ t σ H Q) (hg : ∀ ρ a, g (s ρ a) = a) (hk : Keeps s Γ i) (hi : i < Γ.length) : SV X Jc Γ st (Γ.set i (.dat T g)) (setF s f) := fun ρ B0 H0 σ B O H S I fl hfl D q => by
  unfold setF at hfl
  cases hq : f ρ with
  | none => rw [hq] at hfl; cases hfl
  | some r =>
    rw [hq] at hfl
    cases hfl
    obtain ⟨t, h1, h2⟩ := he ρ σ B O H S I.ei r.1 r.2 hq (fun v H' => D.nx (σ.set i (some v)) H') fun v B' O' H' st' S' rr => q _ B' _ H' (S'.set hi rr hg hk) ((I.stO st').drop i)
    exact ⟨_, h1, h2⟩
end
end ML

/-! the mirror layer: generator defs -/
namespace ML
open PySem PySem.Spec PyProof.Rows L2

/-! ### rules for a generator's statements, by any way of consuming -/
structure GR where
  ι : Type
  X : ι → Cx
  GS : Stmt → TGn → Prop
  GSs : List Stmt → TGn → Prop
  Pre : List V → Prop
  Wt : List V → V → Prop
  More : List V → Prop
  unS : ∀ {st : Stmt} {t : TGn}, (∀ D ys σ H, t D ys σ H → ∃ t', GS st t' ∧ t' D ys σ H) → GS st t
  unSs : ∀ {st : List Stmt} {t : TGn}, (∀ D ys σ H, t D ys σ H → ∃ t', GSs st t' ∧ t' D ys σ H) → GSs st t
  ps : ∀ {st : Stmt} {t : TS}, (∀ i, PS (X i) st t) → GS st (tPlain t)
  nil : GSs [] tG0
  cons : ∀ {st : Stmt} {rest : List Stmt} {t u : TGn}, GS st t → GSs rest u → GSs (st :: rest) (tGThen t u)
  ite : ∀ {c : Expr} {a b : List Stmt} {pos : Pos} {tc : TT} {t u : TGn}, (∀ i, PT (X i) c tc) → GSs a t → GSs b u → GS (.If c a b pos) (fun D ys σ H => tc σ H fun k H1 => if k = true then t D ys σ H1 else u D ys σ H1)
  wh : ∀ {c : Expr} {a : List Stmt} {pos : Pos} {tc : TT} {t : TGn}, (∀ i, PT (X i) c tc) → GSs a t → GS (.While c a [] pos) (tGWhile tc t)
  yld : ∀ {e : Expr} {yp pos : Pos} {te : TE}, (∀ i, PE (X i) e te) → GS (.Expr (.Yield (some e) yp) pos) (fun D ys σ H => Pre ys ∧ te σ H fun x H1 => Wt ys x ∧ (More ys → D.nx (ys ++ [x]) σ H1))
def wpGS (G : GR) (st : Stmt) : TGn := fun D ys σ H => ∃ t, G.GS st t ∧ t D ys σ H
theorem gs_wp (G : GR) (st : Stmt) : G.GS st (wpGS G st) := G.unS fun _ _ _ _ h => h
def wpGSs (G : GR) (st : List Stmt) : TGn := fun D ys σ H => ∃ t, G.GSs st t ∧ t D ys σ H
theorem gss_wp (G : GR) (st : List Stmt) : G.GSs st (wpGSs G st) := G.unSs fun _ _ _ _ h => h

section
variable {E R : Type}
/-- a generator's flows: what is out stands beside -/
abbrev GF (E R : Type) := E × List R → Option (Fl (E × List R) Unit)
def outs : Fl (E × List R) Unit → List R
  | .nx ρ => ρ.2
  | .bk ρ => ρ.2
  | .ct ρ => ρ.2
  | .rt _ ρ => ρ.2
  | .ex _ ρ => ρ.2
structure GJ (E R : Type) where
  K : Fg
  T : Ty R
  gb : List (SK E) := []
  gc : List (SK E) := []
  items : List R
def GPost (J : GJ E R) (Γn : List (SK E)) (B0 H0 : Hp) (D : GEnds) : Fl (E × List R) Unit → Prop
  | .nx ρ => ∀ yv σ B O H, SA J.K B O ρ.1 Γn σ → FI B0 H0 B O H → Paired (J.T.rep J.K B) yv ρ.2 → D.nx yv σ H
  | .bk ρ => ∀ yv σ B O H, SA J.K B O ρ.1 J.gb σ → FI B0 H0 B O H → Paired (J.T.rep J.K B) yv ρ.2 → D.bk yv σ H
  | .ct ρ => ∀ yv σ B O H, SA J.K B O ρ.1 J.gc σ → FI B0 H0 B O H → Paired (J.T.rep J.K B) yv ρ.2 → D.ct yv σ H
  | .rt _ _ => True
  | .ex _ _ => False
/-- how the rules fit: items are as said; where no more is wanted the mirror ends -/
structure GFit (G : GR) (J : GJ E R) (k : Option Nat) : Prop where
  KK : ∀ i, (G.X i).K = J.K
  pre : ∀ ys : List V, (∀ n, k = some n → ys.length < n) → ys.length < 16777216 → G.Pre ys
  wt : ∀ {B : Hp} (ys : List V) (x : V) (r : R), J.T.rep J.K B x r → J.items[ys.length]? = some r → G.Wt ys x
  more : ∀ ys : List V, G.More ys → ∀ n, k = some n → ys.length + 1 < n
def GSV (G : GR) (J : GJ E R) (Γ : List (SK E)) (st : Stmt) (Γn : List (SK E)) (f : GF E R) : Prop :=
  (∀ ρ fl, f ρ = some fl → ρ.2 <+: outs fl) ∧
  ∀ (ρ : E) (rs : List R) (B0 H0 : Hp) (σ : L2.St) (B : Hp) (O : Ow) (H : Hp) (yv : List V), SA J.K B O ρ Γ σ → FI B0 H0 B O H → Paired (J.T.rep J.K B) yv rs → ∀ fl, f (ρ, rs) = some fl → outs fl <+: J.items → ∀ D : GEnds, GPost J Γn B0 H0 D fl → wpGS G st D yv σ H
def GSVs (G : GR) (J : GJ E R) (Γ : List (SK E)) (st : List Stmt) (Γn : List (SK E)) (f : GF E R) : Prop :=
  (∀ ρ fl, f ρ = some fl → ρ.2 <+: outs fl) ∧
  ∀ (ρ : E) (rs : List R) (B0 H0 : Hp) (σ : L2.St) (B : Hp) (O : Ow) (H : Hp) (yv : List V), SA J.K B O ρ Γ σ → FI B0 H0 B O H → Paired (J.T.rep J.K B) yv rs → ∀ fl, f (ρ, rs) = some fl → outs fl <+: J.items → ∀ D : GEnds, GPost J Γn B0 H0 D fl → wpGSs G st D yv σ H
variable {G : GR} {J : GJ E R} {Γ Γ1 Γ2 Γn Γl : List (SK E)} {st : Stmt} {rest : List Stmt} {pos : Pos} {k : Option Nat}
theorem GPost.weak {Γ Γ' : List (SK E)} {B0 H0 : Hp} {D : GEnds} {fl : Fl (E × List R) Unit} (w : WeakL Γ Γ') (h : GPost J Γ' B0 H0 D fl) : GPost J Γ B0 H0 D fl := by
  cases fl with
  | nx ρ => exact fun yv σ B O H S I => h yv σ B O H (S.weak w) I
  | bk ρ => exact h
  | ct ρ => exact h
  | rt r ρ => exact h
  | ex x ρ => exact h
/-- a statement that hands out nothing -/
def liftG (f : E → Option (Fl E Unit)) : GF E R := fun ρ => (f ρ.1).bind fun fl => match fl with
  | .nx ρ' => some (.nx (ρ', ρ.2))
  | .bk ρ' => some (.bk (ρ', ρ.2))
  | .ct ρ' => some (.ct (ρ', ρ.2))
  | _ => none
theorem gsv_lift {f : E → Option (Fl E Unit)} (hX : ∀ i, (G.X i).K = J.K) (h : ∀ i, SV (G.X i) ({ gb := J.gb, gc := J.gc, rt := rtD tNone } : ML.J E Unit) Γ st Γn f) : GSV G J Γ st Γn (liftG f) := by
  refine ⟨fun ρ fl hf => ?_, fun ρ rs B0 H0 σ B O H yv S I hy fl hf hp D q => ?_⟩
  · unfold liftG at hf
    cases hq : f ρ.1 with
    | none => rw [hq] at hf; cases hf
    | some r =>
      rw [hq] at hf
      cases r <;> cases hf <;> exact List.prefix_refl _
  · unfold liftG at hf
    cases hq : f ρ with
    | none => simp only [hq, Option.bind] at hf; cases hf
    | some r =>
      refine ⟨_, G.ps (t := fun D σ H => ∀ i, wpS (G.X i) st D σ H) fun i => ⟨fun pins s σ H D I w => (ps_wp (G.X i) st).run pins s σ H D I (w i)⟩, ?_⟩
      intro i
      have hy2 : ∀ {B' : Hp}, Ex B B' → Paired (J.T.rep J.K B') yv rs := fun e => Paired.imp (fun _ _ => J.T.mono e) hy
      have S' : SA (G.X i).K B O ρ Γ σ := by rw [hX i]; exact S
      -- the frame's base stays below
      refine h i ρ B H0 σ B O H S' ⟨Ex.refl _, I.bh, I.hh, I.oo, fun a h1 h2 => h1⟩ r hq _ ?_
      have back : ∀ {B' O' H'}, FI B H0 B' O' H' → FI B0 H0 B' O' H' := fun {B' O' H'} I' => ⟨I.bb.trans I'.bb, I'.bh, I'.hh, I'.oo, fun a h1 h2 => I'.nw a (I.nw a h1 h2) h2⟩
      simp only [hq, Option.bind] at hf
      cases r with
      | nx ρ' => cases hf; exact fun σ' B' O' H' S'' I' => q yv σ' B' O' H' (by rw [← hX i]; exact S'') (back I') (hy2 I'.bb)
      | bk ρ' => cases hf; exact fun σ' B' O' H' S'' I' => q yv σ' B' O' H' (by rw [← hX i]; exact S'') (back I') (hy2 I'.bb)
      | ct ρ' => cases hf; exact fun σ' B' O' H' S'' I' => q yv σ' B' O' H' (by rw [← hX i]; exact S'') (back I') (hy2 I'.bb)
      | rt v ρ' => cases hf
      | ex x ρ' => cases hf
theorem gsvs_nil : GSVs G J Γ [] Γ (fun ρ => some (.nx ρ)) := ⟨fun ρ fl h => by cases h; exact List.prefix_refl _, fun ρ rs B0 H0 σ B O H yv S I hy fl hf hp D q => by
  cases hf
  exact ⟨_, G.nil, q yv σ B O H S I hy⟩⟩
def seqG (f g : GF E R) : GF E R := fun ρ => (f ρ).bind fun r => match r with
  | .nx ρ' => g ρ'
  | r => some r
theorem gsvs_cons {f g : GF E R} (h1 : GSV G J Γ st Γ1 f) (h2 : GSVs G J Γ1 rest Γn g) : GSVs G J Γ (st :: rest) Γn (seqG f g) := by
  refine ⟨fun ρ fl hf => ?_, fun ρ rs B0 H0 σ B O H yv S I hy fl hf hp D q => ?_⟩
  · unfold seqG at hf
    cases hq : f ρ with
    | none => rw [hq] at hf; cases hf
    | some r =>
      rw [hq] at hf
      have p1 := h1.1 ρ r hq
      cases r with
      | nx ρ' => exact p1.trans (h2.1 ρ' fl hf)
      | bk ρ' => cases hf; exact p1
      | ct ρ' => cases hf; exact p1
      | rt v ρ' => cases hf; exact p1
      | ex x ρ' => cases hf; exact p1
  · refine ⟨_, G.cons (gs_wp G st) (gss_wp G rest), ?_⟩
    unfold seqG at hf
    cases hq : f (ρ, rs) with
    | none => rw [hq] at hf; cases hf
    | some r =>
      rw [hq] at hf
      cases r with
      | nx ρ' =>
        refine h1.2 ρ rs B0 H0 σ B O H yv S I hy _ hq ((h2.1 ρ' fl hf).trans hp) _ ?_
        exact fun yv' σ' B' O' H' S' I' hy' => h2.2 ρ'.1 ρ'.2 B0 H0 σ' B' O' H' yv' S' I' hy' fl hf hp D q
      | bk ρ' => cases hf; exact h1.2 ρ rs B0 H0 σ B O H yv S I hy _ hq hp _ q
      | ct ρ' => cases hf; exact h1.2 ρ rs B0 H0 σ B O H yv S I hy _ hq hp _ q
      | rt v ρ' => cases hf; exact h1.2 ρ rs B0 H0 σ B O H yv S I hy _ hq hp _ q
      | ex x ρ' => cases hf; exact h1.2 ρ rs B0 H0 σ B O H yv S I hy _ hq hp _ q
theorem gsvs_weak {f : GF E R} (h : GSVs G J Γ rest Γ1 f) (w : WeakL Γ1 Γn) : GSVs G J Γ rest Γn f := ⟨h.1, fun ρ rs B0 H0 σ B O H yv S I hy fl hf hp D q => h.2 ρ rs B0 H0 σ B O H yv S I hy fl hf hp D (q.weak w)⟩
def ifG (c : E → Option Bool) (f g : GF E R) : GF E R := fun ρ => (c ρ.1).bind fun x => if x = true then f ρ else g ρ
theorem gsv_if {c : Expr} {a b : List Stmt} {t : E → Option Bool} {f g : GF E R} (hX : ∀ i, (G.X i).K = J.K) (hc : ∀ i, EVT (G.X i) Γ c t) (ha : GSVs G J Γ a Γ1 f) (hb : GSVs G J Γ b Γ2 g) (w1 : WeakL Γ1 Γn) (w2 : WeakL Γ2 Γn) : GSV G J Γ (.If c a b pos) Γn (ifG t f g) := by
  refine ⟨fun ρ fl hf => ?_, fun ρ rs B0 H0 σ B O H yv S I hy fl hf hp D q => ?_⟩
  · unfold ifG at hf
    cases hq : t ρ.1 with
    | none => rw [hq] at hf; cases hf
    | some x =>
      rw [hq] at hf
      cases x with
      | true => exact ha.1 ρ fl hf
      | false => exact hb.1 ρ fl hf
  · refine ⟨_, G.ite (tc := fun σ H Q => ∀ i, wpT (G.X i) c σ H Q) (fun i => ⟨fun pins s σ H Q I w => (pt_wp (G.X i) c).run pins s σ H Q I (w i)⟩) (gss_wp G a) (gss_wp G b), ?_⟩
    intro i
    unfold ifG at hf
    cases hq : t ρ with
    | none => simp only [hq, Option.bind] at hf; cases hf
    | some x =>
      simp only [hq, Option.bind] at hf
      refine hc i ρ σ B O H (by rw [hX i]; exact S) I.ei x hq _ fun B1 H1 s1 => ?_
      have hy2 : Paired (J.T.rep J.K B1) yv rs := Paired.imp (fun _ _ => J.T.mono s1.bb) hy
      cases x with
      | true => exact ha.2 ρ rs B0 H0 σ B1 O H1 yv (S.mono s1.bb) (I.step s1) hy2 fl hf hp D (q.weak w1)
      | false => exact hb.2 ρ rs B0 H0 σ B1 O H1 yv (S.mono s1.bb) (I.step s1) hy2 fl hf hp D (q.weak w2)
def whileG (c : E → Option Bool) (fb : GF E R) : Nat → GF E R
  | 0 => fun _ => none
  | n + 1 => fun ρ => (c ρ.1).bind fun x => if x = true then (fb ρ).bind fun fl => match fl with
    | .nx ρ' => whileG c fb n ρ'
    | .ct ρ' => whileG c fb n ρ'
    | .bk ρ' => some (.nx ρ')
    | .rt v ρ' => some (.rt v ρ')
    | .ex x ρ' => some (.ex x ρ')
    else some (.nx ρ)
theorem whileG_pre {c : E → Option Bool} {fb : GF E R} (h : ∀ ρ fl, fb ρ = some fl → ρ.2 <+: outs fl) : ∀ (n : Nat) (ρ : E × List R) fl, whileG c fb n ρ = some fl → ρ.2 <+: outs fl
  | 0, _, _, hf => by cases hf
  | n + 1, ρ, fl, hf => by
    unfold whileG at hf
    cases hq : c ρ.1 with
    | none => rw [hq] at hf; cases hf
    | some x =>
      rw [hq] at hf
      cases x with
      | false => cases hf; exact List.prefix_refl _
      | true =>
        have hf : ((fb ρ).bind fun fl => match fl with
            | .nx ρ' => whileG c fb n ρ'
            | .ct ρ' => whileG c fb n ρ'
            | .bk ρ' => some (.nx ρ')
            | .rt v ρ' => some (.rt v ρ')
            | .ex x ρ' => some (.ex x ρ')) = some fl := hf
        cases hb : fb ρ with
        | none => rw [hb] at hf; cases hf
        | some r =>
          rw [hb] at hf
          have p1 := h ρ r hb
          cases r with
          | nx ρ' => exact p1.trans (whileG_pre h n ρ' fl hf)
          | ct ρ' => exact p1.trans (whileG_pre h n ρ' fl hf)
          | bk ρ' => cases hf; exact p1
          | rt v ρ' => cases hf; exact p1
          | ex x ρ' => cases hf; exact p1
theorem gsv_while {c : Expr} {body : List Stmt} {t : E → Option Bool} {fb : GF E R} (n : Nat) (hX : ∀ i, (G.X i).K = J.K) (w0 : WeakL Γ Γl) (hc : ∀ i, EVT (G.X i) Γl c t) (hb : GSVs G { J with gb := Γn, gc := Γl } Γl body Γ2 fb) (w2 : WeakL Γ2 Γl) (wn : WeakL Γl Γn) :
    GSV G J Γ (.While c body [] pos) Γn (whileG t fb n) := by
  refine ⟨fun ρ fl hf => whileG_pre hb.1 n ρ fl hf, fun ρ rs B0 H0 σ B O H yv S I hy fl hf hp D q => ?_⟩
  refine ⟨_, G.wh (tc := fun σ H Q => ∀ i, wpT (G.X i) c σ H Q) (fun i => ⟨fun pins s σ H Q I w => (pt_wp (G.X i) c).run pins s σ H Q I (w i)⟩) (gss_wp G body), ?_⟩
  refine ⟨fun m yv' σ' H' => ∃ ρ' B' O', SA J.K B' O' ρ'.1 Γl σ' ∧ FI B0 H0 B' O' H' ∧ Paired (J.T.rep J.K B') yv' ρ'.2 ∧ whileG t fb m ρ' = some fl, ⟨n, (ρ, rs), B, O, S.weak w0, I, hy, hf⟩, ?_⟩
  rintro m yv' σ' H' ⟨ρ', B', O', S', I', hy', hw⟩
  cases m with
  | zero => cases hw
  | succ m =>
    intro i
    unfold whileG at hw
    cases hq : t ρ'.1 with
    | none => rw [hq] at hw; cases hw
    | some x =>
      rw [hq] at hw
      refine hc i ρ'.1 σ' B' O' H' (by rw [hX i]; exact S') I'.ei x hq _ fun B1 H1 s1 => ?_
      have hy2 : Paired (J.T.rep J.K B1) yv' ρ'.2 := Paired.imp (fun _ _ => J.T.mono s1.bb) hy'
      have I1 := I'.step s1
      cases x with
      | false =>
        cases hw
        exact q yv' σ' B1 O' H1 ((S'.mono s1.bb).weak wn) I1 hy2
      | true =>
        rw [if_pos rfl]
        refine ⟨fun yv' σ' H' => ∃ ρ' B' O', SA J.K B' O' ρ'.1 Γl σ' ∧ FI B0 H0 B' O' H' ∧ Paired (J.T.rep J.K B') yv' ρ'.2 ∧ whileG t fb m ρ' = some fl, fun a b c h => ⟨m, Nat.lt_succ_self _, h⟩, ?_⟩
        have hw : ((fb ρ').bind fun fl => match fl with
            | .nx ρ' => whileG t fb m ρ'
            | .ct ρ' => whileG t fb m ρ'
            | .bk ρ' => some (.nx ρ')
            | .rt v ρ' => some (.rt v ρ')
            | .ex x ρ' => some (.ex x ρ')) = some fl := hw
        cases hfb : fb ρ' with
        | none => rw [hfb] at hw; cases hw
        | some r =>
          rw [hfb] at hw
          have hpr : outs r <+: J.items := by
            cases r with
            | nx ρ4 => exact (whileG_pre hb.1 m ρ4 fl hw).trans hp
            | ct ρ4 => exact (whileG_pre hb.1 m ρ4 fl hw).trans hp
            | bk ρ4 => cases hw; exact hp
            | rt v ρ4 => cases hw; exact hp
            | ex x ρ4 => cases hw; exact hp
          refine hb.2 ρ'.1 ρ'.2 B0 H0 σ' B1 O' H1 yv' (S'.mono s1.bb) I1 hy2 r hfb hpr _ ?_
          cases r with
          | nx ρ4 => exact fun yv4 σ4 B4 O4 H4 S4 I4 y4 => ⟨ρ4, B4, O4, S4.weak w2, I4, y4, hw⟩
          | ct ρ4 => exact fun yv4 σ4 B4 O4 H4 S4 I4 y4 => ⟨ρ4, B4, O4, S4, I4, y4, hw⟩
          | bk ρ4 => cases hw; exact q
          | rt v ρ4 => trivial
          | ex x ρ4 => cases hw; exact q
/-- yield e; with k = some n the mirror ends at the n-th item -/
def yieldG (k : Option Nat) (f : E → Option R) : GF E R := fun ρ => (f ρ.1).bind fun r => if ρ.2.length < 16777216 then (match k with
  | none => some (.nx (ρ.1, ρ.2 ++ [r]))
  | some n => if ρ.2.length + 1 < n then some (.nx (ρ.1, ρ.2 ++ [r])) else if ρ.2.length + 1 = n then some (.rt () (ρ.1, ρ.2 ++ [r])) else none) else none
theorem yieldG_inv {f : E → Option R} {ρ : E × List R} {fl} (h : yieldG k f ρ = some fl) : ∃ r, f ρ.1 = some r ∧ ρ.2.length < 16777216 ∧ (∀ n, k = some n → ρ.2.length < n) ∧ ((fl = .nx (ρ.1, ρ.2 ++ [r]) ∧ ∀ n, k = some n → ρ.2.length + 1 < n) ∨ (fl = .rt () (ρ.1, ρ.2 ++ [r]) ∧ ∃ n, k = some n ∧ ¬ ρ.2.length + 1 < n)) := by
  unfold yieldG at h
  cases hq : f ρ.1 with
  | none => rw [hq] at h; cases h
  | some r =>
    rw [hq] at h
    by_cases hl : ρ.2.length < 16777216
    · simp only [Option.bind, if_pos hl] at h
      refine ⟨r, rfl, hl, ?_⟩
      cases k with
      | none => cases h; exact ⟨fun n e => (by cases e), .inl ⟨rfl, fun n e => by cases e⟩⟩
      | some n =>
        by_cases hn : ρ.2.length + 1 < n
        · simp only [if_pos hn] at h
          cases h
          exact ⟨fun m e => by cases e; omega, .inl ⟨rfl, fun m e => by cases e; exact hn⟩⟩
        · simp only [if_neg hn] at h
          by_cases h1 : ρ.2.length + 1 = n
          · simp only [if_pos h1] at h
            cases h
            exact ⟨fun m e => by cases e; omega, .inr ⟨rfl, n, rfl, hn⟩⟩
          · simp only [if_neg h1] at h
            cases h
    · simp only [Option.bind, if_neg hl] at h
      cases h
theorem gsv_yield {e : Expr} {yp : Pos} {f : E → Option R} (fit : GFit G J k) (he : ∀ i, EV (G.X i) Γ e J.T f) : GSV G J Γ (.Expr (.Yield (some e) yp) pos) Γ (yieldG k f) := by
  refine ⟨fun ρ fl hf => ?_, fun ρ rs B0 H0 σ B O H yv S I hy fl hf hp D q => ?_⟩
  · obtain ⟨r, _, _, _, h | h⟩ := yieldG_inv hf
    · rw [h.1]; exact List.prefix_append _ _
    · rw [h.1]; exact List.prefix_append _ _
  · obtain ⟨r, h1, h2, h0, h3⟩ := yieldG_inv hf
    have hlen : yv.length = rs.length := pr_len hy
    refine ⟨_, G.yld (te := fun σ H Q => ∀ i, wpE (G.X i) e σ H Q) (fun i => ⟨fun pins s σ H Q I w => (pe_wp (G.X i) e).run pins s σ H Q I (w i)⟩), fit.pre yv (fun n e => by rw [hlen]; exact h0 n e) (by rw [hlen]; exact h2), ?_⟩
    intro i
    refine he i ρ σ B O H (by rw [fit.KK i]; exact S) I.ei r h1 _ fun v B1 H1 s1 r1 => ?_
    rw [fit.KK i] at r1
    have out : outs fl = rs ++ [r] := by
      rcases h3 with h | h <;> rw [h.1] <;> rfl
    rw [out] at hp
    have hget : J.items[yv.length]? = some r := by
      rw [hlen]
      obtain ⟨tl, htl⟩ := hp
      rw [← htl, List.append_assoc, List.getElem?_append_right (Nat.le_refl _)]
      simp
    refine ⟨fit.wt yv v r r1 hget, fun more => ?_⟩
    rcases h3 with h | ⟨h, n, hn, hlt⟩
    · rw [h.1] at q
      exact q (yv ++ [v]) σ B1 O H1 (S.mono s1.bb) (I.step s1) (pr_app (Paired.imp (fun _ _ => J.T.mono s1.bb) hy) (.cons r1 .nil))
    · exact absurd (by rw [← hlen]; exact fit.more yv more n hn) hlt
end

/-! ### list(f(..)) -/
section
variable {P : Program} {w : World} {K : Fg} {mg : Str → Option Value} {base : Heap}
theorem gr_un {X : Cx} {st : Stmt} {t : TGn} (h : ∀ D ys σ H, t D ys σ H → ∃ t', L2.GS X st t' ∧ t' D ys σ H) : L2.GS X st t :=
  ⟨fun A S ip R n ys s₀ c fs K J gd lv s σ H D g hn k hI ht => by
    obtain ⟨t', h1, h2⟩ := h D ys σ H ht
    exact h1.run A S ip R n ys s₀ c fs K J gd lv s σ H D g hn k hI h2⟩
theorem grs_un {X : Cx} {st : List Stmt} {t : TGn} (h : ∀ D ys σ H, t D ys σ H → ∃ t', L2.GSs X st t' ∧ t' D ys σ H) : L2.GSs X st t :=
  ⟨fun A S ip R n ys s₀ c fs K J gd lv s σ H D g hn k hI ht => by
    obtain ⟨t', h1, h2⟩ := h D ys σ H ht
    exact h1.run A S ip R n ys s₀ c fs K J gd lv s σ H D g hn k hI h2⟩
theorem gs_ifH {X : Cx} {c : Expr} {a b : List Stmt} {pos : Pos} {tc : TT} {t u : TGn} (hc : PT X c tc) (ha : L2.GSs X a t) (hb : L2.GSs X b u) : L2.GS X (.If c a b pos) (fun D ys σ H => tc σ H fun k H1 => if k = true then t D ys σ H1 else u D ys σ H1) := by
  refine ⟨fun A S ip R n ys s₀ c' fs K J gd lv s σ H D g hn k hI ht => ?_⟩
  obtain ⟨acc, cc, r, I⟩ := hI
  rw [exec_If]
  show Seg _ _ _ _ n s₀ c' (.at pos fun _ => (isTrue c X.env (eval c X.env) >>= fun b' => if b' = true then execs a X.env else execs b X.env).wrap K J gd lv) fs s
  refine seg_at (seg_bind_wrap ?_)
  rw [g.over]
  refine wpAny_mono (hc.run _ s σ H _ I ht) (fun d s1 hd => ?_) fun x s' hx => k.exc n s₀ x s' hx
  obtain ⟨H1, I1, q1⟩ := hd
  cases d with
  | true => exact ha.run A S ip R n ys s₀ c' fs K J gd lv s1 σ H1 D g hn k ⟨acc, cc, r, I1⟩ q1
  | false => exact hb.run A S ip R n ys s₀ c' fs K J gd lv s1 σ H1 D g hn k ⟨acc, cc, r, I1⟩ q1
/-- HandS' own rules -/
def grH (X : Cx) (hp : PassesOwn (model X.prog X.w) X.A X.env X.xe) (hco : X.env.scope.isCoroutine = false) (hi : interactive X.env = false) : GR where
  ι := Unit
  X := fun _ => X
  GS := L2.GS X
  GSs := L2.GSs X
  Pre := fun ys => ys.length < sizeLine
  Wt := fun _ _ => True
  More := fun _ => True
  unS := gr_un
  unSs := grs_un
  ps := fun h => gs_ps (h ())
  nil := gss_nil
  cons := gss_cons
  ite := fun hc ha hb => gs_ifH (hc ()) ha hb
  wh := fun hc hb => gs_while hp (hc ()) hb
  yld := fun he => gr_un fun D ys σ H ⟨h1, h2⟩ => ⟨_, gs_yield (he ()) hco hi, h1, by
    have e : (fun (x : V) (H1 : Hp) => True ∧ (True → D.nx (ys ++ [x]) σ H1)) = fun x H1 => D.nx (ys ++ [x]) σ H1 := funext fun x => funext fun H1 => propext ⟨fun h => h.2 trivial, fun h => ⟨trivial, fun _ => h⟩⟩
    rw [← e]; exact h2⟩
end
end ML

/-! the mirror layer: generator defs called; list(f(..)); range of three -/
namespace ML
open PySem PySem.Spec PyProof.Rows L2

/-- how often a while may turn -/
def FUEL : Nat := 2 ^ 40
section
variable {X : Cx}
theorem PS.nox {st : Stmt} {t : TS} (h : PS X.nox st t) : PS X st t := ⟨fun pins s σ H D I hw =>
  wpAny_mono (h.run pins s σ H D (I.wish _) hw) (fun _ _ q => q.unwish) fun _ _ z => False.elim z⟩
/-- HandS' own rules, of parts from which no exception comes -/
abbrev grN (X : Cx) (hp : PassesOwn (model X.prog X.w) X.A X.env X.xe) (hco : X.env.scope.isCoroutine = false) (hi : interactive X.env = false) : GR where
  ι := Unit
  X := fun _ => X.nox
  GS := L2.GS X
  GSs := L2.GSs X
  Pre := fun ys => ys.length < sizeLine
  Wt := fun _ _ => True
  More := fun _ => True
  unS := gr_un
  unSs := grs_un
  ps := fun h => gs_ps (PS.nox (h ()))
  nil := gss_nil
  cons := gss_cons
  ite := fun hc ha hb => gs_ifH (PT.nox (hc ())) ha hb
  wh := fun hc hb => gs_while hp (PT.nox (hc ())) hb
  yld := fun he => gr_un fun D ys σ H ⟨h1, h2⟩ => ⟨_, gs_yield (PE.nox (he ())) hco hi, h1, by
    have e : (fun (x : V) (H1 : Hp) => True ∧ (True → D.nx (ys ++ [x]) σ H1)) = fun x H1 => D.nx (ys ++ [x]) σ H1 := funext fun x => funext fun H1 => propext ⟨fun h => h.2 trivial, fun h => ⟨trivial, fun _ => h⟩⟩
    rw [← e]; exact h2⟩
end
section
variable {E R : Type} {G : GR} {J : GJ E R} {Γ Γ1 Γn : List (SK E)} {st : Stmt} {rest : List Stmt} {k : Option Nat}
theorem GFit.wi {gb gc : List (SK E)} (h : GFit G J k) : GFit G ⟨J.K, J.T, gb, gc, J.items⟩ k := ⟨h.KK, h.pre, h.wt, h.more⟩
theorem gsvs_one {f : GF E R} (h : GSV G J Γ st Γn f) : GSVs G J Γ [st] Γn f := by
  have e : seqG f (fun ρ => some (.nx ρ)) = f := by
    funext ρ
    unfold seqG
    cases f ρ with
    | none => rfl
    | some r => cases r <;> rfl
  have h2 := gsvs_cons h (gsvs_nil (G := G) (J := J) (Γ := Γn))
  rw [e] at h2
  exact h2
end
section
variable {P : Program} {w : World} {K : Fg} {mg : Str → Option Value} {base : Heap} {E R α : Type} {Γ Γn : List (SK E)}
/-- what a generator def hands out in all -/
def endG (f : GF E R) (ρ : E) : Option (List R) := (f (ρ, [])).bind fun fl => match fl with
  | .nx ρ => some ρ.2
  | _ => none
/-- the first items of a generator that is left amid its run -/
def endK (f : GF E R) (ρ : E) : Option (List R) := (f (ρ, [])).bind fun fl => match fl with
  | .rt _ ρ => some ρ.2
  | _ => none
def spG (K : Fg) (A : TyA α) (T : Ty R) (m : α → Option (List R)) : SpG := fun vs H Q _ => ∃ B a rs, Ex B H ∧ A.rep K B vs a ∧ m a = some rs ∧ ∀ yv B' H', Step B H B' H' → Paired (T.rep K B') yv rs → Q yv H'
abbrev bodyG (P : Program) (w : World) (K : Fg) (mg : Str → Option Value) (base : Heap) (N : List Str) (qual : Str) (st : Stmt) (f : Addr) (cdv : Value) (A : Around) (outer : List Env) (s : Shared) (H : Hp) (E : XK) (pn : List (Addr × Obj)) : Cx := gcxOf P w K mg base N qual (defScope st) f cdv A outer s H E pn
theorem gen_quiet {N ps : List Str} {st : Stmt} (Sc : GScope N ps (defScope st)) (qual : Str) (n : Nat) (f : Addr) (cdv : Value) : interactive (envOfC qual (defScope st) n f cdv) = false := by
  have : (envOfC qual (defScope st) n f cdv).scope.kind = .function := Sc.kind
  simp [interactive, this]
theorem fn_G {x qual : Str} {st : Stmt} {f : Addr} {fd : FuncData} {N ps : List Str} {k : Nat} {Ar : TyA α} {T : Ty R} {init : α → E} {body : GF E R} (F : Fun K x qual st f fd) (Sc : GScope N ps (defScope st)) (hl : ∀ K B vs a, Ar.rep K B vs a → vs.length = ps.length)
    (hΓ : Γ.length = N.length) (hst : ∀ K B vs a, Ar.rep K B vs a → StOk K B (init a) vs Γ)
    (hbody : ∀ (items : List R) (cdv : Value) (A : Around) (outer : List Env) (s : Shared) (H : Hp) (E' : XK) (pn : List (Addr × Obj)), Room k (A.deeper (envOfC qual (defScope st) s.heap.objs.size f cdv)) →
      GFit (grN (bodyG P w K mg base N qual st f cdv A outer s H E' pn) owns_gcx Sc.co (gen_quiet Sc _ _ _ _)) (⟨K, T, [], [], items⟩ : GJ E R) none →
      GSVs (grN (bodyG P w K mg base N qual st f cdv A outer s H E' pn) owns_gcx Sc.co (gen_quiet Sc _ _ _ _)) (⟨K, T, [], [], items⟩ : GJ E R) Γ (defBody st) Γn body) :
    GFn P w K mg base (k + 1) f fd ps (spG K Ar T fun a => endG body (init a)) := by
  obtain ⟨oc, od, kV, doc, pm, an, cdv, ct, osl, rfl, lk, hcd⟩ := F.ex
  refine gfn_of lk hcd Sc (fun vs H Q E h => ?_) (fun A outer s H vs Q XE pn hr h => ?_)
  · obtain ⟨B, a, r, _, h1, _⟩ := h
    exact hl _ _ _ _ h1
  · obtain ⟨B, a, rs, hB, h1, h2, q⟩ := h
    have h2 : endG body (init a) = some rs := h2
    unfold endG at h2
    cases hf : body (init a, []) with
    | none => rw [hf] at h2; cases h2
    | some fl =>
      rw [hf] at h2
      have hb := hbody rs cdv A outer s H XE pn hr ⟨fun _ => rfl, fun ys _ h => by show ys.length < sizeLine; rw [sizeLine_eq]; exact h, fun _ _ _ _ _ => trivial, fun _ _ n e => by cases e⟩
      have hs := hst _ _ _ _ h1
      have S0 : SA K B (fun _ => none) (init a) Γ (start N vs) := ⟨by
        show (vs.map some ++ List.replicate (N.length - vs.length) none).length = _
        have := hs.len
        rw [List.length_append, List.length_map, List.length_replicate, hΓ]
        omega, fun i k e => by
        obtain ⟨x, h3, h4⟩ := hs.sa (O := fun _ => none) 0 i k e (List.getElem?_eq_some_iff.mp e).1
        refine ⟨x, ?_, h4⟩
        rw [hΓ] at h3
        exact h3⟩
      have I0 : FI B H B (fun _ => none) H := ⟨Ex.refl _, hB, Ex.refl _, fun _ _ _ e => (by cases e), fun _ h _ => h⟩
      have hgo : outs fl = rs ∧ GPost (⟨K, T, [], [], rs⟩ : GJ E R) Γn B H { nx := fun ys _ H' => Q ys H', rt := fun ys v H' => v = .non ∧ Q ys H' } fl := by
        cases fl with
        | nx ρ => cases h2; exact ⟨rfl, fun yv σ B' O' H' S' I' hy => q yv B' H' ⟨I'.bb, I'.bh, I'.hh, I'.nw⟩ hy⟩
        | rt r ρ => cases h2
        | bk ρ => cases h2
        | ct ρ => cases h2
        | ex x ρ => cases h2
      obtain ⟨t, ht1, ht2⟩ := hb.2 (init a) [] B H (start N vs) B (fun _ => none) H [] S0 I0 .nil fl hf (by rw [hgo.1]; exact List.prefix_refl _) _ hgo.2
      exact ⟨t, ht1, ht2⟩
end
section
variable {X : Cx} {E R α β γ δ : Type} {Γ Γ1 Γ2 Γn : List (SK E)} {e a b c : Expr} {pos : Pos}
theorem passE0 {X : Cx} : Passes (CX X.prog X.w) X E0 := fun _ _ _ _ _ _ _ ⟨_, _, _, _, _, _, _, _, _, _, _, _, h⟩ => h.elim
theorem noStopE0 {K : Fg} : NoStop K E0 := fun _ _ _ h => h.elim
/-- list(f(e, ..)) of a generator def -/
theorem evo_listG {k : Nat} {x : Str} {p p' pos' : Pos} {f : Addr} {fd : FuncData} {ps : List Str} {es : List Expr} {A : TyA α} {T : Ty R} {fa : E → Option α} {m : α → Option (List R)} (F : GFn X.prog X.w X.K X.mg X.base k f fd ps (spG X.K A T m)) (hr : Room k X.A) (hr3 : Room (k + 3) X.A) (hm : X.mg x = some (.ref f)) (hk : PySem.W.keepIn X.K (.ref f) = true) (hb : Binds X.K fd ps []) (hml : X.mg "list" = none)
    (ha : EVA X Γ (e :: es) A fa) (hg : Gl X x := by rfl) (hgl : Gl X "list" := by rfl) (hdb : (x == ("__debug__" : Str)) = false := by decide) (hst : starEach (e :: es) X.env = (false, eval e X.env) :: starEach es X.env := by rfl) (hpl : (backTo pos' (starEach es X.env)).any (·.1) = false := by rfl)
    (hst1 : starEach [.Call (.Name x p) (e :: es) [] pos'] X.env = (false, eval (.Call (.Name x p) (e :: es) [] pos') X.env) :: starEach [] X.env := by rfl) :
    EVO X Γ (.Call (.Name "list" p') [.Call (.Name x p) (e :: es) [] pos'] [] pos) (oList T) (bind1 fa m) := by
  intro ρ σ B O H S I c hc Q q
  refine ⟨_, pe_listG (pgen_call F hr hg hm hk hb .nil (pa_wp X _) hdb hst hpl) passE0 noStopE0 hr3 hgl hml boot_list (he := hst1), ?_⟩
  refine ha.run1 S I hc fun x u B1 H1 s1 r1 hm => ⟨B1, x, c, s1.bh, by rw [List.append_nil]; exact r1, hm, fun yv B2 H2 s2 hy p hp => ?_⟩
  have s12 := s1.trans s2
  exact q p (.lst yv) B2 (upd H2 p (.lst yv)) (s12.trans (.other s12.bh hp)) (none_back s12.hh hp) (none_back s12.bh hp) upd_same ⟨yv, rfl, hy⟩
/-- range(a, b, -1) -/
def rng3 {E : Type} (f : E → Option ((Int × Int × Int × Unit) × E)) : E → Option (List Int × E) := then1 f fun x => if ((-(2 ^ 62) ≤ x.1 ∧ x.1 < 2 ^ 62) ∧ (-(2 ^ 62) ≤ x.2.1 ∧ x.2.1 < 2 ^ 62)) ∧ x.2.2.1 = -1 then some (rangeL x.1 (-1) (x.1 - x.2.1).toNat) else none
theorem itc_ok {K : Fg} {B : Hp} {lo c : Int} {n : Nat} : ItOk K (Itc lo c n) B tInt (rangeL lo c n) where
  stop := fun i H e hi => by rw [rangeL_len] at hi; exact hi
  go := fun i H e hi => by rw [rangeL_len] at hi; exact hi
  yld := fun i H B1 x y H' e1 e2 hy hq => by
    obtain ⟨rfl, rfl⟩ := hq
    exact ⟨B1, .refl e2, by rw [rangeL_get hy]; rfl⟩
theorem im_range3 {tg a b c : Expr} {p : Pos} {f : E → Option ((Int × Int × Int × Unit) × E)} (h : EMA X Γ [a, b, c] (aCons tInt (aCons tInt (aCons tInt aNil))) f) (hm : X.mg "range" = none) (hg : Gl X "range" := by rfl) (hs : starEach [a, b, c] X.env = (false, eval a X.env) :: starEach [b, c] X.env := by rfl) (hpl : (backTo pos (starEach [b, c] X.env)).any (·.1) = false := by rfl) : IM X Γ tg (.Call (.Name "range" p) [a, b, c] [] pos) tInt (rng3 f) := fun ρ σ B O H S I xs ρ' hf R q => by
  refine ⟨_, pi_range3 hg hm (pa_wp X _) hs hpl, ?_⟩
  refine h.run1 S I hf fun x u B' O' H' s S' r hx => ?_
  obtain ⟨v, _, rfl, hv, v2, _, rfl, hv2, v3, _, rfl, hv3, hr⟩ := r
  have hr : _ = [] := hr
  subst hr
  have hv : v = .int x.1 := hv
  subst hv
  have hv2 : v2 = .int x.2.1 := hv2
  subst hv2
  have hv3 : v3 = .int x.2.2.1 := hv3
  subst hv3
  split at hx
  · rename_i hb
    cases hx
    exact ⟨x.1, x.2.1, x.2.2.1, _, rfl, by rw [hb.2]; exact RgC.neg hb.1.1.1 hb.1.1.2 hb.1.2.1 hb.1.2.2, by rw [hb.2]; exact q _ B' O' H' s S' itc_ok⟩
  · cases hx
theorem em_join {f : E → Option (List Nat × E)} {g : E → Option (List (List Nat) × E)} {apos : Pos} (ho : EM X Γ a tStr f) (he : EM X Γ e (tList tStr) g) (hs : starEach [e] X.env = [(false, eval e X.env)] := by rfl) (hbase : attributeBase a "join" X.env (eval a X.env) = eval a X.env := by rfl) (hline : (apos.endLine == pos.line) = true := by rfl) :
    EM X Γ (.Call (.Attribute a "join" apos) [e] [] pos) tStr (then2 f g mJoin) := by
  intro ρ σ B O H S I c ρ' hc Q q
  refine ⟨_, pe_join (pe_wp X a) (pe_wp X e) hs hbase hline, ?_⟩
  obtain ⟨x, ρ1, ys, hf, hg, hm⟩ := then2_inv hc
  unfold mJoin at hm
  split at hm
  · rename_i hz
    cases hm
    refine ho ρ σ B O H S I x ρ1 hf _ fun u B1 O1 H1 s1 S1 r1 => ?_
    obtain ⟨rfl, hok⟩ := r1
    refine ⟨⟨_, rfl⟩, ?_⟩
    refine he ρ1 σ B1 O1 H1 S1 (I.stO s1) ys ρ' hg _ fun v B2 O2 H2 s2 S2 r2 => ?_
    obtain ⟨p, vs, rfl, hsq, hr⟩ := r2
    obtain ⟨h1, h2⟩ := pr_strs hr
    subst h1
    have hlen : ((ys.map ML.S).map (·.length)) = ys.map List.length := by
      rw [List.map_map]
      exact List.map_congr_left fun y _ => S_len y
    refine ⟨ML.S x, p, ys.map ML.S, rfl, rfl, .inl (ex_l s2.bh hsq), by rw [hlen, List.length_map, S_len]; exact hz, q _ B2 O2 H2 (s1.trans s2) S2 ⟨?_, fun c hc => ?_⟩⟩
    · show V.str _ = V.str _
      rw [S_mk (Txt.join (ML.S x) (ys.map ML.S))]
      show V.str (ML.S _) = V.str (ML.S _)
      rw [show (Txt.join (ML.S x) (ys.map ML.S)).cps.toList = joinL x ys from tl_joinS x ys]
    · rcases joinL_mem hc with h | ⟨y, h1, h3⟩
      · exact hok c h
      · exact h2 y h1 c h3
  · cases hm
end
end ML

/-! the mirror layer: a generator that is left amid its run -/
namespace ML
open PySem PySem.Spec PyProof.Rows L2 GenW

/-! ### the heap's first objects -/
def truncH (n : Nat) (h : Heap) : Heap := ⟨h.objs.extract 0 n, h.life⟩
theorem truncH_lt {n b : Nat} {h : Heap} (hb : b < n) : (truncH n h).get? b = h.get? b := by
  unfold Heap.get? truncH
  have : (h.objs.extract 0 n)[b]? = h.objs[b]? := by
    rw [Array.getElem?_extract]
    simp only [Nat.sub_zero, Nat.zero_add]
    by_cases z : b < h.objs.size
    · rw [if_pos (by omega)]
    · rw [if_neg (by omega)]
      exact (Array.getElem?_eq_none (by omega)).symm
  rw [this]
theorem truncH_size {n : Nat} {h : Heap} (hn : n ≤ h.objs.size) : (truncH n h).objs.size = n := by
  show (h.objs.extract 0 n).size = n
  rw [Array.size_extract]
  omega
theorem truncH_some {n b : Nat} {h : Heap} {o : Obj} (hn : n ≤ h.objs.size) (e : (truncH n h).get? b = some o) : b < n ∧ h.get? b = some o := by
  have hb : b < n := by have := Heap.lt_size e; rw [truncH_size hn] at this; exact this
  exact ⟨hb, by rw [← truncH_lt hb]; exact e⟩
theorem funFrames_on {h h' base : Heap} : ∀ {l : List Env}, h.FunFrames base l → (∀ b ∈ frs l, h'.get? b = h.get? b) → h'.FunFrames base l
  | [], _, _ => trivial
  | env :: rest, ⟨h1, ⟨L, o, h2, h3, h4, h5⟩, h6⟩, k => by
    have e : frs (env :: rest) = L :: frs rest := by
      show List.filterMap (·.frame) (env :: rest) = _
      rw [List.filterMap_cons, h2]
      rfl
    refine ⟨h1, ⟨L, o, h2, h3, ?_, h5⟩, funFrames_on h6 fun b hb => k b (by rw [e]; exact List.mem_cons_of_mem _ hb)⟩
    rw [k L (by rw [e]; exact List.mem_cons_self)]
    exact h4

/-! ### the generator's context, seen from a state at which it was woken -/
/-- X0: at the call; s₀, H₀: where the generator's run goes on -/
abbrev LX (X0 : Cx) (s₀ : Shared) (H₀ : Hp) : Cx := { X0 with s_0 := { s₀ with heap := truncH X0.s_0.heap.objs.size s₀.heap }, H_0 := H₀ }
structure LGood (X0 : Cx) (s₀ : Shared) (H₀ : Hp) : Prop where
  sz : X0.s_0.heap.objs.size ≤ s₀.heap.objs.size
  hn : ∀ b o, X0.s_0.heap.get? b = some o → H₀ b = none
  al : ∀ b o, X0.s_0.heap.get? b = some o → ∃ o', s₀.heap.get? b = some o'
structure LBase (X0 : Cx) : Prop where
  xe : ∀ x s, ¬ X0.xe x s
  ex : X0.ex = []
  ok : X0.Ok
  cab : ∀ x c, X0.env.cells.lookup x = some c → X0.s_0.heap.objs.size ≤ c
  pab : ∀ p ∈ X0.pn, X0.s_0.heap.objs.size ≤ p.1
/-- what the consumer may do while the generator sleeps -/
structure Res (sN : Shared) (base : Heap) (outer : List Env) (s s' : Shared) : Prop where
  os : s'.os = s.os
  bare : AllBare s'.gens
  keep : ∀ b o, sN.heap.get? b = none → s.heap.get? b = some o → s'.heap.get? b = some o
  al : ∀ b o o1, sN.heap.get? b = some o → s.heap.get? b = some o1 → ∃ o', s'.heap.get? b = some o'
  bs : ∀ b o, base.get? b = some o → s'.heap.get? b = some o
  funs : s'.heap.FunFrames base outer
  sz : s.heap.objs.size ≤ s'.heap.objs.size
/-- what the generator's run has done from s₀ to s -/
structure Ran (sN : Shared) (outer : List Env) (pn : List (Addr × Obj)) (s₀ s : Shared) : Prop where
  os : s.os = s₀.os
  bare : AllBare s.gens
  keep : ∀ b o o1, sN.heap.get? b = some o → s₀.heap.get? b = some o1 → b ∉ frs outer → s.heap.get? b = some o1
  slot : ∀ b o o1, sN.heap.get? b = some o → s₀.heap.get? b = some o1 → b ∈ frs outer → ∃ sl, s.heap.get? b = some { o1 with slots := sl }
  pin : ∀ p ∈ pn, s.heap.get? p.1 = some p.2
  sz : sN.heap.objs.size ≤ s.heap.objs.size
section
variable {X0 : Cx} {s₀ s s' : Shared} {H₀ H : Hp} {σ : L2.St}
theorem none_at {h : Heap} {b : Addr} (hb : h.objs.size ≤ b) : h.get? b = none := by
  cases e : h.get? b with
  | none => rfl
  | some o => exact absurd (Heap.lt_size e) (Nat.not_lt.mpr hb)
theorem LGood.trunc (g : LGood X0 s₀ H₀) {b : Addr} {o o1 : Obj} (e : X0.s_0.heap.get? b = some o) (e1 : s₀.heap.get? b = some o1) : (truncH X0.s_0.heap.objs.size s₀.heap).get? b = some o1 := by
  rw [truncH_lt (Heap.lt_size e)]; exact e1
theorem LGood.after (L : LBase X0) (g : LGood X0 s₀ H₀) (I : Inv (LX X0 s₀ H₀) [] σ H s) {b : Addr} {o : Obj} (e : X0.s_0.heap.get? b = some o) : H b = none ∧ ∃ o', s.heap.get? b = some o' := by
  obtain ⟨o1, e1⟩ := g.al b o e
  have hx : b ∉ (LX X0 s₀ H₀).ex := by show b ∉ X0.ex; rw [L.ex]; simp
  exact ⟨I.base.free b o1 (g.trunc e e1) (g.hn b o e) hx, I.base.there b o1 (g.trunc e e1) hx⟩
theorem li_ran (L : LBase X0) (g : LGood X0 s₀ H₀) (I : Inv (LX X0 s₀ H₀) [] σ H s) : Ran X0.s_0 X0.outer X0.pn s₀ s where
  os := I.os
  bare := I.bare
  keep := fun b o o1 e e1 hb => I.base.keep b o1 (g.trunc e e1) (g.hn b o e) hb (by show b ∉ X0.ex; rw [L.ex]; simp)
  slot := fun b o o1 e e1 hb => I.base.slot b o1 (g.trunc e e1) (g.hn b o e) hb (by show b ∉ X0.ex; rw [L.ex]; simp)
  pin := fun p hp => (I.pin p (List.mem_append_left _ hp)).1
  sz := by
    have h1 := L.ok.above
    have h2 := I.lt
    exact Nat.le_trans h1 (Nat.le_of_lt h2)
theorem li_woken (L : LBase X0) (g : LGood X0 s₀ H₀) (I : Inv (LX X0 s₀ H₀) [] σ H s) (z : Res X0.s_0 X0.base X0.outer s s') : LGood X0 s' H ∧ Inv (LX X0 s' H) [] σ H s' := by
  have szs := (li_ran L g I).sz
  have sz' : X0.s_0.heap.objs.size ≤ s'.heap.objs.size := Nat.le_trans szs z.sz
  have hN : ∀ b u, H b = some u → X0.s_0.heap.get? b = none := fun b u e => by
    cases q : X0.s_0.heap.get? b with
    | none => rfl
    | some o => rw [(g.after L I q).1] at e; cases e
  have kp : ∀ b, X0.s_0.heap.objs.size ≤ b → ∀ o, s.heap.get? b = some o → s'.heap.get? b = some o := fun b hb o e => z.keep b o (none_at hb) e
  refine ⟨⟨sz', fun b o e => (g.after L I e).1, fun b o e => ?_⟩, ?_⟩
  · obtain ⟨o1, e1⟩ := (g.after L I e).2
    exact z.al b o o1 e e1
  · have ok := L.ok
    refine ⟨⟨ok.mod, ok.kind, ok.glob, ok.blt, ?_, ok.inj, ok.has, fun x c h1 h2 => ?_, ok.hd, ok.frames, ok.stk, ok.exf, fun b o e => ⟨?_, (g.after L I (ok.bs b o e).1).1⟩, ?_, ok.noex, ok.exfs, ?_, fun b hb => ?_⟩, rfl, z.bare, ?_, ?_, fun x c e => ?_, I.free, I.freeC, fun p hp => ?_, fun b o e => ?_, I.len⟩
    · show (truncH _ _).objs.size ≤ _
      rw [truncH_size sz']; exact ok.above
    · show (truncH _ _).objs.size ≤ _
      rw [truncH_size sz']; exact L.cab x c h2
    · show (truncH _ _).get? b = some o
      rw [truncH_lt (Heap.lt_size (ok.bs b o e).1)]; exact z.bs b o e
    · show _ ≤ (truncH _ _).objs.size
      rw [truncH_size sz']; exact ok.bsz
    · show (truncH _ _).FunFrames X0.base X0.outer
      refine funFrames_on z.funs fun b hb => truncH_lt ?_
      obtain ⟨_, o, e, _⟩ := ok.funs.mem hb
      exact Heap.lt_size e
    · obtain ⟨_, o, e, _⟩ := ok.funs.mem hb
      exact (g.after L I e).1
    · exact Un.kept fun b u e => (truncH_some sz' e).2
    · obtain ⟨m, h1, h2⟩ := I.loc
      refine ⟨m, h1.at fun o e => kp _ ok.above o e, fun i x v e1 e2 e3 => ?_⟩
      obtain ⟨u, r, q⟩ := h2 i x v e1 e2 e3
      refine ⟨u, r, ?_⟩
      rcases q with q | ⟨q1, c, q2, ob, q3, q4⟩
      · exact .inl q
      · exact .inr ⟨q1, c, q2, ob, kp c (L.cab x c q2) ob q3, q4⟩
    · obtain ⟨v, ob, q3, q4⟩ := I.cell x c e
      exact ⟨v, ob, kp c (L.cab x c e) ob q3, q4⟩
    · obtain ⟨h1, h2⟩ := I.pin p hp
      have hp' : p ∈ X0.pn := by
        rcases List.mem_append.mp hp with y | y
        · exact y
        · cases y
      exact ⟨kp _ (L.pab p hp') _ h1, h2⟩
    · refine (I.hok b o e).stay (fun c w hc q => ?_) (fun _ y => y) fun _ _ y => y
      refine z.keep c w ?_ q
      rcases hc with rfl | hc
      · exact hN _ _ e
      · exact hN _ _ hc
end

/-! ### the protocol -/
abbrev RF : GenEnd := fun n s₀ r s₁ => ((r = .ok (.ret .none) ∨ r = .ok .next) ∧ (fun (_ : Nat) (_ _ : Shared) => False) n s₀ s₁) ∨ ∃ e, r = .error e ∧ (fun (_ : Value) (_ : Shared) => False) e s₁
def LY (sN : Shared) (base : Heap) (outer : List Env) (pn : List (Addr × Obj)) (Wt : Nat → V → Prop) : Protocol := fun n s₀ v s kap =>
  ∃ x, RelV x v ∧ Wt n x ∧ Ran sN outer pn s₀ s ∧ (0 < n → ∀ s', Res sN base outer s s' → kap (.send .none) s')
abbrev LYX (X0 : Cx) (Wt : Nat → V → Prop) : Protocol := LY X0.s_0 X0.base X0.outer X0.pn Wt
def LSP (X0 : Cx) (D : GEnds) (s₀ : Shared) (ys : List V) (f : Flow) (s : Shared) : Prop :=
  match f with
  | .next => ∃ H₀ σ H, LGood X0 s₀ H₀ ∧ Inv (LX X0 s₀ H₀) [] σ H s ∧ D.nx ys σ H
  | .brk => ∃ H₀ σ H, LGood X0 s₀ H₀ ∧ Inv (LX X0 s₀ H₀) [] σ H s ∧ D.bk ys σ H
  | .cont => ∃ H₀ σ H, LGood X0 s₀ H₀ ∧ Inv (LX X0 s₀ H₀) [] σ H s ∧ D.ct ys σ H
  | .ret u => ∃ v H₀ σ H, LGood X0 s₀ H₀ ∧ Inv (LX X0 s₀ H₀) [] σ H s ∧ RelV v u ∧ D.rt ys v H
structure LC (X0 : Cx) (A : Around) (c : Code) (fs : List Frame) (gd : Bool → Bool) : Prop where
  over : A.over c fs = X0.A
  split : splitAtGen fs = none
  guard : fs.any Frame.guarded = false
  gd : gd false = false
def LKo (X0 : Cx) (tot : Nat) (Wt : Nat → V → Prop) (A : Around) (c : Code) (fs : List Frame) (K : Flow → Sem PySem.Fin) (D : GEnds) : Prop :=
  ∀ (n : Nat) (ys : List V) (s₀ s : Shared) (f : Flow), n + ys.length = tot → LSP X0 D s₀ ys f s → Seg (model X0.prog X0.w) A RF (LYX X0 Wt) n s₀ c (K f) fs s
structure LGS (X0 : Cx) (tot : Nat) (Wt : Nat → V → Prop) (st : Stmt) (t : TGn) : Prop where
  run : ∀ (A : Around) (n : Nat) (ys : List V) (s₀ : Shared) (H₀ : Hp) (c : Code) (fs : List Frame) (K : Flow → Sem PySem.Fin) (J : Value → Sem PySem.Fin) (gd : Bool → Bool) (lv : List Value → List Value) (s : Shared) (σ : L2.St) (H : Hp) (D : GEnds),
    LC X0 A c fs gd → n + ys.length = tot → LKo X0 tot Wt A c fs K D → LGood X0 s₀ H₀ → Inv (LX X0 s₀ H₀) [] σ H s → t D ys σ H →
    Seg (model X0.prog X0.w) A RF (LYX X0 Wt) n s₀ c ((exec st X0.env).wrap K J gd lv) fs s
structure LGSs (X0 : Cx) (tot : Nat) (Wt : Nat → V → Prop) (st : List Stmt) (t : TGn) : Prop where
  run : ∀ (A : Around) (n : Nat) (ys : List V) (s₀ : Shared) (H₀ : Hp) (c : Code) (fs : List Frame) (K : Flow → Sem PySem.Fin) (J : Value → Sem PySem.Fin) (gd : Bool → Bool) (lv : List Value → List Value) (s : Shared) (σ : L2.St) (H : Hp) (D : GEnds),
    LC X0 A c fs gd → n + ys.length = tot → LKo X0 tot Wt A c fs K D → LGood X0 s₀ H₀ → Inv (LX X0 s₀ H₀) [] σ H s → t D ys σ H →
    Seg (model X0.prog X0.w) A RF (LYX X0 Wt) n s₀ c ((execs st X0.env).wrap K J gd lv) fs s
section
variable {X0 : Cx} {tot : Nat} {Wt : Nat → V → Prop} {st : Stmt} {rest : List Stmt}
theorem lgs_ps (L : LBase X0) {t : TS} (h : ∀ i : Shared × Hp, PS (LX X0 i.1 i.2) st t) : LGS X0 tot Wt st (tPlain t) := by
  refine ⟨fun A n ys s₀ H₀ c fs K J gd lv s σ H D g hn k gg hI ht => seg_wrap ?_⟩
  rw [g.over]
  refine wpAny_mono ((h (s₀, H₀)).run [] s σ H (D.at ys) hI ht) (fun f s' hs => k n ys s₀ s' f hn ?_) fun x s' hx => (L.xe x s' hx).elim
  cases f with
  | next => obtain ⟨σ', H', I, q⟩ := hs; exact ⟨H₀, σ', H', gg, I, q⟩
  | brk => obtain ⟨σ', H', I, q⟩ := hs; exact ⟨H₀, σ', H', gg, I, q⟩
  | cont => obtain ⟨σ', H', I, q⟩ := hs; exact ⟨H₀, σ', H', gg, I, q⟩
  | ret u => obtain ⟨v, σ', H', I, r, q⟩ := hs; exact ⟨v, H₀, σ', H', gg, I, r, q⟩
theorem lgss_nil : LGSs X0 tot Wt [] tG0 :=
  ⟨fun A n ys s₀ H₀ c fs K J gd lv s σ H D g hn k gg hI ht => seg_execs_nil (k n ys s₀ s .next hn ⟨H₀, σ, H, gg, hI, ht⟩)⟩
theorem lgss_cons {t u : TGn} (a : LGS X0 tot Wt st t) (b : LGSs X0 tot Wt rest u) : LGSs X0 tot Wt (st :: rest) (tGThen t u) := by
  refine ⟨fun A n ys s₀ H₀ c fs K J gd lv s σ H D g hn k gg hI ht => seg_execs_cons ?_⟩
  refine a.run A n ys s₀ H₀ c fs _ J gd lv s σ H { D with nx := fun ys' σ' H' => u D ys' σ' H' } g hn (fun n' ys' s₀' s' f hn' hs => ?_) gg hI ht
  cases f with
  | next => obtain ⟨H₁, σ', H', gg', I', q⟩ := hs; exact b.run A n' ys' s₀' H₁ c fs K J gd lv s' σ' H' D g hn' k gg' I' q
  | brk => exact k n' ys' s₀' s' .brk hn' hs
  | cont => exact k n' ys' s₀' s' .cont hn' hs
  | ret u => exact k n' ys' s₀' s' (.ret u) hn' hs
theorem lgs_if (L : LBase X0) {c : Expr} {a b : List Stmt} {pos : Pos} {tc : TT} {t u : TGn} (hc : ∀ i : Shared × Hp, PT (LX X0 i.1 i.2) c tc) (ha : LGSs X0 tot Wt a t) (hb : LGSs X0 tot Wt b u) : LGS X0 tot Wt (.If c a b pos) (fun D ys σ H => tc σ H fun k H1 => if k = true then t D ys σ H1 else u D ys σ H1) := by
  refine ⟨fun A n ys s₀ H₀ c' fs K J gd lv s σ H D g hn k gg hI ht => ?_⟩
  rw [exec_If]
  show Seg _ _ _ _ n s₀ c' (.at pos fun _ => (isTrue c X0.env (eval c X0.env) >>= fun b' => if b' = true then execs a X0.env else execs b X0.env).wrap K J gd lv) fs s
  refine seg_at (seg_bind_wrap ?_)
  rw [g.over]
  refine wpAny_mono ((hc (s₀, H₀)).run [] s σ H _ hI ht) (fun d s1 hd => ?_) fun x s' hx => (L.xe x s' hx).elim
  obtain ⟨H1, I1, q1⟩ := hd
  cases d with
  | true => exact ha.run A n ys s₀ H₀ c' fs K J gd lv s1 σ H1 D g hn k gg I1 q1
  | false => exact hb.run A n ys s₀ H₀ c' fs K J gd lv s1 σ H1 D g hn k gg I1 q1
theorem lgs_yield (L : LBase X0) {e : Expr} {yp pos : Pos} {te : TE} (he : ∀ i : Shared × Hp, PE (LX X0 i.1 i.2) e te) (hco : X0.env.scope.isCoroutine = false) (hi : interactive X0.env = false) :
    LGS X0 tot Wt (.Expr (.Yield (some e) yp) pos) (fun D ys σ H => ys.length < tot ∧ te σ H fun x H1 => Wt (tot - 1 - ys.length) x ∧ (ys.length + 1 < tot → D.nx (ys ++ [x]) σ H1)) := by
  refine ⟨fun A n ys s₀ H₀ c fs K J gd lv s σ H D g hn k gg hI ht => ?_⟩
  obtain ⟨hlt, ht⟩ := ht
  obtain ⟨m, rfl⟩ : ∃ m, n = m + 1 := ⟨n - 1, by omega⟩
  refine seg_Expr_Yield g.split g.gd g.guard ?_ hco hi
  rw [g.over]
  refine wpAny_mono ((he (s₀, H₀)).run [] s σ H _ hI ht) (fun v s' hv => ?_) fun x s' hx => (L.xe x s' hx).elim
  obtain ⟨x, H1, I1, rv, q1, q2⟩ := hv
  intro kap hk
  refine ⟨x, rv, by rw [show m = tot - 1 - ys.length by omega]; exact q1, li_ran L gg I1, fun hm s'' z => hk .none s'' ?_⟩
  obtain ⟨gg', I'⟩ := li_woken L gg I1 z
  refine k m (ys ++ [x]) s'' s'' .next ?_ ⟨H1, σ, H1, gg', I', q2 (by omega)⟩
  rw [List.length_append, List.length_singleton]; omega
theorem lc_loop {A : Around} {c c' : Code} {fs : List Frame} {gd : Bool → Bool} {k : Result → Sem PySem.Fin} {l kp : List Value} {p : Pos} (g : LC X0 A c fs gd) (hw : c'.weight = 0) (hu : c'.cUnits = 0) : LC X0 A c' (.ret k none (gd false) l c p kp :: fs) id where
  over := (over_loop hw hu).trans g.over
  split := by
    have e : splitAtGen (Frame.ret k none (gd false) l c p kp :: fs) = (splitAtGen fs).map _ := rfl
    rw [e, g.split]; rfl
  guard := by
    have e : (Frame.ret k none (gd false) l c p kp :: fs).any Frame.guarded = (gd false || fs.any Frame.guarded) := rfl
    rw [e, g.gd, g.guard]; rfl
  gd := rfl
def backK (env : Env) (K : Flow → Sem PySem.Fin) (J : Value → Sem PySem.Fin) (gd : Bool → Bool) (lv : List Value → List Value) : Result → Sem PySem.Fin := fun r => ((match r with | .ok f => (.pure f : Sem Flow) | .error e => .raise e).onRaise (cameBack env)).wrap K J gd lv
theorem lgs_while (L : LBase X0) {test : Expr} {body : List Stmt} {pos : Pos} {tc : TT} {tb : TGn} (hc : ∀ i : Shared × Hp, PT (LX X0 i.1 i.2) test tc) (hb : LGSs X0 tot Wt body tb) : LGS X0 tot Wt (.While test body [] pos) (tGWhile tc tb) := by
  refine ⟨fun A n ys s₀ H₀ c fs K J gd lv s σ H D g hn k gg hI ht => ?_⟩
  obtain ⟨W, ⟨m0, w0⟩, turn⟩ := ht
  refine seg_While fun p => ?_
  have gl := fun (kk : Result → Sem PySem.Fin) => lc_loop (k := kk) (c' := .whileLoop test body [] X0.env) (l := lv []) (kp := []) (p := p) g rfl rfl
  have kl : ∀ (f : Flow) (n' : Nat) (s₀' s' : Shared), Seg (model X0.prog X0.w) A RF (LYX X0 Wt) n' s₀' c (K f) fs s' → Seg (model X0.prog X0.w) A RF (LYX X0 Wt) n' s₀' (.whileLoop test body [] X0.env) (leafOf (.ok f)) (.ret (backK X0.env K J gd lv) none (gd false) (lv []) c p [] :: fs) s' := fun f n' s₀' s' h => seg_leaf (.ok f) h
  have loop : ∀ (m n : Nat) (ys : List V) (s₀ : Shared) (H₀ : Hp) (s : Shared) (σ : L2.St) (H : Hp), n + ys.length = tot → W m ys σ H → LGood X0 s₀ H₀ → Inv (LX X0 s₀ H₀) [] σ H s →
      Seg (model X0.prog X0.w) A RF (LYX X0 Wt) n s₀ (.whileLoop test body [] X0.env) ((model X0.prog X0.w).den (.whileLoop test body [] X0.env)) (.ret (backK X0.env K J gd lv) none (gd false) (lv []) c p [] :: fs) s := by
    intro m
    induction m using Nat.strongRecOn with
    | ind m ih =>
      intro n ys s₀ H₀ s σ H hn w gg hI
      refine seg_whileLoop ?_
      rw [(gl _).over]
      refine wpAny_mono ((hc (s₀, H₀)).run [] s σ H _ hI (turn m ys σ H w)) (fun b s' hb' => ?_) fun x s' hx => (L.xe x s' hx).elim
      obtain ⟨H2, I2, q2⟩ := hb'
      cases b with
      | true =>
        obtain ⟨N, hN, q2⟩ := q2
        rw [if_pos rfl]
        refine hb.run A n ys s₀ H₀ _ _ _ _ id id s' σ H2 { D with nx := N, ct := N, bk := D.nx } (gl _) hn (fun n' ys' s₀' s3 f hn' hs => ?_) gg I2 q2
        cases f with
        | next =>
          obtain ⟨H₁, σ3, H3, gg3, I3, n3⟩ := hs
          obtain ⟨m', hm, w3⟩ := hN ys' σ3 H3 n3
          exact seg_again rfl (ih m' hm n' ys' s₀' H₁ s3 σ3 H3 hn' w3 gg3 I3)
        | cont =>
          obtain ⟨H₁, σ3, H3, gg3, I3, n3⟩ := hs
          obtain ⟨m', hm, w3⟩ := hN ys' σ3 H3 n3
          exact seg_again rfl (ih m' hm n' ys' s₀' H₁ s3 σ3 H3 hn' w3 gg3 I3)
        | brk => exact kl .next n' s₀' s3 (k n' ys' s₀' s3 .next hn' hs)
        | ret v => exact kl (.ret v) n' s₀' s3 (k n' ys' s₀' s3 (.ret v) hn' hs)
      | false =>
        rw [if_neg Bool.false_ne_true]
        exact seg_execs_nil (kl .next n s₀ s' (k n ys s₀ s' .next hn ⟨H₀, σ, H2, gg, I2, q2⟩))
  exact loop m0 n ys s₀ H₀ s σ H hn w0 gg hI
theorem lgs_un {t : TGn} (h : ∀ D ys σ H, t D ys σ H → ∃ t', LGS X0 tot Wt st t' ∧ t' D ys σ H) : LGS X0 tot Wt st t :=
  ⟨fun A n ys s₀ H₀ c fs K J gd lv s σ H D g hn k gg hI ht => by
    obtain ⟨t', h1, h2⟩ := h D ys σ H ht
    exact h1.run A n ys s₀ H₀ c fs K J gd lv s σ H D g hn k gg hI h2⟩
theorem lgss_un {t : TGn} (h : ∀ D ys σ H, t D ys σ H → ∃ t', LGSs X0 tot Wt rest t' ∧ t' D ys σ H) : LGSs X0 tot Wt rest t :=
  ⟨fun A n ys s₀ H₀ c fs K J gd lv s σ H D g hn k gg hI ht => by
    obtain ⟨t', h1, h2⟩ := h D ys σ H ht
    exact h1.run A n ys s₀ H₀ c fs K J gd lv s σ H D g hn k gg hI h2⟩
/-- these rules -/
abbrev grL (X0 : Cx) (tot : Nat) (Wt : Nat → V → Prop) (L : LBase X0) (hco : X0.env.scope.isCoroutine = false) (hi : interactive X0.env = false) : GR where
  ι := Shared × Hp
  X := fun i => LX X0 i.1 i.2
  GS := LGS X0 tot Wt
  GSs := LGSs X0 tot Wt
  Pre := fun ys => ys.length < tot
  Wt := fun ys x => Wt (tot - 1 - ys.length) x
  More := fun ys => ys.length + 1 < tot
  unS := lgs_un
  unSs := lgss_un
  ps := fun h => lgs_ps L h
  nil := lgss_nil
  cons := lgss_cons
  ite := fun hc ha hb => lgs_if L hc ha hb
  wh := fun hc hb => lgs_while L hc hb
  yld := fun he => lgs_yield L he hco hi
end

/-! ### the call -/
theorem truncH_self (h : Heap) : truncH h.objs.size h = h := by
  unfold truncH
  rw [Array.extract_size]
theorem lx_self (X0 : Cx) : LX X0 X0.s_0 X0.H_0 = X0 := by
  unfold LX
  rw [truncH_self]
theorem LGood.self {X0 : Cx} (h : X0.H_0 = fun _ => none) : LGood X0 X0.s_0 X0.H_0 := ⟨Nat.le_refl _, fun _ _ _ => by rw [h], fun _ o e => ⟨o, e⟩⟩
/-- a generator that has not begun; its first items are known -/
def LMade (P : Program) (w : World) (k : Nat) (outer : List Env) (base : Heap) (sN : Shared) (tot : Nat) (Wt : Nat → V → Prop) (u : Value) (s' : Shared) : Prop :=
  ∃ (a : Addr) (g : Nat) (c : Code) (go : Obj), u = .ref a ∧ sN.heap.objs.size ≤ a ∧ s'.heap.get? a = some go ∧ (∀ h : Heap, h.get? a = some go → h.IsGen a g) ∧ s'.gens[g]? = some (.fresh c) ∧ s'.os = sN.os ∧ AllBare s'.gens ∧ (∀ b o, sN.heap.get? b = some o → s'.heap.get? b = some o) ∧
    ∀ (A : Around) (s2 : Shared), Room k A → A.frames = some outer → Res sN base outer s' s2 → Seg (model P w) A RF (LY sN base outer [(a, go)] Wt) tot s2 c ((model P w).den c) [] s2
structure LFn (P : Program) (w : World) (K : Fg) (mg : Str → Option Value) (base : Heap) (k : Nat) (f : Addr) (fd : FuncData) (ps : List Str) (sp : List V → Nat → (Nat → V → Prop) → Prop) : Prop where
  len : ∀ vs tot Wt, sp vs tot Wt → vs.length = ps.length
  run : ∀ (A : Around) (outer : List Env) (s : Shared) (H : Hp) (args : Args) (us : List Value) (vs : List V) (tot : Nat) (Wt : Nat → V → Prop), Room k A → Env0 P w K mg base A outer s H → BindsTo s fd args (ps.zip us) → Vals vs us → sp vs tot Wt →
    codeAny (model P w) A (.call (.ref f) args) (fun r s' => match r with | .ok (.ret u) => LMade P w k outer base s tot Wt u s' | _ => False) s
section
variable {P : Program} {w : World} {K : Fg} {mg : Str → Option Value} {base : Heap} {E R α : Type} {Γ Γn : List (SK E)}
/-- the items, from the first -/
def Wts (K : Fg) (T : Ty R) (rs : List R) : Nat → V → Prop := fun n x => ∃ B r, rs[rs.length - 1 - n]? = some r ∧ T.rep K B x r
def spK (K : Fg) (A : TyA α) (T : Ty R) (m : α → Option (List R)) (tt : Nat) : List V → Nat → (Nat → V → Prop) → Prop := fun vs tot Wt => ∃ a rs, A.rep K (fun _ => none) vs a ∧ m a = some rs ∧ rs.length = tot ∧ tt = tot ∧ Wt = Wts K T rs
theorem fn_K {x qual : Str} {st : Stmt} {f : Addr} {fd : FuncData} {N ps : List Str} {k tt : Nat} {Ar : TyA α} {T : Ty R} {init : α → E} {body : GF E R} (F : Fun K x qual st f fd) (Sc : GScope N ps (defScope st)) (hl : ∀ K B vs a, Ar.rep K B vs a → vs.length = ps.length)
    (hΓ : Γ.length = N.length) (hst : ∀ K B vs a, Ar.rep K B vs a → StOk K B (init a) vs Γ)
    (hbody : ∀ (items : List R) (Wt : Nat → V → Prop) (cdv : Value) (A : Around) (outer : List Env) (s : Shared) (pn : List (Addr × Obj)) (L : LBase (bodyG P w K mg base N qual st f cdv A outer s (fun _ => none) E0 pn).nox), Room k (A.deeper (envOfC qual (defScope st) s.heap.objs.size f cdv)) →
      GFit (grL (bodyG P w K mg base N qual st f cdv A outer s (fun _ => none) E0 pn).nox tt Wt L Sc.co (gen_quiet Sc _ _ _ _)) (⟨K, T, [], [], items⟩ : GJ E R) (some tt) →
      GSVs (grL (bodyG P w K mg base N qual st f cdv A outer s (fun _ => none) E0 pn).nox tt Wt L Sc.co (gen_quiet Sc _ _ _ _)) (⟨K, T, [], [], items⟩ : GJ E R) Γ (defBody st) Γn body) :
    LFn P w K mg base (k + 1) f fd ps (spK K Ar T (fun a => endK body (init a)) tt) := by
  obtain ⟨oc, od, kV, doc, pm, an, cdv, ct, osl, rfl, lk, hcd⟩ := F.ex
  refine ⟨fun vs tot Wt h => ?_, fun A outer s H args us vs tot Wt hr e0 hb r hsp => ?_⟩
  · obtain ⟨a, rs, h1, _⟩ := h
    exact hl _ _ _ _ h1
  obtain ⟨av, rs, h1, h2, hlen, rfl, rfl⟩ := hsp
  have hlv : vs.length = ps.length := hl _ _ _ _ h1
  have KX : K.In s.heap := e0.mod.kin.keeps fun b o e => (e0.bs b o e).1
  have lim : s.heap.NoLimit := e0.mod.nolimit.keeps fun b o e => (e0.bs b o e).1
  have hkind : ∀ y ∈ ps.zip us, (defScope st).names.lookup y.1 = some .local ∨ ((defScope st).names.lookup y.1 = some .cell ∧ ((cellsFrom (s.heap.objs.size + 1) (defScope st).names []).lookup y.1).isSome = true) := fun ⟨n, v⟩ hy =>
    (Sc.par n (List.of_mem_zip hy).1).imp id fun q => ⟨q, PySem.W.cellsFrom_some _ _ _ (.inl q)⟩
  refine codeAny_call_generator hr.depth (KX _ _ lk) rfl Sc.co Sc.gen rfl (PySem.W.codeRec_of KX hcd) (hb _ _ _ _ ?_)
  refine wpAny_newFunctionEnv_cells Sc.kind hkind fun env he s1 x => ?_
  subst he
  have lim1 : s1.heap.NoLimit := lim.keeps x.toInCall.keep
  refine ⟨lim1, ?_⟩
  have es1 : s1.os = s.os ∧ s1.gens = s.gens := by
    obtain ⟨h1, tk, e, _⟩ := x.done
    rw [e]; exact ⟨rfl, rfl⟩
  have lt1 : s.heap.objs.size < s1.heap.objs.size := x.toInCall.ns.lt
  have kp1 : ∀ b o, s.heap.get? b = some o → s1.heap.get? b = some o := x.toInCall.keep
  have main : ∀ (go : Obj) (nm qn : Value) (tk2 : Nat), go.cls = .type "generator" → go.data = .fields #[.int s1.gens.size 0, nm, qn] → go.slots = #[] → (∀ h : Heap, (h.push go).get? h.objs.size = some go) →
      LMade P w (k + 1) outer base s tt (Wts K T rs) (.ref s1.heap.objs.size) { s1 with gens := s1.gens.push (.fresh (.func (defBody st) (envOfC qual (defScope st) s.heap.objs.size f cdv))), toks := tk2, heap := s1.heap.push go } := by
    intro go nm qn tk2 hgc hgd0 hgs hgp
    have hpushed : (s1.heap.push go).get? s1.heap.objs.size = some go := hgp _
    have hbare : AllBare (s1.gens.push (.fresh (.func (defBody st) (envOfC qual (defScope st) s.heap.objs.size f cdv)))) := AllBare.push (by rw [es1.2]; exact e0.bare) rfl
    refine ⟨s1.heap.objs.size, s1.gens.size, _, go, rfl, Nat.le_of_lt lt1, hpushed, fun h e => ⟨go, nm, qn, e, hgc, hgd0, hgs⟩, Array.getElem?_push_size .., es1.1, hbare, fun b o e => Heap.get?_push_of_some _ (kp1 b o e), ?_⟩
    intro Aw s2 hrw hfr z
    have e0w : Env0 P w K mg base Aw outer s (fun _ => none) := ⟨hfr, e0.mod, fun b o e => ⟨(e0.bs b o e).1, rfl⟩, e0.bsz, e0.funs, fun _ _ => rfl, fun _ _ e => (by cases e), e0.bare⟩
    have I1 : Inv (gcxOf P w K mg base N qual (defScope st) f cdv Aw outer s (fun _ => none) E0 []) [] (start N vs) (fun _ => none) s1 := inv_startG Sc hrw.hd e0w hlv r x
    have kp2 : ∀ b o, s1.heap.get? b = some o → (s1.heap.push go).get? b = some o := fun b o e => Heap.get?_push_of_some _ e
    have I2 : Inv (gcxOf P w K mg base N qual (defScope st) f cdv Aw outer s (fun _ => none) E0 []) [] (start N vs) (fun _ => none) { s1 with gens := s1.gens.push (.fresh (.func (defBody st) (envOfC qual (defScope st) s.heap.objs.size f cdv))), toks := tk2, heap := s1.heap.push go } :=
      I1.call' (ch := []) rfl (Un.kept kp2) (I1.hok.kept kp2) hbare fun b z => by cases z
    have hp : ∀ p ∈ [(s1.heap.objs.size, go)] ++ ([] : List (Addr × Obj)), (s1.heap.push go).get? p.1 = some p.2 ∧ (fun _ => none : Hp) p.1 = none ∧ p.1 ≠ (envOfC qual (defScope st) s.heap.objs.size f cdv).locals ∧ p.1 ∉ frs outer ∧ ∀ v, p.2.data ≠ .cell v := fun p hp => by
      rw [List.append_nil, List.mem_singleton] at hp
      subst hp
      exact ⟨hpushed, rfl, Nat.ne_of_gt lt1, I1.nofs (Nat.le_refl _), fun v q => by rw [hgd0] at q; cases q⟩
    have I3 := (Inv.pinnedG I2 hp).wish (fun _ _ => False)
    have L : LBase (bodyG P w K mg base N qual st f cdv Aw outer s (fun _ => none) E0 [(s1.heap.objs.size, go)]).nox := ⟨fun _ _ h => h, rfl, I3.ok, fun y c e => Nat.le_of_lt (x.above y c (PySem.mem_of_lookup e)), fun p hp => by
      rw [List.mem_singleton.mp hp]; exact Nat.le_of_lt lt1⟩
    rw [← lx_self (Cx.wish _ _)] at I3
    obtain ⟨gg, I4⟩ := li_woken L (LGood.self rfl) I3 z
    have h2 : endK body (init av) = some rs := h2
    unfold endK at h2
    cases hf : body (init av, []) with
    | none => rw [hf] at h2; cases h2
    | some fl =>
      rw [hf] at h2
      have hb := hbody rs (Wts K T rs) cdv Aw outer s _ L (hrw.deeper _) ⟨fun _ => rfl, fun ys h _ => h tt rfl, fun {B} ys x r hx hi => ?_, fun ys h n e => by cases e; exact h⟩
      · have hs := hst _ _ _ _ h1
        have S0 : SA K (fun _ => none) (fun _ => none) (init av) Γ (start N vs) := ⟨by
          have e : (start N vs).length = (vs.map some).length + (N.length - vs.length) := by
            show (vs.map some ++ List.replicate (N.length - vs.length) none).length = _
            rw [List.length_append, List.length_replicate]
          have := hs.len
          rw [e, List.length_map, hΓ]
          omega, fun i k e => by
          obtain ⟨x, h3, h4⟩ := hs.sa (O := fun _ => none) 0 i k e (List.getElem?_eq_some_iff.mp e).1
          refine ⟨x, ?_, h4⟩
          rw [hΓ] at h3
          exact h3⟩
        have I0 : FI (fun _ => none) (fun _ => none) (fun _ => none) (fun _ => none) (fun _ => none) := ⟨Ex.refl _, Ex.refl _, Ex.refl _, fun _ _ _ e => (by cases e), fun _ h _ => h⟩
        have hgo : outs fl = rs ∧ ∀ D, GPost (⟨K, T, [], [], rs⟩ : GJ E R) Γn (fun _ => none) (fun _ => none) D fl := by
          cases fl with
          | rt r ρ => cases h2; exact ⟨rfl, fun _ => trivial⟩
          | nx ρ => cases h2
          | bk ρ => cases h2
          | ct ρ => cases h2
          | ex x ρ => cases h2
        obtain ⟨t, ht1, ht2⟩ := hb.2 (init av) [] _ _ (start N vs) _ _ _ [] S0 I0 .nil fl hf (by rw [hgo.1]; exact List.prefix_refl _) { nx := fun _ _ _ => False, rt := fun _ _ _ => False } (hgo.2 _)
        refine seg_func ?_
        refine ht1.run Aw tt [] s2 _ _ [] _ _ id id s2 (start N vs) _ _ ⟨over_func, rfl, rfl, rfl⟩ (Nat.add_zero _) (fun n ys s₀ s' fl hn hs => ?_) gg I4 ht2
        cases fl with
        | next => obtain ⟨_, _, _, _, _, q⟩ := hs; exact q.elim
        | brk => obtain ⟨_, _, _, _, _, q⟩ := hs; exact False.elim q
        | cont => obtain ⟨_, _, _, _, _, q⟩ := hs; exact False.elim q
        | ret u => obtain ⟨_, _, _, _, _, _, _, q⟩ := hs; exact q.elim
      · have hlt : ys.length < rs.length := (List.getElem?_eq_some_iff.mp hi).1
        refine ⟨B, r, ?_, hx⟩
        rw [hlen, show tt - 1 - (tt - 1 - ys.length) = ys.length by omega]
        exact hi
  exact main _ _ _ _ rfl rfl rfl fun h => Heap.get?_push_size _ rfl
end
end ML

/-! the mirror layer: for x in f(..): found.append(x); if len(found) == 2: break -/
namespace ML
open PySem PySem.Spec PyProof.Rows L2 GenW

section
variable {X : Cx} {pins : List (Addr × Obj)} {σ : L2.St} {H : Hp} {s : Shared} {E1 : Value → Shared → Prop}
/-- a local name's value is stored; the state behind it -/
theorem store_loc {i : Nat} {x : Str} {v : V} {u : Value} {Q : Unit → Shared → Prop} (I : Inv X pins σ H s) (nd : X.N.Nodup) (hN : X.N[i]? = some x) (hk : X.env.kindOf x = some .local) (r : RelV v u)
    (h : ∀ h', Inv X pins (σ.set i (some v)) H { s with heap := h', toks := s.toks + 1 } → Heap.SameBut X.env.locals s.heap h' → (∃ o, h'.get? X.env.locals = some o) → Q () { s with heap := h', toks := s.toks + 1 }) {M : Model} {A : Around} : wpAny M A (storeName X.env x u) Q E1 s := by
  obtain ⟨m, hn, hl⟩ := I.loc
  have hlen : i < σ.length := by rw [I.len]; exact (List.getElem?_eq_some_iff.mp hN).1
  refine wpAny_storeName_local hk hn (fun h' hn' sb => ?_) (by rw [I.ok.kind]; rfl)
  have low : ∀ b o, X.s_0.heap.get? b = some o → h'.get? b = s.heap.get? b := fun b o e => sb.2 b (Nat.ne_of_lt (Nat.lt_of_lt_of_le (Heap.lt_size e) I.ok.above))
  have cel : ∀ y c w, X.env.cells.lookup y = some c → s.heap.IsCell c w → h'.IsCell c w := fun y c w e z => z.sameBut sb (I.cne y c e)
  have al' : ∃ o, h'.get? X.env.locals = some o := by
    obtain ⟨o, _, _, e, _⟩ := id hn'
    exact ⟨o, e⟩
  refine h h' ?_ sb al'
  constructor
  · exact I.ok
  · exact I.os
  · exact I.bare
  · constructor
    · exact fun b o e n hb hx => (low b o e).trans (I.base.keep b o e n hb hx)
    · intro b o e n hb hx
      obtain ⟨sl, q⟩ := I.base.slot b o e n hb hx
      exact ⟨sl, (low b o e).trans q⟩
    · exact I.base.free
    · intro b o e hx
      obtain ⟨o', q⟩ := I.base.there b o e hx
      exact ⟨o', (low b o e).trans q⟩
    · exact I.base.tups
    · exact I.base.frzs
    · exact I.base.tbls
  · refine ⟨_, hn', fun j y v' e1 e2 e3 => ?_⟩
    by_cases z : j = i
    · subst z
      have exy : x = y := Option.some.inj (hN.symm.trans e1)
      rw [List.getElem?_set_self hlen] at e2
      have e2' : v = v' := by injection (Option.some.inj e2)
      subst exy e2'
      exact ⟨u, r, .inl ⟨hk, if_pos rfl⟩⟩
    · rw [List.getElem?_set_ne (Ne.symm z)] at e2
      obtain ⟨u', r', q⟩ := hl j y v' e1 e2 e3
      have nxy : y ≠ x := fun w => z (nodup_ix nd e1 (w ▸ hN))
      exact ⟨u', r', q.imp (fun ⟨k1, k2⟩ => ⟨k1, (if_neg nxy).trans k2⟩) fun ⟨k1, c, k2, k3⟩ => ⟨k1, c, k2, cel y c _ k2 k3⟩⟩
  · intro y c e
    obtain ⟨w, q⟩ := I.cell y c e
    exact ⟨w, cel y c w e q⟩
  · exact I.free
  · exact I.freeC
  · intro p hp
    obtain ⟨q1, q2, q3, q4⟩ := I.pin p hp
    exact ⟨(sb.2 p.1 q3).trans q1, q2, q3, q4⟩
  · intro b ob e
    have ne : b ≠ X.env.locals := fun w => by rw [w, I.free] at e; cases e
    refine (I.hok b ob e).stay (fun c w hc q => (sb.2 c fun y => ?_).trans q) (fun _ q => q) fun _ _ q => q
    rcases hc with hc | hc
    · exact ne (hc.symm.trans y)
    · rw [y, I.free] at hc; cases hc
  · rw [List.length_set]; exact I.len
theorem ld_loc {i : Nat} {x : Str} {v : V} {p : Pos} {Q : Value → Shared → Prop} (I : Inv X pins σ H s) (hN : X.N[i]? = some x) (e : σ[i]? = some (some v)) (hk : X.env.kindOf x = some .local) (hd : (x == ("__debug__" : Str)) = false) (h : ∀ u, RelV v u → Q u s) {M : Model} {A : Around} : wpAny M A (eval (.Name x p) X.env) Q E1 s := by
  obtain ⟨m, hn, hl⟩ := I.loc
  obtain ⟨u, r, q⟩ := hl i x v hN e (.inl hk)
  rcases q with ⟨_, hm⟩ | ⟨k, _⟩
  · exact wpAny_Name (wpAny_loadName_local I.ok.kind hk hn hm (h u r)) hd
  · rw [hk] at k
    rcases k with k | k <;> cases k
/-- the consumer's part: x is stored, then put behind the list; are there two? -/
theorem lazy_body {i j : Nat} {fo x : Str} {px p1 p2 p3 pl pk ap pc2 pc3 pos2 pcmp pb pif : Pos} {jk} {v : Value} {xv : V} {l : Addr} {xs : List V} (I : Inv X pins σ H s) (nd : X.N.Nodup) (hNi : X.N[i]? = some fo) (hNj : X.N[j]? = some x) (hij : i ≠ j) (hki : X.env.kindOf fo = some .local) (hkj : X.env.kindOf x = some .local)
    (hdi : (fo == ("__debug__" : Str)) = false) (hdj : (x == ("__debug__" : Str)) = false) (hσ : σ[i]? = some (some (.ref l))) (hl : H l = some (.lst xs)) (hlt : xs.length < 2) (rv : RelV xv v) (hgl : Gl X "len") (hml : X.mg "len" = none)
    (hbase : attributeBase (.Name fo p1) "append" X.env (eval (.Name fo p1) X.env) = eval (.Name fo p1) X.env)
    (hfew : ((backTo pc2 (starEach [.Name x p2] X.env)).all (fun x => !x.1) && (backToKw pc2 (keywordEach [] X.env)).all (fun x => x.1.isSome) && decide (([.Name x p2] : List Expr).length + ([] : List Keyword).length + (if ([] : List Keyword).isEmpty then 0 else 1) < 30)) = true)
    (hline : (ap.endLine == pc2.line) = true) (htrees : backTo pc2 (starEach [.Name x p2] X.env) = [(false, eval (.Name x p2) X.env)])
    (hsw : swapsWith (.Call (.Attribute (.Name fo p1) "append" ap) [.Name x p2] [] pc2) none pos2.line X.env = pure false) (hst : starEach [.Name fo p3] X.env = (false, eval (.Name fo p3) X.env) :: starEach [] X.env)
    {Q : Flow → Shared → Prop} (hQ : ∀ t, Inv X pins (σ.set j (some xv)) (upd H l (.lst (xs ++ [xv]))) t → t.gens = s.gens → t.os = s.os → t.heap.objs.size = s.heap.objs.size → (∀ b, b ≠ X.env.locals → b ≠ l → t.heap.get? b = s.heap.get? b) → (∀ b o, s.heap.get? b = some o → ∃ o', t.heap.get? b = some o') → Q (if xs.length + 1 = 2 then .brk else .next) t) :
    wpAny (model X.prog X.w) X.A (assign (.Name x px) X.env v) (fun _ t1 => wpAny (model X.prog X.w) X.A (execs [.Expr (.Call (.Attribute (.Name fo p1) "append" ap) [.Name x p2] [] pc2) pos2, .If (.Compare (.Call (.Name "len" pl) [.Name fo p3] [] pc3) [.Eq] [.Constant (.int 2) jk pk] pcmp) [.Break pb] [] pif] X.env) Q E1 t1) E1 s := by
  have hiσ : i < σ.length := (List.getElem?_eq_some_iff.mp hσ).1
  have hjσ : j < σ.length := by rw [I.len]; exact (List.getElem?_eq_some_iff.mp hNj).1
  refine wpAny_assign_Name (store_loc I nd hNj hkj rv fun h' I1 sb al' => ?_)
  have hσ1 : (σ.set j (some xv))[i]? = some (some (.ref l)) := by rw [List.getElem?_set_ne (Ne.symm hij)]; exact hσ
  have hx1 : (σ.set j (some xv))[j]? = some (some xv) := List.getElem?_set_self hjσ
  obtain ⟨hz, its, n, r, hlen, e⟩ := I1.lstM hl
  refine wpAny_execs_cons (wpAny_Expr (wpAny_Call_append hbase hfew hline htrees (ld_loc I1 hNi hσ1 hki hdi fun u ru => ?_)) (Inv.quiet I1) hsw)
  obtain rfl : u = Value.ref l := ru
  refine ⟨l, its.toArray, rfl, ⟨_, n, e, rfl, rfl, rfl⟩, ld_loc I1 hNj hx1 hkj hdj fun u2 ru2 => ?_⟩
  have sz2 : xs.length < 16777216 := by omega
  refine call_meets F.slot_list_append ⟨_, e, rfl⟩ F.entry_list_append (F.args_list_append_2 _ _) (PySem.list_append l its.toArray n u2 (by rw [List.size_toArray, sizeLine_eq]; omega)) ⟨e, ?_⟩
  have rs : Vals (xs ++ [xv]) (its ++ [u2]) := r.append (.cons ru2 .nil)
  have I2 := I1.lset (its' := its ++ [u2]) (t' := s.toks + 1) hl e (f := fun z => z.push u2) (by simp) rs (by rw [List.length_append, List.length_singleton, sizeLine_eq]; omega)
  obtain ⟨_, its2, n2, r2, hlen2, e2⟩ := I2.lstM (l := l) (xs := xs ++ [xv]) upd_same
  refine wpAny_execs_cons (wpAny_If (wpAny_isTrue_Compare1 (wpAny_Call_Name_kw (ld_blt I2 hgl hml boot_len ?_))))
  refine PyProof.Rows.callWith_builtin1 ?_ hst rfl
  rw [hst]
  refine Calls.spliced_cons (ld_loc I2 hNi hσ1 hki hdi fun u3 ru3 => Calls.spliced_nil ?_)
  obtain rfl : u3 = Value.ref l := ru3
  refine Calls.call_len_list ⟨_, e2, rfl, n2, rfl⟩ (by have h63 := line63; rw [List.length_append, List.length_singleton] at hlen2; rw [List.size_toArray, ← hlen2]; omega) ?_
  refine wpAny_Constant_int (PyProof.Rows.eq_int (wpAny_truthy_bool ?_))
  have hsz : its2.toArray.size = xs.length + 1 := by rw [List.size_toArray, ← hlen2, List.length_append]; rfl
  have fin : ∀ tk : Nat, Q (if xs.length + 1 = 2 then .brk else .next) { s with heap := h'.update l (Obj.mapSeq fun z => z.push u2), toks := tk } := fun tk => by
    refine hQ _ (I2.tok tk) rfl rfl ?_ (fun b b1 b2 => ?_) fun b o eb => ?_
    · show (h'.update l _).objs.size = _
      rw [Heap.size_update]; exact sb.1
    · show (h'.update l _).get? b = _
      rw [Heap.get?_update_other _ _ (Ne.symm b2)]; exact sb.2 b b1
    · by_cases b2 : b = l
      · subst b2; exact ⟨_, e2⟩
      · show ∃ o', (h'.update l _).get? b = some o'
        rw [Heap.get?_update_other _ _ (Ne.symm b2)]
        by_cases b1 : b = X.env.locals
        · subst b1; exact al'
        · exact ⟨o, (sb.2 b b1).trans eb⟩
  rw [hsz]
  by_cases h2 : xs.length + 1 = 2
  · have hb : (((xs.length + 1 : Nat) : Int) == 2) = true := by rw [h2]; rfl
    rw [hb]
    have fin' := fun tk => fin tk
    rw [if_pos h2] at fin'
    exact wpAny_execs_cons (wpAny_Break (fin' _))
  · have hb : (((xs.length + 1 : Nat) : Int) == 2) = false := by
      rw [beq_eq_false_iff_ne]; omega
    rw [hb]
    have fin' := fun tk => fin tk
    rw [if_neg h2] at fin'
    exact wpAny_execs_nil (wpAny_execs_nil (fin' _))
end
section
variable {X : Cx} {pins : List (Addr × Obj)} {σ : L2.St} {H : Hp} {s s' sN : Shared}
/-- what the consumer leans on was there at the call -/
structure CA (X : Cx) (pins : List (Addr × Obj)) (sN : Shared) : Prop where
  base : ∀ b o, X.s_0.heap.get? b = some o → ∃ o', sN.heap.get? b = some o'
  loc : ∃ o, sN.heap.get? X.env.locals = some o
  cell : ∀ x c, X.env.cells.lookup x = some c → ∃ o, sN.heap.get? c = some o
  pin : ∀ p ∈ X.pn ++ pins, ∃ o, sN.heap.get? p.1 = some o
theorem ca_of (hx : X.ex = []) (I : Inv X pins σ H s) : CA X pins s where
  base := fun b o e => I.base.there b o e (by rw [hx]; simp)
  loc := by
    obtain ⟨m, ⟨o, _, _, e, _⟩, _⟩ := I.loc
    exact ⟨o, e⟩
  cell := fun x c e => by
    obtain ⟨v, o, q, _⟩ := I.cell x c e
    exact ⟨o, q⟩
  pin := fun p hp => ⟨p.2, (I.pin p hp).1⟩
theorem hp_at (I : Inv X pins σ H s) {b : Addr} {u : HO} (e : H b = some u) : ∃ o, s.heap.get? b = some o := by
  cases q : s.heap.get? b with
  | some o => exact ⟨o, rfl⟩
  | none => rw [I.hok.gone q] at e; cases e
/-- the consumer's state behind a part of the generator's run -/
theorem inv_ran {pn : List (Addr × Obj)} (I : Inv X pins σ H s) (hx : X.ex = []) (A : CA X pins sN) (hH : ∀ b u, H b = some u → ∃ o, sN.heap.get? b = some o) (R : Ran sN X.stack pn s s') : Inv X pins σ H s' := by
  have any : ∀ b o, (∃ o1, sN.heap.get? b = some o1) → s.heap.get? b = some o → ∃ sl, s'.heap.get? b = some { o with slots := sl } := fun b o ⟨o1, e1⟩ e => by
    by_cases z : b ∈ frs X.stack
    · exact R.slot b o1 o e1 e z
    · exact ⟨o.slots, R.keep b o1 o e1 e z⟩
  have stk : ∀ b, b ∉ X.fs → b ≠ X.env.locals → b ∉ frs X.stack := fun b h1 h2 h3 => (List.mem_cons.mp (I.stkSub b h3)).elim h2 h1
  have neL : ∀ b o, X.s_0.heap.get? b = some o → b ≠ X.env.locals := fun b o e z => by
    have h1 := Heap.lt_size e
    rw [z] at h1
    exact absurd (Nat.lt_of_lt_of_le h1 I.ok.above) (Nat.lt_irrefl _)
  have cl : ∀ c v, (∃ o1, sN.heap.get? c = some o1) → s.heap.IsCell c v → s'.heap.IsCell c v := fun c v h ⟨o, q1, q2⟩ => by
    obtain ⟨sl, q⟩ := any c o h q1
    exact ⟨_, q, q2⟩
  constructor
  · exact I.ok
  · exact R.os.trans I.os
  · exact R.bare
  · constructor
    · intro b o e n hb hxx
      obtain ⟨o1, e1⟩ := A.base b o e
      exact R.keep b o1 o e1 (I.base.keep b o e n hb hxx) (stk b hb (neL b o e))
    · intro b o e n hb hxx
      obtain ⟨sl, q⟩ := I.base.slot b o e n hb hxx
      obtain ⟨sl', q'⟩ := any b _ (A.base b o e) q
      exact ⟨sl', q'⟩
    · exact I.base.free
    · intro b o e hxx
      obtain ⟨o', q⟩ := I.base.there b o e hxx
      obtain ⟨sl, q'⟩ := any b o' (A.base b o e) q
      exact ⟨_, q'⟩
    · exact I.base.tups
    · exact I.base.frzs
    · exact I.base.tbls
  · obtain ⟨m, ⟨o, es, ep, ho, hr⟩, hl⟩ := I.loc
    obtain ⟨sl, q⟩ := any _ o A.loc ho
    refine ⟨m, ⟨_, es, ep, q, hr⟩, fun i x v e1 e2 e3 => ?_⟩
    obtain ⟨u, r, w⟩ := hl i x v e1 e2 e3
    exact ⟨u, r, w.imp id fun ⟨k1, c, k2, k3⟩ => ⟨k1, c, k2, cl c _ (A.cell x c k2) k3⟩⟩
  · intro x c e
    obtain ⟨v, q⟩ := I.cell x c e
    exact ⟨v, cl c v (A.cell x c e) q⟩
  · exact I.free
  · exact I.freeC
  · intro p hp
    obtain ⟨q1, q2, q3, q4, q5⟩ := I.pin p hp
    obtain ⟨o1, e1⟩ := A.pin p hp
    exact ⟨R.keep p.1 o1 p.2 e1 q1 (stk p.1 q4 q3), q2, q3, q4, q5⟩
  · intro b o e
    refine (I.hok b o e).stay (fun c w hc q => ?_) (fun _ y => y) fun _ _ y => y
    have hcH : ∃ u, H c = some u := by
      rcases hc with rfl | hc
      · exact ⟨o, e⟩
      · exact ⟨_, hc⟩
    obtain ⟨u, hu⟩ := hcH
    obtain ⟨o1, e1⟩ := hH c u hu
    exact R.keep c o1 w e1 q fun z => by rw [I.stkFree c z] at hu; cases hu
  · exact I.len
theorem inv_gens {g' : Array GenState} (I : Inv X pins σ H s) (hg : AllBare g') : Inv X pins σ H { s with gens := g' } :=
  I.call' (ch := []) rfl Un.refl I.hok hg fun b z => by cases z
end
section
variable {X : Cx} {k : Nat} {f : Addr} {fd : FuncData} {ps : List Str} {sp : List V → Nat → (Nat → V → Prop) → Prop} {e : Expr} {es : List Expr} {ta : TA}
def tLazy (ta : TA) (sp : List V → Nat → (Nat → V → Prop) → Prop) (i j : Nat) : TS := fun D σ H => ta σ H fun vs H1 => ∃ l Wt, σ[i]? = some (some (.ref l)) ∧ H1 l = some (.lst []) ∧ sp vs 2 Wt ∧ ∀ x0 x1, Wt 1 x0 → Wt 0 x1 → D.nx (σ.set j (some x1)) (upd H1 l (.lst [x0, x1]))
theorem upd_upd {H : Hp} {l : Addr} {a b : HO} : upd (upd H l a) l b = upd H l b := by
  funext c
  by_cases z : c = l
  · subst z; rw [upd_same, upd_same]
  · rw [upd_ne z, upd_ne z, upd_ne z]
theorem ps_lazy2 {i j : Nat} {gn fo x : Str} {pg pc pos px p1 p2 p3 pl pk ap pc2 pc3 pos2 pcmp pb pif : Pos} {jk} (F : LFn X.prog X.w X.K X.mg X.base k f fd ps sp) (hr : Room (k + 1) X.A) (hx : X.ex = []) (hg : Gl X gn) (hm : X.mg gn = some (.ref f)) (hk : PySem.W.keepIn X.K (.ref f) = true) (hb : Binds X.K fd ps []) (ha : PA X (e :: es) ta)
    (nd : X.N.Nodup) (hNi : X.N[i]? = some fo) (hNj : X.N[j]? = some x) (hij : i ≠ j) (hki : X.env.kindOf fo = some .local) (hkj : X.env.kindOf x = some .local) (hdi : (fo == ("__debug__" : Str)) = false) (hdj : (x == ("__debug__" : Str)) = false) (hgl_ : Gl X "len") (hml : X.mg "len" = none)
    (hbase : attributeBase (.Name fo p1) "append" X.env (eval (.Name fo p1) X.env) = eval (.Name fo p1) X.env)
    (hfew : ((backTo pc2 (starEach [.Name x p2] X.env)).all (fun x => !x.1) && (backToKw pc2 (keywordEach [] X.env)).all (fun x => x.1.isSome) && decide (([.Name x p2] : List Expr).length + ([] : List Keyword).length + (if ([] : List Keyword).isEmpty then 0 else 1) < 30)) = true)
    (hline : (ap.endLine == pc2.line) = true) (htrees : backTo pc2 (starEach [.Name x p2] X.env) = [(false, eval (.Name x p2) X.env)])
    (hsw : swapsWith (.Call (.Attribute (.Name fo p1) "append" ap) [.Name x p2] [] pc2) none pos2.line X.env = pure false) (hst : starEach [.Name fo p3] X.env = (false, eval (.Name fo p3) X.env) :: starEach [] X.env)
    (hdb : (gn == ("__debug__" : Str)) = false) (he : starEach (e :: es) X.env = (false, eval e X.env) :: starEach es X.env) (hpl : (backTo pc (starEach es X.env)).any (·.1) = false) (hc : X.calm = true) (hs : ∀ x, foldedSetIterable (.Call (.Name gn pg) (e :: es) [] pc) X.env x = pure x) :
    PS X (.For (.Name x px) (.Call (.Name gn pg) (e :: es) [] pc) [.Expr (.Call (.Attribute (.Name fo p1) "append" ap) [.Name x p2] [] pc2) pos2, .If (.Compare (.Call (.Name "len" pl) [.Name fo p3] [] pc3) [.Eq] [.Constant (.int 2) jk pk] pcmp) [.Break pb] [] pif] [] pos) (tLazy ta sp i j) := by
  refine ⟨fun pins s σ H D I h => wpAny_For ?_ hs⟩
  have hr0 : Room k X.A := hr.mono (Nat.le_succ k)
  have hr1 : Room k X.A.in1 := ⟨hr.hd, by have := hr.dp; show X.A.depth + 3 * k + 5 < _; omega, by have := hr.un; show X.A.units + 1 + 16 * k + 200 < _; omega⟩
  refine wpAny_Call_Name_kw (ld_glob I hg hm ?_ hdb)
  refine PySem.W.callWith_K (h₀ := X.base) I.ok.mod.kin hk (thn (ha.run pc pins s σ H _ I h) fun us sN hu => ?_) he hpl
  obtain ⟨vs, H1, I1, r, l, Wt, hσ, hl, hsp, fin⟩ := hu
  refine ⟨I1.kIn, ?_⟩
  have hlen : (us ++ []).length = ps.length := by rw [List.append_nil, ← r.length]; exact F.len _ _ _ hsp
  have hbt := hb sN us I1.kIn hlen
  rw [List.append_nil] at hbt
  refine wpAny_call (codeAny_mono (F.run X.A X.stack sN H1 ⟨us, []⟩ us vs 2 Wt hr0 I1.env0 hbt r hsp) fun r s' hq => ?_)
  cases r with
  | error e => exact False.elim hq
  | ok fl =>
    cases fl with
    | next => exact False.elim hq
    | brk => exact False.elim hq
    | cont => exact False.elim hq
    | ret u =>
      obtain ⟨a, gi, c, go, rfl, ha1, hago, hgen, hgs, hos, hbare, hkp, wake⟩ := hq
      refine wpAny_pyIter_gen (hgen _ hago) ?_
      have I2 : Inv X pins σ H1 s' := I1.call' (ch := []) hos (Un.kept hkp) (I1.hok.kept hkp) hbare fun b z => by cases z
      have A := ca_of hx I1
      have hl1 : ∃ o, sN.heap.get? l = some o := hp_at I1 hl
      have dom : ∀ {zs : List V} b u, upd H1 l (.lst zs) b = some u → ∃ o, sN.heap.get? b = some o := fun {zs} b u q => by
        by_cases z : b = l
        · subst z; exact hl1
        · rw [upd_ne z] at q; exact hp_at I1 q
      have same : upd H1 l (.lst []) = H1 := by
        funext b
        by_cases z : b = l
        · subst z; rw [upd_same, hl]
        · rw [upd_ne z]
      refine codeAny_forLoop_any (fun n t => ∃ xs σ' gs, n + xs.length = 2 ∧ 1 ≤ n ∧ Inv X pins σ' (upd H1 l (.lst xs)) t ∧ σ'[i]? = some (some (.ref l)) ∧ t.heap.get? a = some go ∧ t.gens[gi]? = some gs ∧
        gs.Goes (model X.prog X.w) X.A.in1 RF (LY sN X.base X.stack [(a, go)] Wt) n (.send .none) (t.setGen gi .running) ∧ ((xs = [] ∧ σ' = σ) ∨ ∃ x0, xs = [x0] ∧ Wt 1 x0 ∧ σ' = σ.set j (some x0))) ?_ 2 ?_
      · rintro n t ⟨xs, σ', gs, hn, hn1, It, hσ', hta, htg, hgoes, hcase⟩
        have hgl : gi < t.gens.size := (Array.getElem?_eq_some_iff.mp htg).1
        refine wpAny_gsz (n := gi + 1) hgl (next_genG (It.ok.hd hc) It.nolimit hr.depth (hgen _ hta) htg hgoes (fun v s₁ gs' hb1 hv => ?_) (fun _ hp => hp.elim) fun _ _ hp => hp.elim)
        intro hsz
        obtain ⟨xv, rv, hw, R, kap⟩ := hv
        have hsz1 : gi < s₁.gens.size := by
          have q : (s₁.setGen gi gs').gens.size = s₁.gens.size := setGen_size _ _ _
          have hsz' : gi + 1 ≤ (s₁.setGen gi gs').gens.size := hsz
          omega
        have I3 : Inv X pins σ' (upd H1 l (.lst xs)) s₁ := inv_ran (s := t) It hx A dom ⟨R.os, R.bare, R.keep, R.slot, R.pin, R.sz⟩
        have I4 : Inv X pins σ' (upd H1 l (.lst xs)) (s₁.setGen gi gs') := inv_gens I3 (allBare_setGen R.bare hb1)
        have ha2 : s₁.heap.get? a = some go := R.pin (a, go) (List.mem_singleton.mpr rfl)
        have haL : a ≠ X.env.locals := fun z => by
          obtain ⟨o, q⟩ := A.loc
          have := Heap.lt_size q
          rw [← z] at this
          exact absurd (Nat.lt_of_lt_of_le this ha1) (Nat.lt_irrefl _)
        have hal : a ≠ l := fun z => by
          obtain ⟨o, q⟩ := hl1
          have := Heap.lt_size q
          rw [← z] at this
          exact absurd (Nat.lt_of_lt_of_le this ha1) (Nat.lt_irrefl _)
        show wpAny _ _ (pure ()) _ _ _
        refine wpAny_pure ?_
        refine lazy_body (xv := xv) (xs := xs) (l := l) I4 nd hNi hNj hij hki hkj hdi hdj hσ' upd_same (by omega) rv hgl_ hml hbase hfew hline htrees hsw hst fun t3 J hg3 ho3 hz3 hk3 hal3 => ?_
        rw [upd_upd] at J
        rcases hcase with ⟨rfl, rfl⟩ | ⟨x0, rfl, hw0, rfl⟩
        · have hn2 : n = 2 := hn
          subst hn2
          rw [if_neg (show ¬(([] : List V).length + 1 = 2) from by decide)]
          refine ⟨1, by decide, [xv], _, gs', rfl, by decide, J, ?_, ?_, ?_, ?_, .inr ⟨xv, rfl, hw, rfl⟩⟩
          · rw [List.getElem?_set_ne (Ne.symm hij)]; exact hσ
          · rw [hk3 a haL hal]; exact ha2
          · rw [hg3]; exact setGen_at hsz1
          · refine kap (by decide) _ ⟨ho3, allBare_setGen J.bare rfl, fun b o q1 q2 => ?_, fun b o o1 _ q2 => hal3 b o1 q2, J.bk, J.stack, Nat.le_of_eq hz3.symm⟩
            refine (hk3 b (fun z => ?_) fun z => ?_).trans q2
            · obtain ⟨o', q⟩ := A.loc
              rw [← z, q1] at q; cases q
            · obtain ⟨o', q⟩ := hl1
              rw [← z, q1] at q; cases q
        · have hn1' : n = 1 := by simpa using hn
          subst hn1'
          rw [if_pos (show [x0].length + 1 = 2 from rfl)]
          have e2 : (σ.set j (some x0)).set j (some xv) = σ.set j (some xv) := List.set_set ..
          rw [e2] at J
          exact ⟨_, _, J, fin x0 xv hw0 hw⟩
      · refine ⟨[], σ, _, rfl, by decide, by rw [same]; exact I2, hσ, hago, hgs, ⟨rfl, ?_⟩, .inl ⟨rfl, rfl⟩⟩
        refine wake X.A.in1 _ hr1 I2.ok.frames ⟨rfl, allBare_setGen hbare rfl, fun _ _ _ q => q, fun b o o1 _ q => ⟨o1, q⟩, I2.bk, I2.stack, Nat.le_refl _⟩
end
section
variable {E R α β : Type} {X : Cx} {Jc : J E R} {Γ : List (SK E)} {T : Ty β} {A : TyA α}
def lazyF (g : E → List β) (s : E → List β → E) (sx : E → β → E) (fa : E → Option α) (m : α → Option (List β)) : E → Option (Fl E R) := fun ρ => match g ρ with
  | [] => (fa ρ).bind fun a => (m a).bind fun rs => match rs with
    | [r0, r1] => some (.nx (sx (s ρ [r0, r1]) r1))
    | _ => none
  | _ => none
theorem sv_lazy2 {k i j : Nat} {f : Addr} {fd : FuncData} {ps : List Str} {e : Expr} {es : List Expr} {gn fo x : Str} {pg pc pos px p1 p2 p3 pl pk ap pc2 pc3 pos2 pcmp pb pif : Pos} {jk} {g : E → List β} {s : E → List β → E} {gx : E → β} {sx : E → β → E} {fa : E → Option α} {m : α → Option (List β)}
    (F : LFn X.prog X.w X.K X.mg X.base k f fd ps (spK X.K A T m 2)) (hr : Room (k + 1) X.A) (hm : X.mg gn = some (.ref f)) (hk : PySem.W.keepIn X.K (.ref f) = true) (hb : Binds X.K fd ps []) (hml : X.mg "len" = none) (ho : IsOwn Γ[i]? (oList T) g) (ha : EVA X Γ (e :: es) A fa)
    (hA : ∀ K H vs a, A.rep K H vs a → A.rep K (fun _ => none) vs a) (hT : ∀ K B B' x r, T.rep K B x r → T.rep K B' x r) (nd : X.N.Nodup) (hij : i ≠ j) (hgs : ∀ ρ a, g (s ρ a) = a) (hks : Keeps s Γ i) (hgx : ∀ ρ a, gx (sx ρ a) = a) (hkx : Keeps sx Γ j) (hj : j < Γ.length)
    (hx : X.ex = [] := by rfl) (hg : Gl X gn := by rfl) (hNi : X.N[i]? = some fo := by rfl) (hNj : X.N[j]? = some x := by rfl) (hki : X.env.kindOf fo = some .local := by rfl) (hkj : X.env.kindOf x = some .local := by rfl) (hdi : (fo == ("__debug__" : Str)) = false := by decide) (hdj : (x == ("__debug__" : Str)) = false := by decide) (hgl_ : Gl X "len" := by rfl)
    (hbase : attributeBase (.Name fo p1) "append" X.env (eval (.Name fo p1) X.env) = eval (.Name fo p1) X.env := by rfl)
    (hfew : ((backTo pc2 (starEach [.Name x p2] X.env)).all (fun x => !x.1) && (backToKw pc2 (keywordEach [] X.env)).all (fun x => x.1.isSome) && decide (([.Name x p2] : List Expr).length + ([] : List Keyword).length + (if ([] : List Keyword).isEmpty then 0 else 1) < 30)) = true := by rfl)
    (hline : (ap.endLine == pc2.line) = true := by rfl) (htrees : backTo pc2 (starEach [.Name x p2] X.env) = [(false, eval (.Name x p2) X.env)] := by rfl)
    (hsw : swapsWith (.Call (.Attribute (.Name fo p1) "append" ap) [.Name x p2] [] pc2) none pos2.line X.env = pure false := by rfl) (hst : starEach [.Name fo p3] X.env = (false, eval (.Name fo p3) X.env) :: starEach [] X.env := by rfl)
    (hdb : (gn == ("__debug__" : Str)) = false := by decide) (he : starEach (e :: es) X.env = (false, eval e X.env) :: starEach es X.env := by rfl) (hpl : (backTo pc (starEach es X.env)).any (·.1) = false := by rfl) (hc : X.calm = true := by rfl) (hs : ∀ x, foldedSetIterable (.Call (.Name gn pg) (e :: es) [] pc) X.env x = pure x := by intro _; rfl) :
    SV X Jc Γ (.For (.Name x px) (.Call (.Name gn pg) (e :: es) [] pc) [.Expr (.Call (.Attribute (.Name fo p1) "append" ap) [.Name x p2] [] pc2) pos2, .If (.Compare (.Call (.Name "len" pl) [.Name fo p3] [] pc3) [.Eq] [.Constant (.int 2) jk pk] pcmp) [.Break pb] [] pif] [] pos) (Γ.set j (.dat T gx)) (lazyF g s sx fa m) := fun ρ B0 H0 σ B O H S I fl hfl D q => by
  unfold lazyF at hfl
  obtain ⟨l, o, e1, e2, vs0, rfl, e3⟩ := S.ownGet ho
  cases hgr : g ρ with
  | cons y ys => rw [hgr] at hfl; cases hfl
  | nil =>
    rw [hgr] at hfl e3
    cases e3
    have hfl : ((fa ρ).bind fun a => (m a).bind fun rs => match rs with
      | [r0, r1] => some (Fl.nx (sx (s ρ [r0, r1]) r1))
      | _ => none) = some fl := hfl
    cases hfa : fa ρ with
    | none => rw [hfa] at hfl; cases hfl
    | some a =>
      rw [hfa] at hfl
      have hfl : ((m a).bind fun rs => match rs with
        | [r0, r1] => some (Fl.nx (sx (s ρ [r0, r1]) r1))
        | _ => none) = some fl := hfl
      cases hma : m a with
      | none => rw [hma] at hfl; cases hfl
      | some rs =>
        rw [hma] at hfl
        match rs, hma, hfl with
        | [], _, hfl => cases hfl
        | [_], _, hfl => cases hfl
        | _ :: _ :: _ :: _, _, hfl => cases hfl
        | [r0, r1], hma, hfl =>
          cases hfl
          refine ⟨_, ps_lazy2 F hr hx hg hm hk hb (pa_wp X _) nd hNi hNj hij hki hkj hdi hdj hgl_ hml hbase hfew hline htrees hsw hst hdb he hpl hc hs, ?_⟩
          refine ha ρ σ B O H S I.ei a hfa _ fun vs B1 H1 s1 h1 => ?_
          refine ⟨l, Wts X.K T [r0, r1], e1, s1.hh l _ (I.oo l i _ e2).1, ⟨a, [r0, r1], hA _ _ _ _ h1, hma, rfl, rfl, rfl⟩, fun x0 x1 w0 w1 => ?_⟩
          obtain ⟨Ba, ra, w2, w3⟩ := w0
          obtain ⟨Bb, rb, w4, w5⟩ := w1
          cases w2
          cases w4
          have S1 : SA X.K B1 O ρ Γ σ := S.mono s1.bb
          have I1 := I.step s1
          have S2 := S1.put (s := s) (a := [r0, r1]) (o' := .lst [x0, x1]) ho e1 e2 ⟨_, rfl, .cons (hT _ _ _ _ _ w3) (.cons (hT _ _ _ _ _ w5) .nil)⟩ hgs hks
          have S3 := S2.set (v := x1) (a := r1) hj (hT _ _ _ _ _ w5) hgx hkx
          exact q _ B1 _ _ S3 ((I1.stO (.write I1.ei e2)).drop j)
end
end ML

/-! the mirror layer: plain laws of the mirrors -/
namespace ML
open PySem PySem.Spec PyProof.Rows L2

section
variable {E R α β : Type}
theorem forL_inv {s : E → α → E} {fb : E → Option (Fl E R)} (Inv : Nat → E → Prop) : ∀ (xs : List α) (n : Nat) (ρ : E), Inv n ρ → (∀ i x ρ, xs[i]? = some x → Inv (n + i) ρ → ∃ ρ', (fb (s ρ x) = some (.nx ρ') ∨ fb (s ρ x) = some (.ct ρ')) ∧ Inv (n + i + 1) ρ') → ∃ ρ', forL s fb xs ρ = some (.nx ρ') ∧ Inv (n + xs.length) ρ'
  | [], n, ρ, h, _ => ⟨ρ, rfl, h⟩
  | x :: r, n, ρ, h, st => by
    obtain ⟨ρ1, h1, h2⟩ := st 0 x ρ rfl h
    obtain ⟨ρ2, h3, h4⟩ := forL_inv Inv r (n + 1) ρ1 h2 (fun i y ρ hy hi => by
      have := st (i + 1) y ρ hy (by rw [show n + (i + 1) = n + 1 + i by omega]; exact hi)
      rw [show n + (i + 1) + 1 = n + 1 + i + 1 by omega] at this
      exact this)
    refine ⟨ρ2, ?_, by rw [List.length_cons, show n + (r.length + 1) = n + 1 + r.length by omega]; exact h4⟩
    unfold forL
    rcases h1 with h1 | h1 <;> rw [h1] <;> exact h3
theorem forF_inv {s : E → α → E} {f : E → Option (List α × E)} {fb : E → Option (Fl E R)} {ρ ρ0 : E} {xs : List α} (hf : f ρ = some (xs, ρ0)) (Inv : Nat → E → Prop) (h0 : Inv 0 ρ0) (st : ∀ i x ρ, xs[i]? = some x → Inv i ρ → ∃ ρ', (fb (s ρ x) = some (.nx ρ') ∨ fb (s ρ x) = some (.ct ρ')) ∧ Inv (i + 1) ρ') : ∃ ρ', forF s f fb ρ = some (.nx ρ') ∧ Inv xs.length ρ' := by
  obtain ⟨ρ', h1, h2⟩ := forL_inv (s := s) (fb := fb) Inv xs 0 ρ0 h0 (fun i x ρ hx hi => by rw [Nat.zero_add] at hi ⊢; exact st i x ρ hx hi)
  refine ⟨ρ', ?_, by rw [Nat.zero_add] at h2; exact h2⟩
  unfold forF
  rw [hf]
  exact h1
/-- a comprehension that leans on its item alone; Z: what all states share -/
theorem lcE_pure {s : E → α → E} {t : E → Option (Bool × E)} {fe : E → Option (β × E)} (Z : E → Prop) (p : α → Bool) (g : α → β) : ∀ (xs : List α) (ρ : E), Z ρ → (∀ x ∈ xs, ∀ ρ, Z ρ → ∃ ρ1 ρ2, t (s ρ x) = some (p x, ρ1) ∧ Z ρ1 ∧ (p x = true → fe ρ1 = some (g x, ρ2) ∧ Z ρ2)) → ∃ ρ', lcE s t fe xs ρ = some ((xs.filter p).map g, ρ') ∧ Z ρ'
  | [], ρ, h, _ => ⟨ρ, rfl, h⟩
  | x :: r, ρ, h, st => by
    obtain ⟨ρ1, ρ2, h1, h2, h3⟩ := st x List.mem_cons_self ρ h
    unfold lcE
    rw [h1]
    cases hp : p x with
    | false =>
      obtain ⟨ρ3, h4, h5⟩ := lcE_pure Z p g r ρ1 h2 (fun y hy => st y (List.mem_cons_of_mem _ hy))
      refine ⟨ρ3, ?_, h5⟩
      rw [List.filter_cons_of_neg (by rw [hp]; decide), ← h4]
      rfl
    | true =>
      obtain ⟨h6, h7⟩ := h3 hp
      obtain ⟨ρ3, h4, h5⟩ := lcE_pure Z p g r ρ2 h7 (fun y hy => st y (List.mem_cons_of_mem _ hy))
      refine ⟨ρ3, ?_, h5⟩
      rw [List.filter_cons_of_pos (by rw [hp])]
      show (fe ρ1).bind _ = _
      rw [h6]
      show (lcE s t fe r ρ2).map _ = _
      rw [h4]
      rfl
theorem lcF_pure {s : E → α → E} {f : E → Option (List α × E)} {t : E → Option (Bool × E)} {fe : E → Option (β × E)} {ρ ρ0 : E} {xs : List α} (hf : f ρ = some (xs, ρ0)) (hl : xs.length ≤ 16777216) (Z : E → Prop) (p : α → Bool) (g : α → β) (h : Z ρ0) (st : ∀ x ∈ xs, ∀ ρ, Z ρ → ∃ ρ1 ρ2, t (s ρ x) = some (p x, ρ1) ∧ Z ρ1 ∧ (p x = true → fe ρ1 = some (g x, ρ2) ∧ Z ρ2)) : ∃ ρ', lcF s f t fe ρ = some ((xs.filter p).map g, ρ') ∧ Z ρ' := by
  obtain ⟨ρ', h1, h2⟩ := lcE_pure Z p g xs ρ0 h st
  refine ⟨ρ', ?_, h2⟩
  unfold lcF
  rw [hf]
  show (if xs.length ≤ 16777216 then _ else _) = _
  rw [if_pos hl]
  exact h1
end

/-! ### items, slices -/
theorem atI_ofNat {α : Type} {xs : List α} {i : Int} {v : α} (h0 : 0 ≤ i) (h : xs[i.toNat]? = some v) : atI xs i = some v := by
  have := atI_nat h
  rw [Int.toNat_of_nonneg h0] at this
  exact this
theorem cutL_take {α : Type} (xs : List α) {i : Int} (h0 : 0 ≤ i) : cutL xs none (some i) = xs.take i.toNat := by
  unfold cutL
  have e : HT.sIx xs.length xs.length (some i) = min i.toNat xs.length := by
    have := HT.sIx_nat xs.length xs.length i.toNat
    rw [Int.toNat_of_nonneg h0] at this
    exact this
  rw [e, HT.sIx_none, List.drop_zero, Nat.sub_zero, ← List.take_eq_take_min]
theorem cutL_drop {α : Type} (xs : List α) {i : Int} (h0 : 0 ≤ i) : cutL xs (some i) none = xs.drop i.toNat := by
  unfold cutL
  have e : HT.sIx xs.length 0 (some i) = min i.toNat xs.length := by
    have := HT.sIx_nat xs.length 0 i.toNat
    rw [Int.toNat_of_nonneg h0] at this
    exact this
  rw [e, HT.sIx_none]
  by_cases h : i.toNat ≤ xs.length
  · rw [Nat.min_eq_left h]
    exact List.take_of_length_le (by rw [List.length_drop]; exact Nat.le_refl _)
  · rw [Nat.min_eq_right (by omega), List.drop_of_length_le (by omega : xs.length ≤ i.toNat), List.drop_length, List.take_nil]

/-! ### texts -/
theorem lit_nil : lit "" = [] := rfl
theorem joinL_nil : ∀ ys : List (List Nat), joinL [] ys = ys.flatten
  | [] => rfl
  | [x] => by simp [joinL]
  | x :: y :: r => by
    show x ++ ([] ++ joinL [] (y :: r)) = _
    rw [joinL_nil (y :: r)]
    simp
theorem flatten_singles (l : List Nat) : (l.map fun c => [c]).flatten = l := by
  induction l with
  | nil => rfl
  | cons c r ih => rw [List.map_cons, List.flatten_cons, ih]; rfl
theorem mJoin_singles (l : List Nat) (h : l.length ≤ 16777216) : mJoin [] (l.map fun c => [c]) = some l := by
  unfold mJoin
  have e : ((l.map fun c => [c]).map List.length).sum = l.length := by
    rw [List.map_map]
    induction l with
    | nil => rfl
    | cons c r ih => rw [List.map_cons, List.sum_cons, ih (by rw [List.length_cons] at h; omega)]; simp [Nat.add_comm]
  rw [e, if_pos (by simpa using h), joinL_nil, flatten_singles]
/-- the least place of a sign -/
theorem find_one (l : List Nat) {c p : Nat} (hp : l[p]? = some c) : (Txt.find (S l) (S [c]) = (p : Int)) ↔ ∀ q, q < p → l[q]? ≠ some c := by
  have at1 : ∀ i, StrLaws.At (S l) (S [c]) (S l).length i ↔ l[i]? = some c := fun i => StrLaws.subAt_one (S l) c i
  unfold Txt.find
  rcases StrLaws.occ_head (S l) (S [c]) 1 (Nat.le_refl _) with ⟨h1, h2⟩ | ⟨i, r, h1, h2, h3⟩
  · exact absurd ((at1 p).mpr hp) (h2 p)
  · rw [h1]
    constructor
    · intro e q hq z
      have e : (i : Int) = (p : Int) := e
      exact h3 q (by omega) ((at1 q).mpr z)
    · intro h
      show (i : Int) = (p : Int)
      have a1 : ¬ i < p := fun z => h i z ((at1 i).mp h2)
      have a2 : ¬ p < i := fun z => h3 p z ((at1 p).mpr hp)
      omega
/-! ### ranges -/
theorem rng1_of {E : Type} {f : E → Option ((Int × Unit) × E)} {ρ ρ0 : E} {z : Int} {n : Nat} (h : f ρ = some ((z, ()), ρ0)) (hz : z = (n : Int)) (hn : n ≤ 1000000000) : rng1 f ρ = some (rangeL 0 1 n, ρ0) := by
  have hb : z < 2 ^ 62 ∧ -(2 ^ 62) ≤ z := by omega
  have e : z.toNat = n := by omega
  unfold rng1 then1
  rw [h]
  simp only [Option.bind_some, if_pos hb, e, Option.map_some]
theorem rangeL_at {n i : Nat} {x : Int} (h : (rangeL 0 1 n)[i]? = some x) : i < n ∧ x = (i : Int) := by
  have h1 := (List.getElem?_eq_some_iff.mp h).1
  rw [rangeL_len] at h1
  exact ⟨h1, by rw [rangeL_get h]; omega⟩
end ML

/-! the mirror layer: sorted(set(xs)) of texts and of ints -/
namespace ML
open PySem PySem.Spec PyProof.Rows L2
section
variable {P : Program} {w : World} {K : Type} [DecidableEq K] (knd : KeyKind P w K)
/-- an entry of a set's table stands for a key -/
def EntK (e : Int × Value) (k : K) : Prop := knd.is k e.2 = true ∧ e.1 = knd.hash k ∧ e.2.scannable = true
/-- the set at a: its keys, each once; its table rises and can be walked -/
def SetG (h : Heap) (a : Addr) (L : List K) : Prop :=
  ∃ o es ep t L', h.get? a = some o ∧ o.ExactSet ∧ o.data = .set es ep t ∧ Paired (EntK knd) es.toList L' ∧ L'.Perm L ∧ L.Nodup ∧ es.size < scanBound ∧ t.fits es.size = true ∧ Ris t.place.toList ∧ (w.params.followText "set-order" = true ∨ t.led = true)
variable {knd}
theorem pr_mem {α β : Type} {F : α → β → Prop} : ∀ {l : List α} {m : List β}, Paired F l m → ∀ x ∈ l, ∃ y ∈ m, F x y
  | _, _, .nil, _, h => by cases h
  | _, _, .cons r t, x, h => by
    rcases List.mem_cons.mp h with rfl | h
    · exact ⟨_, List.mem_cons_self, r⟩
    · obtain ⟨y, h1, h2⟩ := pr_mem t x h
      exact ⟨y, List.mem_cons_of_mem _ h1, h2⟩
theorem pr_mem' {α β : Type} {F : α → β → Prop} : ∀ {l : List α} {m : List β}, Paired F l m → ∀ y ∈ m, ∃ x ∈ l, F x y
  | _, _, .nil, _, h => by cases h
  | _, _, .cons r t, y, h => by
    rcases List.mem_cons.mp h with rfl | h
    · exact ⟨_, List.mem_cons_self, r⟩
    · obtain ⟨x, h1, h2⟩ := pr_mem' t y h
      exact ⟨x, List.mem_cons_of_mem _ h1, h2⟩
theorem pr_perm {α β : Type} {F : α → β → Prop} {l l' : List α} (p : l'.Perm l) : ∀ {m : List β}, Paired F l m → ∃ m', Paired F l' m' ∧ m'.Perm m := by
  induction p with
  | nil => exact fun h => ⟨_, h, .refl _⟩
  | cons x _ ih =>
    intro m h
    cases h with
    | cons r t =>
      obtain ⟨m', h1, h2⟩ := ih t
      exact ⟨_, .cons r h1, h2.cons _⟩
  | swap x y l =>
    intro m h
    cases h with
    | cons r t =>
      cases t with
      | cons r' t' => exact ⟨_, .cons r' (.cons r t'), List.Perm.swap ..⟩
  | trans _ _ ih1 ih2 =>
    intro m h
    obtain ⟨m1, h1, h2⟩ := ih2 h
    obtain ⟨m2, h3, h4⟩ := ih1 h1
    exact ⟨m2, h3, h4.trans h2⟩
theorem ent_elems {es : List (Int × Value)} {L : List K} (h : Paired (EntK knd) es L) : ElemsOf knd es := fun e he => by
  obtain ⟨k, _, h1, h2, h3⟩ := pr_mem h e he
  exact ⟨⟨k, h1, h2⟩, h3⟩
theorem ent_mem {es : List (Int × Value)} {L : List K} (h : Paired (EntK knd) es L) (k : K) : k ∈ L ↔ ∃ e ∈ es, knd.is k e.2 = true := by
  constructor
  · intro hk
    obtain ⟨e, h1, h2, _⟩ := pr_mem' h k hk
    exact ⟨e, h1, h2⟩
  · rintro ⟨e, he, hk⟩
    obtain ⟨k', h1, h2, _⟩ := pr_mem h e he
    have := KeyKind.is_eq_decide h2 k
    rw [hk] at this
    have e2 : k = k' := of_decide_eq_true this.symm
    rw [e2]; exact h1
theorem SetG.setOf {h : Heap} {a : Addr} {L : List K} (R : SetG knd h a L) : ∃ n, h.SetOf knd a (fun k => decide (k ∈ L)) n := by
  obtain ⟨o, es, ep, t, L', h1, h2, h3, h4, h5, h6, h7, h8, _⟩ := R
  exact ⟨es.size, o, es, ep, t, h1, h2, h3, ent_elems h4, fun k => by rw [decide_eq_true_eq, ← h5.mem_iff]; exact ent_mem h4 k, h7, h8, rfl⟩
theorem SetG.keep {h h' : Heap} {a : Addr} {L : List K} (R : SetG knd h a L) (k : ∀ o, h.get? a = some o → h'.get? a = some o) : SetG knd h' a L := by
  obtain ⟨o, es, ep, t, L', h1, r⟩ := R
  exact ⟨o, es, ep, t, L', k o h1, r⟩
variable {A : Around} {E : Value → Shared → Prop} {s : Shared} {a : Addr}
theorem put_at {h : Heap} {o : Obj} {es es' : Array (Int × Value)} {ep : Nat} {t t' : SetTable} (ho : h.get? a = some o) (hd : o.data = .set es ep t) : (h.update a (Obj.putSet es' t')).get? a = some { o with data := .set es' (ep + 1) t' } := store_at ho hd
/-- behind the store of a new entry: the table may be laid anew -/
theorem setG_tail {g : Bool → Sem Unit} (hg : ∀ (b : Bool) (s₁ : Shared) (Q' : Unit → Shared → Prop), Q' () s₁ → wpAny (model P w) A (g b) Q' E s₁)
    {o : Obj} {es es1 : Array (Int × Value)} {ep : Nat} {t t2 : SetTable} {L L1 : List K} (ho : s.heap.get? a = some o) (hex : o.ExactSet) (hd : o.data = .set es ep t) (pr : Paired (EntK knd) es1.toList L1) (pl : L1.Perm L) (nd : L.Nodup)
    (hb : es1.size < scanBound) (hf : t2.fits es1.size = true) (hr : Ris t2.place.toList) (hl : w.params.followText "set-order" = true ∨ t2.led = true) {wd : Bool} {R : Option Bool → Shared → Prop}
    (hR : ∀ h', Heap.SameBut a s.heap h' → SetG knd h' a L → R (some true) { s with heap := h' }) :
    wpAny (model P w) A (do storeSet a es1 t2; if (!wd && t2.tooFull) = true then (do g (relayAll t2 es1 (SetTable.grown es1.size)).2.2; storeSet a (relayAll t2 es1 (SetTable.grown es1.size)).1 (relayAll t2 es1 (SetTable.grown es1.size)).2.1; pure (some true)) else pure (some true)) R E s := by
  refine wpAny_bind (wpAny_storeSet_of ho hd ?_ (fits_of_scanBound hb))
  have oo := put_at (es' := es1) (t' := t2) ho hd
  have sb := Heap.SameBut.update s.heap a (Obj.putSet es1 t2)
  split
  · have q1 := relayAll_perm t2 es1 (SetTable.grown es1.size)
    have q2 := relayAll_fits t2 es1 (SetTable.grown es1.size)
    have q3 := relayAll_ris t2 es1 (SetTable.grown es1.size)
    have q4 := relayAll_led t2 es1 (SetTable.grown es1.size)
    generalize relayAll t2 es1 (SetTable.grown es1.size) = Z at q1 q2 q3 q4 ⊢
    obtain ⟨es2, t3, gv⟩ := Z
    dsimp only at q1 q2 q3 q4 ⊢
    have sz : es2.size = es1.size := by have := q1.length_eq; rw [Array.length_toList, Array.length_toList] at this; exact this
    have hb2 : es2.size < scanBound := sz ▸ hb
    refine wpAny_bind (hg _ _ _ (wpAny_bind (wpAny_storeSet_of oo rfl ?_ (fits_of_scanBound hb2))))
    obtain ⟨L2, z1, z2⟩ := pr_perm q1 pr
    exact wpAny_pure (hR _ (sb.trans (Heap.SameBut.update _ a _)) ⟨_, es2, _, t3, L2, put_at oo rfl, hex, rfl, z1, z2.trans pl, nd, hb2, q2, q3, hl.imp id fun y => q4 ▸ y⟩)
  · exact wpAny_pure (hR _ sb ⟨_, es1, _, t2, L1, oo, hex, rfl, pr, pl, nd, hb, hf, hr, hl⟩)
theorem setG_add {L : List K} {k : K} {x : Value} {Q : Bool → Shared → Prop} (hk : knd.is k x = true) (hx : x.scannable = true) (R : SetG knd s.heap a L) (room : L.length + 1 < scanBound)
    (hQ : ∀ h' b, Heap.SameBut a s.heap h' → SetG knd h' a (if k ∈ L then L else k :: L) → Q b { s with heap := h' }) : wpAny (model P w) A (setAddHashed a x (knd.hash k)) Q E s := by
  obtain ⟨o, es, ep, t, L', ho, hex, hd, pr, pl, nd, hb, hf, hr, hl⟩ := id R
  have hel := ent_elems pr
  have hle : L'.length = es.size := by rw [← pr_len pr, Array.length_toList]
  unfold setAddHashed setAddHashedIn
  refine wpAny_holding (wpAny_bind (wpAny_setState_of ho hd hf ?_))
  dsimp only
  rw [byScan_of hx hb hel]
  simp only [↓reduceIte]
  unfold setAddByScan
  refine wpAny_bind (wpAny_bind (wpAny_rule (wpAny_bind (wpAny_setScan_of hk ho hd hf hel ?_))))
  cases hfi : List.findIdx? (fun e => knd.is k e.2) es.toList with
  | some j =>
    dsimp only
    obtain ⟨hj, pj, _⟩ := List.findIdx?_eq_some_iff_getElem.mp hfi
    have hm : k ∈ L := pl.mem_iff.mp ((ent_mem pr k).mpr ⟨_, List.getElem_mem hj, pj⟩)
    have q := hQ s.heap false (Heap.SameBut.refl a _) (by rw [if_pos hm]; exact R)
    exact wpAny_pure (wpAny_pure q)
  | none =>
    dsimp only
    have hm : k ∉ L := fun z => by
      obtain ⟨e, he, y⟩ := (ent_mem pr k).mp (pl.mem_iff.mpr z)
      have c := List.findIdx?_eq_none_iff.mp hfi e he
      rw [y] at c; cases c
    have gw : ∀ (b : Bool) (s₁ : Shared) (Q' : Unit → Shared → Prop), Q' () s₁ → wpAny (model P w) A (match b with | true => rule "set.scan.the-table-gave-way" | false => pure ()) Q' E s₁ := fun b s₁ Q' q => by
      cases b
      · exact wpAny_pure q
      · exact wpAny_rule q
    have q1 := layNew_perm t es (knd.hash k) x
    have q2 := layNew_fits t es (knd.hash k) x
    have q3 := layNew_ris t es (knd.hash k) x hr
    have q4 := layNew_led t es (knd.hash k) x
    generalize layNew t es (knd.hash k) x = Z at q1 q2 q3 q4 ⊢
    obtain ⟨es1, t1, wd, gv⟩ := Z
    dsimp only at q1 q2 q3 q4 ⊢
    rw [Array.toList_push] at q1
    obtain ⟨L1, z1, z2⟩ := pr_perm q1 (pr_app pr (.cons (⟨hk, rfl, hx⟩ : EntK knd (knd.hash k, x) k) .nil))
    have pl1 : L1.Perm (k :: L) := z2.trans ((List.perm_append_singleton k L').trans (pl.cons k))
    have nd1 : (k :: L).Nodup := List.nodup_cons.mpr ⟨hm, nd⟩
    have hb1 : es1.size < scanBound := by
      have := q1.length_eq
      rw [Array.length_toList, List.length_append, Array.length_toList, List.length_singleton] at this
      have h2 := pl.length_eq
      omega
    have hled : w.params.followText "set-order" = true ∨ t1.led = true := hl.imp id fun y => q4 ▸ y
    have fin : ∀ h', Heap.SameBut a s.heap h' → SetG knd h' a (k :: L) → Q true { s with heap := h' } := fun h' sb r => hQ h' true sb (by rw [if_neg hm]; exact r)
    refine wpAny_bind (gw _ _ _ ?_)
    split
    · refine wpAny_bind ?_
      rw [hashByValue_scannable 8 hx]
      refine wpAny_pure (setG_tail gw ho hex hd z1 pl1 nd1 hb1 ?_ ?_ ?_ ?_)
      · first | exact q2 | (split <;> first | exact q2 | exact SetTable.fits_plain_off q2)
      · first | exact q3 | (split <;> exact q3)
      · first | exact hled | (split <;> exact hled)
      · exact fun h' sb r => wpAny_pure (fin h' sb r)
    · refine wpAny_bind (wpAny_pure ?_)
      simp only [↓reduceIte]
      exact setG_tail gw ho hex hd z1 pl1 nd1 hb1 q2 q3 hled fun h' sb r => wpAny_pure (fin h' sb r)
/-- the set's keys behind the first i items -/
def GotK (ks : List K) (i : Nat) (L : List K) : Prop := (∀ k, k ∈ L ↔ k ∈ ks.take i) ∧ L.length ≤ i
theorem GotK.next {ks : List K} {i : Nat} {L : List K} {k : K} (g : GotK ks i L) (h : ks[i]? = some k) : GotK ks (i + 1) (if k ∈ L then L else k :: L) := by
  have e : ks.take (i + 1) = ks.take i ++ [k] := by rw [List.take_add_one, h]; rfl
  unfold GotK
  by_cases hk : k ∈ L
  · rw [if_pos hk]
    refine ⟨fun j => ?_, Nat.le_succ_of_le g.2⟩
    rw [e, List.mem_append, List.mem_singleton, g.1]
    exact ⟨.inl, fun z => z.elim id fun z => by rw [z]; exact (g.1 k).mp hk⟩
  · rw [if_neg hk]
    refine ⟨fun j => ?_, Nat.succ_le_succ g.2⟩
    rw [e, List.mem_append, List.mem_singleton, List.mem_cons, g.1]
    exact Or.comm
theorem setG_loop {R : Result → Shared → Prop} {I D : Addr} {fp wr : List Addr} {G : Array GenState → Array GenState → Prop} {n : Nat} {Pv : Nat → Value → Prop} {St : Nat → Shared → Prop} (W : WalksS P w A.in1 I fp wr G n Pv St) (hD : D ∉ fp)
    (ks : List K) (hn : ks.length = n) (few : n + 1 < scanBound) (hval : ∀ i v, Pv i v → ∃ k, ks[i]? = some k ∧ knd.is k v = true ∧ v.scannable = true) :
    ∀ (r i : Nat) (s : Shared) (L : List K), n - i = r → i ≤ n → St i s → GotK ks i L → SetG knd s.heap D L → (∀ s' L', Moved (D :: wr) G s s' → GotK ks n L' → SetG knd s'.heap D L' → R (.ok (.ret .none)) s') →
      codeAny (model P w) A (.builtin "set.update.loop" ⟨[.ref D, .ref I], []⟩) R s := by
  have hDw : D ∉ wr := fun h => hD (W.sub _ h)
  have sub : ∀ b ∈ wr, b ∈ D :: wr := fun b hb => List.mem_cons_of_mem _ hb
  intro r
  induction r with
  | zero =>
    intro i s L hr hi st gt hS done
    obtain rfl : i = n := by omega
    refine codeAny_builtin PyProof.Rows.F.entry_set_update_loop ?_
    rw [Around.under_plainId PyProof.Rows.F.plain_set_update_loop _]
    refine wpAny_bind (m := pyNext (.ref I)) (W.done s _ _ st fun s' hm => ?_)
    exact wpAny_pure (done s' L (hm.mono sub) gt (hS.keep fun o e => hm.heap D o hDw e))
  | succ r ih =>
    intro i s L hr hi st gt hS done
    have hlt : i < n := by omega
    refine codeAny_builtin PyProof.Rows.F.entry_set_update_loop ?_
    rw [Around.under_plainId PyProof.Rows.F.plain_set_update_loop _]
    refine wpAny_bind (m := pyNext (.ref I)) (W.item i s _ _ hlt st fun v s1 hv st1 hm => ?_)
    obtain ⟨k, hk1, hk2, hk3⟩ := hval i v hv
    have hS1 := hS.keep fun o e => hm.heap D o hDw e
    show wpAny _ A.in1 (holding [v] (setAdd D v) >>= _) _ _ s1
    unfold setAdd
    refine wpAny_bind (wpAny_holding (wpAny_holding (wpAny_bind (knd.pyHash hk2 ?_))))
    refine setG_add (s := { s1 with toks := s1.toks + 1 }) hk2 hk3 hS1 (by have := gt.2; omega) fun h' b sb hS2 => ?_
    refine wpAny_pure ⟨plainId_quiet PyProof.Rows.F.plain_set_update_loop _, ih (i + 1) _ _ (by omega) hlt (W.frame _ s1 _ _ st1 (Nat.le_succ _) fun c hc o e => ?_) (gt.next hk1) hS2 fun s2 L2 hm2 g2 hS3 => ?_⟩
    · exact (sb.2 c fun z => hD (z ▸ hc)).trans e
    · refine done s2 L2 (Moved.trans W.gtrans ((hm.mono sub).then_heap (Nat.le_succ _) fun c o hc e => ?_) hm2) g2 hS3
      exact (sb.2 c fun z => hc (z ▸ List.mem_cons_self)).trans e
/-- an empty set -/
abbrev setNew (led : Bool) : Obj := { cls := .type "set", dict := none, data := .set #[] 0 (.fresh 0 0 led) }
theorem setG_new {h : Heap} {led : Bool} (ho : h.get? a = some (setNew led)) (hl : w.params.followText "set-order" = true ∨ led = true) : SetG knd h a [] :=
  ⟨_, #[], 0, .fresh 0 0 led, [], ho, ⟨rfl, rfl, rfl⟩, rfl, .nil, .refl _, List.nodup_nil, by decide, rfl, List.Pairwise.nil, hl⟩
end
section
variable {P : Program} {w : World} {K : Type} [DecidableEq K] {knd : KeyKind P w K} {A : Around} {E : Value → Shared → Prop} {s : Shared}
/-- set(xs) of a list of keys -/
theorem call_setG {l : Addr} {items : Array Value} (ks : List K) {Q : Value → Shared → Prop} (hh : A.handled = none) (hl : s.heap.IsList l items) (hlen : ks.length = items.size) (few : ks.length + 1 < scanBound)
    (hval : ∀ (i : Nat) (v : Value), items[i]? = some v → ∃ k, ks[i]? = some k ∧ knd.is k v = true ∧ v.scannable = true)
    (h : ∀ (h' : Heap) (tk : Nat) (L : List K), GotK ks ks.length L → SetG knd h' s.heap.objs.size L → (∀ b o, s.heap.get? b = some o → h'.get? b = some o) → Q (.ref s.heap.objs.size) { s with heap := h', toks := tk }) :
    wpAny (model P w) A (call (.type "set") [.ref l]) Q E s := by
  generalize hled : (!w.params.followText "set-order") = led
  have hled2 : w.params.followText "set-order" = true ∨ led = true := by
    rw [← hled]
    cases w.params.followText "set-order"
    · exact .inr rfl
    · exact .inl rfl
  generalize hD : s.heap.objs.size = D at h
  obtain ⟨c, tl, hmro⟩ := PySem.F.called_set.mro
  have made := PySem.F.called_set.made
  have subs := PySem.F.called_set.sub
  refine wpAny_call (codeAny_of_tree (show wpAny _ _ (callAny (.type "set") _) _ _ _ from ?_))
  refine wpAny_pure ⟨Code.quiet_builtin _ (by decide +kernel), codeAny_builtin PySem.F.entry_type_call ?_⟩
  rw [Around.under_plain (weight_type_call_type "set" [.ref l] []) rfl]
  have k1 := PySem.F.called_set.notType
  have k2 := PySem.F.called_set.canCreate
  have k3 := PySem.F.typeCall_set_1 (.ref l)
  repeat (any_goals (first | assumption | wp_step))
  refine codeAny_mono (code_set_led1 (.ref l) (E := E) (Q₁ := fun obj s₁ => obj = .ref D ∧ s₁ = { s with heap := s.heap.push (setNew led) }) ⟨by rw [hD], by rw [hled]⟩) fun r s₁ hr => ?_
  cases r with
  | error e => exact hr
  | ok fl =>
    cases fl with
    | next => exact hr.elim
    | brk => exact hr.elim
    | cont => exact hr.elim
    | ret obj =>
      obtain ⟨rfl, rfl⟩ := hr
      have hS : (s.heap.push (setNew led)).get? D = some (setNew led) := by rw [← hD]; exact Heap.get?_push_size _ rfl
      have hT : Shared.TypeIs { s with heap := s.heap.push (setNew led) } (.ref D) "set" := ⟨_, hS, rfl⟩
      have li := PySem.F.called_set.init.lookup
      have bi := PySem.F.called_set.init.bind (.ref D)
      repeat (any_goals (first | assumption | wp_step))
      refine codeAny_mono (codeAny_call_builtin (R := wants (fun r s₂ => r = .none ∧ ∃ h' tk L, s₂ = { s with heap := h', toks := tk } ∧ GotK ks ks.length L ∧ SetG knd h' D L ∧ (∀ b o, s.heap.get? b = some o → h'.get? b = some o)) E)
        PySem.F.called_set.init.plain PySem.F.entry_set_init (check_set_init_1 hT ?_)) fun r₂ s₂ hr₂ => ?_
      · obtain ⟨ol, e1, e2, nl, e3⟩ := id hl
        have e1' : (s.heap.push (setNew led)).get? l = some ol := Heap.get?_push_of_some _ e1
        have hl1 : (s.heap.push (setNew led)).IsList l items := ⟨ol, e1', e2, nl, e3⟩
        obtain ⟨ocls, odict, odata, oslots⟩ := ol
        simp only at e2 e3
        subst e2 e3
        have n1 := PySem.F.sub_list_set
        have n2 := PySem.F.sub_list_frozenset
        have n3 : (Value.type "list" == Value.type "dict") = false := by decide
        unfold Builtin.«set.__init__» noKeywords Builtin.Frozenset.updateFrom
        generalize hPI : pyIter = PI
        wp_walk
        subst hPI
        refine wpAny_pyIter_list hl1 (wpAny_bind (wpAny_runValue ?_))
        have ltl : l < s.heap.objs.size := Heap.lt_size e1
        have zz : (s.heap.push (setNew led)).objs.size = s.heap.objs.size + 1 := Heap.size_push ..
        have hh3 : A.in1.in1.in1.handled = none := by simp [hh]
        have neI : l ≠ (s.heap.push (setNew led)).objs.size := by rw [zz]; exact Nat.ne_of_lt (Nat.lt_succ_of_lt ltl)
        have dfp : D ∉ [(s.heap.push (setNew led)).objs.size, l] := by
          rw [zz, ← hD]
          intro z
          rcases List.mem_cons.mp z with z | z
          · exact absurd z (Nat.ne_of_lt (Nat.lt_succ_self _))
          · exact absurd (List.mem_singleton.mp z) (Nat.ne_of_gt ltl)
        refine setG_loop (knd := knd) ((Walks.list hh3 _ l neI items).toS) dfp ks hlen (by omega) hval (items.size - 0) 0 _ [] (by omega) (Nat.zero_le _) ⟨⟨_, Heap.get?_push_size _ rfl, rfl, rfl⟩, hl1.push _⟩ ⟨fun k => by simp, Nat.le_refl _⟩ (setG_new (Heap.get?_push_of_some _ hS) hled2) fun s' L' hm gt hS' => ?_
        obtain ⟨h', g', d', tk', os'⟩ := s'
        have x1 : g' = s.gens := hm.gens
        have x2 : d' = s.drawn := hm.drawn
        have x3 : os' = s.os := hm.os
        subst x1 x2 x3
        refine wpAny_pure (show wpAny _ _ (ret Value.none) _ _ _ from ?_)
        rw [← hlen] at gt
        refine wpAny_pure ⟨rfl, h', tk', L', rfl, gt, hS', fun b o eb => ?_⟩
        have hb := Heap.lt_size eb
        refine hm.heap b o (fun z => ?_) (Heap.get?_push_of_some _ (Heap.get?_push_of_some _ eb))
        rcases List.mem_cons.mp z with z | z
        · rw [z, hD] at hb; exact absurd hb (Nat.lt_irrefl _)
        · rw [List.mem_singleton.mp z, zz] at hb; exact absurd hb (Nat.not_lt.mpr (Nat.le_succ _))
      · cases r₂ with
        | error e => exact hr₂
        | ok fl₂ =>
          cases fl₂ with
          | next => exact hr₂.elim
          | brk => exact hr₂.elim
          | cont => exact hr₂.elim
          | ret r =>
            obtain ⟨rfl, h', tk, L', rfl, gt, hS', kp⟩ := hr₂
            repeat (any_goals (first | assumption | wp_step))
            exact h h' tk L' gt hS' kp
end
end ML

/-! the mirror layer: sorted(set(xs)) -/
namespace ML
open PySem PySem.Spec PyProof.Rows L2
theorem pr_img {α β γ : Type} {F : γ → β → Prop} (f : α → γ) : ∀ {l : List α} {m : List β}, Paired (fun a b => F (f a) b) l m → Paired F (l.map f) m
  | _, _, .nil => .nil
  | _, _, .cons r t => .cons r (pr_img f t)
section
variable {P : Program} {w : World} {A : Around} {E : Value → Shared → Prop} {s : Shared} {a : Addr}
theorem str_of {k : Str} {v : Value} (h : (PySem.strKind P w).is k v = true) : ∃ t, v = .str k t := by
  have h : Value.isStrOf k v = true := h
  cases v with
  | str x t =>
    have : x = k := by simpa [Value.isStrOf] using h
    exact ⟨t, by rw [this]⟩
  | _ => exact absurd h (by simp [Value.isStrOf])
theorem int_of {k : Int} {v : Value} (h : (PySem.intKind P w).is k v = true) : ∃ t, v = .int k t := by
  have h : Value.isInt k v = true := h
  cases v with
  | int x t =>
    have : x = k := by simpa [Value.isInt] using h
    exact ⟨t, by rw [this]⟩
  | _ => exact absurd h (by simp [Value.isInt])
theorem strs_pr : ∀ {vs : List Value} {M : List Str}, Paired (fun v k => (PySem.strKind P w).is k v = true) vs M → StrsAre vs M
  | _, _, .nil => .nil
  | _, _, .cons r t => by
    obtain ⟨tk, rfl⟩ := str_of r
    exact .cons _ tk (strs_pr t)
theorem ints_pr : ∀ {vs : List Value} {M : List Int}, Paired (fun v k => (PySem.intKind P w).is k v = true) vs M → IntsAre vs M
  | _, _, .nil => .nil
  | _, _, .cons r t => by
    obtain ⟨tk, rfl⟩ := int_of r
    exact .cons _ tk (ints_pr t)
/-- what stands behind sorted(a set) -/
def SrtEnd (s : Shared) (Z : List Value → Prop) (Q : Value → Shared → Prop) : Prop := ∀ s' p (out : Array Value) (c : Nat), (∀ b o, s.heap.get? b = some o → s'.heap.get? b = some o) → s'.gens = s.gens → s'.os = s.os → s.heap.objs.size ≤ p → s'.heap.get? p = some (seqObj "list" out c) → Z out.toList → Q (.ref p) s'
theorem sortedAt {K : Type} [DecidableEq K] {knd : PySem.KeyKind P w K} {L : List K} {Z : List Value → Prop} {Q : Value → Shared → Prop} (R : SetG knd s.heap a L) (hh : A.handled = none) (hfew : L.length ≤ sizeLine)
    (hsort : ∀ (s1 : Shared) (vs : List Value) (M : List K) (l : Addr) (Q' : PySem.Fin → Shared → Prop) (A' : Around), Paired (fun v k => knd.is k v = true) vs M → M.Perm L → s1.heap.get? l = some (seqObj "list" vs.toArray 0) → vs.length ≤ sizeLine →
      (∀ (out : Array Value), Z out.toList → Q' (.done (.ret .none)) { s1 with heap := sortedHeap s1.heap l vs out }) → wpAny (model P w) A' (Builtin.«list.sort» ⟨[.ref l], []⟩) Q' E s1)
    (hQ : SrtEnd s Z Q) : wpAny (model P w) A (call (.builtin "sorted") [.ref a]) Q E s := by
  obtain ⟨o, es, ep, t, L', ho, hex, hd, pr, pl, nd, hb, hf, hr, hl⟩ := R
  refine Calls.call_function_entry kind_sorted plain_sorted entry_sorted (args_sorted1 _) ?_
  unfold Builtin.«sorted»
  refine wpAny_bind (m := checkCount "sorted" 1 1 _) (wpAny_pure (wpAny_bind (collect_set (A := A.in1) hh ⟨o, ho, hex.1, hd⟩ hf hb hr hl fun s1 vs k1 hz g1 o1 pm => ?_)))
  have pv : Paired (fun v k => knd.is k v = true) (es.toList.map (·.2)) L' := pr_img (F := fun v k => knd.is k v = true) (·.2) (Paired.imp (fun _ _ h => h.1) pr)
  obtain ⟨M, m1, m2⟩ := pr_perm pm pv
  have hvl : vs.length ≤ sizeLine := by rw [pr_len m1, m2.length_eq, pl.length_eq]; exact hfew
  refine wpAny_bind (wpAny_newList ?_ hvl)
  have hoL : (s1.heap.push (seqObj "list" vs.toArray 0)).get? s1.heap.objs.size = some (seqObj "list" vs.toArray 0) := Heap.get?_push_size _ rfl
  refine wpAny_bind (wpAny_holding (wpAny_call_entry slot_list_sort ⟨_, hoL, rfl⟩ entry_list_sort (hsort _ vs M _ _ _ m1 (m2.trans pl) hoL hvl fun out hz2 => ⟨_, rfl, ?_⟩) (args_list_sort _)))
  obtain ⟨c, hc⟩ := sortedHeap_at (vs := vs) (out := out) hoL
  refine wpAny_pure ⟨_, rfl, hQ _ s1.heap.objs.size out c (fun b u e => ?_) g1 o1 hz hc hz2⟩
  have q := k1 b u e
  have hlt := Heap.lt_size q
  show (sortedHeap (s1.heap.push (seqObj "list" vs.toArray 0)) s1.heap.objs.size vs out).get? b = some u
  rw [sortedHeap_old (Nat.ne_of_lt hlt) (by rw [size_push']; exact Nat.lt_succ_of_lt hlt)]
  exact Heap.get?_push_of_some _ q
theorem sorted_setS {L : List Str} {Q : Value → Shared → Prop} (R : SetG (PySem.strKind P w) s.heap a L) (hh : A.handled = none) (hfew : L.length ≤ sizeLine) (hQ : SrtEnd s (fun vs => ∃ ss, StrsAre vs ss ∧ ss.Perm L ∧ sortedS ss = true) Q) : wpAny (model P w) A (call (.builtin "sorted") [.ref a]) Q E s :=
  sortedAt R hh hfew (fun s1 vs M l Q' A' pr pm ho hz q => by
    have hS := strs_pr pr
    refine list_sort_treeKAny strKind_oneLt ho hS.keysOf (fun v₁ v₂ rest e => keyKind_strs (by rw [← e]; exact hS)) hz fun st' hp hs => ?_
    obtain ⟨ss, h1, h2, h3⟩ := sorted_out_str hS hp hs
    exact q _ ⟨ss, h1, h2.trans pm, h3⟩) hQ
theorem sorted_setI {L : List Int} {Q : Value → Shared → Prop} (R : SetG (PySem.intKind P w) s.heap a L) (hh : A.handled = none) (hfew : L.length ≤ sizeLine) (hQ : SrtEnd s (fun vs => ∃ ns, IntsAre vs ns ∧ ns.Perm L ∧ ns.Pairwise (· ≤ ·)) Q) : wpAny (model P w) A (call (.builtin "sorted") [.ref a]) Q E s :=
  sortedAt R hh hfew (fun s1 vs M l Q' A' pr pm ho hz q => by
    refine list_sort_treeAny ho (ints_pr pr) hz fun out ns h1 h2 h3 => q _ ⟨ns, h1, h2.trans pm, h3⟩) hQ
end
/-! ### each once -/
def ddT {α : Type} [DecidableEq α] : List α → List α
  | [] => []
  | x :: r => if x ∈ r then ddT r else x :: ddT r
theorem ddT_mem {α : Type} [DecidableEq α] : ∀ {l : List α} {x : α}, x ∈ ddT l ↔ x ∈ l
  | [], _ => Iff.rfl
  | y :: r, x => by
    unfold ddT
    by_cases h : y ∈ r
    · rw [if_pos h, ddT_mem, List.mem_cons]
      exact ⟨.inr, fun z => z.elim (fun e => by rw [e]; exact h) id⟩
    · rw [if_neg h, List.mem_cons, List.mem_cons, ddT_mem]
theorem ddT_nodup {α : Type} [DecidableEq α] : ∀ l : List α, (ddT l).Nodup
  | [] => List.nodup_nil
  | y :: r => by
    unfold ddT
    by_cases h : y ∈ r
    · rw [if_pos h]; exact ddT_nodup r
    · rw [if_neg h]; exact List.nodup_cons.mpr ⟨fun z => h (ddT_mem.mp z), ddT_nodup r⟩
theorem ddT_len {α : Type} [DecidableEq α] : ∀ l : List α, (ddT l).length ≤ l.length
  | [] => Nat.le_refl _
  | y :: r => by
    unfold ddT
    by_cases h : y ∈ r
    · rw [if_pos h]; exact Nat.le_succ_of_le (ddT_len r)
    · rw [if_neg h]; exact Nat.succ_le_succ (ddT_len r)
def sortI (ns : List Int) : List Int := ns.mergeSort fun a b => decide (a ≤ b)
theorem sortI_perm (ns : List Int) : (sortI ns).Perm ns := List.mergeSort_perm ns _
theorem sortI_sorted (ns : List Int) : (sortI ns).Pairwise (· ≤ ·) := by
  have h := List.pairwise_mergeSort (le := fun a b : Int => decide (a ≤ b)) (fun _ _ _ h1 h2 => decide_eq_true (Int.le_trans (of_decide_eq_true h1) (of_decide_eq_true h2))) (fun a b => by
    rw [Bool.or_eq_true, decide_eq_true_eq, decide_eq_true_eq]; exact Int.le_total a b) ns
  exact h.imp fun h => of_decide_eq_true h
theorem sortI_unique {xs ys : List Int} (p : xs.Perm ys) (h1 : xs.Pairwise (· ≤ ·)) (h2 : ys.Pairwise (· ≤ ·)) : xs = ys := List.Perm.eq_of_pairwise (fun _ _ _ _ a b => Int.le_antisymm a b) h1 h2 p

/-! ### the expression -/
section
variable {X : Cx} {E : Type} {Γ : List (SK E)} {e : Expr} {te : TE} {p1 p2 pos pos2 : Pos}
def tSrtSet (xs : V → Hp → (List V → Prop) → Prop) (te : TE) : TE := fun σ H Q => te σ H fun x H1 => xs x H1 fun out => ∀ p, H1 p = none → Q (.ref p) (upd H1 p (.lst out))
def xsS (K : Fg) : V → Hp → (List V → Prop) → Prop := fun x H q => ∃ l xs, x = .ref l ∧ SqL K H l ((xs.map S).map V.str) ∧ xs.length < 4000 ∧ q (((sortT (ddT xs)).map S).map V.str)
def xsI (K : Fg) : V → Hp → (List V → Prop) → Prop := fun x H q => ∃ l xs, x = .ref l ∧ SqL K H l (xs.map V.int) ∧ xs.length < 4000 ∧ q ((sortI (ddT xs)).map V.int)
theorem laid_sorted {pins : List (Addr × Obj)} {σ : L2.St} {H : Hp} {s s' : Shared} {p : Addr} {out : Array Value} {c : Nat} {vs : List V} (I : Inv X pins σ H s) (k : ∀ b o, s.heap.get? b = some o → s'.heap.get? b = some o) (hg : s'.gens = s.gens) (ho : s'.os = s.os) (hp : s.heap.objs.size ≤ p) (e : s'.heap.get? p = some (seqObj "list" out c)) (r : Vals vs out.toList) (hl : vs.length ≤ sizeLine) : Inv X pins σ (upd H p (.lst vs)) s' :=
  I.call' (ch := []) ho (Un.laid k hp (I.hok.fresh hp)) (I.hok.laid k hp ⟨hl, out.toList, c, r, by rw [Array.toArray_toList]; exact e⟩) (by rw [hg]; exact I.bare) fun b z => by cases z
theorem strs_get {us : List Value} {xs : List Str} (h : StrsAre us xs) {i : Nat} {v : Value} (e : us[i]? = some v) : ∃ k t, xs[i]? = some k ∧ v = .str k t := by
  induction h generalizing i with
  | nil => cases e
  | cons y t r ih =>
    cases i with
    | zero => cases e; exact ⟨_, _, rfl, rfl⟩
    | succ i => exact ih e
theorem ints_get {us : List Value} {xs : List Int} (h : IntsAre us xs) {i : Nat} {v : Value} (e : us[i]? = some v) : ∃ k t, xs[i]? = some k ∧ v = .int k t := by
  induction h generalizing i with
  | nil => cases e
  | cons y t r ih =>
    cases i with
    | zero => cases e; exact ⟨_, _, rfl, rfl⟩
    | succ i => exact ih e
theorem got_all {α : Type} {ks L : List α} (g : GotK ks ks.length L) (x : α) : x ∈ L ↔ x ∈ ks := by rw [g.1 x, List.take_length]
theorem pe_srtSetS (he : PE X e te) (hm1 : X.mg "sorted" = none) (hm2 : X.mg "set" = none) (hc : X.calm = true := by rfl) (hg1 : Gl X "sorted" := by rfl) (hg2 : Gl X "set" := by rfl) (hst2 : starEach [e] X.env = (false, eval e X.env) :: starEach [] X.env := by rfl)
    (hst1 : starEach [.Call (.Name "set" p2) [e] [] pos2] X.env = (false, eval (.Call (.Name "set" p2) [e] [] pos2) X.env) :: starEach [] X.env := by rfl) : PE X (.Call (.Name "sorted" p1) [.Call (.Name "set" p2) [e] [] pos2] [] pos) (tSrtSet (xsS X.K) te) := by
  refine ⟨fun pins s σ H Q I h => wpAny_Call_Name_kw (ld_blt I hg1 hm1 (u := .builtin "sorted") (by decide +kernel) (PyProof.Rows.callWith_builtin1 ?_ hst1 rfl))⟩
  rw [hst1]
  refine Calls.spliced_cons (wpAny_Call_Name_kw (ld_blt I hg2 hm2 (u := .type "set") (by decide +kernel) (PyProof.Rows.callWith_type1 ?_ hst2 rfl)))
  rw [hst2]
  refine Calls.spliced_cons (thn (he.run pins s σ H _ I h) fun v s1 hv => Calls.spliced_nil ?_)
  obtain ⟨x, H1, I1, r1, l, xs, rfl, hs, few, q⟩ := hv
  obtain rfl : v = Value.ref l := r1
  obtain ⟨its, rv, hl, hz⟩ := I1.list hs
  have hS := rv.strs
  have hlen : (xs.map S).length = its.toArray.size := by
    have := rv.length
    rw [List.length_map] at this
    rw [List.size_toArray]; exact this
  refine call_setG (knd := PySem.strKind X.prog X.w) (xs.map S) (I1.ok.hd hc) hl.isList hlen (by rw [List.length_map]; unfold scanBound; omega) (fun i v hv => ?_) fun h' tk L gt R kp => Calls.spliced_nil ?_
  · obtain ⟨k, t, e1, rfl⟩ := strs_get hS (i := i) (v := v) (by simpa using hv)
    exact ⟨k, e1, strKind_is _ _ _ _, rfl⟩
  have I2 : Inv X pins σ H1 { s1 with heap := h', toks := tk } := I1.kept kp
  have hLn : L.Nodup := by obtain ⟨_, _, _, _, _, _, _, _, _, _, nd, _⟩ := R; exact nd
  have pd : (L.map TL.tl).Perm (ddT xs) := by
    refine (List.perm_ext_iff_of_nodup ?_ (ddT_nodup xs)).mpr fun x => ?_
    · exact List.pairwise_map.mpr (hLn.imp fun hne e => hne (TL.ext_tl e))
    · rw [ddT_mem, List.mem_map]
      constructor
      · rintro ⟨k, hk, rfl⟩
        obtain ⟨y, hy, rfl⟩ := List.mem_map.mp ((got_all gt k).mp hk)
        exact hy
      · exact fun hx => ⟨S x, (got_all gt _).mpr (List.mem_map.mpr ⟨x, hx, rfl⟩), rfl⟩
  have hLl : L.length ≤ 4000 := by
    have h1 := pd.length_eq
    have h2 := ddT_len xs
    rw [List.length_map] at h1
    omega
  refine sorted_setS R (I1.ok.hd hc) (by rw [sizeLine_eq]; omega) fun s' p out c k2 g2 o2 hp e2 hz2 => ?_
  obtain ⟨ss, hss, pm, srt⟩ := hz2
  have key : ss = (sortT (ddT xs)).map S := by
    have e3 := sorted_unique ((pm.map TL.tl).trans (pd.trans (sortT_perm _).symm)) (List.pairwise_map.mpr (sortedS_pw srt)) (sortT_sorted (ddT xs))
    rw [← e3, List.map_map]
    exact (List.map_id'' (fun _ => rfl) ss).symm
  have hsl : ss.length ≤ 4000 := by rw [pm.length_eq]; exact hLl
  rw [key] at hss hsl
  rw [List.length_map] at hsl
  exact ⟨.ref p, _, laid_sorted I2 k2 g2 o2 hp e2 (vals_of_strs hss) (by rw [List.length_map, List.length_map, sizeLine_eq]; omega), rfl, q p (I2.hok.fresh hp)⟩
theorem emo_srtSetS {f : E → Option (List (List Nat) × E)} (he : EM X Γ e (tList tStr) f) (hm1 : X.mg "sorted" = none) (hm2 : X.mg "set" = none) (hc : X.calm = true := by rfl) (hg1 : Gl X "sorted" := by rfl) (hg2 : Gl X "set" := by rfl) (hst2 : starEach [e] X.env = (false, eval e X.env) :: starEach [] X.env := by rfl)
    (hst1 : starEach [.Call (.Name "set" p2) [e] [] pos2] X.env = (false, eval (.Call (.Name "set" p2) [e] [] pos2) X.env) :: starEach [] X.env := by rfl) : EMO (PE X (.Call (.Name "sorted" p1) [.Call (.Name "set" p2) [e] [] pos2] [] pos)) X Γ (oList tStr) (then1 f fun xs => if xs.length < 4000 then some (sortT (ddT xs)) else none) := by
  intro ρ σ B O H S I c ρ' hcc Q q
  refine ⟨_, pe_srtSetS (pe_wp X e) hm1 hm2 hc hg1 hg2 hst2 hst1, ?_⟩
  obtain ⟨xs, hf, hm⟩ := then1_inv hcc
  refine he ρ σ B O H S I xs ρ' hf _ fun v B1 O1 H1 s1 S1 r1 => ?_
  obtain ⟨l, vs, rfl, hs, pr⟩ := r1
  obtain ⟨h1, h2⟩ := pr_strs pr
  subst h1
  split at hm
  · rename_i few
    cases hm
    refine ⟨l, xs, rfl, ex_l s1.bh hs, few, fun p hp => ?_⟩
    have I1 := I.stO s1
    have hn : H p = none := by
      cases z : H p with
      | none => rfl
      | some u => exact absurd hp (s1.th p (by rw [z]; exact fun y => by cases y))
    refine q p _ B1 O1 _ (s1.trans (.of I1 (.other I1.bh hp))) S1 hn (none_back s1.bh hp) ?_ upd_same ⟨_, rfl, pr_ofS fun y hy => h2 y (ddT_mem.mp ((sortT_perm _).mem_iff.mp hy))⟩
    cases z : O1 p with
    | none => rfl
    | some y => have := (I1.oo p y.1 y.2 z).1; rw [hp] at this; cases this
  · cases hm
theorem pr_ints' {K : Fg} {H : Hp} : ∀ {vs : List V} {ns : List Int}, Paired (tInt.rep K H) vs ns → vs = ns.map V.int
  | _, _, .nil => rfl
  | _, _, .cons h t => by
    have h : _ = V.int _ := h
    rw [h, pr_ints' t]; rfl
theorem pr_ofI {K : Fg} {H : Hp} : ∀ ns : List Int, Paired (tInt.rep K H) (ns.map V.int) ns
  | [] => .nil
  | _ :: r => .cons rfl (pr_ofI r)
theorem pe_srtSetI (he : PE X e te) (hm1 : X.mg "sorted" = none) (hm2 : X.mg "set" = none) (hc : X.calm = true := by rfl) (hg1 : Gl X "sorted" := by rfl) (hg2 : Gl X "set" := by rfl) (hst2 : starEach [e] X.env = (false, eval e X.env) :: starEach [] X.env := by rfl)
    (hst1 : starEach [.Call (.Name "set" p2) [e] [] pos2] X.env = (false, eval (.Call (.Name "set" p2) [e] [] pos2) X.env) :: starEach [] X.env := by rfl) : PE X (.Call (.Name "sorted" p1) [.Call (.Name "set" p2) [e] [] pos2] [] pos) (tSrtSet (xsI X.K) te) := by
  refine ⟨fun pins s σ H Q I h => wpAny_Call_Name_kw (ld_blt I hg1 hm1 (u := .builtin "sorted") (by decide +kernel) (PyProof.Rows.callWith_builtin1 ?_ hst1 rfl))⟩
  rw [hst1]
  refine Calls.spliced_cons (wpAny_Call_Name_kw (ld_blt I hg2 hm2 (u := .type "set") (by decide +kernel) (PyProof.Rows.callWith_type1 ?_ hst2 rfl)))
  rw [hst2]
  refine Calls.spliced_cons (thn (he.run pins s σ H _ I h) fun v s1 hv => Calls.spliced_nil ?_)
  obtain ⟨x, H1, I1, r1, l, xs, rfl, hs, few, q⟩ := hv
  obtain rfl : v = Value.ref l := r1
  obtain ⟨its, rv, hl, hz⟩ := I1.list hs
  have hlen : xs.length = its.toArray.size := by
    have := rv.length
    rw [List.length_map] at this
    rw [List.size_toArray]; exact this
  refine call_setG (knd := PySem.intKind X.prog X.w) xs (I1.ok.hd hc) hl.isList hlen (by unfold scanBound; omega) (fun i v hv => ?_) fun h' tk L gt R kp => Calls.spliced_nil ?_
  · obtain ⟨k, t, e1, rfl⟩ := ints_get rv.ints (i := i) (v := v) (by simpa using hv)
    exact ⟨k, e1, intKind_is _ _ _ _, rfl⟩
  have I2 : Inv X pins σ H1 { s1 with heap := h', toks := tk } := I1.kept kp
  have hLn : L.Nodup := by obtain ⟨_, _, _, _, _, _, _, _, _, _, nd, _⟩ := R; exact nd
  have pd : L.Perm (ddT xs) := (List.perm_ext_iff_of_nodup hLn (ddT_nodup xs)).mpr fun x => by rw [ddT_mem]; exact got_all gt x
  have hLl : L.length ≤ 4000 := by
    have h1 := pd.length_eq
    have h2 := ddT_len xs
    omega
  refine sorted_setI R (I1.ok.hd hc) (by rw [sizeLine_eq]; omega) fun s' p out c k2 g2 o2 hp e2 hz2 => ?_
  obtain ⟨ns, hns, pm, srt⟩ := hz2
  have key : ns = sortI (ddT xs) := sortI_unique (pm.trans (pd.trans (sortI_perm _).symm)) srt (sortI_sorted _)
  have hsl : ns.length ≤ 4000 := by rw [pm.length_eq]; exact hLl
  rw [key] at hns hsl
  exact ⟨.ref p, _, laid_sorted I2 k2 g2 o2 hp e2 (vals_of_ints hns) (by rw [List.length_map, sizeLine_eq]; omega), rfl, q p (I2.hok.fresh hp)⟩
theorem emo_srtSetI {f : E → Option (List Int × E)} (he : EM X Γ e (tList tInt) f) (hm1 : X.mg "sorted" = none) (hm2 : X.mg "set" = none) (hc : X.calm = true := by rfl) (hg1 : Gl X "sorted" := by rfl) (hg2 : Gl X "set" := by rfl) (hst2 : starEach [e] X.env = (false, eval e X.env) :: starEach [] X.env := by rfl)
    (hst1 : starEach [.Call (.Name "set" p2) [e] [] pos2] X.env = (false, eval (.Call (.Name "set" p2) [e] [] pos2) X.env) :: starEach [] X.env := by rfl) : EMO (PE X (.Call (.Name "sorted" p1) [.Call (.Name "set" p2) [e] [] pos2] [] pos)) X Γ (oList tInt) (then1 f fun xs => if xs.length < 4000 then some (sortI (ddT xs)) else none) := by
  intro ρ σ B O H S I c ρ' hcc Q q
  refine ⟨_, pe_srtSetI (pe_wp X e) hm1 hm2 hc hg1 hg2 hst2 hst1, ?_⟩
  obtain ⟨xs, hf, hm⟩ := then1_inv hcc
  refine he ρ σ B O H S I xs ρ' hf _ fun v B1 O1 H1 s1 S1 r1 => ?_
  obtain ⟨l, vs, rfl, hs, pr⟩ := r1
  have h1 := pr_ints' pr
  subst h1
  split at hm
  · rename_i few
    cases hm
    refine ⟨l, xs, rfl, ex_l s1.bh hs, few, fun p hp => ?_⟩
    have I1 := I.stO s1
    have hn : H p = none := by
      cases z : H p with
      | none => rfl
      | some u => exact absurd hp (s1.th p (by rw [z]; exact fun y => by cases y))
    refine q p _ B1 O1 _ (s1.trans (.of I1 (.other I1.bh hp))) S1 hn (none_back s1.bh hp) ?_ upd_same ⟨_, rfl, pr_ofI _⟩
    cases z : O1 p with
    | none => rfl
    | some y => have := (I1.oo p y.1 y.2 z).1; rw [hp] at this; cases this
  · cases hm
end
end ML

/-! the mirror layer: lists added, chains of comparisons -/
namespace ML
open PySem PySem.Spec PyProof.Rows L2
def rCatL (K : Fg) : R2 := fun x y H Q => ∃ l b xs zs, x = .ref l ∧ y = .ref b ∧ SqL K H l xs ∧ SqL K H b zs ∧ xs.length + zs.length ≤ sizeLine ∧ ∀ p, H p = none → Q (.ref p) (upd H p (.lst (xs ++ zs)))
theorem op_catL {X : Cx} : OpR X (binaryOp .Add) (rCatL X.K) := by
  intro pins s σ H x y v u Q I rx ry h
  obtain ⟨l, b, xs, zs, rfl, rfl, h1, h2, hz, q⟩ := h
  obtain rfl : v = Value.ref l := rx
  obtain rfl : u = Value.ref b := ry
  obtain ⟨its, r, ⟨⟨c1, d1, t1, s1⟩, n, e1, e2, e3, e4⟩, z1⟩ := I.list h1
  obtain ⟨its2, r2, ⟨⟨c2, d2, t2, s2⟩, n2, g1, g2, g3, g4⟩, z2⟩ := I.list h2
  simp only at e2 e3 e4 g2 g3 g4
  subst e2 e3 e4 g2 g3 g4
  have hl1 := r.length
  have hl2 := r2.length
  refine concat_meets ⟨_, e1, rfl⟩ ⟨_, g1, rfl⟩ noFill_list_add seq_list_add PySem.F.slot_list_add PySem.F.entry_list_add (PySem.F.args_list_add_2 _ _) (list_addW l b its.toArray its2.toArray n n2 none none s1 s2 (by rw [List.size_toArray, List.size_toArray]; omega)) ⟨e1, g1, ?_⟩
  have ea : its.toArray ++ its2.toArray = (its ++ its2).toArray := List.append_toArray ..
  rw [ea]
  exact ⟨.ref _, _, I.lnew (t' := s.toks) (r.append r2) (by rw [List.length_append]; exact hz), rfl, q _ I.fresh⟩
section
variable {X : Cx} {E α β γ : Type} {Γ : List (SK E)} {T : Ty α} {a b c : Expr} {pos : Pos}
/-- xs + ys -/
theorem emo_cat {f g : E → Option (List α × E)} (ha : EM X Γ a (tList T) f) (hb : EM X Γ b (tList T) g) : EMO (PE X (.BinOp a .Add b pos)) X Γ (oList T) (then2 f g fun xs ys => if xs.length + ys.length ≤ 16777216 then some (xs ++ ys) else none) := by
  intro ρ σ B O H S I r ρ' hc Q q
  refine ⟨_, pe_op op_catL (pe_wp X a) (pe_wp X b), ?_⟩
  refine ha.run2 hb S I hc fun x y u v B1 O1 H1 s1 S1 r1 r2 hm => ?_
  obtain ⟨l, vs, rfl, h1, p1⟩ := r1
  obtain ⟨l2, vs2, rfl, h2, p2⟩ := r2
  split at hm
  · rename_i hz
    cases hm
    have e1 := pr_len p1
    have e2 := pr_len p2
    refine ⟨l, l2, vs, vs2, rfl, rfl, ex_l s1.bh h1, ex_l s1.bh h2, by rw [sizeLine_eq]; omega, fun p hp => ?_⟩
    have I1 := I.stO s1
    have hn : H p = none := by
      cases z : H p with
      | none => rfl
      | some w => exact absurd hp (s1.th p (by rw [z]; exact fun y => by cases y))
    refine q p _ B1 O1 _ (s1.trans (.of I1 (.other I1.bh hp))) S1 hn (none_back s1.bh hp) ?_ upd_same ⟨_, rfl, pr_app p1 p2⟩
    cases z : O1 p with
    | none => rfl
    | some y => have := (I1.oo p y.1 y.2 z).1; rw [hp] at this; cases this
  · cases hm
/-- a < b < c, of ints -/
def chainM {E : Type} (p q : Int → Int → Bool) (f g h : E → Option Int) : E → Option Bool := fun ρ => (f ρ).bind fun x => (g ρ).bind fun y => if p x y = true then (h ρ).map fun z => q y z else some false
theorem et_chain {op op' : CmpOp} {r r' : R2} {f g h : E → Option Int} {p q : Int → Int → Bool} (ho : OpR X (compareOp op) r) (ho' : OpR X (compareOp op') r') (hr : R2M X r tInt tInt tBool fun i j => some (p i j)) (hr' : R2M X r' tInt tInt tBool fun i j => some (q i j)) (ha : EV X Γ a tInt f) (hb : EV X Γ b tInt g) (hc : EV X Γ c tInt h)
    (hm : lastMarks [op, op'] [b, c] = false := by with_unfolding_all rfl) : EVT X Γ (.Compare a [op, op'] [b, c] pos) (chainM p q f g h) := by
  intro ρ σ B O H S I k hk Q qq
  refine ⟨_, pt_chain ho ho' (pe_wp X a) (pe_wp X b) (pe_wp X c) hm, ?_⟩
  unfold chainM at hk
  cases hf : f ρ with
  | none => rw [hf] at hk; cases hk
  | some x =>
    rw [hf] at hk
    have hk : ((g ρ).bind fun y => if p x y = true then (h ρ).map fun z => q y z else some false) = some k := hk
    cases hg : g ρ with
    | none => rw [hg] at hk; cases hk
    | some y =>
      rw [hg] at hk
      have hk : (if p x y = true then (h ρ).map fun z => q y z else some false) = some k := hk
      refine ha ρ σ B O H S I x hf _ fun u B1 H1 s1 r1 => ?_
      refine hb ρ σ B1 O H1 (S.mono s1.bb) (I.step s1) y hg _ fun v B2 H2 s2 r2 => ?_
      have s12 := s1.trans s2
      refine hr B2 H2 u v x y (p x y) s12.bh (tInt.mono s2.bb r1) r2 rfl _ fun w B3 H3 s3 r3 => ?_
      have s13 := s12.trans s3
      refine ⟨p x y, r3, ?_⟩
      by_cases hp : p x y = true
      · rw [if_pos hp] at hk ⊢
        cases hh : h ρ with
        | none => rw [hh] at hk; cases hk
        | some z =>
          rw [hh] at hk
          cases hk
          refine hc ρ σ B3 O H3 (S.mono s13.bb) (I.step s13) z hh _ fun w2 B4 H4 s4 r4 => ?_
          have s14 := s13.trans s4
          exact hr' B4 H4 v w2 y z (q y z) s14.bh (tInt.mono (s3.trans s4).bb r2) r4 rfl _ fun w5 B5 H5 s5 r5 => ⟨q y z, r5, qq B5 H5 (s14.trans s5)⟩
      · rw [if_neg hp] at hk ⊢
        cases hk
        exact ⟨false, rfl, qq B3 H3 s13⟩
end
theorem foldl_rep (z : Array Nat) : ∀ (n : Nat) (acc : Array Nat), ((List.replicate n z).foldl (· ++ ·) acc).toList = acc.toList ++ (List.replicate n z.toList).flatten
  | 0, acc => by simp
  | n + 1, acc => by
    rw [List.replicate_succ, List.foldl_cons, foldl_rep z n, Array.toList_append, List.replicate_succ, List.flatten_cons, List.append_assoc]
/-- a text times a number (2 and more) -/
def rRepS : R2 := fun x y H Q => ∃ (z : Str) (k : Int), x = .str z ∧ y = .int k ∧ (2 ≤ k ∧ k ≤ 1000) ∧ (0 < z.length ∧ z.length ≤ 10000) ∧ Q (.str ⟨(List.replicate k.toNat z.cps).foldl (· ++ ·) #[]⟩) H
theorem op_repS {X : Cx} : OpR X (binaryOp .Mult) rRepS := by
  intro pins s σ H x y v u Q I rx ry h
  obtain ⟨z, k, rfl, rfl, hk, hz, q⟩ := h
  obtain ⟨t, rfl⟩ := rx
  obtain ⟨t2, rfl⟩ := ry
  have h1 : ¬ k < 1 := by omega
  have h2 : (k == 1 || z.length == 0) = false := by
    rw [Bool.or_eq_false_iff, beq_eq_false_iff_ne, beq_eq_false_iff_ne]
    omega
  have hmul : z.length * k.toNat ≤ 10000000 := by
    have := Nat.mul_le_mul hz.2 (show k.toNat ≤ 1000 by omega)
    omega
  refine PySem.P.mul_str (by rw [decide_eq_false (by omega), decide_eq_false (by omega)]; rfl) (fun _ _ => ?_) (fun _ _ => ?_) ?_
  · have : (z.length : Int) ≤ (2 ^ 63 - 1) / k := by
      refine Int.le_ediv_of_mul_le (by omega) ?_
      have e : (z.length : Int) * k = ((z.length * k.toNat : Nat) : Int) := by rw [Int.natCast_mul, Int.toNat_of_nonneg (by omega)]
      rw [e]
      omega
    omega
  · unfold Builtin.Str.tooLong
    rw [decide_eq_false (by rw [sizeLine_eq]; omega)]
  · rw [if_neg h1, if_neg (by rw [h2]; decide)]
    refine ⟨?_, .str _, H, I.tok _, ⟨_, rfl⟩, q⟩
    show ((List.replicate k.toNat z.cps).foldl (· ++ ·) #[]).size ≤ sizeLine
    rw [← Array.length_toList, foldl_rep, List.length_append, List.length_flatten, List.map_replicate, List.sum_replicate_nat, Array.length_toList]
    have e : z.cps.toList.length = z.length := Array.length_toList
    have e0 : (#[] : Array Nat).size = 0 := rfl
    rw [e, e0, Nat.mul_comm k.toNat, sizeLine_eq]
    omega
def mRepS (x : List Nat) (k : Int) : Option (List Nat) := if (2 ≤ k ∧ k ≤ 1000) ∧ (0 < x.length ∧ x.length ≤ 10000) then some (List.replicate k.toNat x).flatten else none
theorem r_repS {X : Cx} : R2M X rRepS tStr tInt tStr mRepS := fun B H u v x y z e h1 h2 hm Q q => by
  obtain ⟨rfl, hok⟩ := h1
  have h2 : v = .int y := h2
  subst h2
  unfold mRepS at hm
  split at hm
  · rename_i hc
    cases hm
    refine ⟨S x, y, rfl, rfl, hc.1, by rw [S_len]; exact hc.2, q _ B H (.refl e) ⟨?_, fun c hc2 => ?_⟩⟩
    · congr 2
      rw [← Array.toArray_toList (xs := (List.replicate y.toNat (S x).cps).foldl (· ++ ·) #[]), foldl_rep]
      simp
    · obtain ⟨l, hl, hcl⟩ := List.mem_flatten.mp hc2
      rw [(List.mem_replicate.mp hl).2] at hcl
      exact hok c hcl
  · cases hm
theorem pr_rev {α β : Type} {F : α → β → Prop} : ∀ {l : List α} {m : List β}, Paired F l m → Paired F l.reverse m.reverse
  | _, _, .nil => .nil
  | _, _, .cons r t => by
    rw [List.reverse_cons, List.reverse_cons]
    exact pr_app (pr_rev t) (.cons r .nil)
/-- xs[::-1] -/
theorem emo_revL {X : Cx} {E α : Type} {Γ : List (SK E)} {T : Ty α} {e : Expr} {pos : Pos} {k : Nat} {p1 p2 p3 : Pos} {f : E → Option (List α × E)} (he : EM X Γ e (tList T) f) : EMO (PE X (.Subscript e (.Slice none none (some (.UnaryOp .USub (.Constant (.int 1) k p1) p2)) p3) pos)) X Γ (oList T) (then1 f fun x => some x.reverse) := by
  intro ρ σ B O H S I c ρ' hcc Q q
  refine ⟨_, pe_revL (pe_wp X e), ?_⟩
  obtain ⟨x, hf, hm⟩ := then1_inv hcc
  cases hm
  refine he ρ σ B O H S I x ρ' hf _ fun u B1 O1 H1 s1 S1 r1 => ?_
  obtain ⟨p, vs, rfl, hs, r⟩ := r1
  refine ⟨p, vs, rfl, ex_l s1.bh hs, fun l hl => ?_⟩
  have I1 := I.stO s1
  have hn : H l = none := by
    cases z : H l with
    | none => rfl
    | some w => exact absurd hl (s1.th l (by rw [z]; exact fun y => by cases y))
  refine q l _ B1 O1 _ (s1.trans (.of I1 (.other I1.bh hl))) S1 hn (none_back s1.bh hl) ?_ upd_same ⟨_, rfl, pr_rev r⟩
  cases z : O1 l with
  | none => rfl
  | some y => have := (I1.oo l y.1 y.2 z).1; rw [hl] at this; cases this
theorem emo_listG {X : Cx} {E R α : Type} {Γ : List (SK E)} {e : Expr} {pos : Pos} {k : Nat} {x : Str} {p p' pos' : Pos} {f : Addr} {fd : FuncData} {ps : List Str} {es : List Expr} {A : TyA α} {T : Ty R} {fa : E → Option (α × E)} {m : α → Option (List R)} (F : GFn X.prog X.w X.K X.mg X.base k f fd ps (spG X.K A T m)) (hr : Room k X.A) (hr3 : Room (k + 3) X.A) (hm : X.mg x = some (.ref f)) (hk : PySem.W.keepIn X.K (.ref f) = true) (hb : Binds X.K fd ps []) (hml : X.mg "list" = none)
    (ha : EMA X Γ (e :: es) A fa) (hg : Gl X x := by rfl) (hgl : Gl X "list" := by rfl) (hdb : (x == ("__debug__" : Str)) = false := by decide) (hst : starEach (e :: es) X.env = (false, eval e X.env) :: starEach es X.env := by rfl) (hpl : (backTo pos' (starEach es X.env)).any (·.1) = false := by rfl)
    (hst1 : starEach [.Call (.Name x p) (e :: es) [] pos'] X.env = (false, eval (.Call (.Name x p) (e :: es) [] pos') X.env) :: starEach [] X.env := by rfl) :
    EMO (PE X (.Call (.Name "list" p') [.Call (.Name x p) (e :: es) [] pos'] [] pos)) X Γ (oList T) (then1 fa m) := by
  intro ρ σ B O H S I c ρ' hcc Q q
  refine ⟨_, pe_listG (pgen_call F hr hg hm hk hb .nil (pa_wp X _) hdb hst hpl) passE0 noStopE0 hr3 hgl hml boot_list (he := hst1), ?_⟩
  refine ha.run1 S I hcc fun x vs B1 O1 H1 s1 S1 r1 hmx => ⟨B1, x, c, s1.bh, by rw [List.append_nil]; exact r1, hmx, fun yv B2 H2 s2 hy p hp => ?_⟩
  have I1 := I.stO s1
  have I2 := I1.step s2
  have hn : H p = none := by
    cases z : H p with
    | none => rfl
    | some w => exact absurd (none_back s2.hh hp) (s1.th p (by rw [z]; exact fun y => by cases y))
  refine q p (.lst yv) B2 O1 _ (s1.trans (.of I1 (s2.trans (.other s2.bh hp)))) (S1.mono s2.bb) hn (none_back s2.bh hp) ?_ upd_same ⟨yv, rfl, hy⟩
  cases z : O1 p with
  | none => rfl
  | some y => have := (I2.oo p y.1 y.2 z).1; rw [hp] at this; cases this
end ML

namespace K60
open PySem L2 ML
structure E_w_box where
  v_w_script : (List Int)
  v_w_cell : Int
deriving Inhabited
def w_box_b : E_w_box → Option (Fl E_w_box Box) :=
  (retF (then1 (then2 (lcF (fun (ρ : E_w_box) a => { ρ with v_w_cell := a }) (pu (slM (fun ρ => some ρ.v_w_script) (fun _ => some none) (fun ρ => ((fun _ => some 63) ρ).map some) fun x l h => some (cutL x l h))) yesE (pu (bind1 (bind2 (bind1 (bind2 (fun ρ => some ρ.v_w_cell) (fun _ => some ()) fun x y => some (x, y)) (fun x => some x.1)) (fun _ => some ()) fun x y => some (x, y)) (fun x => some (if x.1 < 0 then -x.1 else x.1))))) (then2 (pu (fun _ => some 0)) (then2 (pu (fun _ => some 0)) (then2 (pu (fun _ => some 0)) (fun ρ => some ((), ρ)) fun x y => some (x, y)) fun x y => some (x, y)) fun x y => some (x, y)) fun x y => some (x, y)) mBox))
def w_box_i (a : (List Int) × Unit) : E_w_box := { (default : E_w_box) with v_w_script := a.1 }
def w_box_m (a : (List Int) × Unit) : Option Box := endF none w_box_b (w_box_i a)
structure E_w_take where
  v_w_box_here : Box
  v_w_many : Int
  v_w_digit : Int
  v_w_cell : Int
deriving Inhabited
def w_take_b : E_w_take → Option (Fl E_w_take Int) :=
  (seqF (ifP (bind2 (fun ρ => some (ρ.v_w_box_here.get 2)) (fun _ => some 0) (fun i j => some (decide (j < i))))
    (seqF (setP (fun (ρ : E_w_take) a => { ρ with v_w_digit := a }) (bind2 (bind1 (bind2 (fun ρ => some (ρ.v_w_box_here.get 2)) (fun _ => some ()) fun x y => some (x, y)) (fun x => some x.1)) (fun ρ => some ρ.v_w_many) mMod))
    (seqF (boxSet (fun ρ : E_w_take => ρ.v_w_box_here) (fun (ρ : E_w_take) a => { ρ with v_w_box_here := a }) 2 (pu (bind2 (fun ρ => some (ρ.v_w_box_here.get 2)) (fun ρ => some ρ.v_w_many) mFdiv)))
    (retP (fun ρ => some ρ.v_w_digit))))
    nxF)
    (seqF (setP (fun (ρ : E_w_take) a => { ρ with v_w_cell := a }) (fun _ => some 0))
    (seqF (ifP (bind2 (fun ρ => some (ρ.v_w_box_here.get 1)) (bind1 (bind2 (fun ρ => some ρ.v_w_box_here.cells) (fun _ => some ()) fun x y => some (x, y)) (fun x => some (x.1.length : Int))) (fun i j => some (decide (i < j))))
    (seqF (setP (fun (ρ : E_w_take) a => { ρ with v_w_cell := a }) (bind2 (fun ρ => some ρ.v_w_box_here.cells) (fun ρ => some (ρ.v_w_box_here.get 1)) mIx))
    (boxSet (fun ρ : E_w_take => ρ.v_w_box_here) (fun (ρ : E_w_take) a => { ρ with v_w_box_here := a }) 1 (pu (bind2 (fun ρ => some (ρ.v_w_box_here.get 1)) (fun _ => some 1) mAdd))))
    nxF)
    (seqF (ifP (bind2 (fun ρ => some ρ.v_w_cell) (bind2 (fun _ => some 10) (fun _ => some 18) mPow) (fun i j => some (decide (j ≤ i))))
    (seqF (boxSet (fun ρ : E_w_take => ρ.v_w_box_here) (fun (ρ : E_w_take) a => { ρ with v_w_box_here := a }) 2 (pu (bind2 (fun ρ => some ρ.v_w_cell) (fun ρ => some ρ.v_w_many) mFdiv)))
    (retP (bind2 (bind1 (bind2 (fun ρ => some ρ.v_w_cell) (fun _ => some ()) fun x y => some (x, y)) (fun x => some x.1)) (fun ρ => some ρ.v_w_many) mMod)))
    nxF)
    (seqF (boxSet (fun ρ : E_w_take => ρ.v_w_box_here) (fun (ρ : E_w_take) a => { ρ with v_w_box_here := a }) 3 (pu (bind2 (bind1 (bind2 (bind2 (bind2 (fun ρ => some (ρ.v_w_box_here.get 3)) (fun _ => some 48271) mMul) (fun ρ => some ρ.v_w_cell) mAdd) (fun _ => some ()) fun x y => some (x, y)) (fun x => some x.1)) (fun _ => some 2147483647) mMod)))
    (retP (bind2 (bind1 (bind2 (bind2 (bind2 (bind1 (bind2 (bind2 (fun ρ => some (ρ.v_w_box_here.get 3)) (fun _ => some 69621) mMul) (fun _ => some ()) fun x y => some (x, y)) (fun x => some x.1)) (fun _ => some 2147483629) mMod) (fun _ => some 16) mFdiv) (fun _ => some ()) fun x y => some (x, y)) (fun x => some x.1)) (fun ρ => some ρ.v_w_many) mMod)))))))
def w_take_i (b : Box) (a : Int × Unit) : E_w_take := { (default : E_w_take) with v_w_box_here := b, v_w_many := a.1 }
def w_take_m (b : Box) (a : Int × Unit) : Option (Int × Box) := endL none (fun ρ => ρ.v_w_box_here) w_take_b (w_take_i b a)
structure E_w_letters where
  v_w_box_here : Box
  v_w_many : Int
  v_w_pool : (List Nat)
  v_w_found : (List (List Nat))
  v_w_k : Int
  v_w_at : Int
deriving Inhabited
def w_letters_l1 : E_w_letters → Option (Fl E_w_letters (List (List Nat))) :=
  (seqF (setF (fun (ρ : E_w_letters) a => { ρ with v_w_at := a }) (lendE (fun ρ : E_w_letters => ρ.v_w_box_here) (fun (ρ : E_w_letters) a => { ρ with v_w_box_here := a }) (pu (bind2 (bind1 (bind2 (fun ρ => some ρ.v_w_pool) (fun _ => some ()) fun x y => some (x, y)) (fun x => if x.1.length ≤ 16777216 then some (x.1.length : Int) else none)) (fun _ => some ()) fun x y => some (x, y))) w_take_m))
    (seqF (dropF (fun ρ => ((pu (bind2 (fun ρ => some ρ.v_w_pool) (fun ρ => some ρ.v_w_at) mIxS)) ρ).bind fun y => if y.2.v_w_found.length < 16777216 then some ((), { y.2 with v_w_found := y.2.v_w_found ++ [y.1] }) else none))
    (setP (fun (ρ : E_w_letters) a => { ρ with v_w_pool := a }) (bind2 (slM (fun ρ => some ρ.v_w_pool) (fun _ => some none) (fun ρ => ((fun ρ => some ρ.v_w_at) ρ).map some) fun x l h => if x.length ≤ 16777216 then some (cutL x l h) else none) (slM (fun ρ => some ρ.v_w_pool) (fun ρ => ((bind2 (fun ρ => some ρ.v_w_at) (fun _ => some 1) mAdd) ρ).map some) (fun _ => some none) fun x l h => if x.length ≤ 16777216 then some (cutL x l h) else none) mCat))))
def w_letters_b : E_w_letters → Option (Fl E_w_letters (List (List Nat))) :=
  (seqF (setP (fun (ρ : E_w_letters) a => { ρ with v_w_pool := a }) (fun _ => some (lit "abcdefghijklmnopqrstuvwxyz")))
    (seqF (setF (fun (ρ : E_w_letters) a => { ρ with v_w_found := a }) (pu (bind1 (fun _ => some ()) fun x => some ((aList tStr 0).2.2 x))))
    (seqF (forF (fun (ρ : E_w_letters) a => { ρ with v_w_k := a }) (rng1 (pu (bind2 (fun ρ => some ρ.v_w_many) (fun _ => some ()) fun x y => some (x, y)))) w_letters_l1)
    (retP (fun ρ => some ρ.v_w_found)))))
def w_letters_i (b : Box) (a : Int × Unit) : E_w_letters := { (default : E_w_letters) with v_w_box_here := b, v_w_many := a.1 }
def w_letters_m (b : Box) (a : Int × Unit) : Option ((List (List Nat)) × Box) := endL none (fun ρ => ρ.v_w_box_here) w_letters_b (w_letters_i b a)
structure E_w_subsets where
  v_w_n : Int
  v_w_found : (List (List Int))
  v_w_word : Int
  v_w_words : (List Int)
deriving Inhabited
def w_subsets_l1 : E_w_subsets → Option (Fl E_w_subsets (List (List Int))) :=
  (setF (fun (ρ : E_w_subsets) a => { ρ with v_w_found := a }) (then2 (pu (fun ρ => some ρ.v_w_found)) (lcF (fun (ρ : E_w_subsets) a => { ρ with v_w_words := a }) (pu (fun ρ => some ρ.v_w_found)) yesE (then2 (pu (fun ρ => some ρ.v_w_words)) (pu (bind1 (bind2 (fun ρ => some ρ.v_w_word) (fun _ => some ()) fun x y => some (x, y)) fun x => some ((aList tInt 1).2.2 x))) fun xs ys => if xs.length + ys.length ≤ 16777216 then some (xs ++ ys) else none)) fun xs ys => if xs.length + ys.length ≤ 16777216 then some (xs ++ ys) else none))
def w_subsets_b : E_w_subsets → Option (Fl E_w_subsets (List (List Int))) :=
  (seqF (setP (fun (ρ : E_w_subsets) a => { ρ with v_w_found := a }) (bind1 (bind2 (bind1 (fun _ => some ()) fun x => some ((aList tInt 0).2.2 x)) (fun _ => some ()) fun x y => some (x, y)) fun x => some ((aList (tList tInt) 1).2.2 x)))
    (seqF (forF (fun (ρ : E_w_subsets) a => { ρ with v_w_word := a }) (rng1 (pu (bind2 (fun ρ => some ρ.v_w_n) (fun _ => some ()) fun x y => some (x, y)))) w_subsets_l1)
    (retP (fun ρ => some ρ.v_w_found))))
def w_subsets_i (a : Int × Unit) : E_w_subsets := { (default : E_w_subsets) with v_w_n := a.1 }
def w_subsets_m (a : Int × Unit) : Option (List (List Int)) := endF none w_subsets_b (w_subsets_i a)
structure E_w_left where
  v_w_row : (List Nat)
  v_w_lost : Int
  v_w_found : (List (List Nat))
  v_w_places : (List Int)
  v_w_left_here : (List Nat)
  v_w_at : Int
deriving Inhabited
def w_left_l1 : E_w_left → Option (Fl E_w_left (List (List Nat))) :=
  (seqF (setF (fun (ρ : E_w_left) a => { ρ with v_w_left_here := a }) (then2 (pu (fun _ => some (lit ""))) (lcF (fun (ρ : E_w_left) a => { ρ with v_w_at := a }) (rng1 (pu (bind2 (bind1 (bind2 (fun ρ => some ρ.v_w_row) (fun _ => some ()) fun x y => some (x, y)) (fun x => if x.1.length ≤ 16777216 then some (x.1.length : Int) else none)) (fun _ => some ()) fun x y => some (x, y)))) (pu (bind2 (fun ρ => some ρ.v_w_at) (fun ρ => some ρ.v_w_places) mNotIn)) (pu (bind2 (fun ρ => some ρ.v_w_row) (fun ρ => some ρ.v_w_at) mIxS))) mJoin))
    (ifP (andM (bind2 (bind1 (bind2 (fun ρ => some ρ.v_w_places) (fun _ => some ()) fun x y => some (x, y)) (fun x => some (x.1.length : Int))) (fun ρ => some ρ.v_w_lost) mEq) (bind2 (fun ρ => some ρ.v_w_left_here) (fun ρ => some ρ.v_w_found) mNotIn))
    (dropF (fun ρ => ((pu (fun ρ => some ρ.v_w_left_here)) ρ).bind fun y => if y.2.v_w_found.length < 16777216 then some ((), { y.2 with v_w_found := y.2.v_w_found ++ [y.1] }) else none))
    nxF))
def w_left_b : E_w_left → Option (Fl E_w_left (List (List Nat))) :=
  (seqF (setF (fun (ρ : E_w_left) a => { ρ with v_w_found := a }) (pu (bind1 (fun _ => some ()) fun x => some ((aList tStr 0).2.2 x))))
    (seqF (forF (fun (ρ : E_w_left) a => { ρ with v_w_places := a }) (pu (bind1 (bind2 (bind1 (bind2 (fun ρ => some ρ.v_w_row) (fun _ => some ()) fun x y => some (x, y)) (fun x => if x.1.length ≤ 16777216 then some (x.1.length : Int) else none)) (fun _ => some ()) fun x y => some (x, y)) w_subsets_m)) w_left_l1)
    (retF (then1 (then2 (lcF (fun (ρ : E_w_left) a => { ρ with v_w_left_here := a }) (pu (fun ρ => some ρ.v_w_found)) yesE (pu (bind1 (bind2 (fun ρ => some ρ.v_w_left_here) (fun _ => some ()) fun x y => some (x, y)) (fun x => some x.1)))) (fun ρ => some ((), ρ)) fun x y => some (x, y)) (fun x => some (sortT x.1))))))
def w_left_i (a : (List Nat) × Int × Unit) : E_w_left := { (default : E_w_left) with v_w_row := a.1, v_w_lost := a.2.1 }
def w_left_m (a : (List Nat) × Int × Unit) : Option (List (List Nat)) := endF none w_left_b (w_left_i a)
structure E_subrows where
  v_row : (List Nat)
  v_lost : Int
  v_waiting : (List ((List Nat) × (List Nat)))
  v_done : (List Nat)
  v_rest : (List Nat)
  v_left : Int
  v_heads : (List Nat)
  v_letter : (List Nat)
  v_head : (List Nat)
deriving Inhabited
def subrows_l1 : E_subrows → Option (Fl E_subrows Unit) :=
  (dropF (fun ρ => ((pu (bind1 (bind2 (bind2 (fun ρ => some ρ.v_done) (fun ρ => some ρ.v_letter) mCat) (bind2 (slM (fun ρ => some ρ.v_rest) (fun ρ => ((bind2 (bind2 (fun ρ => some ρ.v_heads) (fun ρ => some ρ.v_letter) fun x y => some (Txt.find (S x) (S y))) (fun _ => some 1) mAdd) ρ).map some) (fun _ => some none) fun x l h => if x.length ≤ 16777216 then some (cutL x l h) else none) (fun _ => some ()) fun x y => some (x, y)) fun x y => some (x, y)) mPair)) ρ).bind fun y => if y.2.v_waiting.length < 16777216 then some ((), { y.2 with v_waiting := y.2.v_waiting ++ [y.1] }) else none))
def subrows_l2 (k : Option Nat) : GF E_subrows (List Nat) :=
  (seqG (liftG (setF (set2 (fun (ρ : E_subrows) a => { ρ with v_done := a }) (fun (ρ : E_subrows) a => { ρ with v_rest := a })) (fun ρ => (ρ.v_waiting[ρ.v_waiting.length - 1]?).map fun y => (y, { ρ with v_waiting := ρ.v_waiting.dropLast }))))
    (seqG (liftG (setP (fun (ρ : E_subrows) a => { ρ with v_left := a }) (bind2 (bind2 (bind1 (bind2 (fun ρ => some ρ.v_row) (fun _ => some ()) fun x y => some (x, y)) (fun x => if x.1.length ≤ 16777216 then some (x.1.length : Int) else none)) (fun ρ => some ρ.v_lost) mSub) (bind1 (bind2 (fun ρ => some ρ.v_done) (fun _ => some ()) fun x y => some (x, y)) (fun x => if x.1.length ≤ 16777216 then some (x.1.length : Int) else none)) mSub)))
    (seqG (ifG (bind2 (fun ρ => some ρ.v_left) (fun _ => some 0) mEq)
    (seqG (yieldG k (fun ρ => some ρ.v_done))
    (liftG (fun ρ => some (.ct ρ))))
    (fun ρ => some (.nx ρ)))
    (seqG (liftG (setP (fun (ρ : E_subrows) a => { ρ with v_heads := a }) (slM (fun ρ => some ρ.v_rest) (fun _ => some none) (fun ρ => ((bind2 (bind2 (bind1 (bind2 (fun ρ => some ρ.v_rest) (fun _ => some ()) fun x y => some (x, y)) (fun x => if x.1.length ≤ 16777216 then some (x.1.length : Int) else none)) (fun ρ => some ρ.v_left) mSub) (fun _ => some 1) mAdd) ρ).map some) fun x l h => if x.length ≤ 16777216 then some (cutL x l h) else none)))
    (liftG (forF (fun (ρ : E_subrows) a => { ρ with v_letter := a }) (then1 (then1 (lcF (fun (ρ : E_subrows) a => { ρ with v_head := a }) (then1 (pu (fun ρ => some ρ.v_heads)) fun x => some (x.map fun c => [c])) yesE (pu (bind1 (bind2 (fun ρ => some ρ.v_head) (fun _ => some ()) fun x y => some (x, y)) (fun x => some x.1)))) fun xs => if xs.length < 4000 then some (sortT (ddT xs)) else none) fun x => some x.reverse) subrows_l1))))))
def subrows_l2c : E_subrows → Option Bool :=
  (bind2 (bind1 (bind2 (fun ρ => some ρ.v_waiting) (fun _ => some ()) fun x y => some (x, y)) (fun x => some (x.1.length : Int))) (fun _ => some 0) (fun i j => some (decide (j < i))))
def subrows_b (k : Option Nat) : GF E_subrows (List Nat) :=
  (seqG (liftG (setF (fun (ρ : E_subrows) a => { ρ with v_waiting := a }) (pu (bind1 (fun _ => some ()) fun x => some ((aList (tPair tStr tStr) 0).2.2 x)))))
    (seqG (liftG (ifP (chainM (fun i j => decide (i ≤ j)) (fun i j => decide (i ≤ j)) (fun _ => some 0) (fun ρ => some ρ.v_lost) (bind1 (bind2 (fun ρ => some ρ.v_row) (fun _ => some ()) fun x y => some (x, y)) (fun x => if x.1.length ≤ 16777216 then some (x.1.length : Int) else none)))
    (dropF (fun ρ => ((pu (bind1 (bind2 (fun _ => some (lit "")) (bind2 (fun ρ => some ρ.v_row) (fun _ => some ()) fun x y => some (x, y)) fun x y => some (x, y)) mPair)) ρ).bind fun y => if y.2.v_waiting.length < 16777216 then some ((), { y.2 with v_waiting := y.2.v_waiting ++ [y.1] }) else none))
    nxF))
    (whileG subrows_l2c (subrows_l2 k) FUEL)))
def subrows_i (a : (List Nat) × Int × Unit) : E_subrows := { (default : E_subrows) with v_row := a.1, v_lost := a.2.1 }
def subrows_m (a : (List Nat) × Int × Unit) : Option (List (List Nat)) := endG (subrows_b none) (subrows_i a)
def subrows_k (n : Nat) (a : (List Nat) × Int × Unit) : Option (List (List Nat)) := endK (subrows_b (some n)) (subrows_i a)
structure E_law where
  v_w_script : (List Int)
  v_w_box_here : Box
  v_w_letters_here : (List (List Nat))
  v_w_row : (List Nat)
  v_w_k : Int
  v_w_lost : Int
  v_w_due : (List (List Nat))
  v_w_turn : Int
  v_w_every : (List Nat)
  v_w_found : (List (List Nat))
  v_w_one : (List Nat)
deriving Inhabited
def law_l1 : E_law → Option (Fl E_law Bool) :=
  (setF (fun (ρ : E_law) a => { ρ with v_w_row := a }) (then2 (pu (fun ρ => some ρ.v_w_row)) (then2 (pu (fun ρ => some ρ.v_w_letters_here)) (lendE (fun ρ : E_law => ρ.v_w_box_here) (fun (ρ : E_law) a => { ρ with v_w_box_here := a }) (pu (bind2 (bind1 (bind2 (fun ρ => some ρ.v_w_letters_here) (fun _ => some ()) fun x y => some (x, y)) (fun x => some (x.1.length : Int))) (fun _ => some ()) fun x y => some (x, y))) w_take_m) mIx) mCat))
def law_l2 : E_law → Option (Fl E_law Bool) :=
  (ifP (bind2 (bind1 (bind2 (fun ρ => some ρ.v_w_row) (bind2 (fun ρ => some ρ.v_w_lost) (fun _ => some ()) fun x y => some (x, y)) fun x y => some (x, y)) subrows_m) (fun ρ => some ρ.v_w_due) mNe)
    (retP (fun _ => some false))
    nxF)
def law_b : E_law → Option (Fl E_law Bool) :=
  (seqF (setF (fun (ρ : E_law) a => { ρ with v_w_box_here := a }) (then1 (pu (bind2 (fun ρ => some ρ.v_w_script) (fun _ => some ()) fun x y => some (x, y))) w_box_m))
    (seqF (setF (fun (ρ : E_law) a => { ρ with v_w_letters_here := a }) (lendE (fun ρ : E_law => ρ.v_w_box_here) (fun (ρ : E_law) a => { ρ with v_w_box_here := a }) (then2 (then2 (pu (fun _ => some 1)) (lendE (fun ρ : E_law => ρ.v_w_box_here) (fun (ρ : E_law) a => { ρ with v_w_box_here := a }) (pu (bind2 (fun _ => some 4) (fun _ => some ()) fun x y => some (x, y))) w_take_m) mAdd) (fun ρ => some ((), ρ)) fun x y => some (x, y)) w_letters_m))
    (seqF (setP (fun (ρ : E_law) a => { ρ with v_w_row := a }) (fun _ => some (lit "")))
    (seqF (forF (fun (ρ : E_law) a => { ρ with v_w_k := a }) (rng1 (then2 (then2 (then1 (then2 (then2 (pu (fun _ => some 2)) (lendE (fun ρ : E_law => ρ.v_w_box_here) (fun (ρ : E_law) a => { ρ with v_w_box_here := a }) (pu (bind2 (fun _ => some 8) (fun _ => some ()) fun x y => some (x, y))) w_take_m) mAdd) (fun ρ => some ((), ρ)) fun x y => some (x, y)) (fun x => some x.1)) (pu (fun _ => some 8)) mMod) (fun ρ => some ((), ρ)) fun x y => some (x, y))) law_l1)
    (seqF (setF (fun (ρ : E_law) a => { ρ with v_w_lost := a }) (then2 (lendE (fun ρ : E_law => ρ.v_w_box_here) (fun (ρ : E_law) a => { ρ with v_w_box_here := a }) (pu (bind2 (bind2 (bind1 (bind2 (fun ρ => some ρ.v_w_row) (fun _ => some ()) fun x y => some (x, y)) (fun x => if x.1.length ≤ 16777216 then some (x.1.length : Int) else none)) (fun _ => some 3) mAdd) (fun _ => some ()) fun x y => some (x, y))) w_take_m) (pu (fun _ => some 1)) mSub))
    (seqF (setP (fun (ρ : E_law) a => { ρ with v_w_due := a }) (bind1 (bind2 (fun ρ => some ρ.v_w_row) (bind2 (fun ρ => some ρ.v_w_lost) (fun _ => some ()) fun x y => some (x, y)) fun x y => some (x, y)) w_left_m))
    (seqF (forF (fun (ρ : E_law) a => { ρ with v_w_turn := a }) (rng1 (pu (bind2 (fun _ => some 2) (fun _ => some ()) fun x y => some (x, y)))) law_l2)
    (seqF (ifP (orM (bind2 (bind1 (bind2 (fun ρ => some ρ.v_w_row) (bind2 (fun _ => some 0) (fun _ => some ()) fun x y => some (x, y)) fun x y => some (x, y)) subrows_m) (bind1 (bind2 (fun ρ => some ρ.v_w_row) (fun _ => some ()) fun x y => some (x, y)) fun x => some ((aList tStr 1).2.2 x)) mNe) (bind2 (bind1 (bind2 (fun ρ => some ρ.v_w_row) (bind2 (bind1 (bind2 (fun ρ => some ρ.v_w_row) (fun _ => some ()) fun x y => some (x, y)) (fun x => if x.1.length ≤ 16777216 then some (x.1.length : Int) else none)) (fun _ => some ()) fun x y => some (x, y)) fun x y => some (x, y)) subrows_m) (bind1 (bind2 (fun _ => some (lit "")) (fun _ => some ()) fun x y => some (x, y)) fun x => some ((aList tStr 1).2.2 x)) mNe))
    (retP (fun _ => some false))
    nxF)
    (seqF (ifF (orE (then2 (then1 (then2 (pu (fun ρ => some ρ.v_w_row)) (then2 (then2 (pu (bind1 (fun _ => some 1) fun x => some (-x))) (lendE (fun ρ : E_law => ρ.v_w_box_here) (fun (ρ : E_law) a => { ρ with v_w_box_here := a }) (pu (bind2 (fun _ => some 9) (fun _ => some ()) fun x y => some (x, y))) w_take_m) mSub) (fun ρ => some ((), ρ)) fun x y => some (x, y)) fun x y => some (x, y)) subrows_m) (pu (bind1 (fun _ => some ()) fun x => some ((aList tStr 0).2.2 x))) mNe) (pu (bind2 (bind1 (bind2 (fun ρ => some ρ.v_w_row) (bind2 (bind2 (bind1 (bind2 (fun ρ => some ρ.v_w_row) (fun _ => some ()) fun x y => some (x, y)) (fun x => if x.1.length ≤ 16777216 then some (x.1.length : Int) else none)) (fun _ => some 1) mAdd) (fun _ => some ()) fun x y => some (x, y)) fun x y => some (x, y)) subrows_m) (bind1 (fun _ => some ()) fun x => some ((aList tStr 0).2.2 x)) mNe)))
    (retP (fun _ => some false))
    nxF)
    (seqF (setP (fun (ρ : E_law) a => { ρ with v_w_every := a }) (fun _ => some (lit "abcdefghijklmnopqrstuvwxyz")))
    (seqF (setF (fun (ρ : E_law) a => { ρ with v_w_found := a }) (pu (bind1 (fun _ => some ()) fun x => some ((aList tStr 0).2.2 x))))
    (seqF (lazyF (fun ρ : E_law => ρ.v_w_found) (fun (ρ : E_law) a => { ρ with v_w_found := a }) (fun (ρ : E_law) a => { ρ with v_w_one := a }) (bind2 (bind2 (fun ρ => some ρ.v_w_every) (fun _ => some 2) mRepS) (bind2 (fun _ => some 26) (fun _ => some ()) fun x y => some (x, y)) fun x y => some (x, y)) (subrows_k 2))
    (retP (bind2 (fun ρ => some ρ.v_w_found) (bind1 (bind2 (bind2 (fun _ => some (lit "a")) (slM (fun ρ => some ρ.v_w_every) (fun _ => some none) (fun ρ => ((bind1 (fun _ => some 1) fun x => some (-x)) ρ).map some) fun x l h => if x.length ≤ 16777216 then some (cutL x l h) else none) mCat) (bind2 (bind2 (bind2 (fun _ => some (lit "a")) (slM (fun ρ => some ρ.v_w_every) (fun _ => some none) (fun ρ => ((bind1 (fun _ => some 2) fun x => some (-x)) ρ).map some) fun x l h => if x.length ≤ 16777216 then some (cutL x l h) else none) mCat) (fun _ => some (lit "z")) mCat) (fun _ => some ()) fun x y => some (x, y)) fun x y => some (x, y)) fun x => some ((aList tStr 2).2.2 x)) mEq))))))))))))))
def law_i (a : (List Int) × Unit) : E_law := { (default : E_law) with v_w_script := a.1 }
def law_m (a : (List Int) × Unit) : Option Bool := endF none law_b (law_i a)
end K60

namespace K60
open PySem L2 ML
structure BoxOk (b : Box) : Prop where
  cells : ∀ c ∈ b.cells, 0 ≤ c
  at0 : 0 ≤ b.at'
  left0 : 0 ≤ b.left
  seed0 : 0 ≤ b.seed
  seed1 : b.seed < 2147483647
theorem w_take_ok (b : Box) (many : Int) (hb : BoxOk b) (h1 : 1 ≤ many) (h2 : many < 1000) : ∃ r b', w_take_m b (many, ()) = some (r, b') ∧ 0 ≤ r ∧ r < many ∧ BoxOk b' := by
  have hm0 : many ≠ 0 := by omega
  have hmn : many.natAbs < 1073741824 := by omega
  have hm : ∀ z : Int, 0 ≤ z.fmod many ∧ z.fmod many < many := fun z => ⟨Int.fmod_nonneg_of_pos z (by omega), Int.fmod_lt_of_pos z (by omega)⟩
  have hd : ∀ z : Int, 0 ≤ z → 0 ≤ z.fdiv many := fun z hz => Int.fdiv_nonneg hz (by omega)
  have hs : ∀ z : Int, 0 ≤ z.fmod 2147483647 ∧ z.fmod 2147483647 < 2147483647 := fun z => ⟨Int.fmod_nonneg_of_pos z (by omega), Int.fmod_lt_of_pos z (by omega)⟩
  by_cases hl : 0 < b.left
  · have e : w_take_m b (many, ()) = some (b.left.fmod many, { b with left := b.left.fdiv many }) := by
      unfold w_take_m endL w_take_b w_take_i
      simp [seqF, ifP, setP, bind1, bind2, boxSet, pu, retP, nxF, Box.get, Box.set, hl, hm0, hmn, mMod, mFdiv]
    exact ⟨_, _, e, (hm _).1, (hm _).2, hb.cells, hb.at0, hd _ hb.left0, hb.seed0, hb.seed1⟩
  · obtain ⟨cell, b1, hc0, hb1, hcell⟩ : ∃ cell b1, 0 ≤ cell ∧ BoxOk b1 ∧ ((b.at' < b.cells.length ∧ atI b.cells b.at' = some cell ∧ b1 = { b with at' := b.at' + 1 }) ∨ (¬ b.at' < b.cells.length ∧ cell = 0 ∧ b1 = b)) := by
      by_cases ha : b.at' < b.cells.length
      · have hlt : b.at'.toNat < b.cells.length := by have := hb.at0; omega
        refine ⟨b.cells[b.at'.toNat], { b with at' := b.at' + 1 }, hb.cells _ (List.getElem_mem hlt), ⟨hb.cells, by have := hb.at0; show 0 ≤ b.at' + 1; omega, hb.left0, hb.seed0, hb.seed1⟩, .inl ⟨ha, ?_, rfl⟩⟩
        exact atI_ofNat hb.at0 (List.getElem?_eq_getElem hlt)
      · exact ⟨0, b, Int.le_refl _, hb, .inr ⟨ha, rfl, rfl⟩⟩
    have p18 : (10 : Int) ^ (18 : Int).toNat = 1000000000000000000 := by decide
    have hsd : b1.seed = b.seed ∧ b1.left = b.left := by rcases hcell with ⟨_, _, rfl⟩ | ⟨_, _, rfl⟩ <;> exact ⟨rfl, rfl⟩
    by_cases hc : 1000000000000000000 ≤ cell
    · have e : w_take_m b (many, ()) = some (cell.fmod many, { b1 with left := cell.fdiv many }) := by
        unfold w_take_m endL w_take_b w_take_i
        rcases hcell with ⟨ha, hg, rfl⟩ | ⟨ha, rfl, rfl⟩
        · simp [seqF, ifP, setP, bind1, bind2, boxSet, pu, retP, nxF, Box.get, Box.set, hl, hm0, hmn, mMod, mFdiv, mPow, mIx, ha, hg, hc, p18]
        · omega
      exact ⟨_, _, e, (hm _).1, (hm _).2, hb1.cells, hb1.at0, hd _ hc0, hb1.seed0, hb1.seed1⟩
    · have hc' : ¬ (1000000000000000000 ≤ cell) := hc
      have sb : -(2 ^ 64) < b.seed ∧ b.seed < 2 ^ 64 := by have := hb.seed0; have := hb.seed1; omega
      have h0 := hs (b.seed * 48271 + cell)
      generalize hz : (b.seed * 48271 + cell).fmod 2147483647 = sd at h0
      have e : w_take_m b (many, ()) = some ((((sd * 69621).fmod 2147483629).fdiv 16).fmod many, { b1 with seed := sd }) := by
        unfold w_take_m endL w_take_b w_take_i
        have hmul : ((-(2 ^ 64) < b.seed ∧ b.seed < 2 ^ 64) ∨ (-(2 ^ 64) < (48271 : Int) ∧ (48271 : Int) < 2 ^ 64)) := .inl sb
        have hmul2 : ((-(2 ^ 64) < sd ∧ sd < 2 ^ 64) ∨ (-(2 ^ 64) < (69621 : Int) ∧ (69621 : Int) < 2 ^ 64)) := .inr (by decide)
        rcases hcell with ⟨ha, hg, rfl⟩ | ⟨ha, rfl, rfl⟩
        · simp [seqF, ifP, setP, bind1, bind2, boxSet, pu, retP, nxF, Box.get, Box.set, hl, hm0, hmn, mMod, mFdiv, mPow, mIx, mMul, mAdd, ha, hg, hc, p18, hz]
        · simp [seqF, ifP, setP, bind1, bind2, boxSet, pu, retP, nxF, Box.get, Box.set, hl, hm0, hmn, mMod, mFdiv, mPow, mIx, mMul, mAdd, ha, hc, p18] at hz ⊢
          rw [hz]
          simp
      exact ⟨_, _, e, (hm _).1, (hm _).2, hb1.cells, hb1.at0, hb1.left0, h0.1, h0.2⟩
end K60

namespace K60
open PySem L2 ML
theorem w_box_ok (ns : List Int) (h : ns.length ≤ 63) : ∃ b, w_box_m (ns, ()) = some b ∧ BoxOk b := by
  have hf : (pu (slM (fun ρ : E_w_box => some ρ.v_w_script) (fun _ => some none) (fun ρ => ((fun _ => some (63 : Int)) ρ).map some) fun x l h => some (cutL x l h))) (w_box_i (ns, ())) = some (ns.take 63, w_box_i (ns, ())) := by
    simp [pu, slM, w_box_i, cutL_take]
  have hlen : (ns.take 63).length ≤ 16777216 := by rw [List.length_take]; omega
  obtain ⟨ρ', h1, _⟩ := lcF_pure (s := fun (ρ : E_w_box) a => { ρ with v_w_cell := a }) (t := yesE) (fe := pu (bind1 (bind2 (bind1 (bind2 (fun ρ : E_w_box => some ρ.v_w_cell) (fun _ => some ()) fun x y => some (x, y)) (fun x => some x.1)) (fun _ => some ()) fun x y => some (x, y)) (fun x => some (if x.1 < 0 then -x.1 else x.1)))) hf hlen (fun _ => True) (fun _ => true) (fun x => if x < 0 then -x else x) trivial
    (fun x _ ρ _ => ⟨{ ρ with v_w_cell := x }, { ρ with v_w_cell := x }, rfl, trivial, fun _ => ⟨by simp [pu, bind1, bind2], trivial⟩⟩)
  refine ⟨⟨((ns.take 63).filter fun _ => true).map (fun x => if x < 0 then -x else x), 0, 0, 0⟩, ?_, ⟨fun c hc => ?_, Int.le_refl _, Int.le_refl _, Int.le_refl _, (show (0 : Int) < 2147483647 by decide)⟩⟩
  · unfold w_box_m endF w_box_b
    simp only [retF, then1, then2]
    rw [h1]
    rfl
  · obtain ⟨x, _, rfl⟩ := List.mem_map.mp hc
    by_cases hx : x < 0
    · simp only [if_pos hx]; omega
    · simp only [if_neg hx]; omega
/-- a to z -/
def alpha : List Nat := lit "abcdefghijklmnopqrstuvwxyz"
theorem alpha_nd : alpha.Nodup := by decide
theorem alpha_len : alpha.length = 26 := by decide
theorem alpha_lt : ∀ c ∈ alpha, 97 ≤ c ∧ c ≤ 122 := by decide
theorem take_drop_erase (l : List Nat) {i : Nat} (h : i < l.length) : l.Perm (l[i] :: (l.take i ++ l.drop (i + 1))) := by
  have e : l = l.take i ++ l[i] :: l.drop (i + 1) := by
    rw [← List.drop_eq_getElem_cons h, List.take_append_drop]
  exact (List.Perm.of_eq e).trans List.perm_middle
structure LetOk (ls : List (List Nat)) (n : Nat) (cs : List Nat) : Prop where
  eq : ls = cs.map fun c => [c]
  len : cs.length = n
  nd : cs.Nodup
  sub : ∀ c ∈ cs, c ∈ alpha
theorem w_letters_ok (b : Box) (many : Int) (hb : BoxOk b) (h0 : 0 ≤ many) (h1 : many ≤ 26) : ∃ ls b' cs, w_letters_m b (many, ()) = some (ls, b') ∧ BoxOk b' ∧ LetOk ls many.toNat cs := by
  let Inv : Nat → E_w_letters → Prop := fun n ρ => BoxOk ρ.v_w_box_here ∧ ∃ cs, ρ.v_w_found = cs.map (fun c => [c]) ∧ cs.length = n ∧ (cs ++ ρ.v_w_pool).Perm alpha
  let ρ0 : E_w_letters := { w_letters_i b (many, ()) with v_w_pool := alpha, v_w_found := [] }
  have hf : (rng1 (pu (bind2 (fun ρ : E_w_letters => some ρ.v_w_many) (fun _ => some ()) fun x y => some (x, y)))) ρ0 = some (rangeL 0 1 many.toNat, ρ0) := by
    have e : ρ0.v_w_many = many := rfl
    have h2 : many < 2 ^ 62 ∧ -(2 ^ 62) ≤ many := by omega
    simp only [rng1, then1, pu, bind2, e, Option.bind_some, Option.map_some, if_pos h2]
  obtain ⟨ρ1, e1, hb1, cs, e2, e3, e4⟩ := forF_inv (s := fun (ρ : E_w_letters) a => { ρ with v_w_k := a }) (fb := w_letters_l1) hf Inv ⟨hb, [], rfl, rfl, List.Perm.refl _⟩ (by
    rintro i x ρ hx ⟨hbx, cs, q1, q2, q3⟩
    have hi : i < many.toNat := by have := (List.getElem?_eq_some_iff.mp hx).1; rw [rangeL_len] at this; exact this
    have hl : cs.length + ρ.v_w_pool.length = 26 := by rw [← alpha_len, ← q3.length_eq, List.length_append]
    have hpl : 1 ≤ ρ.v_w_pool.length := by omega
    obtain ⟨r, b', t1, t2, t3, t4⟩ := w_take_ok ρ.v_w_box_here ρ.v_w_pool.length hbx (by omega) (by omega)
    have hr : r.toNat < ρ.v_w_pool.length := by omega
    have hget : atI ρ.v_w_pool r = some ρ.v_w_pool[r.toNat] := atI_ofNat t2 (List.getElem?_eq_getElem hr)
    have hln : ρ.v_w_pool.length ≤ 16777216 := by omega
    have hfl : ρ.v_w_found.length < 16777216 := by rw [q1, List.length_map]; omega
    have htl : (ρ.v_w_pool.take r.toNat).length + (ρ.v_w_pool.drop (r + 1).toNat).length ≤ 16777216 := by rw [List.length_take, List.length_drop]; omega
    have hr1 : (r + 1).toNat = r.toNat + 1 := by omega
    refine ⟨{ ρ with v_w_k := x, v_w_at := r, v_w_box_here := b', v_w_found := ρ.v_w_found ++ [[ρ.v_w_pool[r.toNat]]], v_w_pool := ρ.v_w_pool.take r.toNat ++ ρ.v_w_pool.drop (r.toNat + 1) }, .inl ?_, t4, cs ++ [ρ.v_w_pool[r.toNat]], ?_, ?_, ?_⟩
    · unfold w_letters_l1
      have c1 := cutL_take ρ.v_w_pool t2
      have c2 := cutL_drop ρ.v_w_pool (i := r + 1) (by omega)
      rw [hr1] at c2
      rw [hr1] at htl
      simp only [seqF, setF, setP, lendE, dropF, pu, bind1, bind2, slM, mIxS, mCat, mAdd, Option.bind_some, Option.map_some, if_pos hln, t1, hget, if_pos hfl, c1, c2, if_pos htl]
    · simp only [q1, List.map_append, List.map_cons, List.map_nil]
    · rw [List.length_append, q2]; rfl
    · refine List.Perm.trans ?_ q3
      rw [List.append_assoc]
      exact List.Perm.append_left cs (take_drop_erase ρ.v_w_pool hr).symm)
  rw [rangeL_len] at e3
  refine ⟨ρ1.v_w_found, ρ1.v_w_box_here, cs, ?_, hb1, e2, e3, ?_, fun c hc => e4.subset (List.mem_append_left _ hc)⟩
  · unfold w_letters_m endL w_letters_b
    have e0 : (aList tStr 0).2.2 () = [] := rfl
    simp only [seqF, setF, setP, pu, bind1, Option.bind_some, Option.map_some, retP]
    show Option.bind (Option.bind (forF _ _ w_letters_l1 ρ0) _) _ = _
    rw [e1]
    rfl
  · have := (e4.nodup_iff).mpr alpha_nd
    exact (List.nodup_append.mp this).1
end K60

namespace K60
open PySem L2 ML
theorem single_of {L : List (List Nat)} (h : ∀ x ∈ L, ∃ c, x = [c]) : L = (L.map fun x => x.headD 0).map fun c => [c] := by
  induction L with
  | nil => rfl
  | cons x r ih =>
    obtain ⟨c, rfl⟩ := h x List.mem_cons_self
    rw [List.map_cons, List.map_cons, ← ih fun y hy => h y (List.mem_cons_of_mem _ hy)]
    rfl
/-- the different letters in their order -/
def lets (h : List Nat) : List Nat := (sortT (ddT (h.map fun c => [c]))).map fun x => x.headD 0
theorem lets_single (h : List Nat) : sortT (ddT (h.map fun c => [c])) = (lets h).map fun c => [c] := by
  refine single_of fun x hx => ?_
  obtain ⟨c, _, rfl⟩ := List.mem_map.mp (ddT_mem.mp ((sortT_perm _).mem_iff.mp hx))
  exact ⟨c, rfl⟩
theorem lets_mem {h : List Nat} {c : Nat} : c ∈ lets h ↔ c ∈ h := by
  have e : [c] ∈ sortT (ddT (h.map fun c => [c])) ↔ c ∈ h := by
    rw [(sortT_perm _).mem_iff, ddT_mem, List.mem_map]
    exact ⟨fun ⟨a, h1, h2⟩ => by injection h2 with h2; rw [← h2]; exact h1, fun h => ⟨c, h, rfl⟩⟩
  rw [lets_single, List.mem_map] at e
  rw [← e]
  exact ⟨fun h => ⟨c, h, rfl⟩, fun ⟨a, h1, h2⟩ => by injection h2 with h2; rw [← h2]; exact h1⟩
theorem leN_single {a b : Nat} : leN [a] [b] = true ↔ a ≤ b := by
  unfold leN
  rw [Bool.not_eq_true', decide_eq_false_iff_not, List.cons_lt_cons_iff]
  simp
theorem lets_sorted (h : List Nat) : (lets h).Pairwise (· < ·) := by
  have s := sortT_sorted (ddT (h.map fun c => [c]))
  have n := ((sortT_perm (ddT (h.map fun c => [c]))).nodup_iff).mpr (ddT_nodup _)
  rw [lets_single, List.pairwise_map] at s
  rw [lets_single, List.Nodup, List.pairwise_map] at n
  exact (s.and n).imp fun ⟨h1, h2⟩ => Nat.lt_of_le_of_ne (leN_single.mp h1) fun e => h2 (by rw [e])
theorem lets_len (h : List Nat) : (lets h).length ≤ h.length := by
  have e := congrArg List.length (lets_single h)
  rw [List.length_map, (sortT_perm _).length_eq] at e
  have := ddT_len (h.map fun c => [c])
  rw [List.length_map] at this
  omega
theorem find_idx {l : List Nat} {c : Nat} (h : c ∈ l) : Txt.find (S l) (S [c]) = (l.idxOf c : Int) := by
  have hlt := List.idxOf_lt_length_iff.mpr h
  refine (find_one l (List.getElem?_eq_getElem hlt |>.trans (by rw [List.getElem_idxOf]))).mpr fun q hq e => ?_
  have hq' : q < l.findIdx (· == c) := hq
  have hql : q < l.length := by omega
  rw [List.getElem?_eq_getElem hql] at e
  have := List.not_of_lt_findIdx hq'
  rw [Option.some.inj e] at this
  simp at this
def kid (d r h : List Nat) (c : Nat) : List Nat × List Nat := (d ++ [c], r.drop (h.idxOf c + 1))
theorem sub_for (ρ : E_subrows) (d r h : List Nat) (stk : List (List Nat × List Nat)) (hw : ρ.v_waiting = stk) (hd : ρ.v_done = d) (hr : ρ.v_rest = r) (hh : ρ.v_heads = h) (hl : r.length + d.length ≤ 100) (hhl : h.length ≤ 100) (hs : stk.length ≤ 1000000) :
    ∃ ρ', forF (fun (ρ : E_subrows) a => { ρ with v_letter := a }) (then1 (then1 (lcF (fun (ρ : E_subrows) a => { ρ with v_head := a }) (then1 (pu (fun ρ => some ρ.v_heads)) fun x => some (x.map fun c => [c])) yesE (pu (bind1 (bind2 (fun ρ => some ρ.v_head) (fun _ => some ()) fun x y => some (x, y)) (fun x => some x.1)))) fun xs => if xs.length < 4000 then some (sortT (ddT xs)) else none) fun x => some x.reverse) subrows_l1 ρ = some (.nx ρ') ∧ ρ'.v_waiting = stk ++ (lets h).reverse.map (kid d r h) ∧ ρ'.v_row = ρ.v_row ∧ ρ'.v_lost = ρ.v_lost := by
  have hf1 : (then1 (pu (fun ρ : E_subrows => some ρ.v_heads)) fun x => some (x.map fun c => [c])) ρ = some (h.map (fun c => [c]), ρ) := by
    simp only [then1, pu, hh, Option.bind_some, Option.map_some]
  have hlen : (h.map fun c => [c]).length ≤ 16777216 := by rw [List.length_map]; omega
  obtain ⟨ρ0, g1, z1, z2, z3, z4, z5, z6⟩ := lcF_pure (s := fun (ρ : E_subrows) a => { ρ with v_head := a }) (t := yesE) (fe := pu (bind1 (bind2 (fun ρ : E_subrows => some ρ.v_head) (fun _ => some ()) fun x y => some (x, y)) (fun x => some x.1))) hf1 hlen
    (fun ρ1 => ρ1.v_waiting = stk ∧ ρ1.v_done = d ∧ ρ1.v_rest = r ∧ ρ1.v_heads = h ∧ ρ1.v_row = ρ.v_row ∧ ρ1.v_lost = ρ.v_lost) (fun _ => true) (fun x => x) ⟨hw, hd, hr, hh, rfl, rfl⟩ (fun x _ ρ1 q => ⟨{ ρ1 with v_head := x }, { ρ1 with v_head := x }, rfl, q, fun _ => ⟨rfl, q⟩⟩)
  have e : ((h.map fun c => [c]).filter fun _ => true).map (fun x => x) = h.map fun c => [c] := by
    rw [List.map_id', List.filter_eq_self.mpr fun _ _ => rfl]
  rw [e] at g1
  have hfew : (h.map fun c => [c]).length < 4000 := by rw [List.length_map]; omega
  have hf : (then1 (then1 (lcF (fun (ρ : E_subrows) a => { ρ with v_head := a }) (then1 (pu (fun ρ => some ρ.v_heads)) fun x => some (x.map fun c => [c])) yesE (pu (bind1 (bind2 (fun ρ => some ρ.v_head) (fun _ => some ()) fun x y => some (x, y)) (fun x => some x.1)))) fun xs => if xs.length < 4000 then some (sortT (ddT xs)) else none) fun x => some x.reverse) ρ = some (((lets h).map fun c => [c]).reverse, ρ0) := by
    unfold then1
    unfold then1 at g1
    rw [g1]
    simp only [Option.bind_some, Option.map_some, if_pos hfew, lets_single]
  rw [← List.map_reverse] at hf
  have hll := lets_len h
  obtain ⟨ρ', h1, h2, _, _, _, h6, h7⟩ := forF_inv (s := fun (ρ : E_subrows) a => { ρ with v_letter := a }) (fb := subrows_l1) hf (fun i ρ1 => ρ1.v_waiting = stk ++ ((lets h).reverse.take i).map (kid d r h) ∧ ρ1.v_done = d ∧ ρ1.v_rest = r ∧ ρ1.v_heads = h ∧ ρ1.v_row = ρ.v_row ∧ ρ1.v_lost = ρ.v_lost) ⟨by rw [z1]; simp, z2, z3, z4, z5, z6⟩ (by
    rintro i x ρ1 hx ⟨q1, q2, q3, q4, q5, q6⟩
    rw [List.getElem?_map] at hx
    cases hc : (lets h).reverse[i]? with
    | none => rw [hc] at hx; cases hx
    | some c =>
      rw [hc] at hx
      cases hx
      have hch : c ∈ h := lets_mem.mp (List.mem_reverse.mp (List.mem_of_getElem? hc))
      have hil := (List.getElem?_eq_some_iff.mp hc).1
      rw [List.length_reverse] at hil
      have hcat : d.length + [c].length ≤ 16777216 := by rw [List.length_singleton]; omega
      have hrl : r.length ≤ 16777216 := by omega
      have hpush : (stk ++ ((lets h).reverse.take i).map (kid d r h)).length < 16777216 := by
        rw [List.length_append, List.length_map, List.length_take, List.length_reverse]; omega
      have c2 := cutL_drop r (i := (h.idxOf c : Int) + 1) (by omega)
      have e1 : ((h.idxOf c : Int) + 1).toNat = h.idxOf c + 1 := by omega
      rw [e1] at c2
      refine ⟨{ ρ1 with v_letter := [c], v_waiting := ρ1.v_waiting ++ [kid d r h c] }, .inl ?_, ?_, q2, q3, q4, q5, q6⟩
      · unfold subrows_l1
        simp only [dropF, bind1, bind2, pu, slM, mCat, mAdd, mPair, q1, q2, q3, q4, find_idx hch, Option.bind_some, Option.map_some, if_pos hcat, if_pos hrl, if_pos hpush, c2, kid]
      · show ρ1.v_waiting ++ [kid d r h c] = _
        rw [q1, List.take_add_one, hc, List.map_append, List.append_assoc]
        rfl)
  rw [List.length_map, List.take_length] at h2
  exact ⟨ρ', h1, h2, h6, h7⟩
end K60

namespace K60
open PySem L2 ML
def heads (n : Nat) (r : List Nat) : List Nat := r.take (r.length - n)
/-- n letters more of r, behind d -/
def vis : Nat → List Nat → List Nat → List (List Nat)
  | 0, d, _ => [d]
  | n + 1, d, r => ((lets (heads n r)).map (kid d r (heads n r))).flatMap fun k => vis n k.1 k.2
def cb : Nat → Nat
  | 0 => 1
  | n + 1 => 1 + 7 * cb n
theorem pop_top {stk : List (List Nat × List Nat)} {x : List Nat × List Nat} : (stk ++ [x])[(stk ++ [x]).length - 1]? = some x ∧ (stk ++ [x]).dropLast = stk := by
  constructor
  · rw [List.length_append, List.length_singleton, Nat.add_sub_cancel, List.getElem?_append_right (Nat.le_refl _), Nat.sub_self]; rfl
  · rw [List.dropLast_concat]
section
variable (k : Option Nat) (ρ : E_subrows) (ys : List (List Nat)) (d r : List Nat) (stk : List (List Nat × List Nat)) (n : Nat) (hw : ρ.v_waiting = stk ++ [(d, r)]) (hn : (ρ.v_row.length : Int) - ρ.v_lost - (d.length : Int) = (n : Int)) (hrow : ρ.v_row.length ≤ 60) (hl : r.length + d.length ≤ 100) (hs : stk.length ≤ 1000000)
include hw hn hrow hl hs
theorem turn_pos (h0 : n ≠ 0) (hnr : n ≤ r.length) : ∃ ρ', ρ'.v_waiting = stk ++ (lets (heads (n - 1) r)).reverse.map (kid d r (heads (n - 1) r)) ∧ ρ'.v_row = ρ.v_row ∧ ρ'.v_lost = ρ.v_lost ∧ subrows_l2 k (ρ, ys) = some (.nx (ρ', ys)) := by
  have hhl : (heads (n - 1) r).length ≤ 100 := by unfold heads; rw [List.length_take]; omega
  obtain ⟨ρ', h1, h2, h3, h4⟩ := sub_for { ρ with v_waiting := stk, v_done := d, v_rest := r, v_left := (n : Int), v_heads := heads (n - 1) r } d r (heads (n - 1) r) stk rfl rfl rfl rfl hl hhl hs
  refine ⟨ρ', h2, h3, h4, ?_⟩
  obtain ⟨p1, p2⟩ := pop_top (stk := stk) (x := (d, r))
  have b1 : ρ.v_row.length ≤ 16777216 := by omega
  have b2 : d.length ≤ 16777216 := by omega
  have b3 : r.length ≤ 16777216 := by omega
  have hz : decide ((n : Int) = 0) = false := decide_eq_false (by omega)
  have hc : cutL r none (some ((r.length : Int) - (n : Int) + 1)) = heads (n - 1) r := by
    rw [cutL_take r (by omega)]
    unfold heads
    congr 1
    omega
  unfold subrows_l2
  simp only [seqG, liftG, setF, setP, set2, ifG, bind1, bind2, slM, mSub, mAdd, mEq, hw, p1, p2, hn, hz, hc, Option.map_some, Option.bind_some, if_pos b1, if_pos b2, if_pos b3, Bool.false_eq_true, if_false]
  rw [h1]
  rfl
end
section
variable (ρ : E_subrows) (ys : List (List Nat)) (d r : List Nat) (stk : List (List Nat × List Nat)) (hw : ρ.v_waiting = stk ++ [(d, r)]) (hn : (ρ.v_row.length : Int) - ρ.v_lost - (d.length : Int) = 0) (hrow : ρ.v_row.length ≤ 60) (hl : d.length ≤ 100)
include hw hn hrow hl
theorem turn_zero (hy : ys.length < 16777216) : ∃ ρ', ρ'.v_waiting = stk ∧ ρ'.v_row = ρ.v_row ∧ ρ'.v_lost = ρ.v_lost ∧ subrows_l2 none (ρ, ys) = some (.ct (ρ', ys ++ [d])) ∧ (∀ n, ys.length + 1 < n → subrows_l2 (some n) (ρ, ys) = some (.ct (ρ', ys ++ [d]))) ∧ (∀ n, ys.length + 1 = n → subrows_l2 (some n) (ρ, ys) = some (.rt () (ρ', ys ++ [d]))) := by
  obtain ⟨p1, p2⟩ := pop_top (stk := stk) (x := (d, r))
  have b1 : ρ.v_row.length ≤ 16777216 := by omega
  have b2 : d.length ≤ 16777216 := by omega
  refine ⟨{ ρ with v_waiting := stk, v_done := d, v_rest := r, v_left := 0 }, rfl, rfl, rfl, ?_, fun n h => ?_, fun n h => ?_⟩
  · unfold subrows_l2
    simp only [seqG, liftG, setF, setP, set2, ifG, bind1, bind2, mSub, mEq, hw, p1, p2, hn, Option.map_some, Option.bind_some, if_pos b1, if_pos b2, decide_true, if_true, yieldG, if_pos hy]
  · unfold subrows_l2
    simp only [seqG, liftG, setF, setP, set2, ifG, bind1, bind2, mSub, mEq, hw, p1, p2, hn, Option.map_some, Option.bind_some, if_pos b1, if_pos b2, decide_true, if_true, yieldG, if_pos hy, if_pos h]
  · have h' : ¬ ys.length + 1 < n := by omega
    unfold subrows_l2
    simp only [seqG, liftG, setF, setP, set2, ifG, bind1, bind2, mSub, mEq, hw, p1, p2, hn, Option.map_some, Option.bind_some, if_pos b1, if_pos b2, decide_true, if_true, yieldG, if_pos hy, if_neg h', if_pos h]
end
theorem cond_true {ρ : E_subrows} (hw : 0 < ρ.v_waiting.length) : subrows_l2c ρ = some true := by
  unfold subrows_l2c
  have : (0 : Int) < (ρ.v_waiting.length : Int) := by omega
  simp only [bind1, bind2, Option.bind_some, decide_eq_true this]
theorem while_go {k : Option Nat} {ρ ρ' : E_subrows} {ys ys' : List (List Nat)} {m : Nat} (h : subrows_l2 k (ρ, ys) = some (.nx (ρ', ys')) ∨ subrows_l2 k (ρ, ys) = some (.ct (ρ', ys'))) (hw : 0 < ρ.v_waiting.length) : whileG subrows_l2c (subrows_l2 k) (m + 1) (ρ, ys) = whileG subrows_l2c (subrows_l2 k) m (ρ', ys') := by
  conv => lhs; unfold whileG
  rcases h with h | h
  · rw [cond_true hw, h]; rfl
  · rw [cond_true hw, h]; rfl
theorem while_end {k : Option Nat} {ρ : E_subrows} {ys : List (List Nat)} {m : Nat} (hw : ρ.v_waiting = []) : whileG subrows_l2c (subrows_l2 k) (m + 1) (ρ, ys) = some (.nx (ρ, ys)) := by
  have hc : subrows_l2c ρ = some false := by
    unfold subrows_l2c
    simp only [bind1, bind2, Option.bind_some, hw]
    rfl
  unfold whileG
  rw [hc]
  rfl
theorem while_rt {k : Option Nat} {ρ ρ' : E_subrows} {ys ys' : List (List Nat)} {m : Nat} (h : subrows_l2 k (ρ, ys) = some (.rt () (ρ', ys'))) (hw : 0 < ρ.v_waiting.length) : whileG subrows_l2c (subrows_l2 k) (m + 1) (ρ, ys) = some (.rt () (ρ', ys')) := by
  unfold whileG
  rw [cond_true hw, h]
  rfl
theorem kid_room {n : Nat} {d r : List Nat} {c : Nat} (hc : c ∈ lets (heads n r)) (hn : n + 1 ≤ r.length) : (kid d r (heads n r) c).1.length = d.length + 1 ∧ n ≤ (kid d r (heads n r) c).2.length ∧ (kid d r (heads n r) c).2.length < r.length := by
  have h1 := List.idxOf_lt_length_iff.mpr (lets_mem.mp hc)
  unfold kid
  unfold heads at *
  rw [List.length_take] at h1
  refine ⟨by simp, ?_, ?_⟩
  · show n ≤ (r.drop _).length
    rw [List.length_drop]; omega
  · show (r.drop _).length < _
    rw [List.length_drop]; omega
theorem run_all : ∀ (n : Nat) (d r : List Nat) (stk : List (List Nat × List Nat)) (ρ : E_subrows) (ys : List (List Nat)), n ≤ r.length → r.length ≤ 7 → r.length + d.length ≤ 60 → (ρ.v_row.length : Int) - ρ.v_lost - (d.length : Int) = (n : Int) → ρ.v_row.length ≤ 60 → ρ.v_waiting = stk ++ [(d, r)] → stk.length + 7 * n ≤ 1000 → ys.length + cb n ≤ 10000000 →
    ∃ ρ' c, c ≤ cb n ∧ ρ'.v_waiting = stk ∧ ρ'.v_row = ρ.v_row ∧ ρ'.v_lost = ρ.v_lost ∧ (vis n d r).length ≤ cb n ∧ ∀ m, whileG subrows_l2c (subrows_l2 none) (m + c) (ρ, ys) = whileG subrows_l2c (subrows_l2 none) m (ρ', ys ++ vis n d r)
  | 0, d, r, stk, ρ, ys, h1, h7, hl, hn, hrow, hw, hs, hy => by
    obtain ⟨ρ', g1, g2, g3, g4, _⟩ := turn_zero ρ ys d r stk hw hn hrow (by omega) (by have : cb 0 = 1 := rfl; omega)
    exact ⟨ρ', 1, Nat.le_refl _, g1, g2, g3, Nat.le_refl _, fun m => while_go (.inr g4) (by rw [hw]; simp)⟩
  | n + 1, d, r, stk, ρ, ys, h1, h7, hl, hn, hrow, hw, hs, hy => by
    obtain ⟨ρ1, g1, g2, g3, g4⟩ := turn_pos none ρ ys d r stk (n + 1) hw hn hrow (by omega) (by omega) (by omega) h1
    rw [Nat.add_sub_cancel] at g1
    have ecb : cb (n + 1) = 1 + 7 * cb n := rfl
    have hLl : (lets (heads n r)).length ≤ 7 := by
      refine Nat.le_trans (lets_len _) ?_
      unfold heads
      rw [List.length_take]; omega
    have inner : ∀ (L : List Nat) (ρ : E_subrows) (ys : List (List Nat)), (∀ c ∈ L, c ∈ lets (heads n r)) → L.length ≤ 7 → ρ.v_row = ρ1.v_row → ρ.v_lost = ρ1.v_lost → ρ.v_waiting = stk ++ L.reverse.map (kid d r (heads n r)) → ys.length + L.length * cb n ≤ 10000000 →
        ∃ ρ' c, c ≤ L.length * cb n ∧ ρ'.v_waiting = stk ∧ ρ'.v_row = ρ1.v_row ∧ ρ'.v_lost = ρ1.v_lost ∧ ((L.map (kid d r (heads n r))).flatMap fun k => vis n k.1 k.2).length ≤ L.length * cb n ∧ ∀ m, whileG subrows_l2c (subrows_l2 none) (m + c) (ρ, ys) = whileG subrows_l2c (subrows_l2 none) m (ρ', ys ++ (L.map (kid d r (heads n r))).flatMap fun k => vis n k.1 k.2) := by
      intro L
      induction L with
      | nil => exact fun ρ ys _ _ e1 e2 hw _ => ⟨ρ, 0, Nat.zero_le _, by simpa using hw, e1, e2, by simp, fun m => by simp⟩
      | cons x L ih =>
        intro ρ ys hm hL e1 e2 hw hy
        obtain ⟨m1, m2, m3⟩ := kid_room (d := d) (hm x List.mem_cons_self) h1
        have eL : (x :: L).length * cb n = cb n + L.length * cb n := by rw [List.length_cons, Nat.add_mul]; omega
        rw [eL] at hy
        rw [List.length_cons] at hL
        obtain ⟨ρa, ca, a1, a2, a3, a4, a5, a6⟩ := run_all n (kid d r (heads n r) x).1 (kid d r (heads n r) x).2 (stk ++ L.reverse.map (kid d r (heads n r))) ρ ys m2 (by omega) (by omega) (by rw [e1, e2, g2, g3, m1]; omega) (by rw [e1, g2]; exact hrow) (by rw [hw, List.reverse_cons, List.map_append, List.append_assoc]; rfl) (by rw [List.length_append, List.length_map, List.length_reverse]; omega) (by omega)
        obtain ⟨ρb, cc, b1, b2, b3, b4, b5, b6⟩ := ih ρa (ys ++ vis n (kid d r (heads n r) x).1 (kid d r (heads n r) x).2) (fun y hy => hm y (List.mem_cons_of_mem _ hy)) (by omega) (a3.trans e1) (a4.trans e2) a2 (by rw [List.length_append]; omega)
        refine ⟨ρb, ca + cc, by omega, b2, b3, b4, by rw [List.map_cons, List.flatMap_cons, List.length_append]; omega, fun m => ?_⟩
        rw [show m + (ca + cc) = (m + cc) + ca by omega, a6, b6, List.map_cons, List.flatMap_cons, List.append_assoc]
    have hmul : (lets (heads n r)).length * cb n ≤ 7 * cb n := Nat.mul_le_mul_right _ hLl
    obtain ⟨ρ2, c, c1, c2, c3, c4, c5, c6⟩ := inner (lets (heads n r)) ρ1 ys (fun _ h => h) hLl rfl rfl g1 (by omega)
    refine ⟨ρ2, c + 1, by omega, c2, c3.trans g2, c4.trans g3, by show (((lets (heads n r)).map _).flatMap _).length ≤ _; omega, fun m => ?_⟩
    rw [show m + (c + 1) = (m + c) + 1 by omega, while_go (.inl g4) (by rw [hw]; simp), c6]
    rfl
end K60

namespace K60
open PySem L2 ML
theorem sub_start (k : Option Nat) (row : List Nat) (lost : Int) (hl : row.length ≤ 60) : ∃ ρ, ρ.v_waiting = (if 0 ≤ lost ∧ lost ≤ row.length then [([], row)] else []) ∧ ρ.v_row = row ∧ ρ.v_lost = lost ∧ subrows_b k (subrows_i (row, lost, ()), []) = whileG subrows_l2c (subrows_l2 k) FUEL (ρ, []) := by
  have b1 : row.length ≤ 16777216 := by omega
  let ρ0 : E_subrows := { subrows_i (row, lost, ()) with v_waiting := [] }
  have e1 : liftG (setF (fun (ρ : E_subrows) a => { ρ with v_waiting := a }) (pu (bind1 (fun _ => some ()) fun x => some ((aList (tPair tStr tStr) 0).2.2 x)))) (subrows_i (row, lost, ()), ([] : List (List Nat))) = some (.nx (ρ0, [])) := rfl
  have hr : ρ0.v_row = row := rfl
  have hlo : ρ0.v_lost = lost := rfl
  have hw0 : ρ0.v_waiting = [] := rfl
  by_cases hc : 0 ≤ lost ∧ lost ≤ row.length
  · refine ⟨{ ρ0 with v_waiting := [([], row)] }, by rw [if_pos hc], rfl, rfl, ?_⟩
    unfold subrows_b
    show (liftG _ (subrows_i (row, lost, ()), ([] : List (List Nat)))).bind _ = _
    rw [e1]
    show (liftG _ (ρ0, ([] : List (List Nat)))).bind _ = _
    have d1 : decide (0 ≤ lost) = true := decide_eq_true hc.1
    have d2 : decide (lost ≤ (row.length : Int)) = true := decide_eq_true hc.2
    have hz : ([] : List (List Nat × List Nat)).length < 16777216 := by decide
    simp only [liftG, ifP, chainM, bind1, bind2, dropF, pu, mPair, hr, hlo, hw0, d1, d2, hz, if_pos b1, if_true, Option.bind_some, Option.map_some]
    rfl
  · refine ⟨ρ0, by rw [if_neg hc], rfl, rfl, ?_⟩
    unfold subrows_b
    show (liftG _ (subrows_i (row, lost, ()), ([] : List (List Nat)))).bind _ = _
    rw [e1]
    show (liftG _ (ρ0, ([] : List (List Nat)))).bind _ = _
    by_cases h0 : 0 ≤ lost
    · have d1 : decide (0 ≤ lost) = true := decide_eq_true h0
      have d2 : decide (lost ≤ (row.length : Int)) = false := decide_eq_false fun z => hc ⟨h0, z⟩
      simp only [liftG, ifP, chainM, bind1, bind2, nxF, hr, hlo, d1, d2, if_pos b1, if_true, Option.bind_some, Option.map_some, Bool.false_eq_true, if_false]
    · have d1 : decide (0 ≤ lost) = false := decide_eq_false h0
      simp only [liftG, ifP, chainM, bind1, bind2, nxF, hr, hlo, d1, Option.bind_some, Bool.false_eq_true, if_false]
theorem cb_le : ∀ n, n ≤ 7 → cb n ≤ 960800 := by decide
theorem sub_none (row : List Nat) (lost : Int) (hl : row.length ≤ 60) (hc : ¬ (0 ≤ lost ∧ lost ≤ row.length)) : subrows_m (row, lost, ()) = some [] := by
  obtain ⟨ρ, h1, h2, h3, h4⟩ := sub_start none row lost hl
  rw [if_neg hc] at h1
  have hF : FUEL = (FUEL - 1) + 1 := by
    have : FUEL = 1099511627776 := rfl
    omega
  unfold subrows_m endG
  rw [h4, hF, while_end h1]
  rfl
theorem sub_ok (row : List Nat) (n : Nat) (hl : row.length ≤ 7) (hn : n ≤ row.length) : subrows_m (row, (row.length : Int) - n, ()) = some (vis n [] row) := by
  obtain ⟨ρ, h1, h2, h3, h4⟩ := sub_start none row ((row.length : Int) - n) (by omega)
  rw [if_pos (by omega)] at h1
  have hc := cb_le n (by omega)
  obtain ⟨ρ', c, c1, c2, c3, c4, c5, c6⟩ := run_all n [] row [] ρ [] hn hl (by simp; omega) (by rw [h2, h3]; simp; omega) (by rw [h2]; omega) (by rw [h1]; rfl) (by simp; omega) (by simp; omega)
  have hF : FUEL = (FUEL - c - 1 + 1) + c := by
    have : FUEL = 1099511627776 := rfl
    omega
  unfold subrows_m endG
  rw [h4, hF, c6, while_end c2]
  rfl
/-! ### what these are -/
theorem lt_app {d a b : List Nat} {x y : Nat} (h : x < y) : d ++ [x] ++ a < d ++ [y] ++ b := by
  induction d with
  | nil => exact List.cons_lt_cons_iff.mpr (.inl h)
  | cons c d ih => exact List.cons_lt_cons_iff.mpr (.inr ⟨rfl, ih⟩)
theorem idx_heads {n : Nat} {r : List Nat} {c : Nat} (h : c ∈ heads n r) : (heads n r).idxOf c = r.idxOf c := by
  unfold heads at *
  have e : r = r.take (r.length - n) ++ r.drop (r.length - n) := (List.take_append_drop _ r).symm
  conv => rhs; rw [e]
  rw [List.idxOf_append, if_pos h]
theorem vis_mem : ∀ (n : Nat) (d r : List Nat), n ≤ r.length → ∀ x, x ∈ vis n d r ↔ ∃ y, y.Sublist r ∧ y.length = n ∧ x = d ++ y
  | 0, d, r, _, x => by
    unfold vis
    rw [List.mem_singleton]
    constructor
    · rintro rfl; exact ⟨[], List.nil_sublist _, rfl, by simp⟩
    · rintro ⟨y, _, hy, rfl⟩
      rw [List.eq_nil_of_length_eq_zero hy]; simp
  | n + 1, d, r, hn, x => by
    unfold vis
    rw [List.mem_flatMap]
    constructor
    · rintro ⟨k, hk, hx⟩
      obtain ⟨c, hc, rfl⟩ := List.mem_map.mp hk
      obtain ⟨m1, m2, m3⟩ := kid_room (d := d) hc hn
      obtain ⟨y, h1, h2, rfl⟩ := (vis_mem n _ _ m2 x).mp hx
      have hch := lets_mem.mp hc
      have hidx := idx_heads hch
      have hcr : c ∈ r := List.mem_of_mem_take hch
      have hlt := List.idxOf_lt_length_iff.mpr hcr
      refine ⟨c :: y, ?_, by rw [List.length_cons, h2], by unfold kid; simp⟩
      have h1' : y.Sublist (r.drop (r.idxOf c + 1)) := by
        have e : (kid d r (heads n r) c).2 = r.drop ((heads n r).idxOf c + 1) := rfl
        rw [e, hidx] at h1
        exact h1
      have e2 : r.drop (r.idxOf c) = c :: r.drop (r.idxOf c + 1) := by
        rw [List.drop_eq_getElem_cons hlt, List.getElem_idxOf]
      exact ((h1'.cons₂ c).trans (by rw [← e2]; exact List.Sublist.refl _)).trans (List.drop_sublist _ r)
    · rintro ⟨y, hs, hy, rfl⟩
      cases y with
      | nil => cases hy
      | cons c y =>
        rw [List.length_cons] at hy
        -- the first place of c
        have hcr : c ∈ r := hs.subset List.mem_cons_self
        have hlt := List.idxOf_lt_length_iff.mpr hcr
        have hsub : y.Sublist (r.drop (r.idxOf c + 1)) := by
          have aux : ∀ (r : List Nat), (c :: y).Sublist r → y.Sublist (r.drop (r.idxOf c + 1)) := by
            intro r
            induction r with
            | nil => intro h; cases h
            | cons z r ih =>
              intro h
              by_cases hz : z = c
              · subst hz
                rw [List.idxOf_cons_self]
                cases h with
                | cons _ h => exact (List.sublist_cons_self _ _).trans h
                | cons_cons _ h => exact h
              · have hi : (z :: r).idxOf c = r.idxOf c + 1 := by
                  rw [List.idxOf_cons, beq_eq_false_iff_ne.mpr hz]; rfl
                rw [hi]
                cases h with
                | cons _ h => exact ih h
                | cons_cons _ h => exact absurd rfl hz
          exact aux r hs
        have hlen := hsub.length_le
        rw [List.length_drop] at hlen
        have hch : c ∈ heads n r := by
          unfold heads
          refine List.mem_of_getElem? (i := r.idxOf c) ?_
          rw [List.getElem?_take_of_lt (by omega), List.getElem?_eq_getElem hlt, List.getElem_idxOf]
        have hcl : c ∈ lets (heads n r) := lets_mem.mpr hch
        refine ⟨kid d r (heads n r) c, List.mem_map.mpr ⟨c, hcl, rfl⟩, (vis_mem n _ _ (kid_room (d := d) hcl hn).2.1 _).mpr ⟨y, ?_, by omega, by unfold kid; simp⟩⟩
        show y.Sublist (r.drop ((heads n r).idxOf c + 1))
        rw [idx_heads hch]
        exact hsub
theorem vis_sorted : ∀ (n : Nat) (d r : List Nat), n ≤ r.length → (vis n d r).Pairwise (· < ·)
  | 0, d, r, _ => List.pairwise_singleton _ _
  | n + 1, d, r, hn => by
    unfold vis
    rw [List.pairwise_flatMap]
    constructor
    · intro k hk
      obtain ⟨c, hc, rfl⟩ := List.mem_map.mp hk
      exact vis_sorted n _ _ (kid_room (d := d) hc hn).2.1
    · rw [List.pairwise_map]
      refine List.Pairwise.imp_of_mem ?_ (lets_sorted (heads n r))
      intro a b ha hb hab x hx y hy
      obtain ⟨u, _, _, rfl⟩ := (vis_mem n _ _ (kid_room (d := d) ha hn).2.1 _).mp hx
      obtain ⟨v, _, _, rfl⟩ := (vis_mem n _ _ (kid_room (d := d) hb hn).2.1 _).mp hy
      exact lt_app hab
theorem lt_le {a b : List Nat} (h : a < b) : leN a b = true := by
  unfold leN
  rw [Bool.not_eq_true', decide_eq_false_iff_not]
  exact List.not_lt.mpr (List.le_of_lt h)
/-- any list of just these, each once, is this one when it is sorted -/
theorem vis_is (n : Nat) (r : List Nat) (hn : n ≤ r.length) (found : List (List Nat)) (nd : found.Nodup) (hm : ∀ x, x ∈ found ↔ x.Sublist r ∧ x.length = n) : sortT found = vis n [] r := by
  have hs := vis_sorted n [] r hn
  have nv : (vis n [] r).Nodup := hs.imp fun h e => by rw [e] at h; exact absurd h (List.lt_irrefl _)
  refine sorted_unique ?_ (sortT_sorted found) (hs.imp fun h => lt_le h)
  refine (sortT_perm found).trans ((List.perm_ext_iff_of_nodup nd nv).mpr fun x => ?_)
  rw [hm, vis_mem _ _ _ hn]
  constructor
  · exact fun h => ⟨x, h.1, h.2, by simp⟩
  · rintro ⟨y, h1, h2, rfl⟩; exact ⟨by simpa using h1, by simpa using h2⟩
end K60

namespace K60
open PySem L2 ML
theorem then2_of {E α β γ : Type} {f : E → Option (α × E)} {g : E → Option (β × E)} {m : α → β → Option γ} {ρ ρ1 ρ2 : E} {x : α} {y : β} {z : γ} (h1 : f ρ = some (x, ρ1)) (h2 : g ρ1 = some (y, ρ2)) (h3 : m x y = some z) : then2 f g m ρ = some (z, ρ2) := by
  unfold then2
  rw [h1]
  show (g ρ1).bind _ = _
  rw [h2]
  show (m x y).map _ = _
  rw [h3]
  rfl
theorem then1_of {E α γ : Type} {f : E → Option (α × E)} {m : α → Option γ} {ρ ρ1 : E} {x : α} {z : γ} (h1 : f ρ = some (x, ρ1)) (h3 : m x = some z) : then1 f m ρ = some (z, ρ1) := by
  unfold then1
  rw [h1]
  show (m x).map _ = _
  rw [h3]
  rfl
theorem setF_of {E R α : Type} {s : E → α → E} {f : E → Option (α × E)} {ρ ρ1 : E} {x : α} (h1 : f ρ = some (x, ρ1)) : (setF s f ρ : Option (Fl E R)) = some (.nx (s ρ1 x)) := by
  unfold setF
  rw [h1]
  rfl
theorem seqF_of {E R : Type} {f g : E → Option (Fl E R)} {ρ ρ1 : E} (h1 : f ρ = some (.nx ρ1)) : seqF f g ρ = g ρ1 := by
  unfold seqF
  rw [h1]
  rfl
def subs : Nat → List (List Int)
  | 0 => [[]]
  | n + 1 => subs n ++ (subs n).map fun p => p ++ [(n : Int)]
theorem subs_len : ∀ n, (subs n).length = 2 ^ n
  | 0 => rfl
  | n + 1 => by
    show (subs n ++ (subs n).map _).length = _
    rw [List.length_append, List.length_map, subs_len n, Nat.pow_succ]; omega
theorem subs_lt : ∀ n, ∀ p ∈ subs n, p.length ≤ n ∧ ∀ a ∈ p, 0 ≤ a ∧ a < (n : Int)
  | 0, p, hp => by
    rw [List.mem_singleton.mp hp]; simp
  | n + 1, p, hp => by
    rcases List.mem_append.mp hp with h | h
    · obtain ⟨h1, h2⟩ := subs_lt n p h
      exact ⟨by omega, fun a ha => by have := h2 a ha; omega⟩
    · obtain ⟨q, hq, rfl⟩ := List.mem_map.mp h
      obtain ⟨h1, h2⟩ := subs_lt n q hq
      refine ⟨by rw [List.length_append, List.length_singleton]; omega, fun a ha => ?_⟩
      rcases List.mem_append.mp ha with ha | ha
      · have := h2 a ha; omega
      · rw [List.mem_singleton.mp ha]; omega
theorem w_subsets_ok (n : Nat) (hn : n ≤ 7) : w_subsets_m ((n : Int), ()) = some (subs n) := by
  have hp7 : ∀ i, i ≤ 7 → 2 ^ i ≤ 128 := by decide
  have hf := rng1_of (f := pu (bind2 (fun ρ : E_w_subsets => some ρ.v_w_n) (fun _ => some ()) fun x y => some (x, y))) (ρ := { w_subsets_i ((n : Int), ()) with v_w_found := [[]] }) (ρ0 := { w_subsets_i ((n : Int), ()) with v_w_found := [[]] }) (z := (n : Int)) (n := n) rfl rfl (by omega)
  obtain ⟨ρ1, h1, h2⟩ := forF_inv (R := List (List Int)) (s := fun (ρ : E_w_subsets) a => { ρ with v_w_word := a }) (fb := w_subsets_l1) hf (fun i ρ => ρ.v_w_found = subs i) rfl (by
    rintro i x ρ hx q
    obtain ⟨hi, rfl⟩ := rangeL_at hx
    have hsl := subs_len i
    have hpi := hp7 i (by omega)
    obtain ⟨ρ', g1, g2⟩ := lcF_pure (s := fun (ρ : E_w_subsets) a => { ρ with v_w_words := a }) (f := pu (fun ρ => some ρ.v_w_found)) (t := yesE) (fe := then2 (pu (fun ρ : E_w_subsets => some ρ.v_w_words)) (pu (bind1 (bind2 (fun ρ => some ρ.v_w_word) (fun _ => some ()) fun x y => some (x, y)) fun x => some ((aList tInt 1).2.2 x))) fun xs ys => if xs.length + ys.length ≤ 16777216 then some (xs ++ ys) else none)
      (ρ := { ρ with v_w_word := (i : Int) }) (ρ0 := { ρ with v_w_word := (i : Int) }) (xs := subs i) (by show some (ρ.v_w_found, _) = _; rw [q]) (by rw [hsl]; omega) (fun ρ => ρ.v_w_word = (i : Int)) (fun _ => true) (fun p => p ++ [(i : Int)]) rfl (fun p hp ρ2 hz => by
        refine ⟨{ ρ2 with v_w_words := p }, { ρ2 with v_w_words := p }, rfl, hz, fun _ => ⟨?_, hz⟩⟩
        have hz' : ρ2.v_w_word = (i : Int) := hz
        have hl : p.length + [(i : Int)].length ≤ 16777216 := by
          have := (subs_lt i p hp).1
          rw [List.length_singleton]; omega
        have e : pu (bind1 (bind2 (fun ρ : E_w_subsets => some ρ.v_w_word) (fun _ => some ()) fun x y => some (x, y)) fun x => some ((aList tInt 1).2.2 x)) { ρ2 with v_w_words := p } = some ([(i : Int)], { ρ2 with v_w_words := p }) := by
          show some ([ρ2.v_w_word], _) = _
          rw [hz']
        exact then2_of rfl e (if_pos hl))
    have e : ((subs i).filter fun _ => true) = subs i := List.filter_eq_self.mpr fun _ _ => rfl
    rw [e] at g1
    have hl2 : (subs i).length + ((subs i).map fun p => p ++ [(i : Int)]).length ≤ 16777216 := by rw [List.length_map, hsl]; omega
    have hp : pu (fun ρ : E_w_subsets => some ρ.v_w_found) { ρ with v_w_word := (i : Int) } = some (subs i, { ρ with v_w_word := (i : Int) }) := by
      show some (ρ.v_w_found, _) = _
      rw [q]
    exact ⟨{ ρ' with v_w_found := subs (i + 1) }, .inl (setF_of (then2_of hp g1 (if_pos hl2))), rfl⟩)
  rw [rangeL_len] at h2
  unfold w_subsets_m endF w_subsets_b
  have e0 : ((setP (fun (ρ : E_w_subsets) a => { ρ with v_w_found := a }) (bind1 (bind2 (bind1 (fun _ => some ()) fun x => some ((aList tInt 0).2.2 x)) (fun _ => some ()) fun x y => some (x, y)) fun x => some ((aList (tList tInt) 1).2.2 x))) (w_subsets_i ((n : Int), ())) : Option (Fl E_w_subsets (List (List Int)))) = some (.nx { w_subsets_i ((n : Int), ()) with v_w_found := [[]] }) := rfl
  rw [seqF_of e0, seqF_of h1]
  simp only [Option.bind_some, retP, Option.map_some, h2]
/-- the row without the places -/
def remN (row : List Nat) (n : Nat) (p : List Int) : List Nat := ((List.range n).filter fun (i : Nat) => !decide ((i : Int) ∈ p)).map fun (i : Nat) => row.getD i 0
theorem sub_one {y : List Nat} {x : Nat} (h : y.Sublist [x]) : y = [] ∨ y = [x] := by
  cases h with
  | cons _ h => cases h; exact .inl rfl
  | cons_cons _ h => cases h; exact .inr rfl
theorem subs_rem (row : List Nat) : ∀ n, n ≤ row.length → ∀ k y, (∃ p ∈ subs n, p.length = k ∧ y = remN row n p) ↔ (y.Sublist (row.take n) ∧ k + y.length = n)
  | 0, _, k, y => by
    constructor
    · rintro ⟨p, hp, rfl, rfl⟩
      rw [List.mem_singleton.mp hp]
      exact ⟨List.nil_sublist _, rfl⟩
    · rintro ⟨h1, h2⟩
      have hy : y = [] := List.eq_nil_of_length_eq_zero (by omega)
      exact ⟨[], List.mem_singleton.mpr rfl, by simp; omega, hy⟩
  | n + 1, hn, k, y => by
    have ih := subs_rem row n (by omega)
    have hg : row.getD n 0 = row[n] := by rw [List.getD_eq_getElem?_getD, List.getElem?_eq_getElem (by omega)]; rfl
    have ht : row.take (n + 1) = row.take n ++ [row[n]] := by rw [List.take_add_one, List.getElem?_eq_getElem (by omega)]; rfl
    have r1 : ∀ p ∈ subs n, remN row (n + 1) p = remN row n p ++ [row[n]] := fun p hp => by
      have hnp : (n : Int) ∉ p := fun z => by have := ((subs_lt n p hp).2 _ z).2; omega
      unfold remN
      rw [List.range_succ, List.filter_append, List.map_append]
      congr 1
      have hg' : row[n]?.getD 0 = row[n] := by rw [List.getElem?_eq_getElem (by omega)]; rfl
      simp [hnp, hg']
    have r2 : ∀ p ∈ subs n, remN row (n + 1) (p ++ [(n : Int)]) = remN row n p := fun p hp => by
      unfold remN
      rw [List.range_succ, List.filter_append, List.map_append]
      have e1 : ([n].filter fun (i : Nat) => !decide ((i : Int) ∈ p ++ [(n : Int)])) = [] := by simp
      rw [e1, List.map_nil, List.append_nil]
      congr 1
      refine List.filter_congr fun i hi => ?_
      have hi := List.mem_range.mp hi
      have : (i : Int) ≠ (n : Int) := by omega
      congr 1
      rw [decide_eq_decide, List.mem_append, List.mem_singleton]
      exact ⟨fun h => h.elim id fun h => absurd h this, .inl⟩
    rw [ht]
    constructor
    · rintro ⟨p, hp, rfl, rfl⟩
      rcases List.mem_append.mp hp with h | h
      · obtain ⟨i1, i2⟩ := (ih p.length (remN row n p)).mp ⟨p, h, rfl, rfl⟩
        rw [r1 p h, List.length_append, List.length_singleton]
        exact ⟨i1.append (List.Sublist.refl _), by omega⟩
      · obtain ⟨q, hq, rfl⟩ := List.mem_map.mp h
        obtain ⟨i1, i2⟩ := (ih q.length (remN row n q)).mp ⟨q, hq, rfl, rfl⟩
        rw [r2 q hq, List.length_append, List.length_singleton]
        exact ⟨i1.trans (List.sublist_append_left _ _), by omega⟩
    · rintro ⟨h1, h2⟩
      obtain ⟨y1, y2, rfl, h3, h4⟩ := List.sublist_append_iff.mp h1
      rw [List.length_append] at h2
      rcases sub_one h4 with rfl | rfl
      · have hle := h3.length_le
        rw [List.length_take] at hle
        rw [List.length_nil] at h2
        obtain ⟨p, hp, e1, e2⟩ := (ih (k - 1) y1).mpr ⟨h3, by omega⟩
        refine ⟨p ++ [(n : Int)], List.mem_append_right _ (List.mem_map.mpr ⟨p, hp, rfl⟩), by rw [List.length_append, List.length_singleton]; omega, ?_⟩
        rw [r2 p hp, List.append_nil]
        exact e2
      · rw [List.length_singleton] at h2
        obtain ⟨p, hp, e1, e2⟩ := (ih k y1).mpr ⟨h3, by omega⟩
        refine ⟨p, List.mem_append_left _ hp, e1, ?_⟩
        rw [r1 p hp, e2]
end K60

namespace K60
open PySem L2 ML
theorem remN_single (row : List Nat) (p : List Int) : ((rangeL 0 1 row.length).filter fun at' => !decide (at' ∈ p)).map (fun at' => [row.getD at'.toNat 0]) = (remN row row.length p).map fun c => [c] := by
  unfold remN rangeL
  rw [List.filter_map, List.map_map, List.map_map]
  have e : ((fun at' : Int => !decide (at' ∈ p)) ∘ fun (k : Nat) => (0 : Int) + (k : Int) * 1) = fun (i : Nat) => !decide ((i : Int) ∈ p) := by
    funext i
    show (!decide ((0 : Int) + (i : Int) * 1 ∈ p)) = _
    rw [Int.zero_add, Int.mul_one]
  rw [e]
  refine List.map_congr_left fun i _ => ?_
  show [row.getD ((0 : Int) + (i : Int) * 1).toNat 0] = [row.getD i 0]
  rw [Int.zero_add, Int.mul_one, Int.toNat_natCast]
theorem remN_len (row : List Nat) (n : Nat) (p : List Int) : (remN row n p).length ≤ n := by
  unfold remN
  rw [List.length_map]
  exact Nat.le_trans (List.length_filter_le _ _) (by simp)
theorem w_left_ok (row : List Nat) (lost : Int) (hl : row.length ≤ 7) : ∃ found : List (List Nat), w_left_m (row, lost, ()) = some (sortT found) ∧ found.Nodup ∧ ∀ x, x ∈ found ↔ x.Sublist row ∧ lost + (x.length : Int) = (row.length : Int) := by
  have hp7 : ∀ i, i ≤ 7 → 2 ^ i ≤ 128 := by decide
  have hsl := subs_len row.length
  have h128 := hp7 row.length hl
  have b1 : row.length ≤ 16777216 := by omega
  have e0 : ((setF (fun (ρ : E_w_left) a => { ρ with v_w_found := a }) (pu (bind1 (fun _ => some ()) fun x => some ((aList tStr 0).2.2 x)))) (w_left_i (row, lost, ())) : Option (Fl E_w_left (List (List Nat)))) = some (.nx { w_left_i (row, lost, ()) with v_w_found := [] }) := rfl
  have hf : (pu (bind1 (bind2 (bind1 (bind2 (fun ρ : E_w_left => some ρ.v_w_row) (fun _ => some ()) fun x y => some (x, y)) (fun x => if x.1.length ≤ 16777216 then some (x.1.length : Int) else none)) (fun _ => some ()) fun x y => some (x, y)) w_subsets_m)) { w_left_i (row, lost, ()) with v_w_found := [] } = some (subs row.length, { w_left_i (row, lost, ()) with v_w_found := [] }) := by
    have er : (w_left_i (row, lost, ())).v_w_row = row := rfl
    obtain ⟨z, hz⟩ : ∃ z : Int, z = (row.length : Int) := ⟨_, rfl⟩
    have hs : w_subsets_m (z, ()) = some (subs row.length) := by rw [hz]; exact w_subsets_ok row.length hl
    have hb : (if row.length ≤ 16777216 then some (row.length : Int) else none) = some z := by rw [if_pos b1, hz]
    simp only [pu, bind1, bind2, er, Option.bind_some, Option.map_some, hb, hs]
  obtain ⟨ρ1, h1, h2, h3, h4, h5, h6⟩ := forF_inv (R := List (List Nat)) (s := fun (ρ : E_w_left) a => { ρ with v_w_places := a }) (fb := w_left_l1) hf (fun i ρ => ρ.v_w_row = row ∧ ρ.v_w_lost = lost ∧ ρ.v_w_found.Nodup ∧ (∀ x, x ∈ ρ.v_w_found ↔ ∃ j, j < i ∧ ∃ p, (subs row.length)[j]? = some p ∧ (p.length : Int) = lost ∧ x = remN row row.length p) ∧ ρ.v_w_found.length ≤ i) ⟨rfl, rfl, List.nodup_nil, fun x => by simp, Nat.le_refl _⟩ (by
    rintro i p ρ hx ⟨q1, q2, q3, q4, q5⟩
    have hil := (List.getElem?_eq_some_iff.mp hx).1
    rw [hsl] at hil
    -- what is left
    have hr := rng1_of (f := pu (bind2 (bind1 (bind2 (fun ρ : E_w_left => some ρ.v_w_row) (fun _ => some ()) fun x y => some (x, y)) (fun x => if x.1.length ≤ 16777216 then some (x.1.length : Int) else none)) (fun _ => some ()) fun x y => some (x, y))) (ρ := { ρ with v_w_places := p }) (ρ0 := { ρ with v_w_places := p }) (z := (row.length : Int)) (n := row.length) (by
      simp only [pu, bind1, bind2, q1, Option.bind_some, Option.map_some, if_pos b1]) rfl (by omega)
    obtain ⟨ρ2, g1, g2, g3, g4, g5⟩ := lcF_pure (s := fun (ρ : E_w_left) a => { ρ with v_w_at := a }) (t := pu (bind2 (fun ρ : E_w_left => some ρ.v_w_at) (fun ρ => some ρ.v_w_places) mNotIn)) (fe := pu (bind2 (fun ρ : E_w_left => some ρ.v_w_row) (fun ρ => some ρ.v_w_at) mIxS)) hr (by rw [rangeL_len]; exact b1)
      (fun ρ2 => ρ2.v_w_row = row ∧ ρ2.v_w_lost = lost ∧ ρ2.v_w_places = p ∧ ρ2.v_w_found = ρ.v_w_found) (fun at' => !decide (at' ∈ p)) (fun at' => [row.getD at'.toNat 0]) ⟨q1, q2, rfl, rfl⟩ (fun x hxm ρ3 hz => by
        obtain ⟨z1, z2, z3, z4⟩ := hz
        obtain ⟨j, hj⟩ := List.getElem?_of_mem hxm
        obtain ⟨hjl, rfl⟩ := rangeL_at hj
        refine ⟨{ ρ3 with v_w_at := (j : Int) }, { ρ3 with v_w_at := (j : Int) }, ?_, ⟨z1, z2, z3, z4⟩, fun _ => ⟨?_, z1, z2, z3, z4⟩⟩
        · simp only [pu, bind2, mNotIn, Option.bind_some, Option.map_some, z3]
        · have hg : atI row (j : Int) = some row[j] := atI_nat (List.getElem?_eq_getElem hjl)
          have hgd : row.getD (j : Int).toNat 0 = row[j] := by rw [Int.toNat_natCast, List.getD_eq_getElem?_getD, List.getElem?_eq_getElem hjl]; rfl
          simp only [pu, bind2, mIxS, z1, hg, hgd, Option.bind_some, Option.map_some, if_pos b1])
    rw [remN_single] at g1
    have hj : mJoin (lit "") ((remN row row.length p).map fun c => [c]) = some (remN row row.length p) := by
      rw [lit_nil]
      exact mJoin_singles _ (by have := remN_len row row.length p; omega)
    have st1 := setF_of (R := List (List Nat)) (s := fun (ρ : E_w_left) a => { ρ with v_w_left_here := a }) (then2_of (f := pu (fun _ : E_w_left => some (lit ""))) (ρ := { ρ with v_w_places := p }) rfl g1 hj)
    have mem_step : ∀ (L : List (List Nat)), (∀ x, x ∈ L ↔ x ∈ ρ.v_w_found ∨ ((p.length : Int) = lost ∧ x = remN row row.length p)) → ∀ x, x ∈ L ↔ ∃ j, j < i + 1 ∧ ∃ p, (subs row.length)[j]? = some p ∧ (p.length : Int) = lost ∧ x = remN row row.length p := fun L h x => by
      rw [h, q4]
      constructor
      · rintro (⟨j, hj, r⟩ | r)
        · exact ⟨j, by omega, r⟩
        · exact ⟨i, by omega, p, hx, r⟩
      · rintro ⟨j, hj, p', e, r⟩
        by_cases hji : j = i
        · subst hji
          rw [hx] at e
          cases e
          exact .inr r
        · exact .inl ⟨j, by omega, p', e, r⟩
    have hfl : ρ.v_w_found.length < 16777216 := by omega
    by_cases hk : (p.length : Int) = lost
    · have d1 : decide ((p.length : Int) = lost) = true := decide_eq_true hk
      by_cases hin : remN row row.length p ∈ ρ.v_w_found
      · have hdec : ∀ D : Decidable (remN row row.length p ∈ ρ.v_w_found), @decide _ D = true := fun D => @decide_eq_true _ D hin
        refine ⟨{ ρ2 with v_w_left_here := remN row row.length p }, .inl ?_, g2, g3, by show ρ2.v_w_found.Nodup; rw [g5]; exact q3, mem_step _ fun x => ?_, by show ρ2.v_w_found.length ≤ _; rw [g5]; omega⟩
        · unfold w_left_l1
          rw [seqF_of st1]
          simp only [ifP, ML.andM, bind1, bind2, mEq, mNotIn, nxF, g3, g4, g5, hdec, d1, Option.bind_some, if_true, Bool.not_true, Bool.false_eq_true, if_false]
        · show x ∈ ρ2.v_w_found ↔ _
          rw [g5]
          exact ⟨.inl, fun h => h.elim id fun h => by rw [h.2]; exact hin⟩
      · have hdec : ∀ D : Decidable (remN row row.length p ∈ ρ.v_w_found), @decide _ D = false := fun D => @decide_eq_false _ D hin
        refine ⟨{ ρ2 with v_w_left_here := remN row row.length p, v_w_found := ρ.v_w_found ++ [remN row row.length p] }, .inl ?_, g2, g3, ?_, mem_step _ fun x => ?_, by show (ρ.v_w_found ++ [_]).length ≤ _; rw [List.length_append, List.length_singleton]; omega⟩
        · unfold w_left_l1
          rw [seqF_of st1]
          simp only [ifP, ML.andM, bind1, bind2, mEq, mNotIn, dropF, pu, g3, g4, g5, hdec, d1, Option.bind_some, Option.map_some, if_true, Bool.not_false, if_pos hfl]
        · show (ρ.v_w_found ++ [_]).Nodup
          rw [List.nodup_append]
          exact ⟨q3, by simp, fun a ha b hb e => hin (by rw [List.mem_singleton] at hb; rw [← hb, ← e]; exact ha)⟩
        · show x ∈ ρ.v_w_found ++ [_] ↔ _
          rw [List.mem_append, List.mem_singleton]
          exact or_congr_right ⟨fun h => ⟨hk, h⟩, fun h => h.2⟩
    · have d1 : decide ((p.length : Int) = lost) = false := decide_eq_false hk
      refine ⟨{ ρ2 with v_w_left_here := remN row row.length p }, .inl ?_, g2, g3, by show ρ2.v_w_found.Nodup; rw [g5]; exact q3, mem_step _ fun x => ?_, by show ρ2.v_w_found.length ≤ _; rw [g5]; omega⟩
      · unfold w_left_l1
        rw [seqF_of st1]
        simp only [ifP, ML.andM, bind1, bind2, mEq, nxF, g3, g4, d1, Option.bind_some, Bool.false_eq_true, if_false]
      · show x ∈ ρ2.v_w_found ↔ _
        rw [g5]
        exact ⟨.inl, fun h => h.elim id fun h => absurd h.1 hk⟩)
  rw [hsl] at h5 h6
  have hlen : ρ1.v_w_found.length ≤ 16777216 := by omega
  obtain ⟨ρ2, g1, _⟩ := lcF_pure (s := fun (ρ : E_w_left) a => { ρ with v_w_left_here := a }) (f := pu (fun ρ => some ρ.v_w_found)) (t := yesE) (fe := pu (bind1 (bind2 (fun ρ : E_w_left => some ρ.v_w_left_here) (fun _ => some ()) fun x y => some (x, y)) (fun x => some x.1))) (ρ := ρ1) (ρ0 := ρ1) (xs := ρ1.v_w_found) rfl hlen (fun _ => True) (fun _ => true) (fun x => x) trivial (fun x _ ρ _ => ⟨{ ρ with v_w_left_here := x }, { ρ with v_w_left_here := x }, rfl, trivial, fun _ => ⟨rfl, trivial⟩⟩)
  have e : (ρ1.v_w_found.filter fun _ => true).map (fun x => x) = ρ1.v_w_found := by
    rw [List.map_id', List.filter_eq_self.mpr fun _ _ => rfl]
  rw [e] at g1
  refine ⟨ρ1.v_w_found, ?_, h4, fun x => ?_⟩
  · unfold w_left_m endF w_left_b
    rw [seqF_of e0, seqF_of h1]
    simp only [retF, then1, then2]
    rw [g1]
    simp only [Option.map_some, Option.bind_some]
  · rw [h5]
    constructor
    · rintro ⟨j, _, p, e, hk, rfl⟩
      have hp := List.mem_of_getElem? e
      obtain ⟨i1, i2⟩ := (subs_rem row row.length (Nat.le_refl _) p.length (remN row row.length p)).mp ⟨p, hp, rfl, rfl⟩
      rw [List.take_length] at i1
      exact ⟨i1, by omega⟩
    · rintro ⟨i1, i2⟩
      obtain ⟨p, hp, e1, e2⟩ := (subs_rem row row.length (Nat.le_refl _) lost.toNat x).mpr ⟨by rw [List.take_length]; exact i1, by have := i1.length_le; omega⟩
      obtain ⟨j, hj⟩ := List.getElem?_of_mem hp
      have hjl := (List.getElem?_eq_some_iff.mp hj).1
      rw [hsl] at hjl
      exact ⟨j, hjl, p, hj, by have := i1.length_le; omega, e2⟩
end K60

namespace K60
open PySem L2 ML
theorem lets_min {h : List Nat} {c : Nat} (hc : c ∈ h) (hm : ∀ x ∈ h, c ≤ x) : ∃ t, lets h = c :: t := by
  cases e : lets h with
  | nil => have := lets_mem.mpr hc; rw [e] at this; cases this
  | cons a t =>
    have ha : a ∈ h := lets_mem.mp (by rw [e]; exact List.mem_cons_self)
    have hs := lets_sorted h
    rw [e] at hs
    have h1 := hm a ha
    have hc' : c ∈ a :: t := by rw [← e]; exact lets_mem.mpr hc
    rcases List.mem_cons.mp hc' with rfl | h2
    · exact ⟨t, rfl⟩
    · have := (List.pairwise_cons.mp hs).1 c h2
      omega
/-- one step down, to the least letter -/
theorem step_k (k : Option Nat) (ρ : E_subrows) (ys : List (List Nat)) (d r : List Nat) (stk : List (List Nat × List Nat)) (n c : Nat) (hw : ρ.v_waiting = stk ++ [(d, r)]) (hn : (ρ.v_row.length : Int) - ρ.v_lost - (d.length : Int) = ((n + 1 : Nat) : Int)) (hrow : ρ.v_row.length ≤ 60) (hl : r.length + d.length ≤ 100) (hs : stk.length ≤ 100000) (hnr : n + 1 ≤ r.length) (hc : c ∈ heads n r) (hm : ∀ x ∈ heads n r, c ≤ x) :
    ∃ ρ' stk', ρ'.v_waiting = stk' ++ [(d ++ [c], r.drop ((heads n r).idxOf c + 1))] ∧ ρ'.v_row = ρ.v_row ∧ ρ'.v_lost = ρ.v_lost ∧ stk'.length ≤ stk.length + 100 ∧ ∀ m, whileG subrows_l2c (subrows_l2 k) (m + 1) (ρ, ys) = whileG subrows_l2c (subrows_l2 k) m (ρ', ys) := by
  obtain ⟨ρ1, g1, g2, g3, g4⟩ := turn_pos k ρ ys d r stk (n + 1) hw hn hrow hl (by omega) (by omega) hnr
  rw [Nat.add_sub_cancel] at g1
  obtain ⟨t, ht⟩ := lets_min hc hm
  have hll := lets_len (heads n r)
  have hhl : (heads n r).length ≤ 100 := by unfold heads; rw [List.length_take]; omega
  rw [ht] at g1 hll
  rw [List.length_cons] at hll
  refine ⟨ρ1, stk ++ t.reverse.map (kid d r (heads n r)), by rw [g1, List.reverse_cons, List.map_append, List.append_assoc]; rfl, g2, g3, by rw [List.length_append, List.length_map, List.length_reverse]; omega, fun m => while_go (.inl g4) (by rw [hw]; simp)⟩
theorem down (k : Option Nat) (ys : List (List Nat)) (y z : Nat) : ∀ (pre d : List Nat) (stk : List (List Nat × List Nat)) (ρ : E_subrows), (pre ++ [y, z]).Pairwise (· < ·) → ρ.v_waiting = stk ++ [(d, pre ++ [y, z])] → (ρ.v_row.length : Int) - ρ.v_lost - (d.length : Int) = ((pre.length + 1 : Nat) : Int) → ρ.v_row.length ≤ 60 → pre.length + 2 + d.length ≤ 100 → stk.length + 100 * pre.length ≤ 10000 →
    ∃ ρ' stk', ρ'.v_waiting = stk' ++ [(d ++ pre, [y, z])] ∧ ρ'.v_row = ρ.v_row ∧ ρ'.v_lost = ρ.v_lost ∧ stk'.length ≤ 10000 ∧ ∀ m, whileG subrows_l2c (subrows_l2 k) (m + pre.length) (ρ, ys) = whileG subrows_l2c (subrows_l2 k) m (ρ', ys)
  | [], d, stk, ρ, hp, hw, hn, hrow, hl, hs => ⟨ρ, stk, by rw [List.append_nil]; exact hw, rfl, rfl, by simp at hs; omega, fun m => rfl⟩
  | x :: pre, d, stk, ρ, hp, hw, hn, hrow, hl, hs => by
    rw [List.length_cons] at hl hs hn
    have hlen : (x :: pre ++ [y, z]).length = pre.length + 3 := by simp
    have hh : ∃ w, heads (pre.length + 1) (x :: pre ++ [y, z]) = [x, w] ∧ x < w := by
      unfold heads
      rw [hlen, show pre.length + 3 - (pre.length + 1) = 2 by omega]
      cases pre with
      | nil => exact ⟨y, rfl, (List.pairwise_cons.mp hp).1 y (by simp)⟩
      | cons w p => exact ⟨w, rfl, (List.pairwise_cons.mp hp).1 w (by simp)⟩
    obtain ⟨w, hh, hxw⟩ := hh
    obtain ⟨ρ1, stk1, a1, a2, a3, a4, a5⟩ := step_k k ρ ys d (x :: pre ++ [y, z]) stk (pre.length + 1) x hw hn hrow (by rw [hlen]; omega) (by omega) (by rw [hlen]; omega) (by rw [hh]; simp) (by
      rw [hh]
      intro q hq
      rcases List.mem_cons.mp hq with rfl | hq
      · exact Nat.le_refl _
      · rw [List.mem_singleton] at hq; omega)
    have e : (x :: pre ++ [y, z]).drop ((heads (pre.length + 1) (x :: pre ++ [y, z])).idxOf x + 1) = pre ++ [y, z] := by
      rw [hh, List.idxOf_cons_self]; rfl
    rw [e] at a1
    obtain ⟨ρ2, stk2, b1, b2, b3, b4, b5⟩ := down k ys y z pre (d ++ [x]) stk1 ρ1 (List.pairwise_cons.mp hp).2 a1 (by rw [a2, a3, List.length_append, List.length_singleton]; omega) (by rw [a2]; exact hrow) (by rw [List.length_append, List.length_singleton]; omega) (by omega)
    refine ⟨ρ2, stk2, by rw [b1, List.append_assoc]; rfl, b2.trans a2, b3.trans a3, b4, fun m => ?_⟩
    rw [List.length_cons, show m + (pre.length + 1) = (m + pre.length) + 1 by omega, a5, b5]
theorem lets_two {y z : Nat} (h : y < z) : lets [y, z] = [y, z] := by
  obtain ⟨t, ht⟩ := lets_min (h := [y, z]) (c := y) (by simp) (by
    intro q hq
    rcases List.mem_cons.mp hq with rfl | hq
    · exact Nat.le_refl _
    · rw [List.mem_singleton] at hq; omega)
  have hl := lets_len [y, z]
  have hz : z ∈ lets [y, z] := lets_mem.mpr (by simp)
  rw [ht] at hz hl ⊢
  rcases List.mem_cons.mp hz with e | hz
  · omega
  · match t, hz, hl with
    | [q], hz, _ => rw [List.mem_singleton] at hz; rw [hz]
theorem sub_k_tail (ρ : E_subrows) (d pre : List Nat) (y z : Nat) (stk : List (List Nat × List Nat)) (hp : (pre ++ [y, z]).Pairwise (· < ·)) (hw : ρ.v_waiting = stk ++ [(d, pre ++ [y, z])]) (hn : (ρ.v_row.length : Int) - ρ.v_lost - (d.length : Int) = ((pre.length + 1 : Nat) : Int)) (hrow : ρ.v_row.length ≤ 60) (hl : pre.length + 2 + d.length ≤ 90) (hs : stk.length + 100 * pre.length ≤ 10000) :
    ∃ ρ', ∀ m, whileG subrows_l2c (subrows_l2 (some 2)) (m + 3 + pre.length) (ρ, []) = some (.rt () (ρ', [d ++ pre ++ [y], d ++ pre ++ [z]])) := by
  obtain ⟨ρ1, stk1, a1, a2, a3, a4, a5⟩ := down (some 2) [] y z pre d stk ρ hp hw hn hrow (by omega) hs
  have hyz : y < z := (List.pairwise_cons.mp (List.pairwise_append.mp hp).2.1).1 z (by simp)
  have hdl : (d ++ pre).length = d.length + pre.length := List.length_append
  obtain ⟨ρ2, b1, b2, b3, b4⟩ := turn_pos (some 2) ρ1 [] (d ++ pre) [y, z] stk1 1 a1 (by rw [a2, a3, hdl]; omega) (by rw [a2]; exact hrow) (by rw [hdl]; simp; omega) (by omega) (by decide) (by simp)
  have eh : heads (1 - 1) [y, z] = [y, z] := rfl
  have ek : (lets [y, z]).reverse.map (kid (d ++ pre) [y, z] [y, z]) = [(d ++ pre ++ [z], []), (d ++ pre ++ [y], [z])] := by
    rw [lets_two hyz]
    have e1 : [y, z].idxOf y = 0 := List.idxOf_cons_self
    have e2 : [y, z].idxOf z = 1 := by
      rw [List.idxOf_cons, beq_eq_false_iff_ne.mpr (Nat.ne_of_lt hyz)]
      simp
    show [kid (d ++ pre) [y, z] [y, z] z, kid (d ++ pre) [y, z] [y, z] y] = _
    unfold kid
    rw [e1, e2]
    rfl
  rw [eh, ek] at b1
  have b1' : ρ2.v_waiting = (stk1 ++ [(d ++ pre ++ [z], [])]) ++ [(d ++ pre ++ [y], [z])] := b1.trans (List.append_assoc stk1 [(d ++ pre ++ [z], [])] [(d ++ pre ++ [y], [z])]).symm
  have hn2 : ∀ c : Nat, (ρ2.v_row.length : Int) - ρ2.v_lost - ((d ++ pre ++ [c]).length : Int) = 0 := fun c => by
    rw [b2, b3, a2, a3, List.length_append, hdl, List.length_singleton]; omega
  obtain ⟨ρ3, c1, c2, c3, _, c4, _⟩ := turn_zero ρ2 [] (d ++ pre ++ [y]) [z] _ b1' (hn2 y) (by rw [b2, a2]; exact hrow) (by rw [List.length_append, hdl, List.length_singleton]; omega) (by decide)
  have c4 := c4 2 (by decide)
  obtain ⟨ρ4, d1, d2, d3, _, _, d4⟩ := turn_zero ρ3 ([] ++ [d ++ pre ++ [y]]) (d ++ pre ++ [z]) [] _ c1 (by rw [c2, c3]; exact hn2 z) (by rw [c2, b2, a2]; exact hrow) (by rw [List.length_append, hdl, List.length_singleton]; omega) (by rw [List.nil_append, List.length_singleton]; decide)
  have d4 := d4 2 rfl
  refine ⟨ρ4, fun m => ?_⟩
  rw [a5, show m + 3 = ((m + 1) + 1) + 1 by omega, while_go (.inl b4) (by rw [a1]; simp), while_go (.inr c4) (by rw [b1]; simp), while_rt d4 (by rw [c1]; simp)]
  rfl
def preL : List Nat := lit "bcdefghijklmnopqrstuvwx"
theorem sub_k_ok : subrows_k 2 (alpha ++ alpha, 26, ()) = some [97 :: (97 :: (preL ++ [121])), 97 :: (97 :: (preL ++ [122]))] := by
  have hal : (alpha ++ alpha).length = 52 := by decide
  obtain ⟨ρ, h1, h2, h3, h4⟩ := sub_start (some 2) (alpha ++ alpha) 26 (by rw [hal]; decide)
  rw [if_pos (by rw [hal]; decide)] at h1
  have hm1 : ∀ x ∈ heads 25 (alpha ++ alpha), 97 ≤ x := by decide
  obtain ⟨ρ1, stk1, a1, a2, a3, a4, a5⟩ := step_k (some 2) ρ [] [] (alpha ++ alpha) [] 25 97 (by rw [h1]; rfl) (by rw [h2, h3, hal]; rfl) (by rw [h2, hal]; decide) (by rw [hal]; decide) (by decide) (by rw [hal]; decide) (by decide) hm1
  have e1 : (alpha ++ alpha).drop ((heads 25 (alpha ++ alpha)).idxOf 97 + 1) = preL ++ [121, 122] ++ alpha := by decide
  rw [e1] at a1
  have hl2 : (preL ++ [121, 122] ++ alpha).length = 51 := by decide
  obtain ⟨ρ2, stk2, b1, b2, b3, b4, b5⟩ := step_k (some 2) ρ1 [] ([] ++ [97]) (preL ++ [121, 122] ++ alpha) stk1 24 97 a1 (by rw [a2, a3, h2, h3, hal]; rfl) (by rw [a2, h2, hal]; decide) (by rw [hl2]; decide) (by rw [List.length_nil] at a4; omega) (by rw [hl2]; decide) (by decide) (by decide)
  have e2 : (preL ++ [121, 122] ++ alpha).drop ((heads 24 (preL ++ [121, 122] ++ alpha)).idxOf 97 + 1) = preL ++ [121, 122] := by decide
  rw [e2] at b1
  have hpl : preL.length = 23 := by decide
  rw [List.length_nil] at a4
  obtain ⟨ρ3, c1⟩ := sub_k_tail ρ2 ([] ++ [97] ++ [97]) preL 121 122 stk2 (by decide) b1 (by rw [b2, b3, a2, a3, h2, h3, hal, hpl]; rfl) (by rw [b2, a2, h2, hal]; decide) (by rw [hpl]; decide) (by rw [hpl]; omega)
  have hF : FUEL = ((FUEL - 28 + 3 + preL.length) + 1) + 1 := by
    have : FUEL = 1099511627776 := rfl
    omega
  unfold subrows_k endK
  rw [h4, hF, a5, b5, c1]
  rfl
end K60

namespace K60
open PySem L2 ML
theorem seq_ex {E R : Type} {f g : E → Option (Fl E R)} {ρ : E} {r : R} (Q : E → Prop) (h : ∃ ρ', f ρ = some (.nx ρ') ∧ Q ρ') (k : ∀ ρ', Q ρ' → ∃ ρe, g ρ' = some (.rt r ρe)) : ∃ ρe, seqF f g ρ = some (.rt r ρe) := by
  obtain ⟨ρ', h1, h2⟩ := h
  obtain ⟨ρe, h3⟩ := k ρ' h2
  refine ⟨ρe, ?_⟩
  unfold seqF
  rw [h1]
  exact h3
theorem let_get {ls : List (List Nat)} {n : Nat} {cs : List Nat} (h : LetOk ls n cs) {r : Int} (h0 : 0 ≤ r) (h1 : r < n) : ∃ c, c ∈ cs ∧ atI ls r = some [c] := by
  have hr : r.toNat < cs.length := by rw [h.len]; omega
  refine ⟨cs[r.toNat], List.getElem_mem hr, atI_ofNat h0 ?_⟩
  rw [h.eq, List.getElem?_map, List.getElem?_eq_getElem hr]
  rfl
theorem sortT_nil : sortT [] = [] := List.Perm.eq_nil (sortT_perm [])
/-- the two ways to say it agree -/
theorem due_sub (row : List Nat) (lost : Int) (hl : row.length ≤ 7) : ∃ due, w_left_m (row, lost, ()) = some due ∧ subrows_m (row, lost, ()) = some due := by
  obtain ⟨found, h1, h2, h3⟩ := w_left_ok row lost hl
  refine ⟨_, h1, ?_⟩
  by_cases hc : 0 ≤ lost ∧ lost ≤ row.length
  · have e : lost = (row.length : Int) - ((row.length - lost.toNat : Nat) : Int) := by omega
    have hs := sub_ok row (row.length - lost.toNat) hl (by omega)
    rw [← e] at hs
    rw [hs, ← vis_is _ row (by omega) found h2 fun x => ?_]
    rw [h3]
    exact and_congr_right fun _ => by omega
  · rw [sub_none row lost (by omega) hc]
    have e : found = [] := List.eq_nil_iff_forall_not_mem.mpr fun x hx => by
      obtain ⟨g1, g2⟩ := (h3 x).mp hx
      have := g1.length_le
      omega
    rw [e, sortT_nil]
theorem sub_zero (row : List Nat) (hl : row.length ≤ 7) : subrows_m (row, 0, ()) = some [row] := by
  have hs := sub_ok row row.length hl (Nat.le_refl _)
  rw [Int.sub_self] at hs
  rw [hs]
  have hm := vis_mem row.length [] row (Nat.le_refl _)
  have hso := vis_sorted row.length [] row (Nat.le_refl _)
  have all : ∀ x ∈ vis row.length [] row, x = row := fun x hx => by
    obtain ⟨y, h1, h2, rfl⟩ := (hm x).mp hx
    exact h1.eq_of_length h2
  have hin : row ∈ vis row.length [] row := (hm row).mpr ⟨row, List.Sublist.refl _, rfl, rfl⟩
  generalize vis row.length [] row = L at all hin hso
  match L, all, hin, hso with
  | [a], all, _, _ => rw [all a List.mem_cons_self]
  | a :: b :: t, all, _, hso =>
    have h1 := all a List.mem_cons_self
    have h2 := all b (List.mem_cons_of_mem _ List.mem_cons_self)
    have := (List.pairwise_cons.mp hso).1 b List.mem_cons_self
    rw [h1, h2] at this
    exact absurd this (List.lt_irrefl _)
theorem sub_full (row : List Nat) (hl : row.length ≤ 7) : subrows_m (row, (row.length : Int), ()) = some [[]] := by
  have hs := sub_ok row 0 hl (Nat.zero_le _)
  have e : (row.length : Int) - ((0 : Nat) : Int) = (row.length : Int) := by omega
  rw [e] at hs
  exact hs
theorem law_true (ns : List Int) (h : ns.length ≤ 63) : law_m (ns, ()) = some true := by
  have main : ∃ ρe, law_b (law_i (ns, ())) = some (.rt true ρe) := by
    unfold law_b
    obtain ⟨b0, hb0, ok0⟩ := w_box_ok ns h
    refine seq_ex (fun ρ => BoxOk ρ.v_w_box_here) ⟨{ law_i (ns, ()) with v_w_box_here := b0 }, ?_, ok0⟩ fun ρ1 ok1 => ?_
    · have e : (law_i (ns, ())).v_w_script = ns := rfl
      simp only [setF, then1, pu, bind2, e, hb0, Option.bind_some, Option.map_some]
    refine seq_ex (fun ρ => BoxOk ρ.v_w_box_here ∧ ∃ n cs, LetOk ρ.v_w_letters_here n cs ∧ 1 ≤ n ∧ n ≤ 5) ?_ fun ρ2 q2 => ?_
    · obtain ⟨r, b1, t1, t2, t3, t4⟩ := w_take_ok ρ1.v_w_box_here 4 ok1 (by decide) (by decide)
      obtain ⟨ls, b2, cs, l1, l2, l3⟩ := w_letters_ok b1 (1 + r) t4 (by omega) (by omega)
      refine ⟨{ ρ1 with v_w_box_here := b2, v_w_letters_here := ls }, ?_, l2, _, cs, l3, by omega, by omega⟩
      simp only [setF, lendE, then2, pu, bind2, mAdd, Option.bind_some, Option.map_some, t1, l1]
    obtain ⟨ok2, n, cs, let2, n1, n5⟩ := q2
    refine seq_ex (fun ρ => BoxOk ρ.v_w_box_here ∧ ρ.v_w_letters_here = ρ2.v_w_letters_here ∧ ρ.v_w_row = []) ⟨{ ρ2 with v_w_row := [] }, rfl, ok2, rfl, rfl⟩ fun ρ3 q3 => ?_
    obtain ⟨ok3, el3, er3⟩ := q3
    -- the row
    refine seq_ex (fun ρ => BoxOk ρ.v_w_box_here ∧ ρ.v_w_row.length ≤ 7) ?_ fun ρ4 q4 => ?_
    · obtain ⟨r, b1, t1, t2, t3, t4⟩ := w_take_ok ρ3.v_w_box_here 8 ok3 (by decide) (by decide)
      have hz : ∃ m : Nat, (2 + r).fmod 8 = (m : Int) ∧ m ≤ 7 := by
        have h1 := Int.fmod_nonneg_of_pos (2 + r) (b := 8) (by decide)
        have h2 := Int.fmod_lt_of_pos (2 + r) (b := 8) (by decide)
        exact ⟨((2 + r).fmod 8).toNat, by omega, by omega⟩
      obtain ⟨m, hm, hm5⟩ := hz
      have h60 : (8 : Int) ≠ 0 := by decide
      have hf := rng1_of (f := (then2 (then2 (then1 (then2 (then2 (pu (fun _ : E_law => some 2)) (lendE (fun ρ : E_law => ρ.v_w_box_here) (fun (ρ : E_law) a => { ρ with v_w_box_here := a }) (pu (bind2 (fun _ => some 8) (fun _ => some ()) fun x y => some (x, y))) w_take_m) mAdd) (fun ρ => some ((), ρ)) fun x y => some (x, y)) (fun x => some x.1)) (pu (fun _ => some 8)) mMod) (fun ρ => some ((), ρ)) fun x y => some (x, y))) (ρ := ρ3) (ρ0 := { ρ3 with v_w_box_here := b1 }) (z := (2 + r).fmod 8) (n := m) (by
        simp only [lendE, then1, then2, pu, bind2, mAdd, mMod, Option.bind_some, Option.map_some, t1, if_pos h60]) hm (by omega)
      obtain ⟨ρ', g1, g2, g3, g4⟩ := forF_inv (s := fun (ρ : E_law) a => { ρ with v_w_k := a }) (fb := law_l1) hf (fun i ρ => BoxOk ρ.v_w_box_here ∧ ρ.v_w_letters_here = ρ2.v_w_letters_here ∧ ρ.v_w_row.length ≤ i) ⟨t4, el3, by show ρ3.v_w_row.length ≤ 0; rw [er3]; exact Nat.le_refl _⟩ (by
        rintro i x ρ hx ⟨p1, p2, p3⟩
        have hi := (rangeL_at hx).1
        have hlen : (ρ.v_w_letters_here.length : Int) = n := by rw [p2, let2.eq, List.length_map, let2.len]
        obtain ⟨r, b2, u1, u2, u3, u4⟩ := w_take_ok ρ.v_w_box_here n p1 (by omega) (by omega)
        obtain ⟨c, _, hc⟩ := let_get let2 u2 u3
        have hcat : ρ.v_w_row.length + [c].length ≤ 16777216 := by rw [List.length_singleton]; omega
        refine ⟨{ ρ with v_w_k := x, v_w_box_here := b2, v_w_row := ρ.v_w_row ++ [c] }, .inl ?_, u4, p2, by show (ρ.v_w_row ++ [c]).length ≤ _; rw [List.length_append, List.length_singleton]; omega⟩
        unfold law_l1
        simp only [setF, lendE, then2, pu, bind1, bind2, mIx, mCat, Option.bind_some, Option.map_some, hlen, u1]
        rw [p2]
        simp only [hc, Option.bind_some, Option.map_some, if_pos hcat])
      rw [rangeL_len] at g4
      exact ⟨ρ', g1, g2, by omega⟩
    obtain ⟨ok4, hrow⟩ := q4
    have len_le : ρ4.v_w_row.length ≤ 16777216 := by omega
    -- how many are lost
    refine seq_ex (fun ρ => BoxOk ρ.v_w_box_here ∧ ρ.v_w_row = ρ4.v_w_row) ?_ fun ρ5 q5 => ?_
    · obtain ⟨z, hz⟩ : ∃ z : Int, z = (ρ4.v_w_row.length : Int) := ⟨_, rfl⟩
      obtain ⟨r, b1, t1, t2, t3, t4⟩ := w_take_ok ρ4.v_w_box_here (z + 3) ok4 (by omega) (by omega)
      refine ⟨{ ρ4 with v_w_box_here := b1, v_w_lost := r - 1 }, ?_, t4, rfl⟩
      simp only [setF, lendE, then2, pu, bind1, bind2, mAdd, mSub, Option.bind_some, Option.map_some, if_pos len_le, ← hz, t1]
    obtain ⟨ok5, hr5⟩ := q5
    -- what is due
    obtain ⟨due, hd1, hd2⟩ := due_sub ρ4.v_w_row ρ5.v_w_lost hrow
    refine seq_ex (fun ρ => BoxOk ρ.v_w_box_here ∧ ρ.v_w_row = ρ4.v_w_row ∧ ρ.v_w_lost = ρ5.v_w_lost ∧ ρ.v_w_due = due) ⟨{ ρ5 with v_w_due := due }, ?_, ok5, hr5, rfl, rfl⟩ fun ρ6 q6 => ?_
    · simp only [setP, bind1, bind2, Option.bind_some, Option.map_some, hr5, hd1]
    obtain ⟨ok6, hr6, hl6, hdue⟩ := q6
    -- twice the same
    refine seq_ex (fun ρ => BoxOk ρ.v_w_box_here ∧ ρ.v_w_row = ρ4.v_w_row) ?_ fun ρ7 q7 => ?_
    · have hf := rng1_of (f := pu (bind2 (fun _ : E_law => some 2) (fun _ => some ()) fun x y => some (x, y))) (ρ := ρ6) (ρ0 := ρ6) (z := 2) (n := 2) rfl rfl (by omega)
      obtain ⟨ρ', g1, g2, g3, g4⟩ := forF_inv (s := fun (ρ : E_law) a => { ρ with v_w_turn := a }) (fb := law_l2) hf (fun i ρ => BoxOk ρ.v_w_box_here ∧ ρ.v_w_row = ρ4.v_w_row ∧ ρ.v_w_lost = ρ5.v_w_lost ∧ ρ.v_w_due = due) ⟨ok6, hr6, hl6, hdue⟩ (by
        rintro i x ρ hx ⟨p1, p2, p3, p4⟩
        refine ⟨{ ρ with v_w_turn := x }, .inl ?_, p1, p2, p3, p4⟩
        unfold law_l2
        simp only [ifP, bind1, bind2, mNe, nxF, Option.bind_some, p2, p3, p4, hd2, decide_true, Bool.not_true, Bool.false_eq_true, if_false])
      exact ⟨ρ', g1, g2, g3⟩
    obtain ⟨ok7, hr7⟩ := q7
    -- none lost, all lost
    refine seq_ex (fun ρ => BoxOk ρ.v_w_box_here ∧ ρ.v_w_row = ρ4.v_w_row) ⟨ρ7, ?_, ok7, hr7⟩ fun ρ8 q8 => ?_
    · obtain ⟨z, hz⟩ : ∃ z : Int, z = (ρ4.v_w_row.length : Int) := ⟨_, rfl⟩
      have s1 := sub_zero ρ4.v_w_row hrow
      have s2 := sub_full ρ4.v_w_row hrow
      rw [← hz] at s2
      have c1 : (aList tStr 1).2.2 (ρ4.v_w_row, ()) = [ρ4.v_w_row] := rfl
      have c2 : (aList tStr 1).2.2 (lit "", ()) = [[]] := rfl
      simp only [ifP, ML.orM, bind1, bind2, mNe, nxF, Option.bind_some, hr7, s1, if_pos len_le, ← hz, s2, c1, c2, decide_true, Bool.not_true, Bool.false_eq_true, if_false]
      have dd : ∀ (a b : List (List Nat)) (D : Decidable (a = b)), a = b → @decide (a = b) D = true := fun a b D e => @decide_eq_true _ D e
      rw [dd [ρ4.v_w_row], dd [[]]]
      all_goals rfl
    obtain ⟨ok8, hr8⟩ := q8
    -- fewer than none, more than all
    refine seq_ex (fun _ => True) ?_ fun ρ9 _ => ?_
    · obtain ⟨r, b1, t1, t2, t3, t4⟩ := w_take_ok ρ8.v_w_box_here 9 ok8 (by decide) (by decide)
      refine ⟨{ ρ8 with v_w_box_here := b1 }, ?_, trivial⟩
      obtain ⟨z, hz⟩ : ∃ z : Int, z = (ρ4.v_w_row.length : Int) := ⟨_, rfl⟩
      have s1 := sub_none ρ4.v_w_row (-1 - r) (by omega) (by omega)
      have s2 := sub_none ρ4.v_w_row (z + 1) (by omega) (by omega)
      have c1 : (aList tStr 0).2.2 () = [] := rfl
      simp only [ifF, ML.orE, then1, then2, lendE, pu, bind1, bind2, mNe, mSub, mAdd, nxF, Option.bind_some, Option.map_some, hr8, t1, s1, if_pos len_le, ← hz, s2, c1, decide_true, Bool.not_true, Bool.false_eq_true, if_false]
    refine seq_ex (fun ρ => ρ.v_w_every = alpha) ⟨{ ρ9 with v_w_every := alpha }, rfl, rfl⟩ fun ρ10 e10 => ?_
    refine seq_ex (fun ρ => ρ.v_w_every = alpha ∧ ρ.v_w_found = []) ⟨{ ρ10 with v_w_found := [] }, rfl, e10, rfl⟩ fun ρ11 q11 => ?_
    obtain ⟨e11, f11⟩ := q11
    refine seq_ex (fun ρ => ρ.v_w_every = alpha ∧ ρ.v_w_found = [97 :: (97 :: (preL ++ [121])), 97 :: (97 :: (preL ++ [122]))]) ⟨{ ρ11 with v_w_found := [97 :: (97 :: (preL ++ [121])), 97 :: (97 :: (preL ++ [122]))], v_w_one := 97 :: (97 :: (preL ++ [122])) }, ?_, e11, rfl⟩ fun ρ12 q12 => ?_
    · have hr : mRepS alpha 2 = some (alpha ++ alpha) := by decide
      unfold lazyF
      simp only [f11, bind2, Option.bind_some, e11, hr, sub_k_ok]
    obtain ⟨e12, f12⟩ := q12
    have hal : alpha.length ≤ 16777216 := by rw [alpha_len]; decide
    have c1 : cutL alpha none (some (-1)) = 97 :: (preL ++ [121]) := by decide
    have c2 : cutL alpha none (some (-2)) = 97 :: preL := by decide
    have m1 : mCat (lit "a") (97 :: (preL ++ [121])) = some (97 :: 97 :: (preL ++ [121])) := by decide
    have m2 : mCat (lit "a") (97 :: preL) = some (97 :: 97 :: preL) := by decide
    have m3 : mCat (97 :: 97 :: preL) (lit "z") = some (97 :: 97 :: (preL ++ [122])) := by decide
    refine ⟨ρ12, ?_⟩
    simp only [retP, bind1, bind2, slM, mEq, Option.bind_some, Option.map_some, e12, f12, if_pos hal, c1, c2, m1, m2, m3]
    refine congrArg (fun b => some (Fl.rt b ρ12)) (decide_eq_true ?_)
    rfl
  obtain ⟨ρe, hm⟩ := main
  unfold law_m endF
  rw [hm]
  rfl
end K60

namespace K60
open PySem PySem.Spec PyProof.Rows L2 ML
def topS (i : Nat) : Stmt := PySem.Challenge.pw_murmurline_k60_lost_letters.main.body.getD i (.Pass ⟨0, 0, 0, 0⟩)
abbrev s_w_box : Stmt := topS 4
abbrev s_w_take : Stmt := topS 5
abbrev s_w_letters : Stmt := topS 6
abbrev s_w_subsets : Stmt := topS 3
abbrev s_w_left : Stmt := topS 7
abbrev s_subrows : Stmt := topS 1
abbrev s_law : Stmt := topS 8
structure Tx (K : Fg) (mg : Str → Option Value) where
  f_w_box : Addr
  fd_w_box : FuncData
  F_w_box : Fun K "_law_box" "_law_box" s_w_box f_w_box fd_w_box
  g_w_box : mg "_law_box" = some (.ref f_w_box)
  b_w_box : Binds K fd_w_box ["_law_script"] []
  f_w_take : Addr
  fd_w_take : FuncData
  F_w_take : Fun K "_law_take" "_law_take" s_w_take f_w_take fd_w_take
  g_w_take : mg "_law_take" = some (.ref f_w_take)
  b_w_take : Binds K fd_w_take ["_law_box_here", "_law_many"] []
  f_w_letters : Addr
  fd_w_letters : FuncData
  F_w_letters : Fun K "_law_letters" "_law_letters" s_w_letters f_w_letters fd_w_letters
  g_w_letters : mg "_law_letters" = some (.ref f_w_letters)
  b_w_letters : Binds K fd_w_letters ["_law_box_here", "_law_many"] []
  f_w_subsets : Addr
  fd_w_subsets : FuncData
  F_w_subsets : Fun K "_law_subsets" "_law_subsets" s_w_subsets f_w_subsets fd_w_subsets
  g_w_subsets : mg "_law_subsets" = some (.ref f_w_subsets)
  b_w_subsets : Binds K fd_w_subsets ["_law_n"] []
  f_w_left : Addr
  fd_w_left : FuncData
  F_w_left : Fun K "_law_left" "_law_left" s_w_left f_w_left fd_w_left
  g_w_left : mg "_law_left" = some (.ref f_w_left)
  b_w_left : Binds K fd_w_left ["_law_row", "_law_lost"] []
  f_subrows : Addr
  fd_subrows : FuncData
  F_subrows : Fun K "subrows" "subrows" s_subrows f_subrows fd_subrows
  g_subrows : mg "subrows" = some (.ref f_subrows)
  b_subrows : Binds K fd_subrows ["row", "lost"] []
  f_law : Addr
  fd_law : FuncData
  F_law : Fun K "law" "law" s_law f_law fd_law
  g_law : mg "law" = some (.ref f_law)
  b_law : Binds K fd_law ["_law_script"] []
  n_abs : mg "abs" = none
  n_int : mg "int" = none
  n_len : mg "len" = none
  n_list : mg "list" = none
  n_range : mg "range" = none
  n_set : mg "set" = none
  n_sorted : mg "sorted" = none
  n_str : mg "str" = none
theorem sc_w_box : FnScope ["_law_script", "_law_cell"] ["_law_script"] (defScope s_w_box) := ⟨rfl, rfl, rfl, by decide +kernel, rfl, by decide +kernel, by decide +kernel⟩
theorem ok_w_box {P : Program} {w : World} {K : Fg} {mg : Str → Option Value} {base : Heap} (T : Tx K mg) : FnOk P w K mg base CX0 1 T.f_w_box T.fd_w_box ["_law_script"] (spO K (aCons (tList tInt) aNil) oBox w_box_m) := by
  have nd := sc_w_box.nd
  refine fn_O (init := w_box_i) (Γ := [.dat (tList tInt) (fun ρ : E_w_box => ρ.v_w_script), .any]) (Γn := [.dat (tList tInt) (fun ρ : E_w_box => ρ.v_w_script), .any]) (body := w_box_b) T.F_w_box sc_w_box (fun K B vs a h => by obtain ⟨_, _, rfl, _, h⟩ := h; cases h; rfl) rfl (fun K B vs a h => by obtain ⟨_, _, rfl, h0, h⟩ := h; cases h; exact ⟨h0, fun k hk => by simpa using hk⟩) (fun cdv A outer s H E' hr => ?_)
  exact (svs_one (sv_retO (emo_box (ema_cons (em_list (emo_lc (i := 1) (g := (fun ρ : E_w_box => ρ.v_w_cell)) (s := (fun (ρ : E_w_box) a => { ρ with v_w_cell := a })) nd (im_list (em_of (ev_list (evo_slL (ev_var (i := 0) rfl) ep_none (ep_some ev_int))))) rfl (fun _ _ => rfl) ⟨(fun _ _ => rfl), trivial⟩ (blkOk_by (N := ["_law_script", "_law_cell"]) (sc := defScope s_w_box) (by decide +kernel)) (fun _ _ _ _ _ => emc_nil) (fun _ _ _ _ _ => (em_of (ev_callB call_abs ra_abs T.n_abs (by decide +kernel) (ea_cons (ev_callTy call_int1 ra_int T.n_int (by decide +kernel) (ea_cons (ev_var (i := 1) rfl) ea_nil)) ea_nil)))))) (ema_cons (em_of ev_int) (ema_cons (em_of ev_int) (ema_cons (em_of ev_int) ema_nil)))))))
theorem sc_w_take : FnScope ["_law_box_here", "_law_many", "_law_digit", "_law_cell"] ["_law_box_here", "_law_many"] (defScope s_w_take) := ⟨rfl, rfl, rfl, by decide +kernel, rfl, by decide +kernel, by decide +kernel⟩
theorem ok_w_take {P : Program} {w : World} {K : Fg} {mg : Str → Option Value} {base : Heap} (T : Tx K mg) : FnOk P w K mg base CX0 1 T.f_w_take T.fd_w_take ["_law_box_here", "_law_many"] (spL K oBox (aCons tInt aNil) tInt w_take_m) := by
  have nd := sc_w_take.nd
  refine fn_L (g := fun ρ => ρ.v_w_box_here) (init := w_take_i) (Γr := [.dat tInt (fun ρ : E_w_take => ρ.v_w_many), .any, .any]) (Γe := fun p => [.ownAt p oBox (fun ρ : E_w_take => ρ.v_w_box_here), .dat tInt (fun ρ : E_w_take => ρ.v_w_many), .any, .any]) (body := w_take_b) (nv := none) T.F_w_take sc_w_take (fun K B vs a h => by obtain ⟨_, _, rfl, _, h⟩ := h; cases h; rfl) rfl (fun _ _ => rfl) (fun K B vs b a h => by obtain ⟨_, _, rfl, h0, h⟩ := h; cases h; exact ⟨h0, fun k hk => by simpa using hk⟩) (fun r h => nomatch h) (fun p => .inr rfl) (fun p cdv A outer s H E' hr => ?_)
  exact (svs_cons (sv_if (Γn := [.ownAt p oBox (fun ρ : E_w_take => ρ.v_w_box_here), .dat tInt (fun ρ : E_w_take => ρ.v_w_many), .any, .any]) (et_cmp op_gt r_gt (ev_box (i := 0) (n := 2) (.inr ⟨p, rfl⟩) (by decide)) ev_int)
      (svs_cons (sv_set (i := 2) (g := (fun ρ : E_w_take => ρ.v_w_digit)) (s := (fun (ρ : E_w_take) a => { ρ with v_w_digit := a })) (ev_op op_modN r_mod (ev_callTy call_int1 ra_int T.n_int (by decide +kernel) (ea_cons (ev_box (i := 0) (n := 2) (.inr ⟨p, rfl⟩) (by decide)) ea_nil)) (ev_var (i := 1) rfl)) nd (fun _ _ => rfl) ⟨(fun _ _ => rfl), (fun _ _ => rfl), trivial, trivial⟩ (ltl (n := 4) (by decide) rfl))
      (svs_cons (sv_boxSet (i := 0) (n := 2) (s := (fun (ρ : E_w_take) a => { ρ with v_w_box_here := a })) (.inr ⟨p, rfl⟩) (em_of (ev_op op_fdivN r_fdiv (ev_box (i := 0) (n := 2) (.inr ⟨p, rfl⟩) (by decide)) (ev_var (i := 1) rfl))) (fun _ _ => rfl) ⟨(fun _ _ => rfl), (fun _ _ => rfl), trivial, trivial⟩ (by decide))
      (svs_one (sv_ret (ev_var (i := 2) rfl)))))
      svs_nil (WeakL.refl _) (WeakL.refl _))
      (svs_cons (sv_set (i := 3) (g := (fun ρ : E_w_take => ρ.v_w_cell)) (s := (fun (ρ : E_w_take) a => { ρ with v_w_cell := a })) ev_int nd (fun _ _ => rfl) ⟨(fun _ _ => rfl), (fun _ _ => rfl), trivial, trivial⟩ (ltl (n := 4) (by decide) rfl))
      (svs_cons (sv_if (Γn := [.ownAt p oBox (fun ρ : E_w_take => ρ.v_w_box_here), .dat tInt (fun ρ : E_w_take => ρ.v_w_many), .any, .dat tInt (fun ρ : E_w_take => ρ.v_w_cell)]) (et_cmp op_lt r_lt (ev_box (i := 0) (n := 1) (.inr ⟨p, rfl⟩) (by decide)) (ev_callB call_len_seq ra_lenL T.n_len (by decide +kernel) (ea_cons (ev_box0 (i := 0) (.inr ⟨p, rfl⟩)) ea_nil)))
      (svs_cons (sv_set (i := 3) (g := (fun ρ : E_w_take => ρ.v_w_cell)) (s := (fun (ρ : E_w_take) a => { ρ with v_w_cell := a })) (ev_ix ix_list r_ixL (ev_box0 (i := 0) (.inr ⟨p, rfl⟩)) (ev_box (i := 0) (n := 1) (.inr ⟨p, rfl⟩) (by decide))) nd (fun _ _ => rfl) ⟨(fun _ _ => rfl), (fun _ _ => rfl), trivial, trivial⟩ (ltl (n := 4) (by decide) rfl))
      (svs_one (sv_boxSet (i := 0) (n := 1) (s := (fun (ρ : E_w_take) a => { ρ with v_w_box_here := a })) (.inr ⟨p, rfl⟩) (em_of (ev_op op_add r_add (ev_box (i := 0) (n := 1) (.inr ⟨p, rfl⟩) (by decide)) ev_int)) (fun _ _ => rfl) ⟨(fun _ _ => rfl), trivial, (fun _ _ => rfl), trivial⟩ (by decide))))
      svs_nil (WeakL.refl _) (WeakL.refl _))
      (svs_cons (sv_if (Γn := [.ownAt p oBox (fun ρ : E_w_take => ρ.v_w_box_here), .dat tInt (fun ρ : E_w_take => ρ.v_w_many), .any, .dat tInt (fun ρ : E_w_take => ρ.v_w_cell)]) (et_cmp op_ge r_ge (ev_var (i := 3) rfl) (ev_op op_pow r_pow ev_int ev_int))
      (svs_cons (sv_boxSet (i := 0) (n := 2) (s := (fun (ρ : E_w_take) a => { ρ with v_w_box_here := a })) (.inr ⟨p, rfl⟩) (em_of (ev_op op_fdivN r_fdiv (ev_var (i := 3) rfl) (ev_var (i := 1) rfl))) (fun _ _ => rfl) ⟨(fun _ _ => rfl), trivial, (fun _ _ => rfl), trivial⟩ (by decide))
      (svs_one (sv_ret (ev_op op_modN r_mod (ev_callTy call_int1 ra_int T.n_int (by decide +kernel) (ea_cons (ev_var (i := 3) rfl) ea_nil)) (ev_var (i := 1) rfl)))))
      svs_nil (WeakL.refl _) (WeakL.refl _))
      (svs_cons (sv_boxSet (i := 0) (n := 3) (s := (fun (ρ : E_w_take) a => { ρ with v_w_box_here := a })) (.inr ⟨p, rfl⟩) (em_of (ev_op op_modN r_mod (ev_callTy call_int1 ra_int T.n_int (by decide +kernel) (ea_cons (ev_op op_add r_add (ev_op op_mul r_mul (ev_box (i := 0) (n := 3) (.inr ⟨p, rfl⟩) (by decide)) ev_int) (ev_var (i := 3) rfl)) ea_nil)) ev_int)) (fun _ _ => rfl) ⟨(fun _ _ => rfl), trivial, (fun _ _ => rfl), trivial⟩ (by decide))
      (svs_one (sv_ret (ev_op op_modN r_mod (ev_callTy call_int1 ra_int T.n_int (by decide +kernel) (ea_cons (ev_op op_fdivN r_fdiv (ev_op op_modN r_mod (ev_callTy call_int1 ra_int T.n_int (by decide +kernel) (ea_cons (ev_op op_mul r_mul (ev_box (i := 0) (n := 3) (.inr ⟨p, rfl⟩) (by decide)) ev_int) ea_nil)) ev_int) ev_int) ea_nil)) (ev_var (i := 1) rfl)))))))))
theorem sc_w_letters : FnScope ["_law_box_here", "_law_many", "_law_pool", "_law_found", "_law_k", "_law_at"] ["_law_box_here", "_law_many"] (defScope s_w_letters) := ⟨rfl, rfl, rfl, by decide +kernel, rfl, by decide +kernel, by decide +kernel⟩
theorem ok_w_letters {P : Program} {w : World} {K : Fg} {mg : Str → Option Value} {base : Heap} (T : Tx K mg) : FnOk P w K mg base CX0 2 T.f_w_letters T.fd_w_letters ["_law_box_here", "_law_many"] (spL K oBox (aCons tInt aNil) (tList tStr) w_letters_m) := by
  have nd := sc_w_letters.nd
  refine fn_L (g := fun ρ => ρ.v_w_box_here) (init := w_letters_i) (Γr := [.dat tInt (fun ρ : E_w_letters => ρ.v_w_many), .any, .any, .any, .any]) (Γe := fun p => [.ownAt p oBox (fun ρ : E_w_letters => ρ.v_w_box_here), .dat tInt (fun ρ : E_w_letters => ρ.v_w_many), .any, .any, .any, .any]) (body := w_letters_b) (nv := none) T.F_w_letters sc_w_letters (fun K B vs a h => by obtain ⟨_, _, rfl, _, h⟩ := h; cases h; rfl) rfl (fun _ _ => rfl) (fun K B vs b a h => by obtain ⟨_, _, rfl, h0, h⟩ := h; cases h; exact ⟨h0, fun k hk => by simpa using hk⟩) (fun r h => nomatch h) (fun p => .inr rfl) (fun p cdv A outer s H E' hr => ?_)
  exact (svs_cons (sv_set (i := 2) (g := (fun ρ : E_w_letters => ρ.v_w_pool)) (s := (fun (ρ : E_w_letters) a => { ρ with v_w_pool := a })) ev_str nd (fun _ _ => rfl) ⟨(fun _ _ => rfl), (fun _ _ => rfl), trivial, trivial, trivial, trivial⟩ (ltl (n := 6) (by decide) rfl))
      (svs_cons (sv_setO (i := 3) (g := (fun ρ : E_w_letters => ρ.v_w_found)) (s := (fun (ρ : E_w_letters) a => { ρ with v_w_found := a })) (emo_set (emo_of (evo_lst (T := tStr) (n := 0) ea_nil)) nd) (fun _ _ => rfl) ⟨(fun _ _ => rfl), (fun _ _ => rfl), (fun _ _ => rfl), trivial, trivial, trivial⟩ (ltl (n := 6) (by decide) rfl))
      (svs_cons (sv_for (Γl := [.ownAt p oBox (fun ρ : E_w_letters => ρ.v_w_box_here), .dat tInt (fun ρ : E_w_letters => ρ.v_w_many), .dat tStr (fun ρ : E_w_letters => ρ.v_w_pool), .own (oList tStr) (fun ρ : E_w_letters => ρ.v_w_found), .any, .any]) (Γn := [.ownAt p oBox (fun ρ : E_w_letters => ρ.v_w_box_here), .dat tInt (fun ρ : E_w_letters => ρ.v_w_many), .dat tStr (fun ρ : E_w_letters => ρ.v_w_pool), .own (oList tStr) (fun ρ : E_w_letters => ρ.v_w_found), .any, .any]) (Γ2 := [.ownAt p oBox (fun ρ : E_w_letters => ρ.v_w_box_here), .dat tInt (fun ρ : E_w_letters => ρ.v_w_many), .dat tStr (fun ρ : E_w_letters => ρ.v_w_pool), .own (oList tStr) (fun ρ : E_w_letters => ρ.v_w_found), .dat tInt (fun ρ : E_w_letters => ρ.v_w_k), .dat tInt (fun ρ : E_w_letters => ρ.v_w_at)]) (fb := w_letters_l1) (im_range1 (ema_of (ea_cons (ev_var (i := 1) rfl) ea_nil)) T.n_range) (WeakL.refl _) (gm_name (i := 4) (g := (fun ρ : E_w_letters => ρ.v_w_k)) (s := (fun (ρ : E_w_letters) a => { ρ with v_w_k := a })) nd (fun _ _ => rfl) ⟨(fun _ _ => rfl), (fun _ _ => rfl), (fun _ _ => rfl), (fun _ _ => rfl), trivial, trivial⟩ (ltl (n := 6) (by decide) rfl))
      (svs_cons (sv_setM (i := 5) (g := (fun ρ : E_w_letters => ρ.v_w_at)) (s := (fun (ρ : E_w_letters) a => { ρ with v_w_at := a })) (em_lend (i := 0) (s := (fun (ρ : E_w_letters) a => { ρ with v_w_box_here := a })) (ok_w_take T) (hr.mono (by decide)) T.g_w_take T.F_w_take.kp T.b_w_take (.inr ⟨p, rfl⟩) (fun _ _ => rfl) ⟨(fun _ _ => rfl), (fun _ _ => rfl), (fun _ _ => rfl), (fun _ _ => rfl), trivial, trivial⟩ (ema_of (ea_cons (ev_callB call_len_str ra_lenS T.n_len (by decide +kernel) (ea_cons (ev_var (i := 2) rfl) ea_nil)) ea_nil))) nd (fun _ _ => rfl) ⟨(fun _ _ => rfl), (fun _ _ => rfl), (fun _ _ => rfl), (fun _ _ => rfl), (fun _ _ => rfl), trivial⟩ (ltl (n := 6) (by decide) rfl))
      (svs_cons (sv_expr (em_append (i := 3) (s := (fun (ρ : E_w_letters) a => { ρ with v_w_found := a })) (.inl rfl) (em_of (ev_ix ix_str r_ixS (ev_var (i := 2) rfl) (ev_var (i := 5) rfl))) (fun _ _ => rfl) ⟨(fun _ _ => rfl), (fun _ _ => rfl), (fun _ _ => rfl), (fun _ _ => rfl), (fun _ _ => rfl), trivial⟩))
      (svs_one (sv_set (i := 2) (g := (fun ρ : E_w_letters => ρ.v_w_pool)) (s := (fun (ρ : E_w_letters) a => { ρ with v_w_pool := a })) (ev_op op_add_str r_cat (ev_slS (ev_var (i := 2) rfl) ep_none (ep_some (ev_var (i := 5) rfl))) (ev_slS (ev_var (i := 2) rfl) (ep_some (ev_op op_add r_add (ev_var (i := 5) rfl) ev_int)) ep_none)) nd (fun _ _ => rfl) ⟨(fun _ _ => rfl), (fun _ _ => rfl), (fun _ _ => rfl), (fun _ _ => rfl), (fun _ _ => rfl), trivial⟩ (ltl (n := 6) (by decide) rfl))))) ⟨.inr rfl, .inr rfl, .inr rfl, .inr rfl, .inl rfl, .inl rfl, trivial⟩ (WeakL.refl _) PassesOwn.never)
      (svs_commit (i := 3) rfl (svs_one (sv_ret (ev_var (i := 3) rfl)))))))
theorem sc_w_subsets : FnScope ["_law_n", "_law_found", "_law_word", "_law_words"] ["_law_n"] (defScope s_w_subsets) := ⟨rfl, rfl, rfl, by decide +kernel, rfl, by decide +kernel, by decide +kernel⟩
theorem ok_w_subsets {P : Program} {w : World} {K : Fg} {mg : Str → Option Value} {base : Heap} (T : Tx K mg) : FnOk P w K mg base CX0 1 T.f_w_subsets T.fd_w_subsets ["_law_n"] (spD K (aCons tInt aNil) (tList (tList tInt)) w_subsets_m) := by
  have nd := sc_w_subsets.nd
  refine fn_D (init := w_subsets_i) (Γ := [.dat tInt (fun ρ : E_w_subsets => ρ.v_w_n), .any, .any, .any]) (Γn := [.dat tInt (fun ρ : E_w_subsets => ρ.v_w_n), .any, .any, .any]) (body := w_subsets_b) (nv := none) T.F_w_subsets sc_w_subsets (fun K B vs a h => by obtain ⟨_, _, rfl, _, h⟩ := h; cases h; rfl) rfl (fun K B vs a h => by obtain ⟨_, _, rfl, h0, h⟩ := h; cases h; exact ⟨h0, fun k hk => by simpa using hk⟩) (fun r h => nomatch h) (fun cdv A outer s H E' hr => ?_)
  exact (svs_cons (sv_set (i := 1) (g := (fun ρ : E_w_subsets => ρ.v_w_found)) (s := (fun (ρ : E_w_subsets) a => { ρ with v_w_found := a })) (ev_list (evo_lst (T := (tList tInt)) (n := 1) (ea_cons (ev_list (evo_lst (T := tInt) (n := 0) ea_nil)) ea_nil))) nd (fun _ _ => rfl) ⟨(fun _ _ => rfl), trivial, trivial, trivial⟩ (ltl (n := 4) (by decide) rfl))
      (svs_cons (sv_for (Γl := [.dat tInt (fun ρ : E_w_subsets => ρ.v_w_n), .dat (tList (tList tInt)) (fun ρ : E_w_subsets => ρ.v_w_found), .any, .any]) (Γn := [.dat tInt (fun ρ : E_w_subsets => ρ.v_w_n), .dat (tList (tList tInt)) (fun ρ : E_w_subsets => ρ.v_w_found), .any, .any]) (Γ2 := [.dat tInt (fun ρ : E_w_subsets => ρ.v_w_n), .dat (tList (tList tInt)) (fun ρ : E_w_subsets => ρ.v_w_found), .dat tInt (fun ρ : E_w_subsets => ρ.v_w_word), .any]) (fb := w_subsets_l1) (im_range1 (ema_of (ea_cons (ev_var (i := 0) rfl) ea_nil)) T.n_range) (WeakL.refl _) (gm_name (i := 2) (g := (fun ρ : E_w_subsets => ρ.v_w_word)) (s := (fun (ρ : E_w_subsets) a => { ρ with v_w_word := a })) nd (fun _ _ => rfl) ⟨(fun _ _ => rfl), (fun _ _ => rfl), trivial, trivial⟩ (ltl (n := 4) (by decide) rfl))
      (svs_one (sv_setM (i := 1) (g := (fun ρ : E_w_subsets => ρ.v_w_found)) (s := (fun (ρ : E_w_subsets) a => { ρ with v_w_found := a })) (em_list (emo_cat (em_of (ev_var (i := 1) rfl)) (em_list (emo_lc (i := 3) (g := (fun ρ : E_w_subsets => ρ.v_w_words)) (s := (fun (ρ : E_w_subsets) a => { ρ with v_w_words := a })) nd (im_list (em_of (ev_var (i := 1) rfl))) rfl (fun _ _ => rfl) ⟨(fun _ _ => rfl), (fun _ _ => rfl), (fun _ _ => rfl), trivial⟩ (blkOk_by (N := ["_law_n", "_law_found", "_law_word", "_law_words"]) (sc := defScope s_w_subsets) (by decide +kernel)) (fun _ _ _ _ _ => emc_nil) (fun _ _ _ _ _ => (em_list (emo_cat (em_of (ev_var (i := 3) rfl)) (em_of (ev_list (evo_lst (T := tInt) (n := 1) (ea_cons (ev_var (i := 2) rfl) ea_nil))))))))))) nd (fun _ _ => rfl) ⟨(fun _ _ => rfl), (fun _ _ => rfl), trivial, trivial⟩ (ltl (n := 4) (by decide) rfl))) ⟨.inr rfl, .inr rfl, .inl rfl, .inl rfl, trivial⟩ (WeakL.refl _) PassesOwn.never)
      (svs_one (sv_ret (ev_var (i := 1) rfl)))))
theorem sc_w_left : FnScope ["_law_row", "_law_lost", "_law_found", "_law_places", "_law_left_here", "_law_at"] ["_law_row", "_law_lost"] (defScope s_w_left) := ⟨rfl, rfl, rfl, by decide +kernel, rfl, by decide +kernel, by decide +kernel⟩
theorem ok_w_left {P : Program} {w : World} {K : Fg} {mg : Str → Option Value} {base : Heap} (T : Tx K mg) : FnOk P w K mg base CX0 2 T.f_w_left T.fd_w_left ["_law_row", "_law_lost"] (spD K (aCons tStr (aCons tInt aNil)) (tList tStr) w_left_m) := by
  have nd := sc_w_left.nd
  refine fn_D (init := w_left_i) (Γ := [.dat tStr (fun ρ : E_w_left => ρ.v_w_row), .dat tInt (fun ρ : E_w_left => ρ.v_w_lost), .any, .any, .any, .any]) (Γn := [.dat tStr (fun ρ : E_w_left => ρ.v_w_row), .dat tInt (fun ρ : E_w_left => ρ.v_w_lost), .any, .any, .any, .any]) (body := w_left_b) (nv := none) T.F_w_left sc_w_left (fun K B vs a h => by obtain ⟨_, _, rfl, _, h⟩ := h; obtain ⟨_, _, rfl, _, h⟩ := h; cases h; rfl) rfl (fun K B vs a h => by obtain ⟨_, _, rfl, h0, h⟩ := h; obtain ⟨_, _, rfl, h1, h⟩ := h; cases h; exact ⟨h0, h1, fun k hk => by simpa using hk⟩) (fun r h => nomatch h) (fun cdv A outer s H E' hr => ?_)
  exact (svs_cons (sv_setO (i := 2) (g := (fun ρ : E_w_left => ρ.v_w_found)) (s := (fun (ρ : E_w_left) a => { ρ with v_w_found := a })) (emo_set (emo_of (evo_lst (T := tStr) (n := 0) ea_nil)) nd) (fun _ _ => rfl) ⟨(fun _ _ => rfl), (fun _ _ => rfl), trivial, trivial, trivial, trivial⟩ (ltl (n := 6) (by decide) rfl))
      (svs_cons (sv_for (Γl := [.dat tStr (fun ρ : E_w_left => ρ.v_w_row), .dat tInt (fun ρ : E_w_left => ρ.v_w_lost), .own (oList tStr) (fun ρ : E_w_left => ρ.v_w_found), .any, .any, .any]) (Γn := [.dat tStr (fun ρ : E_w_left => ρ.v_w_row), .dat tInt (fun ρ : E_w_left => ρ.v_w_lost), .own (oList tStr) (fun ρ : E_w_left => ρ.v_w_found), .any, .any, .any]) (Γ2 := [.dat tStr (fun ρ : E_w_left => ρ.v_w_row), .dat tInt (fun ρ : E_w_left => ρ.v_w_lost), .own (oList tStr) (fun ρ : E_w_left => ρ.v_w_found), .dat (tList tInt) (fun ρ : E_w_left => ρ.v_w_places), .dat tStr (fun ρ : E_w_left => ρ.v_w_left_here), .any]) (fb := w_left_l1) (im_list (em_of (ev_call (ok_w_subsets T) (hr.mono (by decide)) T.g_w_subsets T.F_w_subsets.kp T.b_w_subsets (ea_cons (ev_callB call_len_str ra_lenS T.n_len (by decide +kernel) (ea_cons (ev_var (i := 0) rfl) ea_nil)) ea_nil)))) (WeakL.refl _) (gm_name (i := 3) (g := (fun ρ : E_w_left => ρ.v_w_places)) (s := (fun (ρ : E_w_left) a => { ρ with v_w_places := a })) nd (fun _ _ => rfl) ⟨(fun _ _ => rfl), (fun _ _ => rfl), (fun _ _ => rfl), trivial, trivial, trivial⟩ (ltl (n := 6) (by decide) rfl))
      (svs_cons (sv_setM (i := 4) (g := (fun ρ : E_w_left => ρ.v_w_left_here)) (s := (fun (ρ : E_w_left) a => { ρ with v_w_left_here := a })) (em_join (em_of ev_str) (em_list (emo_lc (i := 5) (g := (fun ρ : E_w_left => ρ.v_w_at)) (s := (fun (ρ : E_w_left) a => { ρ with v_w_at := a })) nd (im_range1 (ema_of (ea_cons (ev_callB call_len_str ra_lenS T.n_len (by decide +kernel) (ea_cons (ev_var (i := 0) rfl) ea_nil)) ea_nil)) T.n_range) rfl (fun _ _ => rfl) ⟨(fun _ _ => rfl), (fun _ _ => rfl), (fun _ _ => rfl), (fun _ _ => rfl), trivial, trivial⟩ (blkOk_by (N := ["_law_row", "_law_lost", "_law_found", "_law_places", "_law_left_here", "_law_at"]) (sc := defScope s_w_left) (by decide +kernel)) (fun _ _ _ _ _ => (emc_one (emt_of (et_cmp op_notIn_seq (r_notInL fInt) (ev_var (i := 5) rfl) (ev_var (i := 3) rfl))))) (fun _ _ _ _ _ => (em_of (ev_ix ix_str r_ixS (ev_var (i := 0) rfl) (ev_var (i := 5) rfl))))))) nd (fun _ _ => rfl) ⟨(fun _ _ => rfl), (fun _ _ => rfl), (fun _ _ => rfl), (fun _ _ => rfl), trivial, trivial⟩ (ltl (n := 6) (by decide) rfl))
      (svs_one (sv_if (Γn := [.dat tStr (fun ρ : E_w_left => ρ.v_w_row), .dat tInt (fun ρ : E_w_left => ρ.v_w_lost), .own (oList tStr) (fun ρ : E_w_left => ρ.v_w_found), .dat (tList tInt) (fun ρ : E_w_left => ρ.v_w_places), .dat tStr (fun ρ : E_w_left => ρ.v_w_left_here), .any]) (et_w (ew_and (et_cmp op_eq r_eqI (ev_callB call_len_seq ra_lenL T.n_len (by decide +kernel) (ea_cons (ev_var (i := 3) rfl) ea_nil)) (ev_var (i := 1) rfl)) (ew_and1 (et_borrow 2 (.inl rfl) (et_cmp op_notIn_seq (r_notInL fStr) (ev_var (i := 4) rfl) (ev_var (i := 2) rfl))))))
      (svs_one (sv_expr (em_append (i := 2) (s := (fun (ρ : E_w_left) a => { ρ with v_w_found := a })) (.inl rfl) (em_of (ev_var (i := 4) rfl)) (fun _ _ => rfl) ⟨(fun _ _ => rfl), (fun _ _ => rfl), (fun _ _ => rfl), (fun _ _ => rfl), trivial, trivial⟩)))
      svs_nil (WeakL.refl _) (WeakL.refl _)))) ⟨.inr rfl, .inr rfl, .inr rfl, .inl rfl, .inl rfl, .inl rfl, trivial⟩ (WeakL.refl _) PassesOwn.never)
      (svs_commit (i := 2) rfl (svs_one (sv_retM (em_list (emo_callB cr_sortT ra_sortT T.n_sorted (by decide +kernel) (ema_cons (em_list (emo_lc (i := 4) (g := (fun ρ : E_w_left => ρ.v_w_left_here)) (s := (fun (ρ : E_w_left) a => { ρ with v_w_left_here := a })) nd (im_list (em_of (ev_var (i := 2) rfl))) rfl (fun _ _ => rfl) ⟨(fun _ _ => rfl), (fun _ _ => rfl), (fun _ _ => rfl), trivial, trivial, trivial⟩ (blkOk_by (N := ["_law_row", "_law_lost", "_law_found", "_law_places", "_law_left_here", "_law_at"]) (sc := defScope s_w_left) (by decide +kernel)) (fun _ _ _ _ _ => emc_nil) (fun _ _ _ _ _ => (em_of (ev_callTy SkE.call_str_str ra_strS T.n_str (by decide +kernel) (ea_cons (ev_var (i := 4) rfl) ea_nil)))))) ema_nil))))))))
theorem sc_subrows : GScope ["row", "lost", "waiting", "done", "rest", "left", "heads", "letter", "head"] ["row", "lost"] (defScope s_subrows) := ⟨rfl, rfl, rfl, by decide +kernel, rfl, by decide +kernel, by decide +kernel⟩
theorem ok_subrows {P : Program} {w : World} {K : Fg} {mg : Str → Option Value} {base : Heap} (T : Tx K mg) : GFn P w K mg base 1 T.f_subrows T.fd_subrows ["row", "lost"] (spG K (aCons tStr (aCons tInt aNil)) tStr subrows_m) := by
  have nd := sc_subrows.nd
  refine fn_G (init := subrows_i) (Γ := [.dat tStr (fun ρ : E_subrows => ρ.v_row), .dat tInt (fun ρ : E_subrows => ρ.v_lost), .any, .any, .any, .any, .any, .any, .any]) (Γn := [.dat tStr (fun ρ : E_subrows => ρ.v_row), .dat tInt (fun ρ : E_subrows => ρ.v_lost), .own (oList (tPair tStr tStr)) (fun ρ : E_subrows => ρ.v_waiting), .any, .any, .any, .any, .any, .any]) (body := subrows_b none) T.F_subrows sc_subrows (fun K B vs a h => by obtain ⟨_, _, rfl, _, h⟩ := h; obtain ⟨_, _, rfl, _, h⟩ := h; cases h; rfl) rfl (fun K B vs a h => by obtain ⟨_, _, rfl, h0, h⟩ := h; obtain ⟨_, _, rfl, h1, h⟩ := h; cases h; exact ⟨h0, h1, fun k hk => by simpa using hk⟩) (fun items cdv A outer s H E' pn hr fit => ?_)
  exact (gsvs_cons (gsv_lift (fun _ => rfl) (fun _ => (sv_setO (i := 2) (g := (fun ρ : E_subrows => ρ.v_waiting)) (s := (fun (ρ : E_subrows) a => { ρ with v_waiting := a })) (emo_set (emo_of (evo_lst (T := (tPair tStr tStr)) (n := 0) ea_nil)) nd) (fun _ _ => rfl) ⟨(fun _ _ => rfl), (fun _ _ => rfl), trivial, trivial, trivial, trivial, trivial, trivial, trivial⟩ (ltl (n := 9) (by decide) rfl))))
      (gsvs_cons (gsv_lift (fun _ => rfl) (fun _ => (sv_if (Γn := [.dat tStr (fun ρ : E_subrows => ρ.v_row), .dat tInt (fun ρ : E_subrows => ρ.v_lost), .own (oList (tPair tStr tStr)) (fun ρ : E_subrows => ρ.v_waiting), .any, .any, .any, .any, .any, .any]) (et_chain (p := (fun i j => decide (i ≤ j))) (q := (fun i j => decide (i ≤ j))) op_le op_le r_le r_le ev_int (ev_var (i := 1) rfl) (ev_callB call_len_str ra_lenS T.n_len (by decide +kernel) (ea_cons (ev_var (i := 0) rfl) ea_nil)))
      (svs_one (sv_expr (em_append (i := 2) (s := (fun (ρ : E_subrows) a => { ρ with v_waiting := a })) (.inl rfl) (em_of (ev_pair (ea_cons ev_str (ea_cons (ev_var (i := 0) rfl) ea_nil)))) (fun _ _ => rfl) ⟨(fun _ _ => rfl), (fun _ _ => rfl), trivial, trivial, trivial, trivial, trivial, trivial, trivial⟩)))
      svs_nil (WeakL.refl _) (WeakL.refl _))))
      (gsvs_one (gsv_while (Γl := [.dat tStr (fun ρ : E_subrows => ρ.v_row), .dat tInt (fun ρ : E_subrows => ρ.v_lost), .own (oList (tPair tStr tStr)) (fun ρ : E_subrows => ρ.v_waiting), .any, .any, .any, .any, .any, .any]) (Γn := [.dat tStr (fun ρ : E_subrows => ρ.v_row), .dat tInt (fun ρ : E_subrows => ρ.v_lost), .own (oList (tPair tStr tStr)) (fun ρ : E_subrows => ρ.v_waiting), .any, .any, .any, .any, .any, .any]) (Γ2 := [.dat tStr (fun ρ : E_subrows => ρ.v_row), .dat tInt (fun ρ : E_subrows => ρ.v_lost), .own (oList (tPair tStr tStr)) (fun ρ : E_subrows => ρ.v_waiting), .dat tStr (fun ρ : E_subrows => ρ.v_done), .dat tStr (fun ρ : E_subrows => ρ.v_rest), .dat tInt (fun ρ : E_subrows => ρ.v_left), .dat tStr (fun ρ : E_subrows => ρ.v_heads), .any, .any]) (t := subrows_l2c) (fb := subrows_l2 none) FUEL (fun _ => rfl) (WeakL.refl _) (fun _ => (et_borrow 2 (.inl rfl) (et_cmp op_gt r_gt (ev_callB call_len_seq ra_lenL T.n_len (by decide +kernel) (ea_cons (ev_var (i := 2) rfl) ea_nil)) ev_int)))
      (gsvs_cons (gsv_lift (fun _ => rfl) (fun _ => (sv_asg (em_pop (i := 2) (s := (fun (ρ : E_subrows) a => { ρ with v_waiting := a })) (.inl rfl) (fun _ _ => rfl) ⟨(fun _ _ => rfl), (fun _ _ => rfl), trivial, trivial, trivial, trivial, trivial, trivial, trivial⟩) (gm_pair (gm_name (i := 3) (g := (fun ρ : E_subrows => ρ.v_done)) (s := (fun (ρ : E_subrows) a => { ρ with v_done := a })) nd (fun _ _ => rfl) ⟨(fun _ _ => rfl), (fun _ _ => rfl), (fun _ _ => rfl), trivial, trivial, trivial, trivial, trivial, trivial⟩ (ltl (n := 9) (by decide) rfl)) (gm_name (i := 4) (g := (fun ρ : E_subrows => ρ.v_rest)) (s := (fun (ρ : E_subrows) a => { ρ with v_rest := a })) nd (fun _ _ => rfl) ⟨(fun _ _ => rfl), (fun _ _ => rfl), (fun _ _ => rfl), (fun _ _ => rfl), trivial, trivial, trivial, trivial, trivial⟩ (ltl (n := 9) (by decide) rfl))))))
      (gsvs_cons (gsv_lift (fun _ => rfl) (fun _ => (sv_set (i := 5) (g := (fun ρ : E_subrows => ρ.v_left)) (s := (fun (ρ : E_subrows) a => { ρ with v_left := a })) (ev_op op_sub r_sub (ev_op op_sub r_sub (ev_callB call_len_str ra_lenS T.n_len (by decide +kernel) (ea_cons (ev_var (i := 0) rfl) ea_nil)) (ev_var (i := 1) rfl)) (ev_callB call_len_str ra_lenS T.n_len (by decide +kernel) (ea_cons (ev_var (i := 3) rfl) ea_nil))) nd (fun _ _ => rfl) ⟨(fun _ _ => rfl), (fun _ _ => rfl), (fun _ _ => rfl), (fun _ _ => rfl), (fun _ _ => rfl), trivial, trivial, trivial, trivial⟩ (ltl (n := 9) (by decide) rfl))))
      (gsvs_cons (gsv_if (Γn := [.dat tStr (fun ρ : E_subrows => ρ.v_row), .dat tInt (fun ρ : E_subrows => ρ.v_lost), .own (oList (tPair tStr tStr)) (fun ρ : E_subrows => ρ.v_waiting), .dat tStr (fun ρ : E_subrows => ρ.v_done), .dat tStr (fun ρ : E_subrows => ρ.v_rest), .dat tInt (fun ρ : E_subrows => ρ.v_left), .any, .any, .any]) (fun _ => rfl) (fun _ => (et_cmp op_eq r_eqI (ev_var (i := 5) rfl) ev_int))
      (gsvs_cons (gsv_yield fit.wi (fun _ => (ev_var (i := 3) rfl)))
      (gsvs_one (gsv_lift (fun _ => rfl) (fun _ => (sv_continue ⟨.inr rfl, .inr rfl, .inr rfl, .inl rfl, .inl rfl, .inl rfl, .inl rfl, .inl rfl, .inl rfl, trivial⟩)))))
      gsvs_nil (WeakL.refl _) (WeakL.refl _))
      (gsvs_cons (gsv_lift (fun _ => rfl) (fun _ => (sv_set (i := 6) (g := (fun ρ : E_subrows => ρ.v_heads)) (s := (fun (ρ : E_subrows) a => { ρ with v_heads := a })) (ev_slS (ev_var (i := 4) rfl) ep_none (ep_some (ev_op op_add r_add (ev_op op_sub r_sub (ev_callB call_len_str ra_lenS T.n_len (by decide +kernel) (ea_cons (ev_var (i := 4) rfl) ea_nil)) (ev_var (i := 5) rfl)) ev_int))) nd (fun _ _ => rfl) ⟨(fun _ _ => rfl), (fun _ _ => rfl), (fun _ _ => rfl), (fun _ _ => rfl), (fun _ _ => rfl), (fun _ _ => rfl), trivial, trivial, trivial⟩ (ltl (n := 9) (by decide) rfl))))
      (gsvs_one (gsv_lift (fun _ => rfl) (fun _ => (sv_for (Γl := [.dat tStr (fun ρ : E_subrows => ρ.v_row), .dat tInt (fun ρ : E_subrows => ρ.v_lost), .own (oList (tPair tStr tStr)) (fun ρ : E_subrows => ρ.v_waiting), .dat tStr (fun ρ : E_subrows => ρ.v_done), .dat tStr (fun ρ : E_subrows => ρ.v_rest), .dat tInt (fun ρ : E_subrows => ρ.v_left), .dat tStr (fun ρ : E_subrows => ρ.v_heads), .any, .any]) (Γn := [.dat tStr (fun ρ : E_subrows => ρ.v_row), .dat tInt (fun ρ : E_subrows => ρ.v_lost), .own (oList (tPair tStr tStr)) (fun ρ : E_subrows => ρ.v_waiting), .dat tStr (fun ρ : E_subrows => ρ.v_done), .dat tStr (fun ρ : E_subrows => ρ.v_rest), .dat tInt (fun ρ : E_subrows => ρ.v_left), .dat tStr (fun ρ : E_subrows => ρ.v_heads), .any, .any]) (Γ2 := [.dat tStr (fun ρ : E_subrows => ρ.v_row), .dat tInt (fun ρ : E_subrows => ρ.v_lost), .own (oList (tPair tStr tStr)) (fun ρ : E_subrows => ρ.v_waiting), .dat tStr (fun ρ : E_subrows => ρ.v_done), .dat tStr (fun ρ : E_subrows => ρ.v_rest), .dat tInt (fun ρ : E_subrows => ρ.v_left), .dat tStr (fun ρ : E_subrows => ρ.v_heads), .dat tStr (fun ρ : E_subrows => ρ.v_letter), .any]) (fb := subrows_l1) (im_list (em_list (emo_revL (em_list (emo_srtSetS (em_list (emo_lc (i := 8) (g := (fun ρ : E_subrows => ρ.v_head)) (s := (fun (ρ : E_subrows) a => { ρ with v_head := a })) nd (im_str (em_of (ev_var (i := 6) rfl))) rfl (fun _ _ => rfl) ⟨(fun _ _ => rfl), (fun _ _ => rfl), (fun _ _ => rfl), (fun _ _ => rfl), (fun _ _ => rfl), (fun _ _ => rfl), (fun _ _ => rfl), trivial, trivial⟩ (blkOk_by (N := ["row", "lost", "waiting", "done", "rest", "left", "heads", "letter", "head"]) (sc := defScope s_subrows) (by decide +kernel)) (fun _ _ _ _ _ => emc_nil) (fun _ _ _ _ _ => (em_of (ev_callTy SkE.call_str_str ra_strS T.n_str (by decide +kernel) (ea_cons (ev_var (i := 8) rfl) ea_nil)))))) T.n_sorted T.n_set))))) (WeakL.refl _) (gm_name (i := 7) (g := (fun ρ : E_subrows => ρ.v_letter)) (s := (fun (ρ : E_subrows) a => { ρ with v_letter := a })) nd (fun _ _ => rfl) ⟨(fun _ _ => rfl), (fun _ _ => rfl), (fun _ _ => rfl), (fun _ _ => rfl), (fun _ _ => rfl), (fun _ _ => rfl), (fun _ _ => rfl), trivial, trivial⟩ (ltl (n := 9) (by decide) rfl))
      (svs_one (sv_expr (em_append (i := 2) (s := (fun (ρ : E_subrows) a => { ρ with v_waiting := a })) (.inl rfl) (em_of (ev_pair (ea_cons (ev_op op_add_str r_cat (ev_var (i := 3) rfl) (ev_var (i := 7) rfl)) (ea_cons (ev_slS (ev_var (i := 4) rfl) (ep_some (ev_op op_add r_add (ev_m1 PySem.F.slot_str_find PySem.F.type_str_find mt_find r_find (ev_var (i := 6) rfl) (ev_var (i := 7) rfl)) ev_int)) ep_none) ea_nil)))) (fun _ _ => rfl) ⟨(fun _ _ => rfl), (fun _ _ => rfl), (fun _ _ => rfl), (fun _ _ => rfl), (fun _ _ => rfl), (fun _ _ => rfl), (fun _ _ => rfl), trivial, trivial⟩))) ⟨.inr rfl, .inr rfl, .inr rfl, .inr rfl, .inr rfl, .inr rfl, .inr rfl, .inl rfl, .inl rfl, trivial⟩ (WeakL.refl _) PassesOwn.never)))))))) ⟨.inr rfl, .inr rfl, .inr rfl, .inl rfl, .inl rfl, .inl rfl, .inl rfl, .inl rfl, .inl rfl, trivial⟩ (WeakL.refl _)))))
theorem lz_subrows {P : Program} {w : World} {K : Fg} {mg : Str → Option Value} {base : Heap} (T : Tx K mg) : LFn P w K mg base 1 T.f_subrows T.fd_subrows ["row", "lost"] (spK K (aCons tStr (aCons tInt aNil)) tStr (subrows_k 2) 2) := by
  have nd := sc_subrows.nd
  refine fn_K (init := subrows_i) (Γ := [.dat tStr (fun ρ : E_subrows => ρ.v_row), .dat tInt (fun ρ : E_subrows => ρ.v_lost), .any, .any, .any, .any, .any, .any, .any]) (Γn := [.dat tStr (fun ρ : E_subrows => ρ.v_row), .dat tInt (fun ρ : E_subrows => ρ.v_lost), .own (oList (tPair tStr tStr)) (fun ρ : E_subrows => ρ.v_waiting), .any, .any, .any, .any, .any, .any]) (body := subrows_b (some 2)) T.F_subrows sc_subrows (fun K B vs a h => by obtain ⟨_, _, rfl, _, h⟩ := h; obtain ⟨_, _, rfl, _, h⟩ := h; cases h; rfl) rfl (fun K B vs a h => by obtain ⟨_, _, rfl, h0, h⟩ := h; obtain ⟨_, _, rfl, h1, h⟩ := h; cases h; exact ⟨h0, h1, fun k hk => by simpa using hk⟩) (fun items Wt cdv A outer s pn L hr fit => ?_)
  exact (gsvs_cons (gsv_lift (fun _ => rfl) (fun _ => (sv_setO (i := 2) (g := (fun ρ : E_subrows => ρ.v_waiting)) (s := (fun (ρ : E_subrows) a => { ρ with v_waiting := a })) (emo_set (emo_of (evo_lst (T := (tPair tStr tStr)) (n := 0) ea_nil)) nd) (fun _ _ => rfl) ⟨(fun _ _ => rfl), (fun _ _ => rfl), trivial, trivial, trivial, trivial, trivial, trivial, trivial⟩ (ltl (n := 9) (by decide) rfl))))
      (gsvs_cons (gsv_lift (fun _ => rfl) (fun _ => (sv_if (Γn := [.dat tStr (fun ρ : E_subrows => ρ.v_row), .dat tInt (fun ρ : E_subrows => ρ.v_lost), .own (oList (tPair tStr tStr)) (fun ρ : E_subrows => ρ.v_waiting), .any, .any, .any, .any, .any, .any]) (et_chain (p := (fun i j => decide (i ≤ j))) (q := (fun i j => decide (i ≤ j))) op_le op_le r_le r_le ev_int (ev_var (i := 1) rfl) (ev_callB call_len_str ra_lenS T.n_len (by decide +kernel) (ea_cons (ev_var (i := 0) rfl) ea_nil)))
      (svs_one (sv_expr (em_append (i := 2) (s := (fun (ρ : E_subrows) a => { ρ with v_waiting := a })) (.inl rfl) (em_of (ev_pair (ea_cons ev_str (ea_cons (ev_var (i := 0) rfl) ea_nil)))) (fun _ _ => rfl) ⟨(fun _ _ => rfl), (fun _ _ => rfl), trivial, trivial, trivial, trivial, trivial, trivial, trivial⟩)))
      svs_nil (WeakL.refl _) (WeakL.refl _))))
      (gsvs_one (gsv_while (Γl := [.dat tStr (fun ρ : E_subrows => ρ.v_row), .dat tInt (fun ρ : E_subrows => ρ.v_lost), .own (oList (tPair tStr tStr)) (fun ρ : E_subrows => ρ.v_waiting), .any, .any, .any, .any, .any, .any]) (Γn := [.dat tStr (fun ρ : E_subrows => ρ.v_row), .dat tInt (fun ρ : E_subrows => ρ.v_lost), .own (oList (tPair tStr tStr)) (fun ρ : E_subrows => ρ.v_waiting), .any, .any, .any, .any, .any, .any]) (Γ2 := [.dat tStr (fun ρ : E_subrows => ρ.v_row), .dat tInt (fun ρ : E_subrows => ρ.v_lost), .own (oList (tPair tStr tStr)) (fun ρ : E_subrows => ρ.v_waiting), .dat tStr (fun ρ : E_subrows => ρ.v_done), .dat tStr (fun ρ : E_subrows => ρ.v_rest), .dat tInt (fun ρ : E_subrows => ρ.v_left), .dat tStr (fun ρ : E_subrows => ρ.v_heads), .any, .any]) (t := subrows_l2c) (fb := subrows_l2 (some 2)) FUEL (fun _ => rfl) (WeakL.refl _) (fun _ => (et_borrow 2 (.inl rfl) (et_cmp op_gt r_gt (ev_callB call_len_seq ra_lenL T.n_len (by decide +kernel) (ea_cons (ev_var (i := 2) rfl) ea_nil)) ev_int)))
      (gsvs_cons (gsv_lift (fun _ => rfl) (fun _ => (sv_asg (em_pop (i := 2) (s := (fun (ρ : E_subrows) a => { ρ with v_waiting := a })) (.inl rfl) (fun _ _ => rfl) ⟨(fun _ _ => rfl), (fun _ _ => rfl), trivial, trivial, trivial, trivial, trivial, trivial, trivial⟩) (gm_pair (gm_name (i := 3) (g := (fun ρ : E_subrows => ρ.v_done)) (s := (fun (ρ : E_subrows) a => { ρ with v_done := a })) nd (fun _ _ => rfl) ⟨(fun _ _ => rfl), (fun _ _ => rfl), (fun _ _ => rfl), trivial, trivial, trivial, trivial, trivial, trivial⟩ (ltl (n := 9) (by decide) rfl)) (gm_name (i := 4) (g := (fun ρ : E_subrows => ρ.v_rest)) (s := (fun (ρ : E_subrows) a => { ρ with v_rest := a })) nd (fun _ _ => rfl) ⟨(fun _ _ => rfl), (fun _ _ => rfl), (fun _ _ => rfl), (fun _ _ => rfl), trivial, trivial, trivial, trivial, trivial⟩ (ltl (n := 9) (by decide) rfl))))))
      (gsvs_cons (gsv_lift (fun _ => rfl) (fun _ => (sv_set (i := 5) (g := (fun ρ : E_subrows => ρ.v_left)) (s := (fun (ρ : E_subrows) a => { ρ with v_left := a })) (ev_op op_sub r_sub (ev_op op_sub r_sub (ev_callB call_len_str ra_lenS T.n_len (by decide +kernel) (ea_cons (ev_var (i := 0) rfl) ea_nil)) (ev_var (i := 1) rfl)) (ev_callB call_len_str ra_lenS T.n_len (by decide +kernel) (ea_cons (ev_var (i := 3) rfl) ea_nil))) nd (fun _ _ => rfl) ⟨(fun _ _ => rfl), (fun _ _ => rfl), (fun _ _ => rfl), (fun _ _ => rfl), (fun _ _ => rfl), trivial, trivial, trivial, trivial⟩ (ltl (n := 9) (by decide) rfl))))
      (gsvs_cons (gsv_if (Γn := [.dat tStr (fun ρ : E_subrows => ρ.v_row), .dat tInt (fun ρ : E_subrows => ρ.v_lost), .own (oList (tPair tStr tStr)) (fun ρ : E_subrows => ρ.v_waiting), .dat tStr (fun ρ : E_subrows => ρ.v_done), .dat tStr (fun ρ : E_subrows => ρ.v_rest), .dat tInt (fun ρ : E_subrows => ρ.v_left), .any, .any, .any]) (fun _ => rfl) (fun _ => (et_cmp op_eq r_eqI (ev_var (i := 5) rfl) ev_int))
      (gsvs_cons (gsv_yield fit.wi (fun _ => (ev_var (i := 3) rfl)))
      (gsvs_one (gsv_lift (fun _ => rfl) (fun _ => (sv_continue ⟨.inr rfl, .inr rfl, .inr rfl, .inl rfl, .inl rfl, .inl rfl, .inl rfl, .inl rfl, .inl rfl, trivial⟩)))))
      gsvs_nil (WeakL.refl _) (WeakL.refl _))
      (gsvs_cons (gsv_lift (fun _ => rfl) (fun _ => (sv_set (i := 6) (g := (fun ρ : E_subrows => ρ.v_heads)) (s := (fun (ρ : E_subrows) a => { ρ with v_heads := a })) (ev_slS (ev_var (i := 4) rfl) ep_none (ep_some (ev_op op_add r_add (ev_op op_sub r_sub (ev_callB call_len_str ra_lenS T.n_len (by decide +kernel) (ea_cons (ev_var (i := 4) rfl) ea_nil)) (ev_var (i := 5) rfl)) ev_int))) nd (fun _ _ => rfl) ⟨(fun _ _ => rfl), (fun _ _ => rfl), (fun _ _ => rfl), (fun _ _ => rfl), (fun _ _ => rfl), (fun _ _ => rfl), trivial, trivial, trivial⟩ (ltl (n := 9) (by decide) rfl))))
      (gsvs_one (gsv_lift (fun _ => rfl) (fun _ => (sv_for (Γl := [.dat tStr (fun ρ : E_subrows => ρ.v_row), .dat tInt (fun ρ : E_subrows => ρ.v_lost), .own (oList (tPair tStr tStr)) (fun ρ : E_subrows => ρ.v_waiting), .dat tStr (fun ρ : E_subrows => ρ.v_done), .dat tStr (fun ρ : E_subrows => ρ.v_rest), .dat tInt (fun ρ : E_subrows => ρ.v_left), .dat tStr (fun ρ : E_subrows => ρ.v_heads), .any, .any]) (Γn := [.dat tStr (fun ρ : E_subrows => ρ.v_row), .dat tInt (fun ρ : E_subrows => ρ.v_lost), .own (oList (tPair tStr tStr)) (fun ρ : E_subrows => ρ.v_waiting), .dat tStr (fun ρ : E_subrows => ρ.v_done), .dat tStr (fun ρ : E_subrows => ρ.v_rest), .dat tInt (fun ρ : E_subrows => ρ.v_left), .dat tStr (fun ρ : E_subrows => ρ.v_heads), .any, .any]) (Γ2 := [.dat tStr (fun ρ : E_subrows => ρ.v_row), .dat tInt (fun ρ : E_subrows => ρ.v_lost), .own (oList (tPair tStr tStr)) (fun ρ : E_subrows => ρ.v_waiting), .dat tStr (fun ρ : E_subrows => ρ.v_done), .dat tStr (fun ρ : E_subrows => ρ.v_rest), .dat tInt (fun ρ : E_subrows => ρ.v_left), .dat tStr (fun ρ : E_subrows => ρ.v_heads), .dat tStr (fun ρ : E_subrows => ρ.v_letter), .any]) (fb := subrows_l1) (im_list (em_list (emo_revL (em_list (emo_srtSetS (em_list (emo_lc (i := 8) (g := (fun ρ : E_subrows => ρ.v_head)) (s := (fun (ρ : E_subrows) a => { ρ with v_head := a })) nd (im_str (em_of (ev_var (i := 6) rfl))) rfl (fun _ _ => rfl) ⟨(fun _ _ => rfl), (fun _ _ => rfl), (fun _ _ => rfl), (fun _ _ => rfl), (fun _ _ => rfl), (fun _ _ => rfl), (fun _ _ => rfl), trivial, trivial⟩ (blkOk_by (N := ["row", "lost", "waiting", "done", "rest", "left", "heads", "letter", "head"]) (sc := defScope s_subrows) (by decide +kernel)) (fun _ _ _ _ _ => emc_nil) (fun _ _ _ _ _ => (em_of (ev_callTy SkE.call_str_str ra_strS T.n_str (by decide +kernel) (ea_cons (ev_var (i := 8) rfl) ea_nil)))))) T.n_sorted T.n_set))))) (WeakL.refl _) (gm_name (i := 7) (g := (fun ρ : E_subrows => ρ.v_letter)) (s := (fun (ρ : E_subrows) a => { ρ with v_letter := a })) nd (fun _ _ => rfl) ⟨(fun _ _ => rfl), (fun _ _ => rfl), (fun _ _ => rfl), (fun _ _ => rfl), (fun _ _ => rfl), (fun _ _ => rfl), (fun _ _ => rfl), trivial, trivial⟩ (ltl (n := 9) (by decide) rfl))
      (svs_one (sv_expr (em_append (i := 2) (s := (fun (ρ : E_subrows) a => { ρ with v_waiting := a })) (.inl rfl) (em_of (ev_pair (ea_cons (ev_op op_add_str r_cat (ev_var (i := 3) rfl) (ev_var (i := 7) rfl)) (ea_cons (ev_slS (ev_var (i := 4) rfl) (ep_some (ev_op op_add r_add (ev_m1 PySem.F.slot_str_find PySem.F.type_str_find mt_find r_find (ev_var (i := 6) rfl) (ev_var (i := 7) rfl)) ev_int)) ep_none) ea_nil)))) (fun _ _ => rfl) ⟨(fun _ _ => rfl), (fun _ _ => rfl), (fun _ _ => rfl), (fun _ _ => rfl), (fun _ _ => rfl), (fun _ _ => rfl), (fun _ _ => rfl), trivial, trivial⟩))) ⟨.inr rfl, .inr rfl, .inr rfl, .inr rfl, .inr rfl, .inr rfl, .inr rfl, .inl rfl, .inl rfl, trivial⟩ (WeakL.refl _) PassesOwn.never)))))))) ⟨.inr rfl, .inr rfl, .inr rfl, .inl rfl, .inl rfl, .inl rfl, .inl rfl, .inl rfl, .inl rfl, trivial⟩ (WeakL.refl _)))))
theorem sc_law : FnScope ["_law_script", "_law_box_here", "_law_letters_here", "_law_row", "_law_k", "_law_lost", "_law_due", "_law_turn", "_law_every", "_law_found", "_law_one"] ["_law_script"] (defScope s_law) := ⟨rfl, rfl, rfl, by decide +kernel, rfl, by decide +kernel, by decide +kernel⟩
theorem ok_law {P : Program} {w : World} {K : Fg} {mg : Str → Option Value} {base : Heap} (T : Tx K mg) : FnOk P w K mg base CX0 5 T.f_law T.fd_law ["_law_script"] (spD K (aCons (tList tInt) aNil) tBool law_m) := by
  have nd := sc_law.nd
  refine fn_D (init := law_i) (Γ := [.dat (tList tInt) (fun ρ : E_law => ρ.v_w_script), .any, .any, .any, .any, .any, .any, .any, .any, .any, .any]) (Γn := [.dat (tList tInt) (fun ρ : E_law => ρ.v_w_script), .any, .any, .any, .any, .any, .any, .any, .any, .any, .any]) (body := law_b) (nv := none) T.F_law sc_law (fun K B vs a h => by obtain ⟨_, _, rfl, _, h⟩ := h; cases h; rfl) rfl (fun K B vs a h => by obtain ⟨_, _, rfl, h0, h⟩ := h; cases h; exact ⟨h0, fun k hk => by simpa using hk⟩) (fun r h => nomatch h) (fun cdv A outer s H E' hr => ?_)
  exact (svs_cons (sv_setO (i := 1) (g := (fun ρ : E_law => ρ.v_w_box_here)) (s := (fun (ρ : E_law) a => { ρ with v_w_box_here := a })) (emo_set (emo_call (ok_w_box T) (hr.mono (by decide)) T.g_w_box T.F_w_box.kp T.b_w_box (ema_of (ea_cons (ev_var (i := 0) rfl) ea_nil))) nd) (fun _ _ => rfl) ⟨(fun _ _ => rfl), trivial, trivial, trivial, trivial, trivial, trivial, trivial, trivial, trivial, trivial⟩ (ltl (n := 11) (by decide) rfl))
      (svs_cons (sv_setM (i := 2) (g := (fun ρ : E_law => ρ.v_w_letters_here)) (s := (fun (ρ : E_law) a => { ρ with v_w_letters_here := a })) (em_lend (i := 1) (s := (fun (ρ : E_law) a => { ρ with v_w_box_here := a })) (ok_w_letters T) (hr.mono (by decide)) T.g_w_letters T.F_w_letters.kp T.b_w_letters (.inl rfl) (fun _ _ => rfl) ⟨(fun _ _ => rfl), trivial, trivial, trivial, trivial, trivial, trivial, trivial, trivial, trivial, trivial⟩ (ema_cons (em_op op_add r_add (em_of ev_int) (em_lend (i := 1) (s := (fun (ρ : E_law) a => { ρ with v_w_box_here := a })) (ok_w_take T) (hr.mono (by decide)) T.g_w_take T.F_w_take.kp T.b_w_take (.inl rfl) (fun _ _ => rfl) ⟨(fun _ _ => rfl), trivial, trivial, trivial, trivial, trivial, trivial, trivial, trivial, trivial, trivial⟩ (ema_of (ea_cons ev_int ea_nil)))) ema_nil)) nd (fun _ _ => rfl) ⟨(fun _ _ => rfl), (fun _ _ => rfl), trivial, trivial, trivial, trivial, trivial, trivial, trivial, trivial, trivial⟩ (ltl (n := 11) (by decide) rfl))
      (svs_cons (sv_set (i := 3) (g := (fun ρ : E_law => ρ.v_w_row)) (s := (fun (ρ : E_law) a => { ρ with v_w_row := a })) ev_str nd (fun _ _ => rfl) ⟨(fun _ _ => rfl), (fun _ _ => rfl), (fun _ _ => rfl), trivial, trivial, trivial, trivial, trivial, trivial, trivial, trivial⟩ (ltl (n := 11) (by decide) rfl))
      (svs_cons (sv_for (Γl := [.dat (tList tInt) (fun ρ : E_law => ρ.v_w_script), .own oBox (fun ρ : E_law => ρ.v_w_box_here), .dat (tList tStr) (fun ρ : E_law => ρ.v_w_letters_here), .dat tStr (fun ρ : E_law => ρ.v_w_row), .any, .any, .any, .any, .any, .any, .any]) (Γn := [.dat (tList tInt) (fun ρ : E_law => ρ.v_w_script), .own oBox (fun ρ : E_law => ρ.v_w_box_here), .dat (tList tStr) (fun ρ : E_law => ρ.v_w_letters_here), .dat tStr (fun ρ : E_law => ρ.v_w_row), .any, .any, .any, .any, .any, .any, .any]) (Γ2 := [.dat (tList tInt) (fun ρ : E_law => ρ.v_w_script), .own oBox (fun ρ : E_law => ρ.v_w_box_here), .dat (tList tStr) (fun ρ : E_law => ρ.v_w_letters_here), .dat tStr (fun ρ : E_law => ρ.v_w_row), .dat tInt (fun ρ : E_law => ρ.v_w_k), .any, .any, .any, .any, .any, .any]) (fb := law_l1) (im_range1 (ema_cons (em_op op_modN r_mod (em_callTy call_int1 ra_int T.n_int (by decide +kernel) (ema_cons (em_op op_add r_add (em_of ev_int) (em_lend (i := 1) (s := (fun (ρ : E_law) a => { ρ with v_w_box_here := a })) (ok_w_take T) (hr.mono (by decide)) T.g_w_take T.F_w_take.kp T.b_w_take (.inl rfl) (fun _ _ => rfl) ⟨(fun _ _ => rfl), (fun _ _ => rfl), (fun _ _ => rfl), trivial, trivial, trivial, trivial, trivial, trivial, trivial, trivial⟩ (ema_of (ea_cons ev_int ea_nil)))) ema_nil)) (em_of ev_int)) ema_nil) T.n_range) (WeakL.refl _) (gm_name (i := 4) (g := (fun ρ : E_law => ρ.v_w_k)) (s := (fun (ρ : E_law) a => { ρ with v_w_k := a })) nd (fun _ _ => rfl) ⟨(fun _ _ => rfl), (fun _ _ => rfl), (fun _ _ => rfl), (fun _ _ => rfl), trivial, trivial, trivial, trivial, trivial, trivial, trivial⟩ (ltl (n := 11) (by decide) rfl))
      (svs_one (sv_setM (i := 3) (g := (fun ρ : E_law => ρ.v_w_row)) (s := (fun (ρ : E_law) a => { ρ with v_w_row := a })) (em_op op_add_str r_cat (em_of (ev_var (i := 3) rfl)) (em_ix ix_list r_ixL (em_of (ev_var (i := 2) rfl)) (em_lend (i := 1) (s := (fun (ρ : E_law) a => { ρ with v_w_box_here := a })) (ok_w_take T) (hr.mono (by decide)) T.g_w_take T.F_w_take.kp T.b_w_take (.inl rfl) (fun _ _ => rfl) ⟨(fun _ _ => rfl), (fun _ _ => rfl), (fun _ _ => rfl), (fun _ _ => rfl), trivial, trivial, trivial, trivial, trivial, trivial, trivial⟩ (ema_of (ea_cons (ev_callB call_len_seq ra_lenL T.n_len (by decide +kernel) (ea_cons (ev_var (i := 2) rfl) ea_nil)) ea_nil))))) nd (fun _ _ => rfl) ⟨(fun _ _ => rfl), (fun _ _ => rfl), (fun _ _ => rfl), (fun _ _ => rfl), trivial, trivial, trivial, trivial, trivial, trivial, trivial⟩ (ltl (n := 11) (by decide) rfl))) ⟨.inr rfl, .inr rfl, .inr rfl, .inr rfl, .inl rfl, .inl rfl, .inl rfl, .inl rfl, .inl rfl, .inl rfl, .inl rfl, trivial⟩ (WeakL.refl _) PassesOwn.never)
      (svs_cons (sv_setM (i := 5) (g := (fun ρ : E_law => ρ.v_w_lost)) (s := (fun (ρ : E_law) a => { ρ with v_w_lost := a })) (em_op op_sub r_sub (em_lend (i := 1) (s := (fun (ρ : E_law) a => { ρ with v_w_box_here := a })) (ok_w_take T) (hr.mono (by decide)) T.g_w_take T.F_w_take.kp T.b_w_take (.inl rfl) (fun _ _ => rfl) ⟨(fun _ _ => rfl), (fun _ _ => rfl), (fun _ _ => rfl), trivial, trivial, trivial, trivial, trivial, trivial, trivial, trivial⟩ (ema_of (ea_cons (ev_op op_add r_add (ev_callB call_len_str ra_lenS T.n_len (by decide +kernel) (ea_cons (ev_var (i := 3) rfl) ea_nil)) ev_int) ea_nil))) (em_of ev_int)) nd (fun _ _ => rfl) ⟨(fun _ _ => rfl), (fun _ _ => rfl), (fun _ _ => rfl), (fun _ _ => rfl), trivial, trivial, trivial, trivial, trivial, trivial, trivial⟩ (ltl (n := 11) (by decide) rfl))
      (svs_cons (sv_set (i := 6) (g := (fun ρ : E_law => ρ.v_w_due)) (s := (fun (ρ : E_law) a => { ρ with v_w_due := a })) (ev_call (ok_w_left T) (hr.mono (by decide)) T.g_w_left T.F_w_left.kp T.b_w_left (ea_cons (ev_var (i := 3) rfl) (ea_cons (ev_var (i := 5) rfl) ea_nil))) nd (fun _ _ => rfl) ⟨(fun _ _ => rfl), (fun _ _ => rfl), (fun _ _ => rfl), (fun _ _ => rfl), trivial, (fun _ _ => rfl), trivial, trivial, trivial, trivial, trivial⟩ (ltl (n := 11) (by decide) rfl))
      (svs_cons (sv_for (Γl := [.dat (tList tInt) (fun ρ : E_law => ρ.v_w_script), .own oBox (fun ρ : E_law => ρ.v_w_box_here), .dat (tList tStr) (fun ρ : E_law => ρ.v_w_letters_here), .dat tStr (fun ρ : E_law => ρ.v_w_row), .any, .dat tInt (fun ρ : E_law => ρ.v_w_lost), .dat (tList tStr) (fun ρ : E_law => ρ.v_w_due), .any, .any, .any, .any]) (Γn := [.dat (tList tInt) (fun ρ : E_law => ρ.v_w_script), .own oBox (fun ρ : E_law => ρ.v_w_box_here), .dat (tList tStr) (fun ρ : E_law => ρ.v_w_letters_here), .dat tStr (fun ρ : E_law => ρ.v_w_row), .any, .dat tInt (fun ρ : E_law => ρ.v_w_lost), .dat (tList tStr) (fun ρ : E_law => ρ.v_w_due), .any, .any, .any, .any]) (Γ2 := [.dat (tList tInt) (fun ρ : E_law => ρ.v_w_script), .own oBox (fun ρ : E_law => ρ.v_w_box_here), .dat (tList tStr) (fun ρ : E_law => ρ.v_w_letters_here), .dat tStr (fun ρ : E_law => ρ.v_w_row), .any, .dat tInt (fun ρ : E_law => ρ.v_w_lost), .dat (tList tStr) (fun ρ : E_law => ρ.v_w_due), .dat tInt (fun ρ : E_law => ρ.v_w_turn), .any, .any, .any]) (fb := law_l2) (im_range1 (ema_of (ea_cons ev_int ea_nil)) T.n_range) (WeakL.refl _) (gm_name (i := 7) (g := (fun ρ : E_law => ρ.v_w_turn)) (s := (fun (ρ : E_law) a => { ρ with v_w_turn := a })) nd (fun _ _ => rfl) ⟨(fun _ _ => rfl), (fun _ _ => rfl), (fun _ _ => rfl), (fun _ _ => rfl), trivial, (fun _ _ => rfl), (fun _ _ => rfl), trivial, trivial, trivial, trivial⟩ (ltl (n := 11) (by decide) rfl))
      (svs_one (sv_if (Γn := [.dat (tList tInt) (fun ρ : E_law => ρ.v_w_script), .own oBox (fun ρ : E_law => ρ.v_w_box_here), .dat (tList tStr) (fun ρ : E_law => ρ.v_w_letters_here), .dat tStr (fun ρ : E_law => ρ.v_w_row), .any, .dat tInt (fun ρ : E_law => ρ.v_w_lost), .dat (tList tStr) (fun ρ : E_law => ρ.v_w_due), .dat tInt (fun ρ : E_law => ρ.v_w_turn), .any, .any, .any]) (et_cmp (op_neD hr.units) (r_neD (dList dStr)) (ev_list (evo_listG (ok_subrows T) (hr.mono (by decide)) (hr.mono (by decide)) T.g_subrows T.F_subrows.kp T.b_subrows T.n_list (ea_cons (ev_var (i := 3) rfl) (ea_cons (ev_var (i := 5) rfl) ea_nil)))) (ev_var (i := 6) rfl))
      (svs_one (sv_ret ev_bl))
      svs_nil (WeakL.refl _) (WeakL.refl _))) ⟨.inr rfl, .inr rfl, .inr rfl, .inr rfl, .inl rfl, .inr rfl, .inr rfl, .inl rfl, .inl rfl, .inl rfl, .inl rfl, trivial⟩ (WeakL.refl _) PassesOwn.never)
      (svs_cons (sv_if (Γn := [.dat (tList tInt) (fun ρ : E_law => ρ.v_w_script), .own oBox (fun ρ : E_law => ρ.v_w_box_here), .dat (tList tStr) (fun ρ : E_law => ρ.v_w_letters_here), .dat tStr (fun ρ : E_law => ρ.v_w_row), .any, .dat tInt (fun ρ : E_law => ρ.v_w_lost), .dat (tList tStr) (fun ρ : E_law => ρ.v_w_due), .any, .any, .any, .any]) (et_w (ew_or (et_cmp (op_neD hr.units) (r_neD (dList dStr)) (ev_list (evo_listG (ok_subrows T) (hr.mono (by decide)) (hr.mono (by decide)) T.g_subrows T.F_subrows.kp T.b_subrows T.n_list (ea_cons (ev_var (i := 3) rfl) (ea_cons ev_int ea_nil)))) (ev_list (evo_lst (T := tStr) (n := 1) (ea_cons (ev_var (i := 3) rfl) ea_nil)))) (ew_or1 (et_cmp (op_neD hr.units) (r_neD (dList dStr)) (ev_list (evo_listG (ok_subrows T) (hr.mono (by decide)) (hr.mono (by decide)) T.g_subrows T.F_subrows.kp T.b_subrows T.n_list (ea_cons (ev_var (i := 3) rfl) (ea_cons (ev_callB call_len_str ra_lenS T.n_len (by decide +kernel) (ea_cons (ev_var (i := 3) rfl) ea_nil)) ea_nil)))) (ev_list (evo_lst (T := tStr) (n := 1) (ea_cons ev_str ea_nil)))))))
      (svs_one (sv_ret ev_bl))
      svs_nil (WeakL.refl _) (WeakL.refl _))
      (svs_cons (sv_ifM (Γn := [.dat (tList tInt) (fun ρ : E_law => ρ.v_w_script), .own oBox (fun ρ : E_law => ρ.v_w_box_here), .dat (tList tStr) (fun ρ : E_law => ρ.v_w_letters_here), .dat tStr (fun ρ : E_law => ρ.v_w_row), .any, .dat tInt (fun ρ : E_law => ρ.v_w_lost), .dat (tList tStr) (fun ρ : E_law => ρ.v_w_due), .any, .any, .any, .any]) (emt_w (emw_or (emt_cmp (op_neD hr.units) (r_neD (dList dStr)) (em_list (emo_listG (ok_subrows T) (hr.mono (by decide)) (hr.mono (by decide)) T.g_subrows T.F_subrows.kp T.b_subrows T.n_list (ema_cons (em_of (ev_var (i := 3) rfl)) (ema_cons (em_op op_sub r_sub (em_of (ev_neg ev_int)) (em_lend (i := 1) (s := (fun (ρ : E_law) a => { ρ with v_w_box_here := a })) (ok_w_take T) (hr.mono (by decide)) T.g_w_take T.F_w_take.kp T.b_w_take (.inl rfl) (fun _ _ => rfl) ⟨(fun _ _ => rfl), (fun _ _ => rfl), (fun _ _ => rfl), trivial, (fun _ _ => rfl), (fun _ _ => rfl), trivial, trivial, trivial, trivial, trivial⟩ (ema_of (ea_cons ev_int ea_nil)))) ema_nil)))) (em_of (ev_list (evo_lst (T := tStr) (n := 0) ea_nil)))) (emw_or1 (emt_of (et_cmp (op_neD hr.units) (r_neD (dList dStr)) (ev_list (evo_listG (ok_subrows T) (hr.mono (by decide)) (hr.mono (by decide)) T.g_subrows T.F_subrows.kp T.b_subrows T.n_list (ea_cons (ev_var (i := 3) rfl) (ea_cons (ev_op op_add r_add (ev_callB call_len_str ra_lenS T.n_len (by decide +kernel) (ea_cons (ev_var (i := 3) rfl) ea_nil)) ev_int) ea_nil)))) (ev_list (evo_lst (T := tStr) (n := 0) ea_nil)))))))
      (svs_one (sv_ret ev_bl))
      svs_nil (WeakL.refl _) (WeakL.refl _))
      (svs_cons (sv_set (i := 8) (g := (fun ρ : E_law => ρ.v_w_every)) (s := (fun (ρ : E_law) a => { ρ with v_w_every := a })) ev_str nd (fun _ _ => rfl) ⟨(fun _ _ => rfl), (fun _ _ => rfl), (fun _ _ => rfl), (fun _ _ => rfl), trivial, (fun _ _ => rfl), (fun _ _ => rfl), trivial, trivial, trivial, trivial⟩ (ltl (n := 11) (by decide) rfl))
      (svs_cons (sv_setO (i := 9) (g := (fun ρ : E_law => ρ.v_w_found)) (s := (fun (ρ : E_law) a => { ρ with v_w_found := a })) (emo_set (emo_of (evo_lst (T := tStr) (n := 0) ea_nil)) nd) (fun _ _ => rfl) ⟨(fun _ _ => rfl), (fun _ _ => rfl), (fun _ _ => rfl), (fun _ _ => rfl), trivial, (fun _ _ => rfl), (fun _ _ => rfl), trivial, (fun _ _ => rfl), trivial, trivial⟩ (ltl (n := 11) (by decide) rfl))
      (svs_cons (sv_lazy2 (i := 9) (j := 10) (g := (fun ρ : E_law => ρ.v_w_found)) (s := (fun (ρ : E_law) a => { ρ with v_w_found := a })) (gx := (fun ρ : E_law => ρ.v_w_one)) (sx := (fun (ρ : E_law) a => { ρ with v_w_one := a })) (lz_subrows T) (hr.mono (by decide)) T.g_subrows T.F_subrows.kp T.b_subrows T.n_len (.inl rfl) (ea_cons (ev_op op_repS r_repS (ev_var (i := 8) rfl) ev_int) (ea_cons ev_int ea_nil)) (fun _ _ _ _ h => by obtain ⟨_, _, rfl, h0, h⟩ := h; obtain ⟨_, _, rfl, h1, h⟩ := h; exact ⟨_, _, rfl, h0, ⟨_, _, rfl, h1, h⟩⟩) (fun _ _ _ _ _ h => h) nd (by decide) (fun _ _ => rfl) ⟨(fun _ _ => rfl), (fun _ _ => rfl), (fun _ _ => rfl), (fun _ _ => rfl), trivial, (fun _ _ => rfl), (fun _ _ => rfl), trivial, (fun _ _ => rfl), trivial, trivial⟩ (fun _ _ => rfl) ⟨(fun _ _ => rfl), (fun _ _ => rfl), (fun _ _ => rfl), (fun _ _ => rfl), trivial, (fun _ _ => rfl), (fun _ _ => rfl), trivial, (fun _ _ => rfl), (fun _ _ => rfl), trivial⟩ (ltl (n := 11) (by decide) rfl))
      (svs_one (sv_ret (ev_borrow 9 (.inl rfl) (ev_cmp (op_eqD hr.units) (r_eqD (dList dStr)) (ev_var (i := 9) rfl) (ev_list (evo_lst (T := tStr) (n := 2) (ea_cons (ev_op op_add_str r_cat ev_str (ev_slS (ev_var (i := 8) rfl) ep_none (ep_some (ev_neg ev_int)))) (ea_cons (ev_op op_add_str r_cat (ev_op op_add_str r_cat ev_str (ev_slS (ev_var (i := 8) rfl) ep_none (ep_some (ev_neg ev_int)))) ev_str) ea_nil))))) sc_bool)))))))))))))))
end K60

namespace K60
open PySem PySem.Spec PyProof.Rows L2 ML
def spLaw (K : Fg) : Sp := fun vs H Q _ => ∃ (a : Addr) (ns : List Int), vs = [.ref a] ∧ SqL K H a (ns.map V.int) ∧ ns.length ≤ 63 ∧ ∀ H', Q (.bl true) H'
theorem pr_ints {K : Fg} {H : Hp} : ∀ ns : List Int, Paired (tInt.rep K H) (ns.map V.int) ns
  | [] => .nil
  | _ :: r => .cons rfl (pr_ints r)
theorem law_sp {K : Fg} {vs : List V} {H : Hp} {Q : VK} {E : XK} (h : spLaw K vs H Q E) : spD K (aCons (tList tInt) aNil) tBool law_m vs H Q E := by
  obtain ⟨a, ns, rfl, hS, hl, q⟩ := h
  exact ⟨H, (ns, ()), true, Ex.refl _, ⟨_, _, rfl, ⟨a, _, rfl, hS, pr_ints ns⟩, rfl⟩, law_true ns hl, fun v B' H' _ r => by cases r; exact q _⟩
theorem all_mk {l : PySem.W.OpenLaw} {w : World} {K : Fg} {h : Heap} {mg : Str → Option Value} {fa : Addr} (X : K.In h) (G : h.Ns mainGlobals mg) (hfa : mg "law" = some (.ref fa))
    {od1 an1 : Option Addr} {sl1 : Array (Option Value)} {oc1 kV1 dc1 pm1 cd1 ct1 : Value} {f1 : Addr}
    (a1 : PySem.W.nsIn K mainGlobals "_law_box" = some (some (.ref f1))) (l1 : K.lookup f1 = some ⟨oc1, od1, .func (PySem.W.fnOf "_law_box" "_law_box" (defArgs s_w_box) (defBody s_w_box) (defScope s_w_box) .none kV1 dc1 pm1 an1 cd1 ct1), sl1⟩) (c1 : PySem.W.codeIn K cd1 "_law_box" = true) (k1 : PySem.W.keepIn K (.ref f1) = true)
    {od2 an2 : Option Addr} {sl2 : Array (Option Value)} {oc2 kV2 dc2 pm2 cd2 ct2 : Value} {f2 : Addr}
    (a2 : PySem.W.nsIn K mainGlobals "_law_take" = some (some (.ref f2))) (l2 : K.lookup f2 = some ⟨oc2, od2, .func (PySem.W.fnOf "_law_take" "_law_take" (defArgs s_w_take) (defBody s_w_take) (defScope s_w_take) .none kV2 dc2 pm2 an2 cd2 ct2), sl2⟩) (c2 : PySem.W.codeIn K cd2 "_law_take" = true) (k2 : PySem.W.keepIn K (.ref f2) = true)
    {od3 an3 : Option Addr} {sl3 : Array (Option Value)} {oc3 kV3 dc3 pm3 cd3 ct3 : Value} {f3 : Addr}
    (a3 : PySem.W.nsIn K mainGlobals "_law_letters" = some (some (.ref f3))) (l3 : K.lookup f3 = some ⟨oc3, od3, .func (PySem.W.fnOf "_law_letters" "_law_letters" (defArgs s_w_letters) (defBody s_w_letters) (defScope s_w_letters) .none kV3 dc3 pm3 an3 cd3 ct3), sl3⟩) (c3 : PySem.W.codeIn K cd3 "_law_letters" = true) (k3 : PySem.W.keepIn K (.ref f3) = true)
    {od4 an4 : Option Addr} {sl4 : Array (Option Value)} {oc4 kV4 dc4 pm4 cd4 ct4 : Value} {f4 : Addr}
    (a4 : PySem.W.nsIn K mainGlobals "_law_subsets" = some (some (.ref f4))) (l4 : K.lookup f4 = some ⟨oc4, od4, .func (PySem.W.fnOf "_law_subsets" "_law_subsets" (defArgs s_w_subsets) (defBody s_w_subsets) (defScope s_w_subsets) .none kV4 dc4 pm4 an4 cd4 ct4), sl4⟩) (c4 : PySem.W.codeIn K cd4 "_law_subsets" = true) (k4 : PySem.W.keepIn K (.ref f4) = true)
    {od5 an5 : Option Addr} {sl5 : Array (Option Value)} {oc5 kV5 dc5 pm5 cd5 ct5 : Value} {f5 : Addr}
    (a5 : PySem.W.nsIn K mainGlobals "_law_left" = some (some (.ref f5))) (l5 : K.lookup f5 = some ⟨oc5, od5, .func (PySem.W.fnOf "_law_left" "_law_left" (defArgs s_w_left) (defBody s_w_left) (defScope s_w_left) .none kV5 dc5 pm5 an5 cd5 ct5), sl5⟩) (c5 : PySem.W.codeIn K cd5 "_law_left" = true) (k5 : PySem.W.keepIn K (.ref f5) = true)
    {od6 an6 : Option Addr} {sl6 : Array (Option Value)} {oc6 kV6 dc6 pm6 cd6 ct6 : Value} {f6 : Addr}
    (a6 : PySem.W.nsIn K mainGlobals "subrows" = some (some (.ref f6))) (l6 : K.lookup f6 = some ⟨oc6, od6, .func (PySem.W.fnOf "subrows" "subrows" (defArgs s_subrows) (defBody s_subrows) (defScope s_subrows) .none kV6 dc6 pm6 an6 cd6 ct6), sl6⟩) (c6 : PySem.W.codeIn K cd6 "subrows" = true) (k6 : PySem.W.keepIn K (.ref f6) = true)
    {od7 an7 : Option Addr} {sl7 : Array (Option Value)} {oc7 kV7 dc7 pm7 cd7 ct7 : Value} {f7 : Addr}
    (a7 : PySem.W.nsIn K mainGlobals "law" = some (some (.ref f7))) (l7 : K.lookup f7 = some ⟨oc7, od7, .func (PySem.W.fnOf "law" "law" (defArgs s_law) (defBody s_law) (defScope s_law) .none kV7 dc7 pm7 an7 cd7 ct7), sl7⟩) (c7 : PySem.W.codeIn K cd7 "law" = true) (k7 : PySem.W.keepIn K (.ref f7) = true)
    (z1 : PySem.W.nsIn K mainGlobals "abs" = some none)
    (z2 : PySem.W.nsIn K mainGlobals "int" = some none)
    (z3 : PySem.W.nsIn K mainGlobals "len" = some none)
    (z4 : PySem.W.nsIn K mainGlobals "list" = some none)
    (z5 : PySem.W.nsIn K mainGlobals "range" = some none)
    (z6 : PySem.W.nsIn K mainGlobals "set" = some none)
    (z7 : PySem.W.nsIn K mainGlobals "sorted" = some none)
    (z8 : PySem.W.nsIn K mainGlobals "str" = some none) :
    ∃ fd : FuncData, (∀ (s : Shared) (v : Value), BindsTo s fd ⟨[v], []⟩ [("_law_script", v)]) ∧ ∀ base : Heap, K.In base → base.Ns mainGlobals mg → FnOk l.prog w K mg base CX0 5 fa fd ["_law_script"] (spLaw K) := by
  have e := hfa.symm.trans (PySem.W.mg_of X G a7)
  cases e
  let T : Tx K mg := { f_w_box := f1, fd_w_box := PySem.W.fnOf "_law_box" "_law_box" (defArgs s_w_box) (defBody s_w_box) (defScope s_w_box) .none kV1 dc1 pm1 an1 cd1 ct1, F_w_box := fun_mk (st := s_w_box) l1 c1 k1, g_w_box := PySem.W.mg_of X G a1, b_w_box := (fun_mk (st := s_w_box) l1 c1 k1).binds (ps := ["_law_script"]) (fun _ _ _ _ _ _ us hl => match us, hl with | [_], _ => rfl), f_w_take := f2, fd_w_take := PySem.W.fnOf "_law_take" "_law_take" (defArgs s_w_take) (defBody s_w_take) (defScope s_w_take) .none kV2 dc2 pm2 an2 cd2 ct2, F_w_take := fun_mk (st := s_w_take) l2 c2 k2, g_w_take := PySem.W.mg_of X G a2, b_w_take := (fun_mk (st := s_w_take) l2 c2 k2).binds (ps := ["_law_box_here", "_law_many"]) (fun _ _ _ _ _ _ us hl => match us, hl with | [_, _], _ => rfl), f_w_letters := f3, fd_w_letters := PySem.W.fnOf "_law_letters" "_law_letters" (defArgs s_w_letters) (defBody s_w_letters) (defScope s_w_letters) .none kV3 dc3 pm3 an3 cd3 ct3, F_w_letters := fun_mk (st := s_w_letters) l3 c3 k3, g_w_letters := PySem.W.mg_of X G a3, b_w_letters := (fun_mk (st := s_w_letters) l3 c3 k3).binds (ps := ["_law_box_here", "_law_many"]) (fun _ _ _ _ _ _ us hl => match us, hl with | [_, _], _ => rfl), f_w_subsets := f4, fd_w_subsets := PySem.W.fnOf "_law_subsets" "_law_subsets" (defArgs s_w_subsets) (defBody s_w_subsets) (defScope s_w_subsets) .none kV4 dc4 pm4 an4 cd4 ct4, F_w_subsets := fun_mk (st := s_w_subsets) l4 c4 k4, g_w_subsets := PySem.W.mg_of X G a4, b_w_subsets := (fun_mk (st := s_w_subsets) l4 c4 k4).binds (ps := ["_law_n"]) (fun _ _ _ _ _ _ us hl => match us, hl with | [_], _ => rfl), f_w_left := f5, fd_w_left := PySem.W.fnOf "_law_left" "_law_left" (defArgs s_w_left) (defBody s_w_left) (defScope s_w_left) .none kV5 dc5 pm5 an5 cd5 ct5, F_w_left := fun_mk (st := s_w_left) l5 c5 k5, g_w_left := PySem.W.mg_of X G a5, b_w_left := (fun_mk (st := s_w_left) l5 c5 k5).binds (ps := ["_law_row", "_law_lost"]) (fun _ _ _ _ _ _ us hl => match us, hl with | [_, _], _ => rfl), f_subrows := f6, fd_subrows := PySem.W.fnOf "subrows" "subrows" (defArgs s_subrows) (defBody s_subrows) (defScope s_subrows) .none kV6 dc6 pm6 an6 cd6 ct6, F_subrows := fun_mk (st := s_subrows) l6 c6 k6, g_subrows := PySem.W.mg_of X G a6, b_subrows := (fun_mk (st := s_subrows) l6 c6 k6).binds (ps := ["row", "lost"]) (fun _ _ _ _ _ _ us hl => match us, hl with | [_, _], _ => rfl), f_law := fa, fd_law := PySem.W.fnOf "law" "law" (defArgs s_law) (defBody s_law) (defScope s_law) .none kV7 dc7 pm7 an7 cd7 ct7, F_law := fun_mk (st := s_law) l7 c7 k7, g_law := PySem.W.mg_of X G a7, b_law := (fun_mk (st := s_law) l7 c7 k7).binds (ps := ["_law_script"]) (fun _ _ _ _ _ _ us hl => match us, hl with | [_], _ => rfl), n_abs := PySem.W.mg_none_of X G z1, n_int := PySem.W.mg_none_of X G z2, n_len := PySem.W.mg_none_of X G z3, n_list := PySem.W.mg_none_of X G z4, n_range := PySem.W.mg_none_of X G z5, n_set := PySem.W.mg_none_of X G z6, n_sorted := PySem.W.mg_none_of X G z7, n_str := PySem.W.mg_none_of X G z8 }
  exact ⟨T.fd_law, fun s v => .of_eq rfl, fun base _ _ => (ok_law T).imp fun _ _ _ _ q => law_sp q⟩
end K60
open PySem PySem.W PyProof.Rows
set_option maxHeartbeats 0 in
theorem PySem.Challenge.cw_murmurline_k60_lost_letters_holds : PySem.Challenge.rw_murmurline_k60_lost_letters.Holds := by
  w_on; o_law; k_head; (case hw => w_witness2)
  k_fill
  refine L2.walk_of (l := PySem.Challenge.rw_murmurline_k60_lost_letters) (n := 63) (k := 5) (x := "_law_script") (CX := fun _ => L2.CX0) (sp := fun w => K60.spLaw _) rfl (by decide) rfl ⟨rfl, by decide, by decide⟩ (fun w h Y => PySem.W.kIn_of Y) ?F (fun _ _ a ns hl _ hS => ⟨a, ns, rfl, hS, hl, fun _ => rfl⟩) (fun _ _ _ _ _ h => h)
  case F =>
    intro w mg fa h KX G hmg
    refine' K60.all_mk KX G hmg ?a1 ?l1 ?c1 ?k1 ?a2 ?l2 ?c2 ?k2 ?a3 ?l3 ?c3 ?k3 ?a4 ?l4 ?c4 ?k4 ?a5 ?l5 ?c5 ?k5 ?a6 ?l6 ?c6 ?k6 ?a7 ?l7 ?c7 ?k7 ?z1 ?z2 ?z3 ?z4 ?z5 ?z6 ?z7 ?z8
    (case a1 => k_is); (case l1 => k_is); (case c1 => k_is); (case k1 => k_is); (case a2 => k_is); (case l2 => k_is); (case c2 => k_is); (case k2 => k_is); (case a3 => k_is); (case l3 => k_is); (case c3 => k_is); (case k3 => k_is); (case a4 => k_is); (case l4 => k_is); (case c4 => k_is); (case k4 => k_is); (case a5 => k_is); (case l5 => k_is); (case c5 => k_is); (case k5 => k_is); (case a6 => k_is); (case l6 => k_is); (case c6 => k_is); (case k6 => k_is); (case a7 => k_is); (case l7 => k_is); (case c7 => k_is); (case k7 => k_is); (case z1 => k_is); (case z2 => k_is); (case z3 => k_is); (case z4 => k_is); (case z5 => k_is); (case z6 => k_is); (case z7 => k_is); (case z8 => k_is)
