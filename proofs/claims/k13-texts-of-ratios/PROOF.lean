import PyProof.Rows.All
import Wide.All
import OpenK.AllK
import Wide.FinOn
import HandS.ForMost
import HandS.Exc
import HandS.ExcOwn
import HandS.CallSlots
import HandS.Wide
import HandS.Text
import HandS.FStr
import HandS.Comp
import HandS.Iter
import HandS.Defaults
import HandS.TryOnly
import HandS.TryMany
import HandS.Star
import HandS.ExcBuiltin
import PyProof.StrOps2
import HandS.WideMore
import HandS.HeadHook2
import HandS.HeadEnd
import HandS.Codes
import KE.KStateDown
import HandS.More
import HandS.Words
import HandS.WordsExc
import HandS.Head0
import HandS.Head1
import HandS.Head2
import HandS.HeadHook1
import PySem.Challenge.RW_everydecider_k13_texts_of_ratios
set_option Elab.async false
set_option linter.all false
set_option autoImplicit false
set_option maxRecDepth 100000
set_option maxHeartbeats 0
namespace DL
open PySem L2
/-! ### data -/
inductive D where
  | non | bl (b : Bool) | int (i : Int) | str (x : Str)
  | lst (ds : List D) | tup (ds : List D) | kst (ds : List D)
  | dct (ks : List Key) (ds : List D)
  | dcT (ks : List (List Key)) (ds : List D)
  | obj (c : Str) (fs : List Str) (ds : List D)
  | loc (n : Nat)
  | exc (c : Str) (fs : List Str) (ds : List D)
structure Sg where
  cls : Str → Addr
  K : PySem.W.Frag
abbrev Env := List (Option D)
abbrev Mu := Nat → Option D
def mset (μ : Mu) (n : Nat) (d : Option D) : Mu := fun m => if m = n then d else μ m
abbrev sel {α : Sort _} (b : Bool) (x y : α) : α := match b with
  | true => x
  | false => y
theorem mset_same (μ : Mu) (n : Nat) (d : Option D) : mset μ n d n = d := if_pos rfl
theorem mset_ne {μ : Mu} {n m : Nat} {d : Option D} (h : m ≠ n) : mset μ n d m = μ m := if_neg h
theorem mset_mset (μ : Mu) (n : Nat) (d e : Option D) : mset (mset μ n d) n e = mset μ n e := by
  funext m; unfold mset; split <;> rfl
theorem mset_back {μ : Mu} {n : Nat} {e : Option D} (h : μ n = e) : mset μ n e = μ := by
  funext m; unfold mset; split
  · rename_i q; rw [q, h]
  · rfl
def MSub (μ μ' : Mu) : Prop := ∀ n d, μ n = some d → μ' n = some d
theorem MSub.refl (μ : Mu) : MSub μ μ := fun _ _ h => h
theorem MSub.new {μ μ' : Mu} {n : Nat} {d : Option D} (s : MSub μ μ') (h : μ n = none) : MSub μ (mset μ' n d) := fun m e q => by
  rw [mset_ne (by intro z; rw [z, h] at q; cases q)]; exact s m e q
mutual
def RV (S : Sg) (A : List Addr) (G : Hp) : D → V → Prop
  | .non, v => v = .non
  | .bl b, v => v = .bl b
  | .int i, v => v = .int i
  | .str x, v => v = .str x
  | .lst ds, v => ∃ a vs, v = .ref a ∧ G a = some (.lst vs) ∧ ds.length ≤ sizeLine ∧ RVs S A G ds vs
  | .kst ds, v => ∃ a vs, v = .ref a ∧ SqL S.K G a vs ∧ ds.length ≤ sizeLine ∧ RVs S A G ds vs
  | .tup ds, v => ∃ a vs, v = .ref a ∧ SqT S.K G a vs ∧ ds.length ≤ sizeLine ∧ RVs S A G ds vs
  | .dct ks ds, v => ∃ a vs, v = .ref a ∧ Rd G a (.dK (ks.zip vs)) ∧ ks.length = ds.length ∧ ds.length ≤ sizeLine ∧ RVs S A G ds vs
  | .dcT ks ds, v => ∃ a vs, v = .ref a ∧ Rd G a (.dT (ks.zip vs)) ∧ ks.length = ds.length ∧ ds.length ≤ sizeLine ∧ RVs S A G ds vs
  | .obj c fs ds, v => ∃ a dx vs, v = .ref a ∧ G a = some (.ins (S.cls c) dx (fs.zip vs)) ∧ fs.length = ds.length ∧ RVs S A G ds vs
  | .loc n, v => ∃ a, v = .ref a ∧ A[n]? = some a
  | .exc _ _ _, _ => False
def RVs (S : Sg) (A : List Addr) (G : Hp) : List D → List V → Prop
  | [], vs => vs = []
  | d :: ds, vs => ∃ v ws, vs = v :: ws ∧ RV S A G d v ∧ RVs S A G ds ws
end
/-- what stands at an owned place -/
def RO (S : Sg) (A : List Addr) (G : Hp) : D → Option HO → Prop
  | .lst ds, o => ∃ vs, o = some (.lst vs) ∧ ds.length ≤ sizeLine ∧ RVs S A G ds vs
  | .dct ks ds, o => ∃ vs, o = some (.dK (ks.zip vs)) ∧ ks.length = ds.length ∧ ds.length ≤ sizeLine ∧ RVs S A G ds vs
  | .dcT ks ds, o => ∃ vs, o = some (.dT (ks.zip vs)) ∧ ks.length = ds.length ∧ ds.length ≤ sizeLine ∧ RVs S A G ds vs
  | .obj c fs ds, o => ∃ dx vs, o = some (.ins (S.cls c) dx (fs.zip vs)) ∧ fs.length = ds.length ∧ RVs S A G ds vs
  | _, _ => False
abbrev Ext (A A' : List Addr) : Prop := ∀ (n : Nat) (a : Addr), A[n]? = some a → A'[n]? = some a
theorem SqL.sub {K : PySem.W.Frag} {G G' : Hp} {a : Addr} {xs : List V} (h : SqL K G a xs) (s : Same G G') : SqL K G' a xs := Same.seq s h
theorem Rd.sub {G G' : Hp} {a : Addr} {u : HO} (h : Rd G a u) (s : Same G G') : Rd G' a u := by
  rcases h with h | ⟨o, h⟩
  · exact .inl (s _ _ h)
  · exact .inr ⟨o, s _ _ h⟩
theorem SqT.sub {K : PySem.W.Frag} {G G' : Hp} {a : Addr} {xs : List V} (h : SqT K G a xs) (s : Same G G') : SqT K G' a xs := by
  rcases h with h | h
  · exact .inl (Rd.sub h s)
  · exact .inr h
variable {S : Sg} {A A' A'' : List Addr} {G G' G'' H H' H'' : Hp} {μ μ' μ'' : Mu} {δ δ' : Env} {σ σ' : St}
mutual
theorem RV.mono (e : Ext A A') (s : Same G G') : ∀ {d : D} {v : V}, RV S A G d v → RV S A' G' d v
  | .non, _, h => by simpa [RV] using h
  | .bl _, _, h => by simpa [RV] using h
  | .int _, _, h => by simpa [RV] using h
  | .str _, _, h => by simpa [RV] using h
  | .lst ds, _, h => by
    unfold RV at h ⊢
    obtain ⟨a, vs, rfl, h1, h2, h3⟩ := h
    exact ⟨a, vs, rfl, s _ _ h1, h2, RVs.mono e s h3⟩
  | .kst ds, _, h => by
    unfold RV at h ⊢
    obtain ⟨a, vs, rfl, h1, h2, h3⟩ := h
    exact ⟨a, vs, rfl, SqL.sub h1 s, h2, RVs.mono e s h3⟩
  | .tup ds, _, h => by
    unfold RV at h ⊢
    obtain ⟨a, vs, rfl, h1, h2, h3⟩ := h
    exact ⟨a, vs, rfl, SqT.sub h1 s, h2, RVs.mono e s h3⟩
  | .dct ks ds, _, h => by
    unfold RV at h ⊢
    obtain ⟨a, vs, rfl, h1, h2, h3, h4⟩ := h
    exact ⟨a, vs, rfl, Rd.sub h1 s, h2, h3, RVs.mono e s h4⟩
  | .dcT ks ds, _, h => by
    unfold RV at h ⊢
    obtain ⟨a, vs, rfl, h1, h2, h3, h4⟩ := h
    exact ⟨a, vs, rfl, Rd.sub h1 s, h2, h3, RVs.mono e s h4⟩
  | .obj c fs ds, _, h => by
    unfold RV at h ⊢
    obtain ⟨a, dx, vs, rfl, h1, h2, h3⟩ := h
    exact ⟨a, dx, vs, rfl, s _ _ h1, h2, RVs.mono e s h3⟩
  | .loc n, _, h => by
    unfold RV at h ⊢
    obtain ⟨a, rfl, h1⟩ := h
    exact ⟨a, rfl, e _ _ h1⟩
  | .exc _ _ _, _, h => by unfold RV at h; exact h.elim
theorem RVs.mono (e : Ext A A') (s : Same G G') : ∀ {ds : List D} {vs : List V}, RVs S A G ds vs → RVs S A' G' ds vs
  | [], _, h => by simpa [RVs] using h
  | d :: ds, _, h => by
    unfold RVs at h ⊢
    obtain ⟨v, ws, rfl, h1, h2⟩ := h
    exact ⟨v, ws, rfl, RV.mono e s h1, RVs.mono e s h2⟩
end
theorem RO.mono (e : Ext A A') (s : Same G G') {d : D} {o : Option HO} (h : RO S A G d o) : RO S A' G' d o := by
  cases d <;> unfold RO at h ⊢ <;> first | exact h.elim | skip
  · obtain ⟨vs, rfl, h1, h2⟩ := h; exact ⟨vs, rfl, h1, RVs.mono e s h2⟩
  · obtain ⟨vs, rfl, h1, h2, h3⟩ := h; exact ⟨vs, rfl, h1, h2, RVs.mono e s h3⟩
  · obtain ⟨vs, rfl, h1, h2, h3⟩ := h; exact ⟨vs, rfl, h1, h2, RVs.mono e s h3⟩
  · obtain ⟨dx, vs, rfl, h1, h2⟩ := h; exact ⟨dx, vs, rfl, h1, RVs.mono e s h2⟩
/-- the heap and its data -/
structure Rel (S : Sg) (A : List Addr) (G H : Hp) (μ : Mu) : Prop where
  sub : Same G H
  own : ∀ (n : Nat) (d : D), μ n = some d → ∃ a, A[n]? = some a ∧ G a = none ∧ RO S A G d (H a)
  inj : ∀ (n m : Nat) (d e : D) (a : Addr), μ n = some d → μ m = some e → A[n]? = some a → A[m]? = some a → n = m
  trk : ∀ a, a ∈ A → ∃ u, H a = some u
/-- behind a step -/
structure Aft (A : List Addr) (G H : Hp) (A' : List Addr) (G' H' : Hp) : Prop where
  ext : Ext A A'
  sub : Same G G'
  same : ∀ a o, H a = some o → a ∉ A → H' a = some o
  nw : ∀ a o, G' a = some o → G a = some o ∨ a ∈ A ∨ H a = none
  nwA : ∀ a, a ∈ A' → a ∈ A ∨ H a = none
theorem Aft.refl : Aft A G H A G H := ⟨fun _ _ h => h, fun _ _ h => h, fun _ _ h _ => h, fun _ _ h => .inl h, fun _ h => .inl h⟩
theorem Aft.trans (x : Aft A G H A' G' H') (y : Aft A' G' H' A'' G'' H'') : Aft A G H A'' G'' H'' where
  ext := fun n a h => y.ext n a (x.ext n a h)
  sub := fun a o h => y.sub a o (x.sub a o h)
  same := fun a o h n => y.same a o (x.same a o h n) fun z => by
    rcases x.nwA a z with q | q
    · exact n q
    · rw [q] at h; cases h
  nw := fun a o h => by
    rcases y.nw a o h with q | q | q
    · exact x.nw a o q
    · rcases x.nwA a q with r | r
      · exact .inr (.inl r)
      · exact .inr (.inr r)
    · cases e : H a with
      | none => exact .inr (.inr rfl)
      | some u =>
        by_cases m : a ∈ A
        · exact .inr (.inl m)
        · rw [x.same a u e m] at q; cases q
  nwA := fun a h => by
    rcases y.nwA a h with q | q
    · exact x.nwA a q
    · cases e : H a with
      | none => exact .inr rfl
      | some u =>
        by_cases m : a ∈ A
        · exact .inl m
        · rw [x.same a u e m] at q; cases q
def RE (S : Sg) (A : List Addr) (G : Hp) (δ : Env) (σ : St) : Prop := δ.length = σ.length ∧ ∀ (i : Nat) (d : D), δ[i]? = some (some d) → ∃ v, σ[i]? = some (some v) ∧ RV S A G d v
theorem RE.mono (e : Ext A A') (s : Same G G') (h : RE S A G δ σ) : RE S A' G' δ σ := ⟨h.1, fun i d q => by
  obtain ⟨v, a, b⟩ := h.2 i d q
  exact ⟨v, a, RV.mono e s b⟩⟩
theorem RV.aft {d : D} {v : V} (x : Aft A G H A' G' H') (h : RV S A G d v) : RV S A' G' d v := RV.mono x.ext x.sub h
theorem RVs.aft {d : List D} {v : List V} (x : Aft A G H A' G' H') (h : RVs S A G d v) : RVs S A' G' d v := RVs.mono x.ext x.sub h
theorem RE.aft (x : Aft A G H A' G' H') (h : RE S A G δ σ) : RE S A' G' δ σ := RE.mono x.ext x.sub h
/-! ### wishes and judgements -/
abbrev DQ := D → Mu → Prop
abbrev DX := Str → List Str → List D → Env → Mu → Prop
abbrev RE1 := Env → Mu → DQ → DX → Prop
abbrev RT1 := Env → Mu → (Bool → Mu → Prop) → DX → Prop
abbrev RA1 := Env → Mu → (List D → Mu → Prop) → DX → Prop
/-- the exception as it lies -/
def RX (S : Sg) (A : List Addr) (G H : Hp) (fs : List Str) (ds : List D) : Option Addr → Prop
  | none => fs = [] ∧ ds = []
  | some dx => ∃ vs, H dx = some (.xd (fs.zip vs)) ∧ fs.length = ds.length ∧ RVs S A G ds vs
/-- what is wanted of exceptions: W by ED -/
def HX (S : Sg) (A : List Addr) (G H : Hp) (ED : DX) (W : WX) : Prop := ∀ c fs ds δ' μ' σ' dx A' G' H', Aft A G H A' G' H' → Rel S A' G' H' μ' → RE S A' G' δ' σ' → RX S A' G' H' fs ds dx → ED c fs ds δ' μ' → W (.ref (S.cls c)) dx σ' H'
theorem HX.aft {ED : DX} {W : WX} (x : Aft A G H A' G' H') (h : HX S A G H ED W) : HX S A' G' H' ED W := fun c fs ds δ' μ' σ' dx A2 G2 H2 y => h c fs ds δ' μ' σ' dx A2 G2 H2 (x.trans y)
/-- the reading of an expression, over data -/
def tO (S : Sg) (W : WX) (r : RE1) : TE := fun σ H Q => ∃ A G δ μ QD ED, Rel S A G H μ ∧ RE S A G δ σ ∧ r δ μ QD ED ∧ HX S A G H ED W ∧
  ∀ v H' A' G' d μ', Aft A G H A' G' H' → Rel S A' G' H' μ' → RV S A' G' d v → QD d μ' → Q v H'
def tT (S : Sg) (W : WX) (r : RT1) : TT := fun σ H Q => ∃ A G δ μ QD ED, Rel S A G H μ ∧ RE S A G δ σ ∧ r δ μ QD ED ∧ HX S A G H ED W ∧
  ∀ b H' A' G' μ', Aft A G H A' G' H' → Rel S A' G' H' μ' → QD b μ' → Q b H'
def tA (S : Sg) (W : WX) (r : RA1) : TA := fun σ H Q => ∃ A G δ μ QD ED, Rel S A G H μ ∧ RE S A G δ σ ∧ r δ μ QD ED ∧ HX S A G H ED W ∧
  ∀ vs H' A' G' ds μ', Aft A G H A' G' H' → Rel S A' G' H' μ' → RVs S A' G' ds vs → QD ds μ' → Q vs H'
abbrev PD (S : Sg) (X : Cx) (W : WX) (e : Expr) (r : RE1) : Prop := PE X e (tO S W r)
abbrev PDT (S : Sg) (X : Cx) (W : WX) (e : Expr) (r : RT1) : Prop := PT X e (tT S W r)
abbrev PDA (S : Sg) (X : Cx) (W : WX) (es : List Expr) (r : RA1) : Prop := PA X es (tA S W r)
section
variable {X : Cx} {W : WX} {e : Expr} {t t' : TE} {u u' : TT} {w w' : TA} {es : List Expr}
theorem PE.of (h : PE X e t) (m : ∀ σ H Q, t' σ H Q → t σ H Q) : PE X e t' := ⟨fun pins s σ H Q I q => h.run pins s σ H Q I (m σ H Q q)⟩
theorem PT.of (h : PT X e u) (m : ∀ σ H Q, u' σ H Q → u σ H Q) : PT X e u' := ⟨fun pins s σ H Q I q => h.run pins s σ H Q I (m σ H Q q)⟩
theorem PA.of (h : PA X es w) (m : ∀ σ H Q, w' σ H Q → w σ H Q) : PA X es w' := ⟨fun pos pins s σ H Q I q => h.run pos pins s σ H Q I (m σ H Q q)⟩
/-- one step: r is read, what is known behind it -/
theorem tO.step {r : RE1} {K : D → Mu → Prop} {ED : DX} {Q : VK} (R : Rel S A G H μ) (RE : RE S A G δ σ) (h : r δ μ K ED) (hx : HX S A G H ED W)
    (k : ∀ v H' A' G' d μ', Aft A G H A' G' H' → Rel S A' G' H' μ' → RV S A' G' d v → K d μ' → Q v H') : tO S W r σ H Q := ⟨A, G, δ, μ, K, ED, R, RE, h, hx, k⟩
theorem tT.step {r : RT1} {K : Bool → Mu → Prop} {ED : DX} {Q : Bool → Hp → Prop} (R : Rel S A G H μ) (RE : RE S A G δ σ) (h : r δ μ K ED) (hx : HX S A G H ED W)
    (k : ∀ b H' A' G' μ', Aft A G H A' G' H' → Rel S A' G' H' μ' → K b μ' → Q b H') : tT S W r σ H Q := ⟨A, G, δ, μ, K, ED, R, RE, h, hx, k⟩
theorem tA.step {r : RA1} {K : List D → Mu → Prop} {ED : DX} {Q : List V → Hp → Prop} (R : Rel S A G H μ) (RE : RE S A G δ σ) (h : r δ μ K ED) (hx : HX S A G H ED W)
    (k : ∀ v H' A' G' d μ', Aft A G H A' G' H' → Rel S A' G' H' μ' → RVs S A' G' d v → K d μ' → Q v H') : tA S W r σ H Q := ⟨A, G, δ, μ, K, ED, R, RE, h, hx, k⟩
end
/-! ### names, constants -/
abbrev gt : List (Option D) → Nat → Option D
  | [], _ => none
  | x :: _, 0 => x
  | _ :: xs, n + 1 => gt xs n
theorem gt_some : ∀ {l : List (Option D)} {n : Nat} {d : D}, gt l n = some d → l[n]? = some (some d)
  | [], _, _, h => by cases h
  | x :: _, 0, d, h => by have e : x = some d := h; simp [e]
  | _ :: xs, n + 1, d, h => by simpa using gt_some (l := xs) (n := n) h
abbrev rVar (i : Nat) : RE1 := fun δ μ Q _ => match gt δ i with
  | some d => Q d μ
  | none => False
abbrev rC (d : D) : RE1 := fun _ μ Q _ => Q d μ
section
variable {X : Cx} {W : WX}
theorem dv (i : Nat) {x : Str} {pos : Pos} (hN : X.N[i]? = some x := by rfl) (hv : Vis X.env.scope x := by first | exact Or.inl rfl | exact Or.inr (Or.inl rfl) | exact Or.inr (Or.inr rfl)) (hd : (x == ("__debug__" : Str)) = false := by decide) (hcd : (x == ("__classdict__" : Str)) = false := by decide) :
    PD S X W (.Name x pos) (rVar i) := PE.of (pe_var hN hv hd hcd) fun σ H Q h => by
  obtain ⟨A, G, δ, μ, QD, ED, R, E, h2, hx, k⟩ := h
  unfold rVar at h2
  split at h2
  case h_2 => exact h2.elim
  rename_i d h1
  obtain ⟨v, e1, e2⟩ := E.2 i d (gt_some h1)
  exact ⟨v, e1, k v H A G d μ .refl R e2 h2⟩
theorem tC.of {d : D} {v : V} (r : ∀ A G, RV S A G d v) : ∀ σ H Q, tO S W (rC d) σ H Q → tC v σ H Q := fun σ H Q h => by
  obtain ⟨A, G, δ, μ, QD, ED, R, E, h1, hx, k⟩ := h
  exact k v H A G d μ .refl R (r A G) h1
theorem d_int {i j pos} : PD S X W (.Constant (.int i) j pos) (rC (.int i)) := PE.of pe_int (tC.of fun _ _ => by unfold RV; rfl)
theorem d_bl {b j pos} : PD S X W (.Constant (.bool b) j pos) (rC (.bl b)) := PE.of pe_bl (tC.of fun _ _ => by unfold RV; rfl)
theorem d_non {j pos} : PD S X W (.Constant .none j pos) (rC .non) := PE.of pe_non (tC.of fun _ _ => by unfold RV; rfl)
theorem d_str {x j pos} : PD S X W (.Constant (.str x) j pos) (rC (.str x)) := PE.of pe_str (tC.of fun _ _ => by unfold RV; rfl)
theorem d_gint {x : Str} {i : Int} {pos : Pos} (hg : Gl X x) (hm : ∃ t, X.mg x = some (.int i t)) (hd : (x == ("__debug__" : Str)) = false := by decide) : PD S X W (.Name x pos) (rC (.int i)) := by
  obtain ⟨t, hm⟩ := hm
  exact PE.of (pe_glob (v := .int i) hg hm ⟨t, rfl⟩ hd) (tC.of fun _ _ => by unfold RV; rfl)
theorem d_gstr {x z : Str} {pos : Pos} (hg : Gl X x) (hm : ∃ t, X.mg x = some (.str z t)) (hd : (x == ("__debug__" : Str)) = false := by decide) : PD S X W (.Name x pos) (rC (.str z)) := by
  obtain ⟨t, hm⟩ := hm
  exact PE.of (pe_glob (v := .str z) hg hm ⟨t, rfl⟩ hd) (tC.of fun _ _ => by unfold RV; rfl)
end
end DL
namespace DL
open PySem L2
variable {S : Sg} {A A' A'' : List Addr} {G G' G'' H H' H'' : Hp} {μ μ' μ'' : Mu} {δ δ' : Env} {σ σ' : St}
/-! ### lists of data -/
theorem RVs.len : ∀ {ds : List D} {vs : List V}, RVs S A G ds vs → ds.length = vs.length
  | [], vs, h => by unfold RVs at h; rw [h] <;> rfl
  | d :: ds, vs, h => by
    unfold RVs at h
    obtain ⟨v, ws, rfl, _, h2⟩ := h
    simp [h2.len]
theorem RVs.nil : RVs S A G [] [] := by unfold RVs; rfl
theorem RVs.cons {d : D} {ds : List D} {v : V} {vs : List V} (h : RV S A G d v) (t : RVs S A G ds vs) : RVs S A G (d :: ds) (v :: vs) := by
  unfold RVs; exact ⟨v, vs, rfl, h, t⟩
theorem RVs.uncons {d : D} {ds : List D} {vs : List V} (h : RVs S A G (d :: ds) vs) : ∃ v ws, vs = v :: ws ∧ RV S A G d v ∧ RVs S A G ds ws := by
  unfold RVs at h; exact h
theorem RVs.un0 {vs : List V} (h : RVs S A G [] vs) : vs = [] := by unfold RVs at h; exact h
theorem RVs.app : ∀ {ds es : List D} {vs ws : List V}, RVs S A G ds vs → RVs S A G es ws → RVs S A G (ds ++ es) (vs ++ ws)
  | [], _, vs, _, h, k => by rw [h.un0]; exact k
  | d :: ds, _, vs, _, h, k => by
    obtain ⟨v, us, rfl, h1, h2⟩ := h.uncons
    exact .cons h1 (h2.app k)
theorem RVs.get : ∀ {ds : List D} {vs : List V} {i : Nat} {d : D}, RVs S A G ds vs → ds[i]? = some d → ∃ v, vs[i]? = some v ∧ RV S A G d v
  | [], _, _, _, _, e => by simp at e
  | d :: ds, vs, 0, e, h, q => by
    obtain ⟨v, us, rfl, h1, h2⟩ := h.uncons
    simp at q; subst q
    exact ⟨v, by simp, h1⟩
  | d :: ds, vs, i + 1, e, h, q => by
    obtain ⟨v, us, rfl, h1, h2⟩ := h.uncons
    obtain ⟨w, e1, e2⟩ := h2.get (i := i) (by simpa using q)
    exact ⟨w, by simpa using e1, e2⟩
theorem RVs.take : ∀ {ds : List D} {vs : List V} (n : Nat), RVs S A G ds vs → RVs S A G (ds.take n) (vs.take n)
  | [], vs, n, h => by rw [h.un0]; simp; exact .nil
  | d :: ds, vs, 0, h => by simp; exact .nil
  | d :: ds, vs, n + 1, h => by
    obtain ⟨v, us, rfl, h1, h2⟩ := h.uncons
    simp only [List.take_succ_cons]
    exact .cons h1 (h2.take n)
theorem RVs.drop : ∀ {ds : List D} {vs : List V} (n : Nat), RVs S A G ds vs → RVs S A G (ds.drop n) (vs.drop n)
  | [], vs, n, h => by rw [h.un0]; simp; exact .nil
  | d :: ds, vs, 0, h => by simpa using h
  | d :: ds, vs, n + 1, h => by
    obtain ⟨v, us, rfl, h1, h2⟩ := h.uncons
    simpa using h2.drop n
theorem RVs.set : ∀ {ds : List D} {vs : List V} {d : D} {v : V} (n : Nat), RVs S A G ds vs → RV S A G d v → RVs S A G (ds.set n d) (vs.set n v)
  | [], vs, _, _, n, h, _ => by rw [h.un0]; simp; exact .nil
  | d :: ds, vs, _, _, 0, h, k => by
    obtain ⟨v, us, rfl, h1, h2⟩ := h.uncons
    simpa using RVs.cons k h2
  | d :: ds, vs, _, _, n + 1, h, k => by
    obtain ⟨v, us, rfl, h1, h2⟩ := h.uncons
    simpa using RVs.cons h1 (h2.set n k)
theorem RVs.rep {ds : List D} {vs : List V} (h : RVs S A G ds vs) : ∀ k : Nat, RVs S A G (List.replicate k ds).flatten (List.replicate k vs).flatten
  | 0 => by simp; exact .nil
  | k + 1 => by simp only [List.replicate_succ, List.flatten_cons]; exact h.app (h.rep k)
theorem RVs.dropLast {ds : List D} {vs : List V} (h : RVs S A G ds vs) : RVs S A G ds.dropLast vs.dropLast := by
  rw [List.dropLast_eq_take, List.dropLast_eq_take, h.len]; exact h.take _
theorem RVs.eraseIdx : ∀ {ds : List D} {vs : List V} (n : Nat), RVs S A G ds vs → RVs S A G (ds.eraseIdx n) (vs.eraseIdx n)
  | [], vs, n, h => by rw [h.un0]; simp; exact .nil
  | d :: ds, vs, 0, h => by
    obtain ⟨v, us, rfl, h1, h2⟩ := h.uncons
    simpa using h2
  | d :: ds, vs, n + 1, h => by
    obtain ⟨v, us, rfl, h1, h2⟩ := h.uncons
    simpa using RVs.cons h1 (h2.eraseIdx n)
theorem RV.i {i : Int} {v : V} (h : RV S A G (.int i) v) : v = .int i := by unfold RV at h; exact h
theorem RV.s {i : Str} {v : V} (h : RV S A G (.str i) v) : v = .str i := by unfold RV at h; exact h
theorem RV.b {i : Bool} {v : V} (h : RV S A G (.bl i) v) : v = .bl i := by unfold RV at h; exact h
theorem RV.n {v : V} (h : RV S A G .non v) : v = .non := by unfold RV at h; exact h
theorem RV.int (i : Int) : RV S A G (.int i) (.int i) := by unfold RV; rfl
theorem RV.str (i : Str) : RV S A G (.str i) (.str i) := by unfold RV; rfl
theorem RV.bl (i : Bool) : RV S A G (.bl i) (.bl i) := by unfold RV; rfl
theorem RV.non : RV S A G .non .non := by unfold RV; rfl
theorem RVs.ints : ∀ {ns : List Int} {vs : List V}, RVs S A G (ns.map D.int) vs → vs = ns.map V.int
  | [], vs, h => h.un0
  | n :: ns, vs, h => by
    obtain ⟨v, us, rfl, h1, h2⟩ := RVs.uncons h
    rw [h1.i, RVs.ints h2]; rfl
theorem RVs.ofInts : ∀ (ns : List Int), RVs S A G (ns.map D.int) (ns.map V.int)
  | [] => .nil
  | n :: ns => .cons (RV.int n) (RVs.ofInts ns)
theorem RVs.strs : ∀ {ns : List Str} {vs : List V}, RVs S A G (ns.map D.str) vs → vs = ns.map V.str
  | [], vs, h => h.un0
  | n :: ns, vs, h => by
    obtain ⟨v, us, rfl, h1, h2⟩ := RVs.uncons h
    rw [h1.s, RVs.strs h2]; rfl
theorem RVs.ofStrs : ∀ (ns : List Str), RVs S A G (ns.map D.str) (ns.map V.str)
  | [] => .nil
  | n :: ns => .cons (RV.str n) (RVs.ofStrs ns)
theorem RVs.bls : ∀ {ns : List Bool} {vs : List V}, RVs S A G (ns.map D.bl) vs → vs = ns.map V.bl
  | [], vs, h => h.un0
  | n :: ns, vs, h => by
    obtain ⟨v, us, rfl, h1, h2⟩ := RVs.uncons h
    rw [h1.b, RVs.bls h2]; rfl
/-! ### new objects -/
theorem RO.there {d : D} {o : Option HO} (h : RO S A G d o) : ∃ u, o = some u := by
  cases d <;> unfold RO at h <;> first | exact h.elim | (obtain ⟨_, h3, _⟩ := h; exact ⟨_, h3⟩) | (obtain ⟨_, _, h3, _⟩ := h; exact ⟨_, h3⟩)
theorem trk_upd {p : Addr} {o : HO} (h : ∀ a, a ∈ A → ∃ u, H a = some u) : ∀ a, a ∈ A → ∃ u, upd H p o a = some u := fun a m => by
  by_cases e : a = p
  · subst e; exact ⟨o, upd_same⟩
  · rw [upd_ne e]; exact h a m
theorem Rel.tree (R : Rel S A G H μ) {p : Addr} {o : HO} (hp : H p = none) : Rel S A (upd G p o) (upd H p o) μ ∧ Aft A G H A (upd G p o) (upd H p o) := by
  have gp : G p = none := R.sub.free hp
  have sg : Same G (upd G p o) := fun a u h => by rw [upd_ne (ne_of_none h gp)]; exact h
  refine ⟨⟨fun a u h => ?_, fun n d q => ?_, R.inj, trk_upd R.trk⟩, ⟨fun _ _ h => h, sg, fun a u h _ => ?_, fun a u h => ?_, fun a h => .inl h⟩⟩
  · by_cases e : a = p
    · subst e; rw [upd_same] at h ⊢; exact h
    · rw [upd_ne e] at h ⊢; exact R.sub a u h
  · obtain ⟨a, h1, h2, h3⟩ := R.own n d q
    have ne : a ≠ p := fun e => by
      obtain ⟨u, hu⟩ := h3.there
      rw [e, hp] at hu; cases hu
    refine ⟨a, h1, by rw [upd_ne ne]; exact h2, ?_⟩
    rw [upd_ne ne]
    exact RO.mono (fun _ _ h => h) sg h3
  · rw [upd_ne (ne_of_none h hp)]; exact h
  · by_cases e : a = p
    · subst e; exact .inr (.inr hp)
    · rw [upd_ne e] at h; exact .inl h
theorem Ext.new (A : List Addr) (p : Addr) : Ext A (A ++ [p]) := fun n a h => by
  rw [List.getElem?_append_left (List.getElem?_eq_some_iff.mp h).1]; exact h
theorem Rel.fresh (R : Rel S A G H μ) : μ A.length = none := by
  cases q : μ A.length with
  | none => rfl
  | some d =>
    obtain ⟨a, h1, _⟩ := R.own _ d q
    simp at h1
theorem Rel.new (R : Rel S A G H μ) {p : Addr} {o : HO} {d : D} (hp : H p = none) (r : RO S (A ++ [p]) G d (some o)) :
    Rel S (A ++ [p]) G (upd H p o) (mset μ A.length (some d)) ∧ Aft A G H (A ++ [p]) G (upd H p o) := by
  have gp : G p = none := R.sub.free hp
  have old : ∀ n e, n ≠ A.length → mset μ A.length (some d) n = some e → ∃ a, A[n]? = some a ∧ G a = none ∧ RO S A G e (H a) ∧ a ≠ p := fun n e hn q => by
    rw [mset_ne hn] at q
    obtain ⟨a, h1, h2, h3⟩ := R.own n e q
    obtain ⟨u, hu⟩ := h3.there
    exact ⟨a, h1, h2, h3, fun z => by rw [z, hp] at hu; cases hu⟩
  have last : (A ++ [p])[A.length]? = some p := by simp
  refine ⟨⟨fun a u h => ?_, fun n e q => ?_, fun n m e f a q1 q2 q3 q4 => ?_, fun a m => ?_⟩, ⟨Ext.new A p, fun _ _ h => h, fun a u h _ => ?_, fun a u h => .inl h, fun a h => ?_⟩⟩
  · rw [upd_ne (ne_of_none (R.sub a u h) hp)]; exact R.sub a u h
  · by_cases hn : n = A.length
    · subst hn; rw [mset_same] at q; cases q
      exact ⟨p, last, gp, by rw [upd_same]; exact r⟩
    · obtain ⟨a, h1, h2, h3, h4⟩ := old n e hn q
      exact ⟨a, Ext.new A p n a h1, h2, by rw [upd_ne h4]; exact RO.mono (Ext.new A p) (fun _ _ h => h) h3⟩
  · by_cases hn : n = A.length
    · by_cases hm : m = A.length
      · rw [hn, hm]
      · obtain ⟨b, h1, _, _, h4⟩ := old m f hm q2
        have := Ext.new A p m b h1
        rw [hn, last] at q3; rw [this] at q4; cases q3; cases q4; exact absurd rfl h4
    · by_cases hm : m = A.length
      · obtain ⟨b, h1, _, _, h4⟩ := old n e hn q1
        have := Ext.new A p n b h1
        rw [hm, last] at q4; rw [this] at q3; cases q3; cases q4; exact absurd rfl h4
      · obtain ⟨b, h1, _⟩ := old n e hn q1
        obtain ⟨c, h2, _⟩ := old m f hm q2
        rw [Ext.new A p n b h1] at q3; rw [Ext.new A p m c h2] at q4; cases q3; cases q4
        rw [mset_ne hn] at q1; rw [mset_ne hm] at q2
        exact R.inj n m e f _ q1 q2 h1 h2
  · rcases List.mem_append.mp m with m | m
    · exact trk_upd R.trk a m
    · have : a = p := by simpa using m
      subst this; exact ⟨o, upd_same⟩
  · rw [upd_ne (ne_of_none h hp)]; exact h
  · rcases List.mem_append.mp h with h | h
    · exact .inl h
    · have : a = p := by simpa using h
      subst this; exact .inr hp
theorem Rel.write (R : Rel S A G H μ) {n : Nat} {a : Addr} {o : HO} {d e : D} (q : μ n = some d) (ha : A[n]? = some a) (r : RO S A G e (some o)) :
    Rel S A G (upd H a o) (mset μ n (some e)) ∧ Aft A G H A G (upd H a o) := by
  obtain ⟨b, h1, h2, h3⟩ := R.own n d q
  rw [ha] at h1; cases h1
  have am : a ∈ A := List.mem_of_getElem? ha
  refine ⟨⟨fun c u h => ?_, fun m f z => ?_, fun i j x y c q1 q2 q3 q4 => ?_, trk_upd R.trk⟩, ⟨fun _ _ h => h, fun _ _ h => h, fun c u h nm => ?_, fun c u h => .inl h, fun c h => .inl h⟩⟩
  · rw [upd_ne (ne_of_none h h2)]; exact R.sub c u h
  · by_cases hm : m = n
    · subst hm; rw [mset_same] at z; cases z
      exact ⟨a, ha, h2, by rw [upd_same]; exact r⟩
    · rw [mset_ne hm] at z
      obtain ⟨c, k1, k2, k3⟩ := R.own m f z
      exact ⟨c, k1, k2, by rw [upd_ne fun z2 => hm (R.inj m n f d a z q (by rw [← z2]; exact k1) ha)]; exact k3⟩
  · have live : ∀ k x, mset μ n (some e) k = some x → ∃ x', μ k = some x' := fun k x z => by
      by_cases hk : k = n
      · subst hk; exact ⟨d, q⟩
      · rw [mset_ne hk] at z; exact ⟨x, z⟩
    obtain ⟨x', l1⟩ := live i x q1
    obtain ⟨y', l2⟩ := live j y q2
    exact R.inj i j x' y' c l1 l2 q3 q4
  · rw [upd_ne (fun z => nm (by rw [z]; exact am))]; exact h
theorem Rel.drop (R : Rel S A G H μ) (s : MSub μ' μ) : Rel S A G H μ' := ⟨R.sub, fun n d q => R.own n d (s n d q), fun n m d e a q1 q2 => R.inj n m d e a (s n d q1) (s m e q2), R.trk⟩
theorem MSub.del (μ : Mu) (n : Nat) : MSub (mset μ n none) μ := fun m d q => by
  by_cases h : m = n
  · subst h; rw [mset_same] at q; cases q
  · rw [mset_ne h] at q; exact q
/-- an owned thing is let go: from now on it is data -/
theorem Rel.frz (R : Rel S A G H μ) {n : Nat} {d : D} (q : μ n = some d) : ∃ a G', A[n]? = some a ∧ Rel S A G' H (mset μ n none) ∧ Aft A G H A G' H ∧ RV S A G' d (.ref a) := by
  obtain ⟨a, h1, h2, h3⟩ := R.own n d q
  obtain ⟨u, hu⟩ := h3.there
  have sg : Same G (upd G a u) := fun b x h => by rw [upd_ne (ne_of_none h h2)]; exact h
  refine ⟨a, upd G a u, h1, ⟨fun b x h => ?_, fun m f z => ?_, (R.drop (MSub.del μ n)).inj, R.trk⟩, ⟨fun _ _ h => h, sg, fun _ _ h _ => h, fun b x h => ?_, fun _ h => .inl h⟩, ?_⟩
  · by_cases e : b = a
    · subst e; rw [upd_same] at h; rw [hu]; exact h
    · rw [upd_ne e] at h; exact R.sub b x h
  · have hm : m ≠ n := fun e => by rw [e, mset_same] at z; cases z
    rw [mset_ne hm] at z
    obtain ⟨c, k1, k2, k3⟩ := R.own m f z
    have ne : c ≠ a := fun z2 => hm (R.inj m n f d a z q (by rw [← z2]; exact k1) h1)
    exact ⟨c, k1, by rw [upd_ne ne]; exact k2, RO.mono (fun _ _ h => h) sg k3⟩
  · by_cases e : b = a
    · subst e; exact .inr (.inl (List.mem_of_getElem? h1))
    · rw [upd_ne e] at h; exact .inl h
  · have h4 : RO S A (upd G a u) d (some u) := by rw [← hu]; exact RO.mono (fun _ _ h => h) sg h3
    cases d <;> unfold RO at h4 <;> first | exact h4.elim | skip
    · obtain ⟨vs, e, k1, k2⟩ := h4; cases e; unfold RV; exact ⟨a, vs, rfl, upd_same, k1, k2⟩
    · obtain ⟨vs, e, k0, k1, k2⟩ := h4; cases e; unfold RV; exact ⟨a, vs, rfl, .inl upd_same, k0, k1, k2⟩
    · obtain ⟨vs, e, k0, k1, k2⟩ := h4; cases e; unfold RV; exact ⟨a, vs, rfl, .inl upd_same, k0, k1, k2⟩
    · obtain ⟨dx, vs, e, k1, k2⟩ := h4; cases e; unfold RV; exact ⟨a, dx, vs, rfl, upd_same, k1, k2⟩
/-! ### reading through -/
def seqOf (μ : Mu) : D → Option (List D)
  | .lst ds => some ds
  | .loc n => match μ n with
    | some (.lst ds) => some ds
    | _ => none
  | _ => none
theorem seq_at (R : Rel S A G H μ) {d : D} {v : V} {ds : List D} (h : RV S A G d v) (q : seqOf μ d = some ds) : ∃ a vs, v = .ref a ∧ H a = some (.lst vs) ∧ ds.length ≤ sizeLine ∧ RVs S A G ds vs := by
  cases d <;> simp only [seqOf] at q <;> try cases q
  · unfold RV at h
    obtain ⟨a, vs, rfl, h1, h2, h3⟩ := h
    exact ⟨a, vs, rfl, R.sub _ _ h1, h2, h3⟩
  · rename_i n
    unfold RV at h
    obtain ⟨a, rfl, h1⟩ := h
    cases e : μ n with
    | none => rw [e] at q; cases q
    | some x =>
      rw [e] at q
      cases x <;> simp only at q <;> try cases q
      obtain ⟨b, k1, k2, k3⟩ := R.own n _ e
      rw [h1] at k1; cases k1
      unfold RO at k3
      obtain ⟨vs, k4, k5, k6⟩ := k3
      exact ⟨a, vs, rfl, k4, k5, k6⟩
end DL
namespace DL
open PySem L2
variable {S : Sg} {A A' A'' : List Addr} {G G' G'' H H' H'' : Hp} {μ μ' μ'' : Mu} {δ δ' : Env} {σ σ' : St}
/-! ### operations by data -/
abbrev F2 := D → D → Mu → DQ → Prop
abbrev F1 := D → Mu → DQ → Prop
abbrev FN := List D → Mu → DQ → Prop
/-- what a continuation over data gives a continuation over the heap -/
abbrev Kont (S : Sg) (A : List Addr) (G H : Hp) (QD : DQ) (Q : VK) : Prop := ∀ v H' A' G' d μ', Aft A G H A' G' H' → Rel S A' G' H' μ' → RV S A' G' d v → QD d μ' → Q v H'
theorem Kont.aft {QD : DQ} {Q : VK} (x : Aft A G H A' G' H') (k : Kont S A G H QD Q) : Kont S A' G' H' QD Q := fun v H2 A2 G2 d μ2 y => k v H2 A2 G2 d μ2 (x.trans y)
theorem Kont.now {QD : DQ} {Q : VK} (k : Kont S A G H QD Q) (R : Rel S A G H μ) {d : D} {v : V} (r : RV S A G d v) (q : QD d μ) : Q v H := k v H A G d μ .refl R r q
/-- a new list | tuple of data -/
theorem Kont.lst {QD : DQ} {Q : VK} (k : Kont S A G H QD Q) (R : Rel S A G H μ) {ds : List D} {vs : List V} (r : RVs S A G ds vs) (hz : ds.length ≤ sizeLine) (q : QD (.lst ds) μ) (p : Addr) (hp : H p = none) : Q (.ref p) (upd H p (.lst vs)) := by
  obtain ⟨R1, F⟩ := R.tree (o := .lst vs) hp
  exact k _ _ A _ (.lst ds) μ F R1 (by unfold RV; exact ⟨p, vs, rfl, upd_same, hz, r.aft F⟩) q
theorem Kont.tup {QD : DQ} {Q : VK} (k : Kont S A G H QD Q) (R : Rel S A G H μ) {ds : List D} {vs : List V} (r : RVs S A G ds vs) (hz : ds.length ≤ sizeLine) (q : QD (.tup ds) μ) (p : Addr) (hp : H p = none) : Q (.ref p) (upd H p (.tup vs)) := by
  obtain ⟨R1, F⟩ := R.tree (o := .tup vs) hp
  exact k _ _ A _ (.tup ds) μ F R1 (by unfold RV; exact ⟨p, vs, rfl, SqT.of upd_same, hz, r.aft F⟩) q
/-- a new list that stays one's own -/
theorem Kont.own {QD : DQ} {Q : VK} (k : Kont S A G H QD Q) (R : Rel S A G H μ) {ds : List D} {vs : List V} (r : RVs S A G ds vs) (hz : ds.length ≤ sizeLine) (q : ∀ n, μ n = none → QD (.loc n) (mset μ n (some (.lst ds)))) (p : Addr) (hp : H p = none) : Q (.ref p) (upd H p (.lst vs)) := by
  obtain ⟨R1, F⟩ := R.new (o := .lst vs) (d := .lst ds) hp (by unfold RO; exact ⟨vs, rfl, hz, RVs.mono (Ext.new A p) (fun _ _ h => h) r⟩)
  exact k _ _ _ _ (.loc A.length) _ F R1 (by unfold RV; exact ⟨p, rfl, by simp⟩) (q _ R.fresh)
def DOp (S : Sg) (f : F2) (r : R2) : Prop := ∀ A G H μ x y v u QD Q, Rel S A G H μ → RV S A G x v → RV S A G y u → f x y μ QD → Kont S A G H QD Q → r v u H Q
def DUn (S : Sg) (f : F1) (r : V → Hp → VK → Prop) : Prop := ∀ A G H μ x v QD Q, Rel S A G H μ → RV S A G x v → f x μ QD → Kont S A G H QD Q → r v H Q
def DCl (S : Sg) (f : FN) (r : List V → Hp → VK → Prop) : Prop := ∀ A G H μ xs vs QD Q, Rel S A G H μ → RVs S A G xs vs → f xs μ QD → Kont S A G H QD Q → r vs H Q
def DMt (S : Sg) (f : D → FN) (r : V → List V → Hp → VK → Prop) : Prop := ∀ A G H μ x xs v vs QD Q, Rel S A G H μ → RV S A G x v → RVs S A G xs vs → f x xs μ QD → Kont S A G H QD Q → r v vs H Q
theorem DOp.or {f g : F2} {r t : R2} (h : DOp S f r) (k : DOp S g t) : DOp S (fun x y μ Q => f x y μ Q ∨ g x y μ Q) (fun v u H Q => r v u H Q ∨ t v u H Q) :=
  fun A G H μ x y v u QD Q R rx ry q K => q.imp (fun q => h A G H μ x y v u QD Q R rx ry q K) fun q => k A G H μ x y v u QD Q R rx ry q K
abbrev rOp (f : F2) (ra rb : RE1) : RE1 := fun δ μ Q E => ra δ μ (fun x μ1 => rb δ μ1 (fun y μ2 => f x y μ2 Q) E) E
abbrev rUn (f : F1) (ra : RE1) : RE1 := fun δ μ Q E => ra δ μ (fun x μ1 => f x μ1 Q) E
section
variable {X : Cx} {W : WX} {a b c e : Expr} {es : List Expr} {pos : Pos} {ra rb rc : RE1} {rs : RA1}
theorem tOp.of {f : F2} {r : R2} (hf : DOp S f r) : ∀ σ H Q, tO S W (rOp f ra rb) σ H Q → tOp r (tO S W ra) (tO S W rb) σ H Q := fun σ H Q h => by
  obtain ⟨A, G, δ, μ, QD, ED, R, E, q, hx, k⟩ := h
  refine tO.step R E q hx fun v H1 A1 G1 d μ1 F1 R1 r1 q1 => ?_
  refine tO.step R1 (E.aft F1) q1 (hx.aft F1) fun u H2 A2 G2 y μ2 F2 R2 r2 q2 => ?_
  exact hf A2 G2 H2 μ2 d y v u QD Q R2 (r1.aft F2) r2 q2 (Kont.aft F2 (Kont.aft F1 k))
theorem d_op {op : Operator} {f : F2} {r : R2} (ho : OpR X (binaryOp op) r) (hf : DOp S f r) (ha : PD S X W a ra) (hb : PD S X W b rb) : PD S X W (.BinOp a op b pos) (rOp f ra rb) :=
  PE.of (pe_op ho ha hb) (tOp.of hf)
theorem d_cmp {op : CmpOp} {f : F2} {r : R2} (ho : OpR X (compareOp op) r) (hf : DOp S f r) (ha : PD S X W a ra) (hb : PD S X W b rb) (hm : behindInMarks op b = false) : PD S X W (.Compare a [op] [b] pos) (rOp f ra rb) :=
  PE.of (pe_cmpR ho ha hb hm) (tOp.of hf)
theorem d_ix {f : F2} {r : R2} (ho : IxR X r) (hf : DOp S f r) (ha : PD S X W a ra) (hb : PD S X W b rb) (hs : PlainIx b := by intro _ _; rfl) : PD S X W (.Subscript a b pos) (rOp f ra rb) :=
  PE.of (pe_ix ho ha hb hs) (tOp.of hf)
theorem d_un {op : UnaryOp} {f : F1} {r : V → Hp → VK → Prop} (ho : UnR X (unaryOp op) r) (hf : DUn S f r) (ha : PD S X W a ra) : PD S X W (.UnaryOp op a pos) (rUn f ra) :=
  PE.of (pe_un ho ha) fun σ H Q h => by
    obtain ⟨A, G, δ, μ, QD, ED, R, E, q, hx, k⟩ := h
    refine tO.step R E q hx fun v H1 A1 G1 d μ1 F1 R1 r1 q1 => ?_
    exact hf A1 G1 H1 μ1 d v QD Q R1 r1 q1 (Kont.aft F1 k)
/-! ### tests -/
/-- a value that is a bool, as a test -/
abbrev rTst (r : RE1) : RT1 := fun δ μ Q E => r δ μ (fun x μ1 => match x with
  | .bl b => Q b μ1
  | _ => False) E
theorem tB.of {t : TE} {r : RE1} (h : ∀ σ H Q, tO S W r σ H Q → t σ H Q) : ∀ σ H Q, tT S W (rTst r) σ H Q → tB t σ H Q := fun σ H Q q => by
  obtain ⟨A, G, δ, μ, QD, ED, R, E, q, hx, k⟩ := q
  refine h σ H _ ⟨A, G, δ, μ, _, ED, R, E, q, hx, fun v H1 A1 G1 d μ1 F1 R1 r1 q1 => ?_⟩
  cases d <;> simp only at q1 <;> try exact q1.elim
  exact ⟨_, r1.b, k _ H1 A1 G1 μ1 F1 R1 q1⟩
theorem dt_val (h : PD S X W e ra) (he : ∀ whole, isTrue e X.env whole = (do let v ← whole; standAt e.pos; holding [v] (truthy v)) := by intro _; rfl) : PDT S X W e (rTst ra) :=
  PT.of (pt_val h he) (tB.of fun _ _ _ q => q)
theorem dt_cmp {op : CmpOp} {f : F2} {r : R2} (ho : OpR X (compareOp op) r) (hf : DOp S f r) (ha : PD S X W a ra) (hb : PD S X W b rb) (hm : behindInMarks op b = false) : PDT S X W (.Compare a [op] [b] pos) (rTst (rOp f ra rb)) :=
  PT.of (pt_cmpR ho ha hb hm) (tB.of (tOp.of hf))
/-- truth of any value -/
abbrev oTru : D → Mu → (Bool → Mu → Prop) → Prop
  | .non, μ, Q => Q false μ
  | .bl b, μ, Q => Q b μ
  | .int i, μ, Q => Q (i != 0) μ
  | .str x, μ, Q => x.length ≤ sizeLine ∧ Q ((x.length : Int) != 0) μ
  | .tup ds, μ, Q => Q (!ds.isEmpty) μ
  | d, μ, Q => match seqOf μ d with
    | some ds => Q (!ds.isEmpty) μ
    | none => False
theorem RVs.emp {ds : List D} {vs : List V} (h : RVs S A G ds vs) : ds.isEmpty = vs.isEmpty := by
  cases ds with
  | nil => rw [h.un0] <;> rfl
  | cons d ds => obtain ⟨v, ws, rfl, _⟩ := h.uncons; rfl
abbrev rTru (r : RE1) : RT1 := fun δ μ Q E => r δ μ (fun x μ1 => oTru x μ1 Q) E
theorem dt_tru (h : PD S X W e ra) (he : ∀ whole, isTrue e X.env whole = (do let v ← whole; standAt e.pos; holding [v] (truthy v)) := by intro _; rfl) (hK : X.K = S.K := by rfl) : PDT S X W e (rTru ra) :=
  PT.of (pt_truth h he) fun σ H Q q => by
    obtain ⟨A, G, δ, μ, QD, ED, R, E, q, hx, k⟩ := q
    refine tO.step R E q hx fun v H1 A1 G1 d μ1 F1 R1 r1 q1 => ?_
    have sq : ∀ ds, seqOf μ1 d = some ds → QD (!ds.isEmpty) μ1 → ∃ k, TruV X.K v H1 k ∧ Q k H1 := fun ds es q2 => by
      obtain ⟨a, vs, rfl, k1, k2, k3⟩ := seq_at R1 r1 es
      exact ⟨_, .inl ⟨vs, SqL.of k1, rfl⟩, k _ H1 A1 G1 μ1 F1 R1 (by rw [← k3.emp]; exact q2)⟩
    have oth : (match seqOf μ1 d with
      | some ds => QD (!ds.isEmpty) μ1
      | none => False) → ∃ k, TruV X.K v H1 k ∧ Q k H1 := fun z => by
      cases es : seqOf μ1 d with
      | none => rw [es] at z; exact z.elim
      | some ds => rw [es] at z; exact sq ds es z
    cases d with
    | non => rw [r1.n]; exact ⟨_, rfl, k _ H1 A1 G1 μ1 F1 R1 q1⟩
    | bl b => rw [r1.b]; exact ⟨_, rfl, k _ H1 A1 G1 μ1 F1 R1 q1⟩
    | int i => rw [r1.i]; exact ⟨_, rfl, k _ H1 A1 G1 μ1 F1 R1 q1⟩
    | str x => rw [r1.s]; exact ⟨_, ⟨q1.1, rfl⟩, k _ H1 A1 G1 μ1 F1 R1 q1.2⟩
    | tup ds =>
      unfold RV at r1
      obtain ⟨a, vs, rfl, k1, k2, k3⟩ := r1
      exact ⟨_, .inr (.inl ⟨vs, by rw [hK]; exact SqT.sub k1 R1.sub, rfl⟩), k _ H1 A1 G1 μ1 F1 R1 (by rw [← k3.emp]; exact q1)⟩
    | _ => exact oth q1
abbrev rAndT (t u : RT1) : RT1 := fun δ μ Q E => t δ μ (fun c μ1 => sel c (u δ μ1 Q E) (Q false μ1)) E
abbrev rOrT (t u : RT1) : RT1 := fun δ μ Q E => t δ μ (fun c μ1 => sel c (Q true μ1) (u δ μ1 Q E)) E
abbrev rNotT (t : RT1) : RT1 := fun δ μ Q E => t δ μ (fun c μ1 => Q (!c) μ1) E
abbrev PDW (S : Sg) (X : Cx) (W : WX) (e : Expr) (r : RT1) : Prop := PW X e (tT S W r)
theorem PW.of {u u' : TT} (h : PW X e u) (m : ∀ σ H Q, u' σ H Q → u σ H Q) : PW X e u' := ⟨fun w pins s σ H Q I q => h.run w pins s σ H Q I (m σ H Q q)⟩
variable {ta tb : RT1} {rest : List Expr}
theorem dw_and1 (ha : PDT S X W a ta) : PDW S X W (.BoolOp .And [a] pos) ta := pw_and1 ha
theorem dw_or1 (ha : PDT S X W a ta) : PDW S X W (.BoolOp .Or [a] pos) ta := pw_or1 ha
theorem dw_and (ha : PDT S X W a ta) (hb : PDW S X W (.BoolOp .And (b :: rest) pos) tb) : PDW S X W (.BoolOp .And (a :: b :: rest) pos) (rAndT ta tb) :=
  PW.of (pw_and ha hb) fun σ H Q q => by
    obtain ⟨A, G, δ, μ, QD, ED, R, E, q, hx, k⟩ := q
    refine tT.step R E q hx fun c H1 A1 G1 μ1 F1 R1 q1 => ?_
    cases c with
    | true => rw [if_pos rfl]; simp only [sel] at q1; exact ⟨A1, G1, δ, μ1, QD, ED, R1, E.aft F1, q1, hx.aft F1, fun b H2 A2 G2 μ2 F2 R2 q2 => k b H2 A2 G2 μ2 (F1.trans F2) R2 q2⟩
    | false => rw [if_neg (by decide)]; simp only [sel] at q1; exact k _ H1 A1 G1 μ1 F1 R1 q1
theorem dw_or (ha : PDT S X W a ta) (hb : PDW S X W (.BoolOp .Or (b :: rest) pos) tb) : PDW S X W (.BoolOp .Or (a :: b :: rest) pos) (rOrT ta tb) :=
  PW.of (pw_or ha hb) fun σ H Q q => by
    obtain ⟨A, G, δ, μ, QD, ED, R, E, q, hx, k⟩ := q
    refine tT.step R E q hx fun c H1 A1 G1 μ1 F1 R1 q1 => ?_
    cases c with
    | false => rw [if_neg (by decide)]; simp only [sel] at q1; exact ⟨A1, G1, δ, μ1, QD, ED, R1, E.aft F1, q1, hx.aft F1, fun b H2 A2 G2 μ2 F2 R2 q2 => k b H2 A2 G2 μ2 (F1.trans F2) R2 q2⟩
    | true => rw [if_pos rfl]; simp only [sel] at q1; exact k _ H1 A1 G1 μ1 F1 R1 q1
theorem dt_w (h : PDW S X W e ta) : PDT S X W e ta := PW.pt h
theorem dt_not (ha : PDT S X W a ta) : PDT S X W (.UnaryOp .Not a pos) (rNotT ta) :=
  PT.of (pt_not ha) fun σ H Q q => by
    obtain ⟨A, G, δ, μ, QD, ED, R, E, q, hx, k⟩ := q
    exact tT.step R E q hx fun c H1 A1 G1 μ1 F1 R1 q1 => k _ H1 A1 G1 μ1 F1 R1 q1
/-! ### bools as values -/
abbrev rAndV (ra rb : RE1) : RE1 := fun δ μ Q E => ra δ μ (fun x μ1 => match x with
  | .bl c => sel c (rb δ μ1 Q E) (Q (.bl false) μ1)
  | _ => False) E
abbrev rOrV (ra rb : RE1) : RE1 := fun δ μ Q E => ra δ μ (fun x μ1 => match x with
  | .bl c => sel c (Q (.bl true) μ1) (rb δ μ1 Q E)
  | _ => False) E
abbrev rNotV (ra : RE1) : RE1 := fun δ μ Q E => ra δ μ (fun x μ1 => match x with
  | .bl c => Q (.bl (!c)) μ1
  | _ => False) E
theorem d_one {op} (h : PD S X W a ra) : PD S X W (.BoolOp op [a] pos) ra := pe_one h
theorem d_and (ha : PD S X W a ra) (hb : PD S X W (.BoolOp .And (b :: rest) pos) rb) : PD S X W (.BoolOp .And (a :: b :: rest) pos) (rAndV ra rb) :=
  PE.of (pe_and ha hb) fun σ H Q q => by
    obtain ⟨A, G, δ, μ, QD, ED, R, E, q, hx, k⟩ := q
    refine tO.step R E q hx fun v H1 A1 G1 d μ1 F1 R1 r1 q1 => ?_
    cases d <;> simp only at q1 <;> try exact q1.elim
    rename_i c
    refine ⟨c, r1.b, ?_⟩
    cases c with
    | true => rw [if_pos rfl]; simp only [sel] at q1; exact ⟨A1, G1, δ, μ1, QD, ED, R1, E.aft F1, q1, hx.aft F1, Kont.aft F1 k⟩
    | false => rw [if_neg (by decide)]; simp only [sel] at q1; exact k _ H1 A1 G1 _ μ1 F1 R1 (RV.bl _) q1
theorem d_or (ha : PD S X W a ra) (hb : PD S X W (.BoolOp .Or (b :: rest) pos) rb) : PD S X W (.BoolOp .Or (a :: b :: rest) pos) (rOrV ra rb) :=
  PE.of (pe_or ha hb) fun σ H Q q => by
    obtain ⟨A, G, δ, μ, QD, ED, R, E, q, hx, k⟩ := q
    refine tO.step R E q hx fun v H1 A1 G1 d μ1 F1 R1 r1 q1 => ?_
    cases d <;> simp only at q1 <;> try exact q1.elim
    rename_i c
    refine ⟨c, r1.b, ?_⟩
    cases c with
    | false => rw [if_neg (by decide)]; simp only [sel] at q1; exact ⟨A1, G1, δ, μ1, QD, ED, R1, E.aft F1, q1, hx.aft F1, Kont.aft F1 k⟩
    | true => rw [if_pos rfl]; simp only [sel] at q1; exact k _ H1 A1 G1 _ μ1 F1 R1 (RV.bl _) q1
theorem d_not (ha : PD S X W a ra) : PD S X W (.UnaryOp .Not a pos) (rNotV ra) :=
  PE.of (pe_not ha) fun σ H Q q => by
    obtain ⟨A, G, δ, μ, QD, ED, R, E, q, hx, k⟩ := q
    refine tO.step R E q hx fun v H1 A1 G1 d μ1 F1 R1 r1 q1 => ?_
    cases d <;> simp only at q1 <;> try exact q1.elim
    exact ⟨_, r1.b, k _ H1 A1 G1 _ μ1 F1 R1 (RV.bl _) q1⟩
abbrev rIf (t : RT1) (ra rb : RE1) : RE1 := fun δ μ Q E => t δ μ (fun c μ1 => sel c (ra δ μ1 Q E) (rb δ μ1 Q E)) E
theorem d_if (hc : PDT S X W c ta) (ha : PD S X W a ra) (hb : PD S X W b rb) : PD S X W (.IfExp c a b pos) (rIf ta ra rb) :=
  PE.of (pe_ifExp hc ha hb) fun σ H Q q => by
    obtain ⟨A, G, δ, μ, QD, ED, R, E, q, hx, k⟩ := q
    refine tT.step R E q hx fun c H1 A1 G1 μ1 F1 R1 q1 => ?_
    cases c with
    | true => rw [if_pos rfl]; simp only [sel] at q1; exact ⟨A1, G1, δ, μ1, QD, ED, R1, E.aft F1, q1, hx.aft F1, Kont.aft F1 k⟩
    | false => rw [if_neg (by decide)]; simp only [sel] at q1; exact ⟨A1, G1, δ, μ1, QD, ED, R1, E.aft F1, q1, hx.aft F1, Kont.aft F1 k⟩
/-! ### arguments, displays -/
abbrev rNil : RA1 := fun _ μ Q _ => Q [] μ
abbrev rCons (ra : RE1) (rs : RA1) : RA1 := fun δ μ Q E => ra δ μ (fun x μ1 => rs δ μ1 (fun xs μ2 => Q (x :: xs) μ2) E) E
theorem da_nil : PDA S X W [] rNil := PA.of pa_nil fun σ H Q q => by
  obtain ⟨A, G, δ, μ, QD, ED, R, E, q, hx, k⟩ := q
  exact k _ H A G _ μ .refl R .nil q
theorem da_cons (ha : PD S X W e ra) (hr : PDA S X W es rs) (hs : starEach (e :: es) X.env = (false, eval e X.env) :: starEach es X.env := by rfl) : PDA S X W (e :: es) (rCons ra rs) :=
  PA.of (pa_cons ha hr hs) fun σ H Q q => by
    obtain ⟨A, G, δ, μ, QD, ED, R, E, q, hx, k⟩ := q
    refine tO.step R E q hx fun v H1 A1 G1 d μ1 F1 R1 r1 q1 => ?_
    refine tA.step R1 (E.aft F1) q1 (hx.aft F1) fun vs H2 A2 G2 ds μ2 F2 R2 r2 q2 => ?_
    exact k _ H2 A2 G2 _ μ2 (F1.trans F2) R2 (.cons (r1.aft F2) r2) q2
abbrev rTup (rs : RA1) : RE1 := fun δ μ Q E => rs δ μ (fun xs μ1 => xs.length ≤ sizeLine ∧ Q (.tup xs) μ1) E
abbrev rLst (rs : RA1) : RE1 := fun δ μ Q E => rs δ μ (fun xs μ1 => xs.length ≤ sizeLine ∧ Q (.lst xs) μ1) E
abbrev rLstN (rs : RA1) : RE1 := fun δ μ Q E => rs δ μ (fun xs μ1 => xs.length ≤ sizeLine ∧ ∀ n, μ1 n = none → Q (.loc n) (mset μ1 n (some (.lst xs)))) E
theorem d_tup {x1} (h : PDA S X W es rs) : PD S X W (.Tuple es x1 pos) (rTup rs) := PE.of (pe_tup h) fun σ H Q q => by
  obtain ⟨A, G, δ, μ, QD, ED, R, E, q, hx, k⟩ := q
  exact tA.step R E q hx fun vs H1 A1 G1 ds μ1 F1 R1 r1 q1 => ⟨by rw [← r1.len]; exact q1.1, fun p hp => Kont.tup (Kont.aft F1 k) R1 r1 q1.1 q1.2 p hp⟩
theorem d_lst (h : PDA S X W es rs) : PD S X W (.List es pos) (rLst rs) := PE.of (pe_lst h) fun σ H Q q => by
  obtain ⟨A, G, δ, μ, QD, ED, R, E, q, hx, k⟩ := q
  exact tA.step R E q hx fun vs H1 A1 G1 ds μ1 F1 R1 r1 q1 => ⟨by rw [← r1.len]; exact q1.1, fun p hp => Kont.lst (Kont.aft F1 k) R1 r1 q1.1 q1.2 p hp⟩
theorem d_lstN (h : PDA S X W es rs) : PD S X W (.List es pos) (rLstN rs) := PE.of (pe_lst h) fun σ H Q q => by
  obtain ⟨A, G, δ, μ, QD, ED, R, E, q, hx, k⟩ := q
  exact tA.step R E q hx fun vs H1 A1 G1 ds μ1 F1 R1 r1 q1 => ⟨by rw [← r1.len]; exact q1.1, fun p hp => Kont.own (Kont.aft F1 k) R1 r1 q1.1 q1.2 p hp⟩
/-! ### calls of built-ins -/
abbrev rCl (f : FN) (rs : RA1) : RE1 := fun δ μ Q E => rs δ μ (fun xs μ1 => f xs μ1 Q) E
theorem tCB.of {f : FN} {r : List V → Hp → VK → Prop} (hf : DCl S f r) : ∀ σ H Q, tO S W (rCl f rs) σ H Q → tCB r (tA S W rs) σ H Q := fun σ H Q q => by
  obtain ⟨A, G, δ, μ, QD, ED, R, E, q, hx, k⟩ := q
  exact tA.step R E q hx fun vs H1 A1 G1 ds μ1 F1 R1 r1 q1 => hf A1 G1 H1 μ1 ds vs QD Q R1 r1 q1 (Kont.aft F1 k)
theorem d_callB {x : Str} {id : String} {p : Pos} {f : FN} {r : List V → Hp → VK → Prop} (hc : CallR X (.builtin id) r) (hf : DCl S f r) (hg : Gl X x) (hm : X.mg x = none) (hv : bootBuiltins x = some (.builtin id)) (ha : PDA S X W (e :: es) rs) (hn : x ≠ "__name__" := by decide) (hdb : (x == ("__debug__" : Str)) = false := by decide)
    (he : starEach (e :: es) X.env = (false, eval e X.env) :: starEach es X.env := by rfl) (hpl : (backTo pos (starEach es X.env)).any (·.1) = false := by rfl) : PD S X W (.Call (.Name x p) (e :: es) [] pos) (rCl f rs) :=
  PE.of (pe_callB hc hg hm hv ha hn hdb he hpl) (tCB.of hf)
theorem d_callTy {x : Str} {T : String} {p : Pos} {f : FN} {r : List V → Hp → VK → Prop} (hc : CallR X (.type T) r) (hf : DCl S f r) (hg : Gl X x) (hm : X.mg x = none) (hv : bootBuiltins x = some (.type T)) (ha : PDA S X W (e :: es) rs) (hn : x ≠ "__name__" := by decide) (hdb : (x == ("__debug__" : Str)) = false := by decide)
    (he : starEach (e :: es) X.env = (false, eval e X.env) :: starEach es X.env := by rfl) (hpl : (backTo pos (starEach es X.env)).any (·.1) = false := by rfl) : PD S X W (.Call (.Name x p) (e :: es) [] pos) (rCl f rs) :=
  PE.of (pe_callTy hc hg hm hv ha hn hdb he hpl) (tCB.of hf)
end
end DL
namespace DL
open PySem L2
variable {S : Sg} {A A' A'' : List Addr} {G G' G'' H H' H'' : Hp} {μ μ' μ'' : Mu} {δ δ' : Env} {σ σ' : St}
/-! ### arithmetic -/
abbrev oAdd : F2
  | .int i, .int j, μ, Q => Q (.int (i + j)) μ
  | .str a, .str b, μ, Q => a.length + b.length ≤ sizeLine ∧ Q (.str (a ++ b)) μ
  | .tup a, .tup b, μ, Q => (a ≠ [] ∧ a.length + b.length ≤ sizeLine) ∧ Q (.tup (a ++ b)) μ
  | x, y, μ, Q => match seqOf μ x, seqOf μ y with
    | some a, some b => a.length + b.length ≤ sizeLine ∧ Q (.lst (a ++ b)) μ
    | _, _ => False
abbrev rAddAll (K : PySem.W.Frag) : R2 := fun x y H Q => ((rI0 fun i j => .int (i + j)) x y H Q ∨ (∃ i j, x = .str i ∧ y = .str j ∧ i.length + j.length ≤ sizeLine ∧ Q (.str (i ++ j)) H)) ∨ (rCat x y H Q ∨ rCatT K x y H Q)
theorem op_addAll {X : Cx} : OpR X (binaryOp .Add) (rAddAll X.K) := (op_add.or op_add_str).or (op_cat.or op_catT)
theorem oAdd_ok {K : PySem.W.Frag} (hK : K = S.K) : DOp S oAdd (rAddAll K) := fun A G H μ x y v u QD Q R rx ry q k => by
  have sq : ∀ a b, seqOf μ x = some a → seqOf μ y = some b → a.length + b.length ≤ sizeLine ∧ QD (.lst (a ++ b)) μ → rAddAll K v u H Q := fun a b ea eb z => by
    obtain ⟨p, vs, rfl, k1, k2, k3⟩ := seq_at R rx ea
    obtain ⟨p', us, rfl, l1, l2, l3⟩ := seq_at R ry eb
    exact .inr (.inl ⟨p, p', vs, us, rfl, rfl, k1, l1, by rw [← k3.len, ← l3.len]; exact z.1, fun t ht => Kont.lst k R (k3.app l3) (by rw [List.length_append]; exact z.1) z.2 t ht⟩)
  have oth : (match seqOf μ x, seqOf μ y with
    | some a, some b => a.length + b.length ≤ sizeLine ∧ QD (.lst (a ++ b)) μ
    | _, _ => False) → rAddAll K v u H Q := fun z => by
    cases ea : seqOf μ x with
    | none => rw [ea] at z; exact z.elim
    | some a => cases eb : seqOf μ y with
      | none => rw [ea, eb] at z; exact z.elim
      | some b => rw [ea, eb] at z; exact sq a b ea eb z
  cases x with
  | int i => cases y with
    | int j => rw [rx.i, ry.i]; exact .inl (.inl ⟨i, j, rfl, rfl, Kont.now k R (RV.int _) q⟩)
    | _ => exact oth q
  | str i => cases y with
    | str j => rw [rx.s, ry.s]; exact .inl (.inr ⟨i, j, rfl, rfl, q.1, Kont.now k R (RV.str _) q.2⟩)
    | _ => exact oth q
  | tup a => cases y with
    | tup b =>
      have rx0 := rx
      unfold RV at rx ry
      obtain ⟨p, vs, rfl, k1, k2, k3⟩ := rx
      obtain ⟨p', us, rfl, l1, l2, l3⟩ := ry
      subst hK
      refine .inr (.inr ⟨p, p', vs, us, rfl, rfl, SqT.sub k1 R.sub, SqT.sub l1 R.sub, fun z => ?_, by rw [← k3.len, ← l3.len]; exact q.1.2, fun z => ?_, fun z t ht => ?_⟩)
      · subst z; have := k3.len; simp at this; exact q.1.1 this
      · subst z; have e := l3.len; simp at e; subst e
        exact Kont.now k R rx0 (by simpa using q.2)
      · exact Kont.tup k R (k3.app l3) (by rw [List.length_append]; exact q.1.2) q.2 t ht
    | _ => exact oth q
  | _ => exact oth q
abbrev oI (C : Int → Int → Prop) (g : Int → Int → Int) : F2
  | .int i, .int j, μ, Q => C i j ∧ Q (.int (g i j)) μ
  | _, _, _, _ => False
theorem oI_ok {C : Int → Int → Prop} {g : Int → Int → Int} : DOp S (oI C g) (rI C fun i j => .int (g i j)) := fun A G H μ x y v u QD Q R rx ry q k => by
  cases x <;> try exact q.elim
  cases y <;> try exact q.elim
  rw [rx.i, ry.i]
  exact ⟨_, _, rfl, rfl, q.1, Kont.now k R (RV.int _) q.2⟩
abbrev oI0 (g : Int → Int → Int) : F2
  | .int i, .int j, μ, Q => Q (.int (g i j)) μ
  | _, _, _, _ => False
theorem oI0_ok {g : Int → Int → Int} : DOp S (oI0 g) (rI0 fun i j => .int (g i j)) := fun A G H μ x y v u QD Q R rx ry q k => by
  cases x <;> try exact q.elim
  cases y <;> try exact q.elim
  rw [rx.i, ry.i]
  exact ⟨_, _, rfl, rfl, Kont.now k R (RV.int _) q⟩
abbrev oC (p : Int → Int → Bool) : F2
  | .int i, .int j, μ, Q => Q (.bl (p i j)) μ
  | _, _, _, _ => False
theorem oC_ok {p : Int → Int → Bool} : DOp S (oC p) (rI0 fun i j => .bl (p i j)) := fun A G H μ x y v u QD Q R rx ry q k => by
  cases x <;> try exact q.elim
  cases y <;> try exact q.elim
  rw [rx.i, ry.i]
  exact ⟨_, _, rfl, rfl, Kont.now k R (RV.bl _) q⟩
abbrev oNeg : F1
  | .int i, μ, Q => Q (.int (-i)) μ
  | _, _, _ => False
theorem oNeg_ok : DUn S oNeg (rU fun i => .int (-i)) := fun A G H μ x v QD Q R rx q k => by
  cases x <;> try exact q.elim
  rw [rx.i]
  exact ⟨_, rfl, Kont.now k R (RV.int _) q⟩
section
variable {X : Cx} {W : WX} {a b c e : Expr} {es : List Expr} {pos : Pos} {ra rb rc : RE1} {rs : RA1}
theorem d_add (ha : PD S X W a ra) (hb : PD S X W b rb) (hK : X.K = S.K := by rfl) : PD S X W (.BinOp a .Add b pos) (rOp oAdd ra rb) := d_op op_addAll (oAdd_ok hK) ha hb
theorem d_sub (ha : PD S X W a ra) (hb : PD S X W b rb) : PD S X W (.BinOp a .Sub b pos) (rOp (oI0 fun i j => i - j) ra rb) := d_op op_sub oI0_ok ha hb
/-- * of ints -/
theorem d_mul (ha : PD S X W a ra) (hb : PD S X W b rb) : PD S X W (.BinOp a .Mult b pos) (rOp (oI CMulW fun i j => i * j) ra rb) := d_op op_mulW oI_ok ha hb
theorem d_fdiv (ha : PD S X W a ra) (hb : PD S X W b rb) : PD S X W (.BinOp a .FloorDiv b pos) (rOp (oI CDivW fun i j => i / j) ra rb) := d_op op_fdivW oI_ok ha hb
/-- % by a positive int -/
theorem d_mod (ha : PD S X W a ra) (hb : PD S X W b rb) : PD S X W (.BinOp a .Mod b pos) (rOp (oI (fun _ j => 0 < j) fun i j => i % j) ra rb) := d_op op_mod oI_ok ha hb
theorem d_pow (ha : PD S X W a ra) (hb : PD S X W b rb) : PD S X W (.BinOp a .Pow b pos) (rOp (oI CPow fun i j => i ^ j.toNat) ra rb) := d_op op_pow oI_ok ha hb
theorem d_neg (ha : PD S X W a ra) : PD S X W (.UnaryOp .USub a pos) (rUn oNeg ra) := d_un un_neg oNeg_ok ha
theorem d_lt (ha : PD S X W a ra) (hb : PD S X W b rb) : PD S X W (.Compare a [.Lt] [b] pos) (rOp (oC fun i j => decide (i < j)) ra rb) := d_cmp op_lt oC_ok ha hb (nomark _)
theorem d_le (ha : PD S X W a ra) (hb : PD S X W b rb) : PD S X W (.Compare a [.LtE] [b] pos) (rOp (oC fun i j => decide (i ≤ j)) ra rb) := d_cmp op_le oC_ok ha hb (nomark _)
theorem d_gt (ha : PD S X W a ra) (hb : PD S X W b rb) : PD S X W (.Compare a [.Gt] [b] pos) (rOp (oC fun i j => decide (j < i)) ra rb) := d_cmp op_gt oC_ok ha hb (nomark _)
theorem d_ge (ha : PD S X W a ra) (hb : PD S X W b rb) : PD S X W (.Compare a [.GtE] [b] pos) (rOp (oC fun i j => decide (j ≤ i)) ra rb) := d_cmp op_ge oC_ok ha hb (nomark _)
/-! ### a op b op c -/
abbrev rChn (f g : F2) (ra rb rc : RE1) : RE1 := fun δ μ Q E => ra δ μ (fun x μ1 => rb δ μ1 (fun y μ2 => f x y μ2 fun z μ3 => match z with
  | .bl k => sel k (rc δ μ3 (fun t μ4 => g y t μ4 Q) E) (Q (.bl false) μ3)
  | _ => False) E) E
theorem d_chn {op op' : CmpOp} {f g : F2} {r r' : R2} (ho : OpR X (compareOp op) r) (ho' : OpR X (compareOp op') r') (hf : DOp S f r) (hg : DOp S g r') (ha : PD S X W a ra) (hb : PD S X W b rb) (hc : PD S X W c rc)
    (hm : lastMarks [op, op'] [b, c] = false := by with_unfolding_all rfl) : PD S X W (.Compare a [op, op'] [b, c] pos) (rChn f g ra rb rc) :=
  PE.of (pe_chain ho ho' ha hb hc hm) fun σ H Q h => by
    obtain ⟨A, G, δ, μ, QD, ED, R, E, q, hx, k⟩ := h
    refine tO.step R E q hx fun v H1 A1 G1 d μ1 F1 R1 r1 q1 => ?_
    refine tO.step R1 (E.aft F1) q1 (hx.aft F1) fun u H2 A2 G2 y μ2 F2 R2 r2 q2 => ?_
    refine hf A2 G2 H2 μ2 d y v u _ _ R2 (r1.aft F2) r2 q2 fun z H3 A3 G3 w μ3 F3 R3 r3 q3 => ?_
    cases w <;> simp only at q3 <;> try exact q3.elim
    rename_i kk
    refine ⟨kk, r3.b, ?_⟩
    cases kk with
    | false => rw [if_neg (by decide)]; simp only [sel] at q3; exact k _ _ A3 G3 _ μ3 ((F1.trans F2).trans F3) R3 (RV.bl _) q3
    | true =>
      rw [if_pos rfl]; simp only [sel] at q3
      refine tO.step R3 (((E.aft F1).aft F2).aft F3) q3 (((hx.aft F1).aft F2).aft F3) fun t H4 A4 G4 t' μ4 F4 R4 r4 q4 => ?_
      exact hg A4 G4 H4 μ4 y t' u t QD Q R4 ((r2.aft F3).aft F4) r4 q4 (Kont.aft F4 (Kont.aft F3 (Kont.aft F2 (Kont.aft F1 k))))
end
/-! ### None -/
abbrev oIsN (neg : Bool) : F2
  | x, .non, μ, Q => match x with
    | .exc _ _ _ => False
    | .non => Q (.bl (!neg)) μ
    | _ => Q (.bl neg) μ
  | _, _, _, _ => False
theorem RV.nonIff {d : D} {v : V} (h : RV S A G d v) : (d = .non ↔ v = .non) := by
  cases d <;> unfold RV at h <;> first
    | (subst h; simp)
    | (obtain ⟨_, _, h, _⟩ := h; subst h; simp)
    | (obtain ⟨_, _, _, h, _⟩ := h; subst h; simp)
    | (obtain ⟨_, h, _⟩ := h; subst h; simp)
    | exact h.elim
theorem oIsN_ok : DOp S (oIsN false) (fun x y H Q => y = .non ∧ Q (.bl (decide (x = .non))) H) := fun A G H μ x y v u QD Q R rx ry q k => by
  cases y <;> try exact q.elim
  refine ⟨ry.n, ?_⟩
  have h := rx.nonIff
  cases x <;> try exact q.elim
  case non => rw [rx.n]; exact Kont.now k R (RV.bl _) q
  all_goals
    have e : decide (v = .non) = false := decide_eq_false fun z => by cases h.mpr z
    rw [e]; exact Kont.now k R (RV.bl _) q
theorem oIsNN_ok : DOp S (oIsN true) (fun x y H Q => y = .non ∧ Q (.bl (!decide (x = .non))) H) := fun A G H μ x y v u QD Q R rx ry q k => by
  cases y <;> try exact q.elim
  refine ⟨ry.n, ?_⟩
  have h := rx.nonIff
  cases x <;> try exact q.elim
  case non => rw [rx.n]; exact Kont.now k R (RV.bl _) q
  all_goals
    have e : decide (v = .non) = false := decide_eq_false fun z => by cases h.mpr z
    rw [e]; exact Kont.now k R (RV.bl _) q
/-! ### equality -/
mutual
def py : D → PyData
  | .non => .none
  | .bl b => .bool b
  | .int i => .int i
  | .str x => .str x
  | .lst ds => .list (pys ds)
  | .tup ds => .tuple (pys ds)
  | _ => .none
def pys : List D → List PyData
  | [] => []
  | d :: ds => py d :: pys ds
end
/-- data of a depth, of sound texts -/
def dok : Nat → D → Prop
  | 0, _ => False
  | n + 1, d => match d with
    | .lst ds => ∀ x ∈ ds, dok n x
    | .tup ds => ∀ x ∈ ds, dok n x
    | .str x => PyData.strOk x = true
    | .non => True
    | .bl _ => True
    | .int _ => True
    | _ => False
theorem pys_map : ∀ ds : List D, pys ds = ds.map py
  | [] => rfl
  | d :: ds => by unfold pys; rw [pys_map ds]; rfl
theorem dok_shape : ∀ {n : Nat} {d : D}, dok n d → (py d).canLay0 = true ∧ (py d).depth ≤ n
  | 0, _, h => h.elim
  | n + 1, d, h => by
    have all : ∀ ds : List D, (∀ x ∈ ds, dok n x) → PyData.canLayAll0 (pys ds) = true ∧ PyData.depthAll (pys ds) ≤ n := fun ds => by
      induction ds with
      | nil => intro _; exact ⟨by simp [pys, PyData.canLayAll0], by simp [pys, PyData.depthAll]⟩
      | cons d ds ih =>
        intro h
        obtain ⟨h1, h2⟩ := dok_shape (h d List.mem_cons_self)
        obtain ⟨h3, h4⟩ := ih fun x hx => h x (List.mem_cons_of_mem _ hx)
        refine ⟨by simp [pys, PyData.canLayAll0, h1, h3], ?_⟩
        simp only [pys, PyData.depthAll]
        omega
    cases d with
    | lst ds => obtain ⟨h1, h2⟩ := all ds h; exact ⟨by simpa [py, PyData.canLay0] using h1, by simp only [py, PyData.depth]; omega⟩
    | tup ds => obtain ⟨h1, h2⟩ := all ds h; exact ⟨by simpa [py, PyData.canLay0] using h1, by simp only [py, PyData.depth]; omega⟩
    | str x => exact ⟨by simp only [py, PyData.canLay0]; exact h, by simp [py, PyData.depth]⟩
    | non => exact ⟨by simp [py, PyData.canLay0], by simp [py, PyData.depth]⟩
    | bl b => exact ⟨by simp [py, PyData.canLay0], by simp [py, PyData.depth]⟩
    | int b => exact ⟨by simp [py, PyData.canLay0], by simp [py, PyData.depth]⟩
    | _ => exact h.elim
theorem dok_shaped {d : D} (h : dok 60 d) : SeqAt.shaped (py d) = true := by
  obtain ⟨h1, h2⟩ := dok_shape h
  unfold SeqAt.shaped
  rw [h1, Bool.true_and]
  exact decide_eq_true (by omega)
theorem dok_dp (s : Same G H) : ∀ {n : Nat} {d : D} {v : V}, dok n d → RV S A G d v → Dp S.K H v (py d)
  | 0, _, _, h, _ => h.elim
  | n + 1, d, v, h, r => by
    have all : ∀ (ds : List D) (vs : List V), (∀ x ∈ ds, dok n x) → RVs S A G ds vs → DpAll S.K H vs (pys ds) := fun ds => by
      induction ds with
      | nil => intro vs _ r; rw [r.un0]; unfold pys; exact .nil
      | cons d ds ih =>
        intro vs h r
        obtain ⟨w, ws, rfl, h1, h2⟩ := r.uncons
        unfold pys
        exact .cons (dok_dp s (h d List.mem_cons_self) h1) (ih ws (fun x hx => h x (List.mem_cons_of_mem _ hx)) h2)
    cases d with
    | lst ds =>
      unfold RV at r
      obtain ⟨a, vs, rfl, k1, k2, k3⟩ := r
      unfold py
      exact .lst (SqL.of (s _ _ k1)) (all ds vs h k3)
    | tup ds =>
      unfold RV at r
      obtain ⟨a, vs, rfl, k1, k2, k3⟩ := r
      unfold py
      exact .tup (SqT.sub k1 s) (all ds vs h k3)
    | str x => rw [r.s]; unfold py; exact .str x
    | non => rw [r.n]; unfold py; exact .non
    | bl b => rw [r.b]; unfold py; exact .bl b
    | int b => rw [r.i]; unfold py; exact .int b
    | _ => exact h.elim
/-- what is compared -/
abbrev thru (μ : Mu) : D → D
  | .loc n => (μ n).getD .non
  | d => d
def deq (x y : D) : Bool := PyData.eqv (py x) (py y)
abbrev oEq (neg : Bool) : F2
  | .int i, .int j, μ, Q => Q (.bl (sel neg (!decide (i = j)) (decide (i = j)))) μ
  | .str i, .str j, μ, Q => Q (.bl (sel neg (!decide (i = j)) (decide (i = j)))) μ
  | x, y, μ, Q => dok 60 x ∧ dok 60 y ∧ Q (.bl (sel neg (!deq x y) (deq x y))) μ
theorem oEq_ok {K : PySem.W.Frag} (hK : K = S.K) : DOp S (oEq false) (fun x y H Q => rEq x y H Q ∨ rEqD K x y H Q) := fun A G H μ x y v u QD Q R rx ry q k => by
  have oth : dok 60 x ∧ dok 60 y ∧ QD (.bl (deq x y)) μ → rEq v u H Q ∨ rEqD K v u H Q := fun z => by
    subst hK
    exact .inr ⟨py x, py y, dok_dp R.sub z.1 rx, dok_dp R.sub z.2.1 ry, dok_shaped z.1, dok_shaped z.2.1, Kont.now k R (RV.bl _) z.2.2⟩
  cases x with
  | int i => cases y with
    | int j =>
      rw [rx.i, ry.i]
      refine .inl ⟨rfl, ?_⟩
      have e : decide (V.int i = V.int j) = decide (i = j) := by by_cases h : i = j <;> simp [h]
      rw [e]; exact Kont.now k R (RV.bl _) q
    | _ => exact oth q
  | str i => cases y with
    | str j =>
      rw [rx.s, ry.s]
      refine .inl ⟨rfl, ?_⟩
      have e : decide (V.str i = V.str j) = decide (i = j) := by by_cases h : i = j <;> simp [h]
      rw [e]; exact Kont.now k R (RV.bl _) q
    | _ => exact oth q
  | _ => exact oth q
theorem oNe_ok {K : PySem.W.Frag} (hK : K = S.K) : DOp S (oEq true) (fun x y H Q => rNe x y H Q ∨ rNeD K x y H Q) := fun A G H μ x y v u QD Q R rx ry q k => by
  have oth : dok 60 x ∧ dok 60 y ∧ QD (.bl (!deq x y)) μ → rNe v u H Q ∨ rNeD K v u H Q := fun z => by
    subst hK
    exact .inr ⟨py x, py y, dok_dp R.sub z.1 rx, dok_dp R.sub z.2.1 ry, dok_shaped z.1, dok_shaped z.2.1, Kont.now k R (RV.bl _) z.2.2⟩
  cases x with
  | int i => cases y with
    | int j =>
      rw [rx.i, ry.i]
      refine .inl ⟨rfl, ?_⟩
      have e : decide (V.int i = V.int j) = decide (i = j) := by by_cases h : i = j <;> simp [h]
      rw [e]; exact Kont.now k R (RV.bl _) q
    | _ => exact oth q
  | str i => cases y with
    | str j =>
      rw [rx.s, ry.s]
      refine .inl ⟨rfl, ?_⟩
      have e : decide (V.str i = V.str j) = decide (i = j) := by by_cases h : i = j <;> simp [h]
      rw [e]; exact Kont.now k R (RV.bl _) q
    | _ => exact oth q
  | _ => exact oth q
section
variable {X : Cx} {W : WX} {a b c e : Expr} {es : List Expr} {pos : Pos} {ra rb rc : RE1} {rs : RA1}
theorem d_is (ha : PD S X W a ra) (hb : PD S X W b rb) : PD S X W (.Compare a [.Is] [b] pos) (rOp (oIsN false) ra rb) := d_cmp op_isN oIsN_ok ha hb (nomark _)
theorem d_isnot (ha : PD S X W a ra) (hb : PD S X W b rb) : PD S X W (.Compare a [.IsNot] [b] pos) (rOp (oIsN true) ra rb) := d_cmp op_notN oIsNN_ok ha hb (nomark _)
theorem d_eq (hu : X.A.units + 64 < cLine) (ha : PD S X W a ra) (hb : PD S X W b rb) (hK : X.K = S.K := by rfl) : PD S X W (.Compare a [.Eq] [b] pos) (rOp (oEq false) ra rb) := d_cmp (op_eq.or (op_eqD hu)) (oEq_ok hK) ha hb (nomark _)
theorem d_ne (hu : X.A.units + 64 < cLine) (ha : PD S X W a ra) (hb : PD S X W b rb) (hK : X.K = S.K := by rfl) : PD S X W (.Compare a [.NotEq] [b] pos) (rOp (oEq true) ra rb) := d_cmp (op_ne.or (op_neD hu)) (oNe_ok hK) ha hb (nomark _)
end
end DL
namespace DL
open PySem L2
variable {S : Sg} {A A' A'' : List Addr} {G G' G'' H H' H'' : Hp} {μ μ' μ'' : Mu} {δ δ' : Env} {σ σ' : St}
/-! ### subscripts -/
theorem RVs.at {ds : List D} {vs : List V} {i : Int} {d : D} (h : RVs S A G ds vs) (e : atI ds i = some d) : ∃ v, atI vs i = some v ∧ RV S A G d v := by
  unfold atI at e ⊢
  rw [← h.len]
  cases q : ixN ds.length i with
  | none => rw [q] at e; cases e
  | some j =>
    rw [q] at e
    exact h.get (i := j) e
abbrev oIx : F2
  | .str z, .int i, μ, Q => z.length ≤ sizeLine ∧ (match atI z.cps.toList i with
    | some c => Q (.str ⟨#[c]⟩) μ
    | none => False)
  | .tup ds, .int i, μ, Q => match atI ds i with
    | some d => Q d μ
    | none => False
  | x, .int i, μ, Q => match seqOf μ x with
    | some ds => (match atI ds i with
      | some d => Q d μ
      | none => False)
    | none => False
  | _, _, _, _ => False
theorem oIx_ok {K : PySem.W.Frag} (hK : K = S.K) : DOp S oIx (rIx K) := fun A G H μ x y v u QD Q R rx ry q k => by
  cases y <;> try (cases x <;> exact q.elim)
  rename_i i
  rw [ry.i]
  have oth : (match seqOf μ x with
    | some ds => (match atI ds i with
      | some d => QD d μ
      | none => False)
    | none => False) → rIx K v (.int i) H Q := fun z => by
    cases ea : seqOf μ x with
    | none => rw [ea] at z; exact z.elim
    | some ds =>
      rw [ea] at z
      obtain ⟨p, vs, rfl, k1, k2, k3⟩ := seq_at R rx ea
      cases ei : atI ds i with
      | none => simp only [ei] at z
      | some d =>
        simp only [ei] at z
        obtain ⟨w, e1, e2⟩ := k3.at ei
        exact .inl ⟨p, vs, i, w, rfl, rfl, SqL.of k1, e1, k _ _ _ _ _ _ (Aft.refl) R (RV.mono (fun _ _ h => h) (fun _ _ h => h) e2) z⟩
  cases x with
  | str z =>
    rw [rx.s]
    obtain ⟨q1, q2⟩ := q
    cases ei : atI z.cps.toList i with
    | none => simp only [ei] at q2
    | some c => simp only [ei] at q2; exact .inr (.inr ⟨z, i, c, rfl, rfl, q1, ei, Kont.now k R (RV.str _) q2⟩)
  | tup ds =>
    unfold RV at rx
    obtain ⟨p, vs, rfl, k1, k2, k3⟩ := rx
    have q2 : (match atI ds i with
      | some d => QD d μ
      | none => False) := q
    cases ei : atI ds i with
    | none => simp only [ei] at q2
    | some d =>
      simp only [ei] at q2
      obtain ⟨w, e1, e2⟩ := k3.at ei
      subst hK
      exact .inr (.inl ⟨p, vs, i, w, rfl, rfl, SqT.sub k1 R.sub, e1, Kont.now k R e2 q2⟩)
  | _ => exact oth q
section
variable {X : Cx} {W : WX} {a b c e : Expr} {es : List Expr} {pos : Pos} {ra rb rc : RE1} {rs : RA1}
theorem d_idx (ha : PD S X W a ra) (hb : PD S X W b rb) (hK : X.K = S.K := by rfl) (hs : PlainIx b := by intro _ _; rfl) : PD S X W (.Subscript a b pos) (rOp oIx ra rb) := d_ix ix_seq (oIx_ok hK) ha hb hs
end
/-! ### slices -/
abbrev RO1 := Env → Mu → (Option Int → Mu → Prop) → DX → Prop
def tP (S : Sg) (W : WX) (r : RO1) : TO := fun σ H Q => ∃ A G δ μ QD ED, Rel S A G H μ ∧ RE S A G δ σ ∧ r δ μ QD ED ∧ HX S A G H ED W ∧
  ∀ b H' A' G' μ', Aft A G H A' G' H' → Rel S A' G' H' μ' → QD b μ' → Q b H'
abbrev PDO (S : Sg) (X : Cx) (W : WX) (e : Option Expr) (r : RO1) : Prop := PO X e (tP S W r)
abbrev rNoP : RO1 := fun _ μ Q _ => Q none μ
abbrev rP (r : RE1) : RO1 := fun δ μ Q E => r δ μ (fun x μ1 => match x with
  | .int i => Q (some i) μ1
  | _ => False) E
def cutD (ds : List D) (lo hi : Option Int) : List D := (ds.drop (HT.sIx ds.length 0 lo)).take (HT.sIx ds.length ds.length hi - HT.sIx ds.length 0 lo)
theorem RVs.cut {ds : List D} {vs : List V} (h : RVs S A G ds vs) (lo hi : Option Int) : RVs S A G (cutD ds lo hi) (cutV vs lo hi) := by
  unfold cutD cutV
  rw [h.len]
  exact (h.drop _).take _
theorem cutD_len (ds : List D) (lo hi : Option Int) : (cutD ds lo hi).length ≤ ds.length := by
  unfold cutD; rw [List.length_take, List.length_drop]; omega
abbrev F3 := D → Option Int → Option Int → Mu → DQ → Prop
abbrev oSl : F3
  | .str z, lo, hi, μ, Q => z.length ≤ sizeLine ∧ Q (.str (cutS z lo hi)) μ
  | .tup ds, lo, hi, μ, Q => ¬ (HT.sIx ds.length 0 lo = 0 ∧ HT.sIx ds.length ds.length hi = ds.length) ∧ Q (.tup (cutD ds lo hi)) μ
  | x, lo, hi, μ, Q => match seqOf μ x with
    | some ds => Q (.lst (cutD ds lo hi)) μ
    | none => False
abbrev rSlice (ra : RE1) (rl rh : RO1) : RE1 := fun δ μ Q E => ra δ μ (fun x μ1 => rl δ μ1 (fun lo μ2 => rh δ μ2 (fun hi μ3 => oSl x lo hi μ3 Q) E) E) E
abbrev rSlAll (K : PySem.W.Frag) : V → Option Int → Option Int → Hp → VK → Prop := fun x lo hi H Q => rSlS x lo hi H Q ∨ (rSlL K x lo hi H Q ∨ rSlT K x lo hi H Q)
section
variable {X : Cx} {W : WX} {a b c e : Expr} {es : List Expr} {pos p2 : Pos} {ra rb rc : RE1} {rs : RA1} {lo hi : Option Expr} {rl rh : RO1}
theorem do_none : PDO S X W none rNoP := ⟨fun pins s σ H Q I h => (po_none (X := X)).run pins s σ H Q I (by
  obtain ⟨A, G, δ, μ, QD, ED, R, E, q, hx, k⟩ := h
  exact k _ H A G μ .refl R q)⟩
theorem do_some (h : PD S X W e ra) : PDO S X W (some e) (rP ra) := ⟨fun pins s σ H Q I q => (po_some h).run pins s σ H Q I (by
  obtain ⟨A, G, δ, μ, QD, ED, R, E, q, hx, k⟩ := q
  refine tO.step R E q hx fun v H1 A1 G1 d μ1 F1 R1 r1 q1 => ?_
  cases d <;> simp only at q1 <;> try exact q1.elim
  exact ⟨_, r1.i, k _ H1 A1 G1 μ1 F1 R1 q1⟩)⟩
theorem d_slice (ha : PD S X W a ra) (hl : PDO S X W lo rl) (hh : PDO S X W hi rh) (hK : X.K = S.K := by rfl) : PD S X W (.Subscript a (.Slice lo hi none p2) pos) (rSlice ra rl rh) :=
  PE.of (pe_slice (r := rSlAll X.K) (sl_str.or (sl_list.or sl_tup)) ha hl hh) fun σ H Q h => by
    obtain ⟨A, G, δ, μ, QD, ED, R, E, q, hx, k⟩ := h
    refine tO.step R E q hx fun v H1 A1 G1 d μ1 F1 R1 r1 q1 => ?_
    refine ⟨A1, G1, δ, μ1, _, ED, R1, E.aft F1, q1, hx.aft F1, fun l H2 A2 G2 μ2 F2 R2 q2 => ?_⟩
    refine ⟨A2, G2, δ, μ2, _, ED, R2, (E.aft F1).aft F2, q2, (hx.aft F1).aft F2, fun u H3 A3 G3 μ3 F3 R3 q3 => ?_⟩
    have K3 := Kont.aft F3 (Kont.aft F2 (Kont.aft F1 k))
    have r3 := (r1.aft F2).aft F3
    have oth : (match seqOf μ3 d with
      | some ds => QD (.lst (cutD ds l u)) μ3
      | none => False) → rSlAll X.K v l u H3 Q := fun z => by
      cases ea : seqOf μ3 d with
      | none => rw [ea] at z; exact z.elim
      | some ds =>
        rw [ea] at z
        obtain ⟨p, vs, rfl, k1, k2, k3⟩ := seq_at R3 r3 ea
        exact .inr (.inl ⟨p, vs, rfl, SqL.of k1, fun t ht => Kont.lst K3 R3 (k3.cut l u) (Nat.le_trans (cutD_len _ _ _) k2) z t ht⟩)
    cases d with
    | str z => rw [r3.s]; exact .inl ⟨z, rfl, q3.1, Kont.now K3 R3 (RV.str _) q3.2⟩
    | tup ds =>
      unfold RV at r3
      obtain ⟨p, vs, rfl, k1, k2, k3⟩ := r3
      have q4 : ¬ (HT.sIx ds.length 0 l = 0 ∧ HT.sIx ds.length ds.length u = ds.length) ∧ QD (.tup (cutD ds l u)) μ3 := q3
      refine .inr (.inr ⟨p, vs, rfl, by rw [hK]; exact SqT.sub k1 R3.sub, by rw [← k3.len]; exact q4.1, fun t ht => Kont.tup K3 R3 (k3.cut l u) (Nat.le_trans (cutD_len _ _ _) k2) q4.2 t ht⟩)
    | _ => exact oth q3
end
/-! ### built-ins of one or two arguments -/
abbrev oLen : FN
  | [.str z], μ, Q => z.length ≤ sizeLine ∧ Q (.int z.length) μ
  | [.tup ds], μ, Q => Q (.int ds.length) μ
  | [x], μ, Q => match seqOf μ x with
    | some ds => Q (.int ds.length) μ
    | none => False
  | _, _, _ => False
theorem oLen_ok {K : PySem.W.Frag} (hK : K = S.K) : DCl S oLen (fun xs H Q => ∃ x n, xs = [x] ∧ LenV K x H n ∧ Q (.int n) H) := fun A G H μ xs vs QD Q R r q k => by
  cases xs with
  | nil => exact q.elim
  | cons x xs =>
    obtain ⟨v, ws, rfl, r1, r2⟩ := r.uncons
    cases xs with
    | cons _ _ => cases x <;> exact q.elim
    | nil =>
      rw [r2.un0]
      have oth : (match seqOf μ x with
        | some ds => QD (.int ds.length) μ
        | none => False) → ∃ y n, [v] = [y] ∧ LenV K y H n ∧ Q (.int n) H := fun z => by
        cases ea : seqOf μ x with
        | none => rw [ea] at z; exact z.elim
        | some ds =>
          rw [ea] at z
          obtain ⟨p, vs, rfl, k1, k2, k3⟩ := seq_at R r1 ea
          exact ⟨_, ds.length, rfl, .inl ⟨vs, SqL.of k1, k3.len⟩, Kont.now k R (RV.int _) z⟩
      cases x with
      | str z => rw [r1.s]; exact ⟨_, z.length, rfl, ⟨q.1, rfl⟩, Kont.now k R (RV.int _) q.2⟩
      | tup ds =>
        unfold RV at r1
        obtain ⟨p, vs, rfl, k1, k2, k3⟩ := r1
        subst hK
        exact ⟨_, ds.length, rfl, .inr ⟨vs, SqT.sub k1 R.sub, k3.len⟩, Kont.now k R (RV.int _) q⟩
      | _ => exact oth q
theorem RVs.one {d : D} {vs : List V} (h : RVs S A G [d] vs) : ∃ v, vs = [v] ∧ RV S A G d v := by
  obtain ⟨v, ws, rfl, h1, h2⟩ := h.uncons
  exact ⟨v, by rw [h2.un0], h1⟩
theorem RVs.two {d e : D} {vs : List V} (h : RVs S A G [d, e] vs) : ∃ v u, vs = [v, u] ∧ RV S A G d v ∧ RV S A G e u := by
  obtain ⟨v, ws, rfl, h1, h2⟩ := h.uncons
  obtain ⟨u, rfl, h3⟩ := h2.one
  exact ⟨v, u, rfl, h1, h3⟩
abbrev oAbs : FN
  | [.int i], μ, Q => Q (.int (if i < 0 then -i else i)) μ
  | _, _, _ => False
theorem oAbs_ok : DCl S oAbs (fun xs H Q => ∃ i, xs = [.int i] ∧ Q (.int (if i < 0 then -i else i)) H) := fun A G H μ xs vs QD Q R r q k => by
  unfold oAbs at q
  split at q
  · obtain ⟨v, rfl, r1⟩ := r.one
    rw [r1.i]; exact ⟨_, rfl, Kont.now k R (RV.int _) q⟩
  · exact q.elim
abbrev oMax : FN
  | [.int i, .int j], μ, Q => Q (.int (if j > i then j else i)) μ
  | _, _, _ => False
theorem oMax_ok : DCl S oMax (fun xs H Q => ∃ i j, xs = [.int i, .int j] ∧ Q (.int (if j > i then j else i)) H) := fun A G H μ xs vs QD Q R r q k => by
  unfold oMax at q
  split at q
  · obtain ⟨v, u, rfl, r1, r2⟩ := r.two
    rw [r1.i, r2.i]; exact ⟨_, _, rfl, Kont.now k R (RV.int _) q⟩
  · exact q.elim
abbrev oMin : FN
  | [.int i, .int j], μ, Q => Q (.int (if j < i then j else i)) μ
  | _, _, _ => False
theorem oMin_ok : DCl S oMin (fun xs H Q => ∃ i j, xs = [.int i, .int j] ∧ Q (.int (if j < i then j else i)) H) := fun A G H μ xs vs QD Q R r q k => by
  unfold oMin at q
  split at q
  · obtain ⟨v, u, rfl, r1, r2⟩ := r.two
    rw [r1.i, r2.i]; exact ⟨_, _, rfl, Kont.now k R (RV.int _) q⟩
  · exact q.elim
/-- int(x) of an int, a bool, a text -/
abbrev oInt : FN
  | [.int i], μ, Q => Q (.int i) μ
  | [.bl b], μ, Q => Q (.int (if b then 1 else 0)) μ
  | [.str a], μ, Q => match PySem.intText? a with
    | some n => a.length ≤ 640 ∧ Q (.int n) μ
    | none => False
  | _, _, _ => False
abbrev rIntAll : List V → Hp → VK → Prop := fun xs H Q => ((∃ i, xs = [.int i] ∧ Q (.int i) H) ∨ ∃ k, xs = [.bl k] ∧ Q (.int (if k then 1 else 0)) H) ∨ (∃ a n, xs = [.str a] ∧ PySem.intText? a = some n ∧ a.length ≤ 640 ∧ Q (.int n) H)
theorem oInt_ok : DCl S oInt rIntAll := fun A G H μ xs vs QD Q R r q k => by
  unfold oInt at q
  split at q
  · obtain ⟨v, rfl, r1⟩ := r.one
    rw [r1.i]; exact .inl (.inl ⟨_, rfl, Kont.now k R (RV.int _) q⟩)
  · obtain ⟨v, rfl, r1⟩ := r.one
    rw [r1.b]; exact .inl (.inr ⟨_, rfl, Kont.now k R (RV.int _) q⟩)
  · obtain ⟨v, rfl, r1⟩ := r.one
    split at q
    · rename_i n e
      rw [r1.s]; exact .inr ⟨_, _, rfl, e, q.1, Kont.now k R (RV.int _) q.2⟩
    · exact q.elim
  · exact q.elim
abbrev oStr : FN
  | [.int i], μ, Q => i.natAbs.log2 < 1920 ∧ Q (.str (toString i)) μ
  | _, _, _ => False
theorem oStr_ok : DCl S oStr (fun xs H Q => ∃ i : Int, xs = [.int i] ∧ i.natAbs.log2 < 1920 ∧ Q (.str (toString i)) H) := fun A G H μ xs vs QD Q R r q k => by
  unfold oStr at q
  split at q
  · obtain ⟨v, rfl, r1⟩ := r.one
    rw [r1.i]; exact ⟨_, rfl, q.1, Kont.now k R (RV.str _) q.2⟩
  · exact q.elim
/-- the items of a list, a tuple, a known list -/
def seqA (μ : Mu) : D → Option (List D)
  | .tup ds => some ds
  | .kst ds => some ds
  | x => seqOf μ x
/-- list(x): a new list of data -/
abbrev oListN (own : Bool) : FN := fun xs μ Q => match xs with
  | [x] => match seqA μ x with
    | some ds => sel own (∀ n, μ n = none → Q (.loc n) (mset μ n (some (.lst ds)))) (Q (.lst ds) μ)
    | none => False
  | _ => False
theorem any_at (R : Rel S A G H μ) {x : D} {v : V} {ds : List D} (r : RV S A G x v) (e : seqA μ x = some ds) : ∃ p vs, v = .ref p ∧ (SqL S.K H p vs ∨ SqT S.K H p vs) ∧ ds.length ≤ sizeLine ∧ RVs S A G ds vs := by
  have oth : seqOf μ x = some ds → ∃ p vs, v = .ref p ∧ (SqL S.K H p vs ∨ SqT S.K H p vs) ∧ ds.length ≤ sizeLine ∧ RVs S A G ds vs := fun z => by
    obtain ⟨p, vs, rfl, k1, k2, k3⟩ := seq_at R r z
    exact ⟨p, vs, rfl, .inl (SqL.of k1), k2, k3⟩
  cases x with
  | tup es => cases e; unfold RV at r; obtain ⟨p, vs, rfl, k1, k2, k3⟩ := r; exact ⟨p, vs, rfl, .inr (SqT.sub k1 R.sub), k2, k3⟩
  | kst es => cases e; unfold RV at r; obtain ⟨p, vs, rfl, k1, k2, k3⟩ := r; exact ⟨p, vs, rfl, .inl (SqL.sub k1 R.sub), k2, k3⟩
  | _ => exact oth e
theorem oListN_ok {K : PySem.W.Frag} (hK : K = S.K) (own : Bool) : DCl S (oListN own) (fun xs H Q => ∃ p ys, xs = [.ref p] ∧ (SqL K H p ys ∨ SqT K H p ys) ∧ ∀ l, H l = none → Q (.ref l) (upd H l (.lst ys))) := fun A G H μ xs vs QD Q R r q k => by
  subst hK
  unfold oListN at q
  split at q
  · rename_i x
    obtain ⟨v, rfl, r1⟩ := r.one
    split at q
    · rename_i ds e
      obtain ⟨p, ws, rfl, k1, k2, k3⟩ := any_at R r1 e
      refine ⟨p, ws, rfl, k1, fun l hl => ?_⟩
      cases own with
      | true => exact Kont.own k R k3 k2 (by simpa using q) l hl
      | false => exact Kont.lst k R k3 k2 (by simpa using q) l hl
    · exact q.elim
  · exact q.elim
/-- sums, all, any -/
abbrev oSum : FN := fun xs μ Q => match xs with
  | [x] => match seqOf μ x with
    | some ds => ∃ ns : List Int, ds = ns.map D.int ∧ Q (.int ns.sum) μ
    | none => False
  | _ => False
theorem oSum_ok {K : PySem.W.Frag} (hK : K = S.K) : DCl S oSum (rSum K) := fun A G H μ xs vs QD Q R r q k => by
  unfold oSum at q
  split at q
  · obtain ⟨v, rfl, r1⟩ := r.one
    split at q
    · rename_i ds e
      obtain ⟨ns, rfl, q⟩ := q
      obtain ⟨p, ws, rfl, k1, k2, k3⟩ := seq_at R r1 e
      rw [k3.ints] at k1
      exact ⟨p, ns, rfl, SqL.of k1, Kont.now k R (RV.int _) q⟩
    · exact q.elim
  · exact q.elim
abbrev oAll : FN := fun xs μ Q => match xs with
  | [x] => match seqOf μ x with
    | some ds => ∃ bs : List Bool, ds = bs.map D.bl ∧ Q (.bl (bs.all id)) μ
    | none => False
  | _ => False
abbrev oAny : FN := fun xs μ Q => match xs with
  | [x] => match seqOf μ x with
    | some ds => ∃ bs : List Bool, ds = bs.map D.bl ∧ Q (.bl (bs.any id)) μ
    | none => False
  | _ => False
theorem oAll_ok {K : PySem.W.Frag} (hK : K = S.K) : DCl S oAll (rAll K) := fun A G H μ xs vs QD Q R r q k => by
  unfold oAll at q
  split at q
  · obtain ⟨v, rfl, r1⟩ := r.one
    split at q
    · rename_i ds e
      obtain ⟨ns, rfl, q⟩ := q
      obtain ⟨p, ws, rfl, k1, k2, k3⟩ := seq_at R r1 e
      rw [k3.bls] at k1
      exact ⟨p, ns, rfl, SqL.of k1, Kont.now k R (RV.bl _) q⟩
    · exact q.elim
  · exact q.elim
theorem oAny_ok {K : PySem.W.Frag} (hK : K = S.K) : DCl S oAny (rAny K) := fun A G H μ xs vs QD Q R r q k => by
  unfold oAny at q
  split at q
  · obtain ⟨v, rfl, r1⟩ := r.one
    split at q
    · rename_i ds e
      obtain ⟨ns, rfl, q⟩ := q
      obtain ⟨p, ws, rfl, k1, k2, k3⟩ := seq_at R r1 e
      rw [k3.bls] at k1
      exact ⟨p, ns, rfl, SqL.of k1, Kont.now k R (RV.bl _) q⟩
    · exact q.elim
  · exact q.elim
section
variable {X : Cx} {W : WX} {a b c e : Expr} {es : List Expr} {pos p p2 apos : Pos} {ra rb rc : RE1} {rs : RA1}
theorem d_len (hg : Gl X "len") (hm : X.mg "len" = none) (ha : PDA S X W (e :: es) rs) (hK : X.K = S.K := by rfl) (he : starEach (e :: es) X.env = (false, eval e X.env) :: starEach es X.env := by rfl) (hpl : (backTo pos (starEach es X.env)).any (·.1) = false := by rfl) : PD S X W (.Call (.Name "len" p) (e :: es) [] pos) (rCl oLen rs) :=
  d_callB call_len (oLen_ok hK) hg hm PySem.boot_len ha (he := he) (hpl := hpl)
theorem d_abs (hg : Gl X "abs") (hm : X.mg "abs" = none) (ha : PDA S X W (e :: es) rs) (he : starEach (e :: es) X.env = (false, eval e X.env) :: starEach es X.env := by rfl) (hpl : (backTo pos (starEach es X.env)).any (·.1) = false := by rfl) : PD S X W (.Call (.Name "abs" p) (e :: es) [] pos) (rCl oAbs rs) :=
  d_callB call_abs oAbs_ok hg hm (by decide +kernel) ha (he := he) (hpl := hpl)
theorem d_max (hc : X.calm = true) (hg : Gl X "max") (hm : X.mg "max" = none) (ha : PDA S X W (e :: es) rs) (he : starEach (e :: es) X.env = (false, eval e X.env) :: starEach es X.env := by rfl) (hpl : (backTo pos (starEach es X.env)).any (·.1) = false := by rfl) : PD S X W (.Call (.Name "max" p) (e :: es) [] pos) (rCl oMax rs) :=
  d_callB (call_max2 hc) oMax_ok hg hm (by decide +kernel) ha (he := he) (hpl := hpl)
theorem d_min (hc : X.calm = true) (hg : Gl X "min") (hm : X.mg "min" = none) (ha : PDA S X W (e :: es) rs) (he : starEach (e :: es) X.env = (false, eval e X.env) :: starEach es X.env := by rfl) (hpl : (backTo pos (starEach es X.env)).any (·.1) = false := by rfl) : PD S X W (.Call (.Name "min" p) (e :: es) [] pos) (rCl oMin rs) :=
  d_callB (call_min2 hc) oMin_ok hg hm (by decide +kernel) ha (he := he) (hpl := hpl)
theorem d_toint (hg : Gl X "int") (hm : X.mg "int" = none) (ha : PDA S X W (e :: es) rs) (he : starEach (e :: es) X.env = (false, eval e X.env) :: starEach es X.env := by rfl) (hpl : (backTo pos (starEach es X.env)).any (·.1) = false := by rfl) : PD S X W (.Call (.Name "int" p) (e :: es) [] pos) (rCl oInt rs) :=
  d_callTy (call_int1.or call_int_str) oInt_ok hg hm (by decide +kernel) ha (he := he) (hpl := hpl)
theorem d_tostr (hg : Gl X "str") (hm : X.mg "str" = none) (ha : PDA S X W (e :: es) rs) (he : starEach (e :: es) X.env = (false, eval e X.env) :: starEach es X.env := by rfl) (hpl : (backTo pos (starEach es X.env)).any (·.1) = false := by rfl) : PD S X W (.Call (.Name "str" p) (e :: es) [] pos) (rCl oStr rs) :=
  d_callTy call_str_int oStr_ok hg hm (by decide +kernel) ha (he := he) (hpl := hpl)
theorem d_list (own : Bool) (hg : Gl X "list") (hm : X.mg "list" = none) (ha : PDA S X W (e :: es) rs) (hK : X.K = S.K := by rfl) (he : starEach (e :: es) X.env = (false, eval e X.env) :: starEach es X.env := by rfl) (hpl : (backTo pos (starEach es X.env)).any (·.1) = false := by rfl) : PD S X W (.Call (.Name "list" p) (e :: es) [] pos) (rCl (oListN own) rs) :=
  d_callTy call_list_of (oListN_ok hK own) hg hm (by decide +kernel) ha (he := he) (hpl := hpl)
theorem d_sum (hc : X.calm = true) (hg : Gl X "sum") (hm : X.mg "sum" = none) (ha : PDA S X W (e :: es) rs) (hK : X.K = S.K := by rfl) (he : starEach (e :: es) X.env = (false, eval e X.env) :: starEach es X.env := by rfl) (hpl : (backTo pos (starEach es X.env)).any (·.1) = false := by rfl) : PD S X W (.Call (.Name "sum" p) (e :: es) [] pos) (rCl oSum rs) :=
  d_callB (cr_sum hc) (oSum_ok hK) hg hm (by decide +kernel) ha (he := he) (hpl := hpl)
theorem d_all (hc : X.calm = true) (hg : Gl X "all") (hm : X.mg "all" = none) (ha : PDA S X W (e :: es) rs) (hK : X.K = S.K := by rfl) (he : starEach (e :: es) X.env = (false, eval e X.env) :: starEach es X.env := by rfl) (hpl : (backTo pos (starEach es X.env)).any (·.1) = false := by rfl) : PD S X W (.Call (.Name "all" p) (e :: es) [] pos) (rCl oAll rs) :=
  d_callB (cr_all hc) (oAll_ok hK) hg hm (by decide +kernel) ha (he := he) (hpl := hpl)
theorem d_any (hc : X.calm = true) (hg : Gl X "any") (hm : X.mg "any" = none) (ha : PDA S X W (e :: es) rs) (hK : X.K = S.K := by rfl) (he : starEach (e :: es) X.env = (false, eval e X.env) :: starEach es X.env := by rfl) (hpl : (backTo pos (starEach es X.env)).any (·.1) = false := by rfl) : PD S X W (.Call (.Name "any" p) (e :: es) [] pos) (rCl oAny rs) :=
  d_callB (cr_any hc) (oAny_ok hK) hg hm (by decide +kernel) ha (he := he) (hpl := hpl)
/-! ### in -/
abbrev oInS (neg : Bool) : F2
  | .str x, .str z, μ, Q => match x.cps.toList with
    | [c] => Q (.bl (sel neg (!decide (c ∈ z.cps.toList)) (decide (c ∈ z.cps.toList)))) μ
    | _ => False
  | _, _, _, _ => False
theorem sign_of {x : Str} {c : Nat} (h : x.cps.toList = [c]) : x = ⟨#[c]⟩ := by
  obtain ⟨a⟩ := x
  have h : a.toList = [c] := h
  have : a = #[c] := by rw [← Array.toArray_toList (xs := a), h]
  rw [this]
theorem oInS_ok : DOp S (oInS false) (fun x y H Q => ∃ (c : Nat) (z : Str), x = .str ⟨#[c]⟩ ∧ y = .str z ∧ Q (.bl (decide (c ∈ z.cps.toList))) H) := fun A G H μ x y v u QD Q R rx ry q k => by
  unfold oInS at q
  split at q
  · split at q
    · rename_i x z _ c e
      rw [rx.s, ry.s, sign_of e]
      exact ⟨c, z, rfl, rfl, Kont.now k R (RV.bl _) q⟩
    · exact q.elim
  · exact q.elim
theorem oInSN_ok : DOp S (oInS true) (fun x y H Q => ∃ (c : Nat) (z : Str), x = .str ⟨#[c]⟩ ∧ y = .str z ∧ Q (.bl (!decide (c ∈ z.cps.toList))) H) := fun A G H μ x y v u QD Q R rx ry q k => by
  unfold oInS at q
  split at q
  · split at q
    · rename_i x z _ c e
      rw [rx.s, ry.s, sign_of e]
      exact ⟨c, z, rfl, rfl, Kont.now k R (RV.bl _) q⟩
    · exact q.elim
  · exact q.elim
theorem d_insign (ha : PD S X W a ra) (hb : PD S X W b rb) (hm : behindInMarks .In b = false := by rfl) : PD S X W (.Compare a [.In] [b] pos) (rOp (oInS false) ra rb) := d_cmp op_in_sign oInS_ok ha hb hm
/-! ### methods of texts -/
abbrev rSM (f : D → FN) (ro re : RE1) : RE1 := fun δ μ Q E => ro δ μ (fun x μ1 => match x with
  | .str a => re δ μ1 (fun y μ2 => f (.str a) [y] μ2 Q) E
  | _ => False) E
theorem tM1.of {f : D → FN} {r : V → List V → Hp → VK → Prop} (hf : DMt S f r) : ∀ σ H Q, tO S W (rSM f ra rb) σ H Q → tM1 r (tO S W ra) (tO S W rb) σ H Q := fun σ H Q h => by
  obtain ⟨A, G, δ, μ, QD, ED, R, E, q, hx, k⟩ := h
  refine tO.step R E q hx fun v H1 A1 G1 d μ1 F1 R1 r1 q1 => ?_
  cases d <;> simp only at q1 <;> try exact q1.elim
  refine ⟨⟨_, r1.s⟩, ?_⟩
  refine tO.step R1 (E.aft F1) q1 (hx.aft F1) fun u H2 A2 G2 y μ2 F2 R2 r2 q2 => ?_
  exact hf A2 G2 H2 μ2 _ _ v [u] QD Q R2 (r1.aft F2) (.cons r2 .nil) q2 (Kont.aft F2 (Kont.aft F1 k))
abbrev oSplit : D → FN
  | .str a, [.str b], μ, Q => ((b.length == 0) = false ∧ a.length + 2 ≤ sizeLine) ∧ (Txt.split a b).length ≤ sizeLine ∧ Q (.lst ((Txt.split a b).map D.str)) μ
  | _, _, _, _ => False
theorem oSplit_ok : DMt S oSplit (fun x xs H Q => ∃ a b, x = .str a ∧ xs = [.str b] ∧ (b.length == 0) = false ∧ a.length + 2 ≤ sizeLine ∧ rNewStrs (Txt.split a b) H Q) := fun A G H μ x xs v vs QD Q R rx r q k => by
  unfold oSplit at q
  split at q
  · obtain ⟨u, rfl, r1⟩ := r.one
    rw [rx.s, r1.s]
    exact ⟨_, _, rfl, rfl, q.1.1, q.1.2, fun p hp => Kont.lst k R (RVs.ofStrs _) (by rw [List.length_map]; exact q.2.1) q.2.2 p hp⟩
  · exact q.elim
theorem d_split (ho : PD S X W a ra) (he : PD S X W b rb) (hs : starEach [b] X.env = [(false, eval b X.env)] := by rfl) (hbase : attributeBase a "split" X.env (eval a X.env) = eval a X.env := by rfl) (hline : (apos.endLine == pos.line) = true := by rfl) :
    PD S X W (.Call (.Attribute a "split" apos) [b] [] pos) (rSM oSplit ra rb) := PE.of (pe_split ho he hs hbase hline) (tM1.of oSplit_ok)
abbrev oJoin : D → FN
  | .str a, [x], μ, Q => match seqOf μ x with
    | some ds => ∃ ys : List Str, ds = ys.map D.str ∧ (ys.map (·.length)).sum + ys.length * a.length ≤ 16777216 ∧ Q (.str (Txt.join a ys)) μ
    | none => False
  | _, _, _, _ => False
theorem oJoin_ok {K : PySem.W.Frag} (hK : K = S.K) : DMt S oJoin (fun x xs H Q => ∃ a p, ∃ ys : List Str, x = .str a ∧ xs = [.ref p] ∧ (SqL K H p (ys.map V.str) ∨ SqT K H p (ys.map V.str)) ∧
    (ys.map (·.length)).sum + ys.length * a.length ≤ 16777216 ∧ Q (.str (Txt.join a ys)) H) := fun A G H μ x xs v vs QD Q R rx r q k => by
  unfold oJoin at q
  split at q
  · obtain ⟨u, rfl, r1⟩ := r.one
    split at q
    · rename_i ds e
      obtain ⟨ys, rfl, q1, q2⟩ := q
      obtain ⟨p, ws, rfl, k1, k2, k3⟩ := seq_at R r1 e
      rw [k3.strs] at k1
      rw [rx.s]
      exact ⟨_, p, ys, rfl, rfl, .inl (SqL.of k1), q1, Kont.now k R (RV.str _) q2⟩
    · exact q.elim
  · exact q.elim
theorem d_join (ho : PD S X W a ra) (he : PD S X W b rb) (hK : X.K = S.K := by rfl) (hs : starEach [b] X.env = [(false, eval b X.env)] := by rfl) (hbase : attributeBase a "join" X.env (eval a X.env) = eval a X.env := by rfl) (hline : (apos.endLine == pos.line) = true := by rfl) :
    PD S X W (.Call (.Attribute a "join" apos) [b] [] pos) (rSM oJoin ra rb) := PE.of (pe_join ho he hs hbase hline) (tM1.of (oJoin_ok hK))
/-! ### f-strings -/
abbrev oFmt : F1
  | .str y, μ, Q => y.length ≤ sizeLine ∧ Q (.str y) μ
  | .int i, μ, Q => i.natAbs.log2 < 1920 ∧ Q (.str (toString i)) μ
  | _, _, _ => False
theorem d_fmt (h : PD S X W a ra) : PD S X W (.FormattedValue a (-1) none pos) (rUn oFmt ra) := PE.of (pe_fmt h) fun σ H Q h => by
  obtain ⟨A, G, δ, μ, QD, ED, R, E, q, hx, k⟩ := h
  refine tO.step R E q hx fun v H1 A1 G1 d μ1 F1 R1 r1 q1 => ?_
  cases d <;> try exact q1.elim
  · rw [r1.i]; exact .inr ⟨_, rfl, q1.1, Kont.now (Kont.aft F1 k) R1 (RV.str _) q1.2⟩
  · rw [r1.s]; exact .inl ⟨_, rfl, q1.1, Kont.now (Kont.aft F1 k) R1 (RV.str _) q1.2⟩
inductive PDJ (S : Sg) (X : Cx) (W : WX) : List Expr → List RE1 → Prop where
  | nil : PDJ S X W [] []
  | cons {e : Expr} {r : RE1} {es : List Expr} {rs : List RE1} (h : PD S X W e r) (t : PDJ S X W es rs) : PDJ S X W (e :: es) (r :: rs)
abbrev rJs : List RE1 → Str → Env → Mu → (Str → Mu → Prop) → DX → Prop
  | [], acc, _, μ, Q, _ => Q acc μ
  | r :: rs, acc, δ, μ, Q, E => r δ μ (fun x μ1 => match x with
    | .str y => (acc ++ y).length ≤ sizeLine ∧ rJs rs (acc ++ y) δ μ1 Q E
    | _ => False) E
theorem PDJ.pj {es : List Expr} {rs : List RE1} (h : PDJ S X W es rs) : PJ X es (rs.map (tO S W)) := by
  induction h with
  | nil => exact .nil
  | cons h _ ih => exact .cons h ih
theorem js_of : ∀ (rs : List RE1) (acc : Str) (σ : St) (H : Hp) (Q : Str → Hp → Prop) (A : List Addr) (G : Hp) (δ : Env) (μ : Mu) (QD : Str → Mu → Prop) (ED : DX), Rel S A G H μ → RE S A G δ σ → rJs rs acc δ μ QD ED → HX S A G H ED W →
    (∀ out H' A' G' μ', Aft A G H A' G' H' → Rel S A' G' H' μ' → QD out μ' → Q out H') → tJs (rs.map (tO S W)) acc σ H Q
  | [], acc, σ, H, Q, A, G, δ, μ, QD, ED, R, E, q, hx, k => k acc H A G μ .refl R q
  | r :: rs, acc, σ, H, Q, A, G, δ, μ, QD, ED, R, E, q, hx, k => by
    refine tO.step R E q hx fun v H1 A1 G1 d μ1 F1 R1 r1 q1 => ?_
    cases d <;> simp only at q1 <;> try exact q1.elim
    exact ⟨_, r1.s, q1.1, js_of rs _ σ H1 Q A1 G1 δ μ1 QD ED R1 (E.aft F1) q1.2 (hx.aft F1) fun out H2 A2 G2 μ2 F2 R2 q2 => k out H2 A2 G2 μ2 (F1.trans F2) R2 q2⟩
abbrev rJoined (rs : List RE1) : RE1 := fun δ μ Q E => rJs rs Str.empty δ μ (fun out μ1 => Q (.str out) μ1) E
theorem d_joined {v1 v2 : Expr} {rest : List Expr} {rs : List RE1} (h : PDJ S X W (v1 :: v2 :: rest) rs) : PD S X W (.JoinedStr (v1 :: v2 :: rest) pos) (rJoined rs) := PE.of (pe_joined h.pj) fun σ H Q h => by
  obtain ⟨A, G, δ, μ, QD, ED, R, E, q, hx, k⟩ := h
  exact js_of rs _ σ H _ A G δ μ _ ED R E q hx fun out H' A' G' μ' F' R' q' => k _ H' A' G' _ μ' F' R' (RV.str _) q'
end
end DL
namespace DL
open PySem L2
variable {S : Sg} {A A' A'' : List Addr} {G G' G'' H H' H'' : Hp} {μ μ' μ'' : Mu} {δ δ' : Env} {σ σ' : St}
/-! ### statements -/
structure EndsD where
  nx : Env → Mu → Prop
  rt : D → Mu → Prop
  bk : Env → Mu → Prop := fun _ _ => False
  ct : Env → Mu → Prop := fun _ _ => False
abbrev RS1 := EndsD → Env → Mu → DX → Prop
abbrev KE1 (S : Sg) (A : List Addr) (G H : Hp) (K : Env → Mu → Prop) (Q : St → Hp → Prop) : Prop := ∀ σ' H' A' G' δ' μ', Aft A G H A' G' H' → Rel S A' G' H' μ' → RE S A' G' δ' σ' → K δ' μ' → Q σ' H'
structure KS (S : Sg) (A : List Addr) (G H : Hp) (K : EndsD) (D : Ends) : Prop where
  nx : KE1 S A G H K.nx D.nx
  rt : Kont S A G H K.rt D.rt
  bk : KE1 S A G H K.bk D.bk
  ct : KE1 S A G H K.ct D.ct
theorem KE1.aft {K : Env → Mu → Prop} {Q : St → Hp → Prop} (x : Aft A G H A' G' H') (k : KE1 S A G H K Q) : KE1 S A' G' H' K Q := fun σ2 H2 A2 G2 δ2 μ2 y => k σ2 H2 A2 G2 δ2 μ2 (x.trans y)
theorem KS.aft {K : EndsD} {D : Ends} (x : Aft A G H A' G' H') (k : KS S A G H K D) : KS S A' G' H' K D := ⟨KE1.aft x k.nx, Kont.aft x k.rt, KE1.aft x k.bk, KE1.aft x k.ct⟩
def tS (S : Sg) (W : WX) (r : RS1) : TS := fun D σ H => ∃ A G δ μ K ED, Rel S A G H μ ∧ RE S A G δ σ ∧ r K δ μ ED ∧ HX S A G H ED W ∧ KS S A G H K D
abbrev PDS (S : Sg) (X : Cx) (W : WX) (st : Stmt) (r : RS1) : Prop := PS X st (tS S W r)
abbrev PDB (S : Sg) (X : Cx) (W : WX) (st : List Stmt) (r : RS1) : Prop := PSs X st (tS S W r)
/-- targets -/
abbrev G1 := D → Env → Mu → (Env → Mu → Prop) → DX → Prop
def tG (S : Sg) (W : WX) (g : G1) : TG := fun v σ H Q => ∃ A G d δ μ K ED, Rel S A G H μ ∧ RE S A G δ σ ∧ RV S A G d v ∧ g d δ μ K ED ∧ HX S A G H ED W ∧ KE1 S A G H K Q
abbrev PDG (S : Sg) (X : Cx) (W : WX) (tg : Expr) (g : G1) : Prop := PG X tg (tG S W g)
section
variable {X : Cx} {W : WX} {st : Stmt} {sts : List Stmt} {t t' : TS} {a b c e : Expr} {es : List Expr} {pos : Pos} {ra rb : RE1} {rs : RA1} {rc : RT1} {r u : RS1} {tg : Expr} {g : G1}
theorem PS.of (h : PS X st t) (m : ∀ D σ H, t' D σ H → t D σ H) : PS X st t' := ⟨fun pins s σ H D I q => h.run pins s σ H D I (m D σ H q)⟩
theorem PSs.of (h : PSs X sts t) (m : ∀ D σ H, t' D σ H → t D σ H) : PSs X sts t' := ⟨fun pins s σ H D I q => h.run pins s σ H D I (m D σ H q)⟩
theorem PG.of {x y : TG} (h : PG X tg x) (m : ∀ v σ H Q, y v σ H Q → x v σ H Q) : PG X tg y := ⟨fun pins s σ H v w Q I rv q => h.run pins s σ H v w Q I rv (m v σ H Q q)⟩
abbrev rNext : RS1 := fun K δ μ _ => K.nx δ μ
abbrev rSeq (r u : RS1) : RS1 := fun K δ μ E => r { K with nx := fun δ1 μ1 => u K δ1 μ1 E } δ μ E
theorem ds_nil : PDB S X W [] rNext := PSs.of pss_nil fun D σ H h => by
  obtain ⟨A, G, δ, μ, K, ED, R, E, q, hx, k⟩ := h
  exact k.nx σ H A G δ μ .refl R E q
theorem ds_cons (h1 : PDS S X W st r) (h2 : PDB S X W sts u) : PDB S X W (st :: sts) (rSeq r u) := PSs.of (pss_cons h1 h2) fun D σ H h => by
  obtain ⟨A, G, δ, μ, K, ED, R, E, q, hx, k⟩ := h
  exact ⟨A, G, δ, μ, _, ED, R, E, q, hx, ⟨fun σ' H' A' G' δ' μ' F R' E' q' => ⟨A', G', δ', μ', K, ED, R', E', q', hx.aft F, k.aft F⟩, k.rt, k.bk, k.ct⟩⟩
theorem ds_one (h : PDS S X W st r) : PDB S X W [st] r := pss_one h
theorem ds_pass : PDS S X W (.Pass pos) rNext := PS.of ps_pass fun D σ H h => by
  obtain ⟨A, G, δ, μ, K, ED, R, E, q, hx, k⟩ := h
  exact k.nx σ H A G δ μ .refl R E q
abbrev rBrk : RS1 := fun K δ μ _ => K.bk δ μ
abbrev rCnt : RS1 := fun K δ μ _ => K.ct δ μ
theorem ds_break : PDS S X W (.Break pos) rBrk := PS.of ps_break fun D σ H h => by
  obtain ⟨A, G, δ, μ, K, ED, R, E, q, hx, k⟩ := h
  exact k.bk σ H A G δ μ .refl R E q
theorem ds_continue : PDS S X W (.Continue pos) rCnt := PS.of ps_continue fun D σ H h => by
  obtain ⟨A, G, δ, μ, K, ED, R, E, q, hx, k⟩ := h
  exact k.ct σ H A G δ μ .refl R E q
abbrev rDrop (ra : RE1) : RS1 := fun K δ μ E => ra δ μ (fun _ μ1 => K.nx δ μ1) E
theorem ds_expr (h : PDS S X W st r) : PDS S X W st r := h
theorem ds_ex (h : PD S X W e ra) (hs : swapsWith e none pos.line X.env = pure false := by rfl) : PDS S X W (.Expr e pos) (rDrop ra) := PS.of (ps_expr h hs) fun D σ H h => by
  obtain ⟨A, G, δ, μ, K, ED, R, E, q, hx, k⟩ := h
  exact tO.step R E q hx fun v H1 A1 G1 d μ1 F1 R1 r1 q1 => k.nx σ H1 A1 G1 δ μ1 F1 R1 (E.aft F1) q1
abbrev rRet (ra : RE1) : RS1 := fun K δ μ E => ra δ μ K.rt E
theorem ds_ret (h : PD S X W e ra) : PDS S X W (.Return (some e) pos) (rRet ra) := PS.of (ps_ret h) fun D σ H h => by
  obtain ⟨A, G, δ, μ, K, ED, R, E, q, hx, k⟩ := h
  exact ⟨A, G, δ, μ, _, ED, R, E, q, hx, k.rt⟩
abbrev rRetN : RS1 := fun K _ μ _ => K.rt .non μ
theorem ds_retN : PDS S X W (.Return none pos) rRetN := PS.of ps_retN fun D σ H h => by
  obtain ⟨A, G, δ, μ, K, ED, R, E, q, hx, k⟩ := h
  exact Kont.now k.rt R RV.non q
abbrev rIfS (c : RT1) (r u : RS1) : RS1 := fun K δ μ E => c δ μ (fun b μ1 => sel b (r K δ μ1 E) (u K δ μ1 E)) E
theorem ds_if {s1 s2 : List Stmt} (hc : PDT S X W c rc) (ha : PDB S X W s1 r) (hb : PDB S X W s2 u) : PDS S X W (.If c s1 s2 pos) (rIfS rc r u) := PS.of (ps_if hc ha hb) fun D σ H h => by
  obtain ⟨A, G, δ, μ, K, ED, R, E, q, hx, k⟩ := h
  refine tT.step R E q hx fun b H1 A1 G1 μ1 F1 R1 q1 => ?_
  cases b with
  | true => rw [if_pos rfl]; simp only [sel] at q1; exact ⟨A1, G1, δ, μ1, K, ED, R1, E.aft F1, q1, hx.aft F1, k.aft F1⟩
  | false => rw [if_neg (by decide)]; simp only [sel] at q1; exact ⟨A1, G1, δ, μ1, K, ED, R1, E.aft F1, q1, hx.aft F1, k.aft F1⟩
/-- never reached -/
abbrev rNever : RS1 := fun _ _ _ _ => False
theorem ds_never : PDS S X W st rNever := PS.of ps_never fun D σ H h => by
  obtain ⟨A, G, δ, μ, K, ED, R, E, q, hx, k⟩ := h
  exact q.elim
theorem db_never : PDB S X W sts rNever := PSs.of pss_never fun D σ H h => by
  obtain ⟨A, G, δ, μ, K, ED, R, E, q, hx, k⟩ := h
  exact q.elim
/-! ### targets -/
abbrev sv : Env → Nat → D → Env
  | [], _, _ => []
  | _ :: xs, 0, d => some d :: xs
  | x :: xs, n + 1, d => x :: sv xs n d
theorem sv_eq : ∀ (δ : Env) (n : Nat) (d : D), sv δ n d = δ.set n (some d)
  | [], _, _ => by simp [sv]
  | _ :: xs, 0, d => by simp [sv]
  | x :: xs, n + 1, d => by simp [sv, sv_eq xs n d]
theorem RE.sv (E : RE S A G δ σ) {i : Nat} {d : D} {v : V} (r : RV S A G d v) : RE S A G (sv δ i d) (σ.set i (some v)) := by
  rw [sv_eq]
  refine ⟨by simp [E.1], fun j x q => ?_⟩
  by_cases h : i = j
  · subst h
    have hl : i < δ.length := by
      have := (List.getElem?_eq_some_iff.mp q).1
      simpa using this
    rw [List.getElem?_set_self hl] at q
    cases q
    exact ⟨v, by rw [List.getElem?_set_self (by rw [← E.1]; exact hl)], r⟩
  · rw [List.getElem?_set_ne h] at q
    obtain ⟨w, h1, h2⟩ := E.2 j x q
    exact ⟨w, by rw [List.getElem?_set_ne h]; exact h1, h2⟩
abbrev gNm (i : Nat) : G1 := fun d δ μ K _ => K (sv δ i d) μ
theorem dg_name {i : Nat} {x : Str} (hN : X.N.Nodup) (hi : X.N[i]? = some x) (hx : Loc X.env.scope x) (hf : X.fn x = true ∨ X.env.scope.names.lookup x = some .local := by first | exact .inl rfl | exact .inr rfl | assumption) : PDG S X W (.Name x pos) (gNm i) :=
  PG.of (pg_name hN hi hx hf) fun v σ H Q h => by
    obtain ⟨A, G, d, δ, μ, K, ED, R, E, r, q, hx, k⟩ := h
    exact k _ H A G _ μ .refl R (E.sv r) q
/-- several targets -/
abbrev Gs1 := List D → Env → Mu → (Env → Mu → Prop) → DX → Prop
def tGs (S : Sg) (W : WX) (g : Gs1) : TGs := fun vs σ H Q => ∃ A G ds δ μ K ED, Rel S A G H μ ∧ RE S A G δ σ ∧ RVs S A G ds vs ∧ g ds δ μ K ED ∧ HX S A G H ED W ∧ KE1 S A G H K Q
abbrev PDGs (S : Sg) (X : Cx) (W : WX) (ts : List Expr) (g : Gs1) : Prop := PGs X ts (tGs S W g)
abbrev gNl : Gs1 := fun ds δ μ K _ => match ds with
  | [] => K δ μ
  | _ => False
abbrev gCn (g : G1) (h : Gs1) : Gs1 := fun ds δ μ K E => match ds with
  | d :: ds => g d δ μ (fun δ1 μ1 => h ds δ1 μ1 K E) E
  | [] => False
theorem PGs.of {ts : List Expr} {x y : TGs} (h : PGs X ts x) (m : ∀ v σ H Q, y v σ H Q → x v σ H Q) : PGs X ts y := ⟨fun pins s σ H v w Q I rv q => h.run pins s σ H v w Q I rv (m v σ H Q q)⟩
theorem dgs_nil : PDGs S X W [] gNl := PGs.of pgs_nil fun v σ H Q h => by
  obtain ⟨A, G, ds, δ, μ, K, ED, R, E, r, q, hx, k⟩ := h
  cases ds with
  | nil => exact ⟨r.un0, k _ H A G _ μ .refl R E q⟩
  | cons _ _ => exact q.elim
theorem dgs_cons {ts : List Expr} {h : Gs1} (h1 : PDG S X W e g) (h2 : PDGs S X W ts h) (hs : (assignEach (e :: ts) X.env).map (·.2) = assign e X.env :: (assignEach ts X.env).map (·.2) := by rfl) : PDGs S X W (e :: ts) (gCn g h) :=
  PGs.of (pgs_cons h1 h2 hs) fun v σ H Q h => by
    obtain ⟨A, G, ds, δ, μ, K, ED, R, E, r, q, hx, k⟩ := h
    cases ds with
    | nil => exact q.elim
    | cons d ds =>
      obtain ⟨w, ws, rfl, r1, r2⟩ := r.uncons
      exact ⟨w, ws, rfl, A, G, d, δ, μ, _, ED, R, E, r1, q, hx, fun σ' H' A' G' δ' μ' F R' E' q' => ⟨A', G', ds, δ', μ', K, ED, R', E', r2.aft F, q', hx.aft F, KE1.aft F k⟩⟩
abbrev gTp (n : Nat) (g : Gs1) : G1 := fun d δ μ K E => match d with
  | .tup ds => ds.length = n ∧ g ds δ μ K E
  | _ => False
theorem dg_tup {ts : List Expr} {k n : Nat} {h : Gs1} (hc : X.calm = true) (hh : PDGs S X W ts h) (hK : X.K = S.K := by rfl) (hn : (assignEach ts X.env).length = n := by rfl) (hst : (assignEach ts X.env).findIdx? (·.1) = none := by rfl) : PDG S X W (.Tuple ts k pos) (gTp n h) :=
  PG.of (pg_tup hc hh hn hst) fun v σ H Q h => by
    obtain ⟨A, G, d, δ, μ, K, ED, R, E, r, q, hx, k⟩ := h
    cases d <;> try exact q.elim
    unfold RV at r
    obtain ⟨a, vs, rfl, k1, k2, k3⟩ := r
    exact ⟨a, vs, rfl, by rw [hK]; exact SqT.sub k1 R.sub, by rw [← k3.len]; exact q.1, A, G, _, δ, μ, K, ED, R, E, k3, q.2, hx, k⟩
/-- a list with another item -/
def putI (ds : List D) (i : Int) (d : D) : Option (List D) := (ixN ds.length i).map fun j => ds.set j d
/-- o[i] = .., o an owned list -/
abbrev gSb (ro ri : RE1) : G1 := fun d δ μ K E => ro δ μ (fun x μ1 => ri δ μ1 (fun y μ2 => match x, y with
  | .loc n, .int i => match μ2 n with
    | some (.lst ds) => (match putI ds i d with
      | some ds' => K δ (mset μ2 n (some (.lst ds')))
      | none => False)
    | _ => False
  | _, _ => False) E) E
theorem dg_sub {o i : Expr} {ro ri : RE1} (ho : PD S X W o ro) (hi : PD S X W i ri)
    (ha : ∀ v, assign (.Subscript o i pos) X.env v = (do
      let ov ← holding [v] (eval o X.env)
      let iv ← holding [v, ov] (eval i X.env)
      standAt pos
      holding [v, ov, iv] (setItem ov iv v)
      release [v, ov, iv] []) := by intro _; rfl) : PDG S X W (.Subscript o i pos) (gSb ro ri) :=
  PG.of (pg_sub ho hi set_list ha) fun v σ H Q h => by
    obtain ⟨A, G, d, δ, μ, K, ED, R, E, r, q, hx, k⟩ := h
    refine tO.step R E q hx fun w H1 A1 G1 x μ1 F1 R1 r1 q1 => ?_
    refine tO.step R1 (E.aft F1) q1 (hx.aft F1) fun u H2 A2 G2 y μ2 F2 R2 r2 q2 => ?_
    cases x <;> try (exact q2.elim)
    cases y <;> try (exact q2.elim)
    rename_i n i
    simp only at q2
    split at q2
    case h_2 => exact q2.elim
    rename_i ds e1
    split at q2
    case h_2 => exact q2.elim
    rename_i ds' e2'
    obtain ⟨j, e2, rfl⟩ : ∃ j, ixN ds.length i = some j ∧ ds.set j d = ds' := by
      unfold putI at e2'
      cases e : ixN ds.length i with
      | none => rw [e] at e2'; cases e2'
      | some j => rw [e] at e2'; cases e2'; exact ⟨j, rfl, rfl⟩
    have r1' := r1.aft F2
    unfold RV at r1'
    obtain ⟨p, rfl, hp⟩ := r1'
    obtain ⟨p', k1, k2, k3⟩ := R2.own n _ e1
    rw [hp] at k1; cases k1
    unfold RO at k3
    obtain ⟨vs, k4, k5, k6⟩ := k3
    refine ⟨p, vs, i, j, rfl, r2.i, k4, by rw [← k6.len]; exact e2, ?_⟩
    obtain ⟨R3, F3⟩ := R2.write (o := .lst (vs.set j v)) (e := .lst (ds.set j d)) e1 hp (by unfold RO; exact ⟨_, rfl, by simpa using k5, k6.set j ((r.aft F1).aft F2)⟩)
    exact k σ _ A2 G2 δ _ ((F1.trans F2).trans F3) R3 (((E.aft F1).aft F2).aft F3) q2
abbrev rAsg (ra : RE1) (g : G1) : RS1 := fun K δ μ E => ra δ μ (fun d μ1 => g d δ μ1 K.nx E) E
theorem tAsg.of : ∀ D σ H, tS S W (rAsg ra g) D σ H → tAsg (tO S W ra) (tG S W g) D σ H := fun D σ H h => by
  obtain ⟨A, G, δ, μ, K, ED, R, E, q, hx, k⟩ := h
  exact tO.step R E q hx fun v H1 A1 G1 d μ1 F1 R1 r1 q1 => ⟨A1, G1, d, δ, μ1, _, ED, R1, E.aft F1, r1, q1, hx.aft F1, KE1.aft F1 k.nx⟩
theorem ds_asg (he : PD S X W e ra) (hg : PDG S X W tg g) (hs : swapsWithSole [tg] e pos.line X.env = pure false := by rfl) (hw : swappedStores [tg] e X.env = pure none := by rfl)
    (h1 : (assignEach [tg] X.env).map (·.2) = [assign tg X.env] := by rfl) : PDS S X W (.Assign [tg] e pos) (rAsg ra g) :=
  PS.of (ps_asg he hg hs hw h1) tAsg.of
theorem ds_set {i : Nat} {x : Str} {pos' : Pos} (hN : X.N.Nodup) (hi : X.N[i]? = some x) (hx : Loc X.env.scope x) (he : PD S X W e ra) (hs : swapsWith e (some (.Name x pos')) pos.line X.env = pure false := by rfl) (hf : X.fn x = true ∨ X.env.scope.names.lookup x = some .local := by first | exact .inl rfl | exact .inr rfl | assumption) :
    PDS S X W (.Assign [.Name x pos'] e pos) (rAsg ra (gNm i)) :=
  PS.of (ps_set hN hi hx he hs hf) fun D σ H h => by
    obtain ⟨A, G, δ, μ, K, ED, R, E, q, hx, k⟩ := h
    exact tO.step R E q hx fun v H1 A1 G1 d μ1 F1 R1 r1 q1 => k.nx _ H1 A1 G1 _ μ1 F1 R1 ((E.aft F1).sv r1) q1
/-- a, b = x, y -/
abbrev rPar (i j : Nat) (rs : RA1) : RS1 := fun K δ μ E => rs δ μ (fun ds μ1 => match ds with
  | [d, e] => K.nx (sv (sv δ i d) j e) μ1
  | _ => False) E
theorem ds_par {i j : Nat} {x y : Str} {px py pt : Pos} {kt k2 pt2} (hc : X.calm = true) (hN : X.N.Nodup) (hi : X.N[i]? = some x) (hj : X.N[j]? = some y) (hij : i ≠ j)
    (hx : X.env.scope.names.lookup x = some .local) (hy : X.env.scope.names.lookup y = some .local) (ha : PDA S X W [a, b] rs)
    (hw : swappedStores [.Tuple [.Name x px, .Name y py] kt pt] (.Tuple [a, b] k2 pt2) X.env = pure (some [x, y]) := by rfl)
    (hs : swapsWithSole [.Tuple [.Name x px, .Name y py] kt pt] (.Tuple [a, b] k2 pt2) pos.line X.env = pure false := by rfl) :
    PDS S X W (.Assign [.Tuple [.Name x px, .Name y py] kt pt] (.Tuple [a, b] k2 pt2) pos) (rPar i j rs) :=
  PS.of (ps_par hc hN hi hj hij hx hy ha hw hs) fun D σ H h => by
    obtain ⟨A, G, δ, μ, K, ED, R, E, q, hx, k⟩ := h
    refine tA.step R E q hx fun vs H1 A1 G1 ds μ1 F1 R1 r1 q1 => ?_
    split at q1
    · obtain ⟨v, w, rfl, r2, r3⟩ := r1.two
      exact ⟨v, w, rfl, k.nx _ H1 A1 G1 _ μ1 F1 R1 (((E.aft F1).sv r2).sv r3) q1⟩
    · exact q1.elim
/-! ### letting go of an owned thing -/
abbrev rFrz (i : Nat) (r : RS1) : RS1 := fun K δ μ E => match gt δ i with
  | some (.loc n) => (match μ n with
    | some d => r K (sv δ i d) (mset μ n none) E
    | none => False)
  | _ => False
theorem RE.refit (E : RE S A G δ σ) {i : Nat} {d : D} (h : ∀ v, σ[i]? = some (some v) → RV S A G d v) (hi : ∃ v, σ[i]? = some (some v)) : RE S A G (DL.sv δ i d) σ := by
  rw [sv_eq]
  refine ⟨by simp [E.1], fun j x q => ?_⟩
  by_cases hj : i = j
  · subst hj
    have hl : i < δ.length := by
      have := (List.getElem?_eq_some_iff.mp q).1
      simpa using this
    rw [List.getElem?_set_self hl] at q
    cases q
    obtain ⟨v, hv⟩ := hi
    exact ⟨v, hv, h v hv⟩
  · rw [List.getElem?_set_ne hj] at q
    exact E.2 j x q
theorem tFrz.of {i : Nat} : ∀ D σ H, tS S W (rFrz i r) D σ H → tS S W r D σ H := fun D σ H h => by
  obtain ⟨A, G, δ, μ, K, ED, R, E, q, hx, k⟩ := h
  unfold rFrz at q
  split at q
  case h_2 => exact q.elim
  rename_i n e1
  split at q
  case h_2 => exact q.elim
  rename_i d e2
  obtain ⟨v, h1, h2⟩ := E.2 i _ (gt_some e1)
  unfold RV at h2
  obtain ⟨p, rfl, hp⟩ := h2
  obtain ⟨p', G', k1, R', F, rv⟩ := R.frz e2
  rw [hp] at k1; cases k1
  exact ⟨A, G', _, _, K, ED, R', (E.aft F).refit (fun v hv => by rw [h1] at hv; cases hv; exact rv) ⟨_, h1⟩, q, hx.aft F, k.aft F⟩
theorem db_frz (i : Nat) (h : PDB S X W sts r) : PDB S X W sts (rFrz i r) := PSs.of h tFrz.of
/-! ### while -/
abbrev rWhile (c : RT1) (r : RS1) : RS1 := fun K δ μ E => ∃ V : Nat → Env → Mu → Prop, (∃ m, V m δ μ) ∧ ∀ m δ μ, V m δ μ →
  c δ μ (fun b μ1 => sel b (r { K with nx := fun δ' μ' => ∃ m', m' < m ∧ V m' δ' μ', ct := fun δ' μ' => ∃ m', m' < m ∧ V m' δ' μ', bk := K.nx } δ μ1 E) (K.nx δ μ1)) E
theorem ds_while {body : List Stmt} (hp : PassesOwn (model X.prog X.w) X.A X.env X.xe) (hc : PDT S X W c rc) (hb : PDB S X W body r) : PDS S X W (.While c body [] pos) (rWhile rc r) :=
  PS.of (ps_while hp hc hb) fun D σ H h => by
    obtain ⟨A, G, δ, μ, K, ED, R, E, ⟨V, ⟨m, v0⟩, vs⟩, hx, k⟩ := h
    refine ⟨fun m σ' H' => ∃ A' G' δ' μ', Aft A G H A' G' H' ∧ Rel S A' G' H' μ' ∧ RE S A' G' δ' σ' ∧ V m δ' μ', ⟨m, A, G, δ, μ, .refl, R, E, v0⟩, ?_⟩
    rintro m σ' H' ⟨A', G', δ', μ', F, R', E', v⟩
    refine tT.step R' E' (vs m δ' μ' v) (hx.aft F) fun b H1 A1 G1 μ1 F1 R1 q1 => ?_
    cases b with
    | false => rw [if_neg (by decide)]; simp only [sel] at q1; exact k.nx σ' H1 A1 G1 δ' μ1 (F.trans F1) R1 (E'.aft F1) q1
    | true =>
      rw [if_pos rfl]; simp only [sel] at q1
      refine ⟨fun σ2 H2 => ∃ m', m' < m ∧ ∃ A' G' δ' μ', Aft A G H A' G' H2 ∧ Rel S A' G' H2 μ' ∧ RE S A' G' δ' σ2 ∧ V m' δ' μ', fun σ2 H2 z => z, ?_⟩
      have kk : KE1 S A1 G1 H1 (fun δ' μ' => ∃ m', m' < m ∧ V m' δ' μ') (fun σ2 H2 => ∃ m', m' < m ∧ ∃ A' G' δ' μ', Aft A G H A' G' H2 ∧ Rel S A' G' H2 μ' ∧ RE S A' G' δ' σ2 ∧ V m' δ' μ') := fun σ2 H2 A2 G2 δ2 μ2 F2 R2 E2 ⟨m', lt, v2⟩ => ⟨m', lt, A2, G2, δ2, μ2, (F.trans F1).trans F2, R2, E2, v2⟩
      exact ⟨A1, G1, δ', μ1, _, ED, R1, E'.aft F1, q1, (hx.aft F).aft F1, ⟨kk, Kont.aft (F.trans F1) k.rt, KE1.aft (F.trans F1) k.nx, kk⟩⟩
end
end DL
namespace DL
open PySem L2
variable {S : Sg} {A A' A'' : List Addr} {G G' G'' H H' H'' : Hp} {μ μ' μ'' : Mu} {δ δ' : Env} {σ σ' : St}
/-! ### what is walked -/
abbrev RI1 := Env → Mu → (List D → (Mu → Prop) → Mu → Prop) → DX → Prop
/-- J walks ds, while still -/
def Wlk (S : Sg) (J : It) (A : List Addr) (G : Hp) (ds : List D) (still : Mu → Prop) : Prop := ∀ A' G' H' μ', Ext A A' → Same G G' → Rel S A' G' H' μ' → still μ' →
  (∀ i, ds.length ≤ i → J.stop i H') ∧ ∀ i d, ds[i]? = some d → J.go i H' ∧ ∀ x H'', J.yld i H' x H'' → ∃ A2 G2, Aft A' G' H' A2 G2 H'' ∧ Rel S A2 G2 H'' μ' ∧ RV S A2 G2 d x
def DIs (S : Sg) (W : WX) (wi : TI) (ri : RI1) : Prop := ∀ A G H μ δ σ R KD ED, Rel S A G H μ → RE S A G δ σ → ri δ μ KD ED → HX S A G H ED W →
  (∀ J A1 G1 H1 ds still μ1, Aft A G H A1 G1 H1 → Rel S A1 G1 H1 μ1 → Wlk S J A1 G1 ds still → KD ds still μ1 → R J H1) → wi σ H R
structure PDI (S : Sg) (X : Cx) (W : WX) (tg iter : Expr) (ri : RI1) : Prop where
  ex : ∃ wi, PI X tg iter wi ∧ DIs S W wi ri
/-- over a list -/
abbrev rIL (ra : RE1) : RI1 := fun δ μ KD E => ra δ μ (fun x μ1 => match x with
  | .lst ds => KD ds (fun _ => True) μ1
  | .kst ds => KD ds (fun _ => True) μ1
  | .loc n => (match μ1 n with
    | some (.lst ds) => KD ds (fun μ' => μ' n = some (.lst ds)) μ1
    | _ => False)
  | _ => False) E
theorem wlk_list {K : PySem.W.Frag} {a : Addr} {ds : List D} {still : Mu → Prop} (h : ∀ A' G' H' μ', Ext A A' → Same G G' → Rel S A' G' H' μ' → still μ' → ∃ vs, SqL K H' a vs ∧ RVs S A' G' ds vs) : Wlk S (Itl K a) A G ds still := fun A' G' H' μ' e s R st => by
  obtain ⟨vs, h1, h2⟩ := h A' G' H' μ' e s R st
  refine ⟨fun i hi => ⟨vs, h1, by rw [← h2.len]; exact hi⟩, fun i d q => ?_⟩
  obtain ⟨v, e1, e2⟩ := h2.get q
  refine ⟨⟨vs, v, h1, e1⟩, fun x H'' y => ?_⟩
  obtain ⟨rfl, y2⟩ := y
  have y3 := y2 vs h1
  rw [e1] at y3; cases y3
  exact ⟨A', G', .refl, R, e2⟩
section
variable {X : Cx} {W : WX} {st : Stmt} {sts : List Stmt} {a b c e : Expr} {es : List Expr} {pos p : Pos} {ra rb : RE1} {rs : RA1} {rc : RT1} {r u : RS1} {tg iter : Expr} {g : G1} {ri : RI1}
theorem di_list (ha : PD S X W a ra) (hK : X.K = S.K := by rfl) : PDI S X W tg a (rIL ra) := ⟨⟨_, pi_list ha, fun A G H μ δ σ R KD ED R0 E q hx k => by
  refine tO.step R0 E q hx fun v H1 A1 G1 d μ1 F1 R1 r1 q1 => ?_
  rw [hK]
  cases d <;> try exact q1.elim
  case lst ds =>
    unfold RV at r1
    obtain ⟨p, vs, rfl, k1, k2, k3⟩ := r1
    exact ⟨p, rfl, ⟨vs, SqL.of (R1.sub _ _ k1)⟩, k _ A1 G1 H1 ds _ μ1 F1 R1 (wlk_list fun A' G' H' μ' e s R' _ => ⟨vs, SqL.of (R'.sub _ _ (s _ _ k1)), RVs.mono e s k3⟩) q1⟩
  case kst ds =>
    unfold RV at r1
    obtain ⟨p, vs, rfl, k1, k2, k3⟩ := r1
    exact ⟨p, rfl, ⟨vs, SqL.sub k1 R1.sub⟩, k _ A1 G1 H1 ds _ μ1 F1 R1 (wlk_list fun A' G' H' μ' e s R' _ => ⟨vs, SqL.sub (SqL.sub k1 s) R'.sub, RVs.mono e s k3⟩) q1⟩
  case loc n =>
    simp only at q1
    split at q1
    case h_2 => exact q1.elim
    rename_i ds e1
    unfold RV at r1
    obtain ⟨p, rfl, hp⟩ := r1
    have at' : ∀ A' G' H' μ', Ext A1 A' → Rel S A' G' H' μ' → μ' n = some (.lst ds) → ∃ vs, SqL S.K H' p vs ∧ RVs S A' G' ds vs := fun A' G' H' μ' e R' z => by
      obtain ⟨p', k1, k2, k3⟩ := R'.own n _ z
      rw [e n p hp] at k1; cases k1
      unfold RO at k3
      obtain ⟨vs, k4, k5, k6⟩ := k3
      exact ⟨vs, SqL.of k4, k6⟩
    obtain ⟨vs, k4, k6⟩ := at' A1 G1 H1 μ1 (fun _ _ h => h) R1 e1
    exact ⟨p, rfl, ⟨vs, k4⟩, k _ A1 G1 H1 ds _ μ1 F1 R1 (wlk_list fun A' G' H' μ' e s R' z => at' A' G' H' μ' e R' z) q1⟩⟩⟩
/-- range(n), range(a, b) -/
def rgD (lo : Int) (n : Nat) : List D := (List.range n).map fun (k : Nat) => D.int (lo + (k : Int))
theorem rgD_len (lo : Int) (n : Nat) : (rgD lo n).length = n := by unfold rgD; simp
theorem wlk_range {lo : Int} {n : Nat} {still : Mu → Prop} : Wlk S (Itr lo n) A G (rgD lo n) still := fun A' G' H' μ' e s R st => by
  refine ⟨fun i hi => by rw [rgD_len] at hi; exact hi, fun i d q => ?_⟩
  have hi : i < n := by
    have := (List.getElem?_eq_some_iff.mp q).1
    rw [rgD_len] at this; exact this
  refine ⟨hi, fun x H'' y => ?_⟩
  obtain ⟨rfl, rfl⟩ := y
  have : d = .int (lo + (i : Int)) := by
    unfold rgD at q
    rw [List.getElem?_map, List.getElem?_range hi] at q
    simpa using q.symm
  subst this
  exact ⟨A', G', .refl, R, RV.int _⟩
abbrev rIR1 (rs : RA1) : RI1 := fun δ μ KD E => rs δ μ (fun ds μ1 => match ds with
  | [.int j] => (-(2 ^ 62) ≤ j ∧ j < 2 ^ 62) ∧ KD (rgD 0 j.toNat) (fun _ => True) μ1
  | _ => False) E
abbrev rIR2 (rs : RA1) : RI1 := fun δ μ KD E => rs δ μ (fun ds μ1 => match ds with
  | [.int i, .int j] => (-(2 ^ 62) ≤ i ∧ i < 2 ^ 62 ∧ -(2 ^ 62) ≤ j ∧ j < 2 ^ 62) ∧ KD (rgD i (j - i).toNat) (fun _ => True) μ1
  | _ => False) E
theorem di_range1 (hg : Gl X "range") (hm : X.mg "range" = none) (ha : PDA S X W [a] rs) (hs : starEach [a] X.env = [(false, eval a X.env)] := by rfl) : PDI S X W tg (.Call (.Name "range" p) [a] [] pos) (rIR1 rs) := ⟨⟨_, pi_range1 hg hm ha hs, fun A G H μ δ σ R KD ED R0 E q hx k => by
  refine tA.step R0 E q hx fun vs H1 A1 G1 d μ1 F1 R1 r1 q1 => ?_
  split at q1
  · obtain ⟨v, rfl, r2⟩ := r1.one
    exact ⟨_, by rw [r2.i], q1.1.1, q1.1.2, k _ A1 G1 H1 _ _ μ1 F1 R1 wlk_range q1.2⟩
  · exact q1.elim⟩⟩
theorem di_range2 (hg : Gl X "range") (hm : X.mg "range" = none) (ha : PDA S X W [a, b] rs) (hs : starEach [a, b] X.env = [(false, eval a X.env), (false, eval b X.env)] := by rfl) (hs2 : starEach [b] X.env = [(false, eval b X.env)] := by rfl) : PDI S X W tg (.Call (.Name "range" p) [a, b] [] pos) (rIR2 rs) := ⟨⟨_, pi_range2 hg hm ha hs hs2, fun A G H μ δ σ R KD ED R0 E q hx k => by
  refine tA.step R0 E q hx fun vs H1 A1 G1 d μ1 F1 R1 r1 q1 => ?_
  split at q1
  · obtain ⟨v, w, rfl, r2, r3⟩ := r1.two
    exact ⟨_, _, by rw [r2.i, r3.i], q1.1, k _ A1 G1 H1 _ _ μ1 F1 R1 wlk_range q1.2⟩
  · exact q1.elim⟩⟩
/-- a text, sign by sign -/
def sgD (x : Str) : List D := x.cps.toList.map fun c => D.str ⟨#[c]⟩
abbrev rIS (ra : RE1) : RI1 := fun δ μ KD E => ra δ μ (fun x μ1 => match x with
  | .str x => KD (sgD x) (fun _ => True) μ1
  | _ => False) E
theorem di_str (ha : PD S X W a ra) : PDI S X W tg a (rIS ra) := ⟨⟨_, pi_str ha, fun A G H μ δ σ R KD ED R0 E q hx k => by
  refine tO.step R0 E q hx fun v H1 A1 G1 d μ1 F1 R1 r1 q1 => ?_
  cases d <;> try exact q1.elim
  rename_i x
  have len : (sgD x).length = x.cps.size := by unfold sgD; simp
  refine ⟨x, r1.s, k _ A1 G1 H1 _ _ μ1 F1 R1 (fun A' G' H' μ' e s R' _ => ⟨fun i hi => by rw [len] at hi; exact hi, fun i d q => ?_⟩) q1⟩
  have hi : i < x.cps.size := by rw [← len]; exact (List.getElem?_eq_some_iff.mp q).1
  refine ⟨hi, fun y H'' z => ?_⟩
  obtain ⟨rfl, c, e1, rfl⟩ := z
  have : d = .str ⟨#[c]⟩ := by
    unfold sgD at q
    rw [List.getElem?_map] at q
    have e2 : x.cps.toList[i]? = some c := by rw [Array.getElem?_toList]; exact e1
    rw [e2] at q
    simpa using q.symm
  subst this
  exact ⟨A', G', .refl, R', RV.str _⟩⟩⟩
/-! ### for -/
abbrev forL (still : Mu → Prop) (g : G1) (r : RS1) (K : EndsD) (E : DX) : List D → Env → Mu → Prop
  | [], δ, μ => still μ ∧ K.nx δ μ
  | d :: ds, δ, μ => still μ ∧ g d δ μ (fun δ1 μ1 => r { K with nx := fun δ2 μ2 => forL still g r K E ds δ2 μ2, ct := fun δ2 μ2 => forL still g r K E ds δ2 μ2, bk := K.nx } δ1 μ1 E) E
abbrev rFor (ri : RI1) (g : G1) (r : RS1) : RS1 := fun K δ μ E => ri δ μ (fun ds still μ1 => forL still g r K E ds δ μ1) E
theorem ds_for {body : List Stmt} (hp : PassesOwn (model X.prog X.w) X.A X.env X.xe) (hc : X.calm = true) (hi : PDI S X W tg iter ri) (hg : PDG S X W tg g) (hb : PDB S X W body r) (hs : ∀ x, foldedSetIterable iter X.env x = pure x := by intro _; rfl) :
    PDS S X W (.For tg iter body [] pos) (rFor ri g r) := by
  obtain ⟨wi, h1, h2⟩ := hi.ex
  refine PS.of (ps_for hp hc h1 hg hb hs) fun D σ H h => ?_
  obtain ⟨A, G, δ, μ, K, ED, R, E, q, hx, k⟩ := h
  refine h2 A G H μ δ σ _ _ ED R E q hx fun J A1 G1 H1 ds still μ1 F1 R1 w q1 => ?_
  refine ⟨fun i m σ' H' => m = ds.length - i ∧ i ≤ ds.length ∧ ∃ A' G' δ' μ', Aft A1 G1 H1 A' G' H' ∧ Rel S A' G' H' μ' ∧ RE S A' G' δ' σ' ∧ forL still g r K ED (ds.drop i) δ' μ', ⟨_, rfl, Nat.zero_le _, A1, G1, δ, μ1, .refl, R1, E.aft F1, q1⟩, ?_⟩
  rintro i m σ' H' ⟨rfl, hi, A', G', δ', μ', F, R', E', q'⟩
  by_cases hlt : i < ds.length
  · rw [List.drop_eq_getElem_cons hlt] at q'
    obtain ⟨st, q'⟩ := q'
    obtain ⟨_, w2⟩ := w A' G' H' μ' F.ext F.sub R' st
    obtain ⟨w3, w4⟩ := w2 i ds[i] (by simp [hlt])
    refine .inr ⟨w3, fun σ2 H2 => ∃ A2 G2 δ2 μ2, Aft A1 G1 H1 A2 G2 H2 ∧ Rel S A2 G2 H2 μ2 ∧ RE S A2 G2 δ2 σ2 ∧ forL still g r K ED (ds.drop (i + 1)) δ2 μ2, fun σ2 H2 z => ⟨_, by omega, rfl, hlt, z⟩, fun x H'' y => ?_⟩
    obtain ⟨A2, G2, F2, R2, r2⟩ := w4 x H'' y
    refine ⟨A2, G2, ds[i], δ', μ', _, ED, R2, E'.aft F2, r2, q', (hx.aft F1).aft (F.trans F2), fun σ3 H3 A3 G3 δ3 μ3 F3 R3 E3 q3 => ?_⟩
    have nx : KE1 S A3 G3 H3 (fun δ2 μ2 => forL still g r K ED (ds.drop (i + 1)) δ2 μ2) (fun σ2 H2 => ∃ A2 G2 δ2 μ2, Aft A1 G1 H1 A2 G2 H2 ∧ Rel S A2 G2 H2 μ2 ∧ RE S A2 G2 δ2 σ2 ∧ forL still g r K ED (ds.drop (i + 1)) δ2 μ2) :=
      fun σ4 H4 A4 G4 δ4 μ4 F4 R4 E4 q4 => ⟨A4, G4, δ4, μ4, ((F.trans F2).trans F3).trans F4, R4, E4, q4⟩
    have F0 := F1.trans ((F.trans F2).trans F3)
    exact ⟨A3, G3, δ3, μ3, _, ED, R3, E3, q3, hx.aft F0, ⟨nx, Kont.aft F0 k.rt, KE1.aft F0 k.nx, nx⟩⟩
  · have e : i = ds.length := by omega
    subst e
    rw [List.drop_length] at q'
    obtain ⟨st, q'⟩ := q'
    exact .inl ⟨(w A' G' H' μ' F.ext F.sub R' st).1 _ (Nat.le_refl _), k.nx σ' H' A' G' δ' μ' (F1.trans F) R' E' q'⟩
end
end DL
namespace DL
open PySem L2
variable {S : Sg} {A A' A'' : List Addr} {G G' G'' H H' H'' : Hp} {μ μ' μ'' : Mu} {δ δ' : Env} {σ σ' : St}
/-! ### a thing that is held by nobody else -/
theorem Rel.off (R : Rel S A G H μ) {p : Addr} {o : HO} (g : G p = none) (a : p ∉ A) : Rel S A G (upd H p o) μ := by
  refine ⟨fun b u h => ?_, fun n d q => ?_, R.inj, trk_upd R.trk⟩
  · rw [upd_ne (ne_of_none h g)]; exact R.sub b u h
  · obtain ⟨b, h1, h2, h3⟩ := R.own n d q
    exact ⟨b, h1, h2, by rw [upd_ne (fun z => a (by rw [← z]; exact List.mem_of_getElem? h1))]; exact h3⟩
theorem Aft.off (F : Aft A G H A' G' H') {p : Addr} {o : HO} (h : H p = none) : Aft A G H A' G' (upd H' p o) :=
  ⟨F.ext, F.sub, fun b u q n => by rw [upd_ne (ne_of_none q h)]; exact F.same b u q n, F.nw, F.nwA⟩
/-- it is data from now on -/
theorem Rel.adopt (R : Rel S A G H μ) {p : Addr} {o : HO} (g : G p = none) (a : p ∉ A) (h : H p = some o) : Rel S A (upd G p o) H μ := by
  have sg : Same G (upd G p o) := fun b x q => by rw [upd_ne (ne_of_none q g)]; exact q
  refine ⟨fun b u q => ?_, fun n d q => ?_, R.inj, R.trk⟩
  · by_cases e : b = p
    · subst e; rw [upd_same] at q; rw [h]; exact q
    · rw [upd_ne e] at q; exact R.sub b u q
  · obtain ⟨b, h1, h2, h3⟩ := R.own n d q
    have ne : b ≠ p := fun z => a (by rw [← z]; exact List.mem_of_getElem? h1)
    exact ⟨b, h1, by rw [upd_ne ne]; exact h2, RO.mono (fun _ _ h => h) sg h3⟩
theorem Aft.adopt (F : Aft A G H A' G' H') {p : Addr} {o : HO} (g : G' p = none) (h : H p = none) : Aft A G H A' (upd G' p o) H' :=
  ⟨F.ext, fun b x q => by rw [upd_ne (ne_of_none (F.sub b x q) g)]; exact F.sub b x q, F.same, fun b u q => by
    by_cases e : b = p
    · subst e; exact .inr (.inr h)
    · rw [upd_ne e] at q; exact F.nw b u q, F.nwA⟩
/-- it becomes one's own -/
theorem Rel.take (R : Rel S A G H μ) {p : Addr} {o : HO} {d : D} (g : G p = none) (a : p ∉ A) (h : H p = some o) (r : RO S (A ++ [p]) G d (some o)) : Rel S (A ++ [p]) G H (mset μ A.length (some d)) := by
  have last : (A ++ [p])[A.length]? = some p := by simp
  have old : ∀ n e, n ≠ A.length → mset μ A.length (some d) n = some e → ∃ b, A[n]? = some b ∧ G b = none ∧ RO S A G e (H b) ∧ b ≠ p := fun n e hn q => by
    rw [mset_ne hn] at q
    obtain ⟨b, h1, h2, h3⟩ := R.own n e q
    exact ⟨b, h1, h2, h3, fun z => a (by rw [← z]; exact List.mem_of_getElem? h1)⟩
  refine ⟨R.sub, fun n e q => ?_, fun n m e f b q1 q2 q3 q4 => ?_, fun b m => ?_⟩
  · by_cases hn : n = A.length
    · subst hn; rw [mset_same] at q; cases q
      exact ⟨p, last, g, by rw [h]; exact r⟩
    · obtain ⟨b, h1, h2, h3, h4⟩ := old n e hn q
      exact ⟨b, Ext.new A p n b h1, h2, RO.mono (Ext.new A p) (fun _ _ h => h) h3⟩
  · by_cases hn : n = A.length
    · by_cases hm : m = A.length
      · rw [hn, hm]
      · obtain ⟨c, h1, _, _, h4⟩ := old m f hm q2
        have := Ext.new A p m c h1
        rw [hn, last] at q3; rw [this] at q4; cases q3; cases q4; exact absurd rfl h4
    · by_cases hm : m = A.length
      · obtain ⟨c, h1, _, _, h4⟩ := old n e hn q1
        have := Ext.new A p n c h1
        rw [hm, last] at q4; rw [this] at q3; cases q3; cases q4; exact absurd rfl h4
      · obtain ⟨c1, h1, _⟩ := old n e hn q1
        obtain ⟨c2, h2, _⟩ := old m f hm q2
        rw [Ext.new A p n c1 h1] at q3; rw [Ext.new A p m c2 h2] at q4; cases q3; cases q4
        rw [mset_ne hn] at q1; rw [mset_ne hm] at q2
        exact R.inj n m e f _ q1 q2 h1 h2
  · rcases List.mem_append.mp m with m | m
    · exact R.trk b m
    · have : b = p := by simpa using m
      subst this; exact ⟨o, h⟩
theorem Aft.take (F : Aft A G H A' G' H') {p : Addr} (h : H p = none) : Aft A G H (A' ++ [p]) G' H' :=
  ⟨fun n b q => Ext.new A' p n b (F.ext n b q), F.sub, F.same, F.nw, fun b q => by
    rcases List.mem_append.mp q with q | q
    · exact F.nwA b q
    · have : b = p := by simpa using q
      subst this; exact .inr h⟩
/-- what is nobody's stays so -/
theorem Aft.free (F : Aft A G H A' G' H') {p : Addr} {o : HO} (g : G p = none) (a : p ∉ A) (h : H p = some o) : G' p = none ∧ p ∉ A' ∧ H' p = some o := by
  refine ⟨?_, fun z => ?_, F.same p o h a⟩
  · cases q : G' p with
    | none => rfl
    | some u =>
      rcases F.nw p u q with z | z | z
      · rw [g] at z; cases z
      · exact absurd z a
      · rw [h] at z; cases z
  · rcases F.nwA p z with z | z
    · exact a z
    · rw [h] at z; cases z
/-! ### comprehensions -/
abbrev W0 : WX := fun _ _ _ _ => False
abbrev E00 : DX := fun _ _ _ _ _ => False
theorem hx0 : HX S A G H E00 W0 := fun _ _ _ _ _ _ _ _ _ _ _ _ _ _ h => h
abbrev snn : Env → Nat → Env
  | [], _ => []
  | _ :: xs, 0 => none :: xs
  | x :: xs, n + 1 => x :: snn xs n
theorem snn_eq : ∀ (δ : Env) (n : Nat), snn δ n = δ.set n none
  | [], _ => by simp [snn]
  | _ :: xs, 0 => by simp [snn]
  | x :: xs, n + 1 => by simp [snn, snn_eq xs n]
abbrev wipeE (δ : Env) : List Nat → Env
  | [] => δ
  | v :: vs => snn (wipeE δ vs) v
theorem RE.wipe (E : RE S A G δ σ) : ∀ vs : List Nat, RE S A G (wipeE δ vs) (L2.wipe σ vs)
  | [] => E
  | v :: vs => by
    have ih := RE.wipe E vs
    unfold wipeE L2.wipe
    rw [snn_eq]
    refine ⟨by simp [ih.1], fun j x q => ?_⟩
    by_cases h : v = j
    · subst h
      have hl : v < (wipeE δ vs).length := by
        have := (List.getElem?_eq_some_iff.mp q).1
        simpa using this
      rw [List.getElem?_set_self hl] at q; cases q
    · rw [List.getElem?_set_ne h] at q
      obtain ⟨w, h1, h2⟩ := ih.2 j x q
      exact ⟨w, by rw [List.getElem?_set_ne h]; exact h1, h2⟩
/-- a comprehension's target: a name | a tuple of names -/
inductive Tg where
  | nm (i : Nat)
  | tp (is : List Nat)
def gNs : List Nat → TGs
  | [] => gNil
  | i :: is => gCons (gName i) (gNs is)
def Tg.h (K : PySem.W.Frag) : Tg → TG
  | .nm i => gName i
  | .tp is => gTup K is.length (gNs is)
abbrev svs : Env → List Nat → List D → Env
  | δ, i :: is, d :: ds => svs (sv δ i d) is ds
  | δ, _, _ => δ
abbrev Tg.d (t : Tg) (x : D) (δ : Env) (K : Env → Prop) : Prop := match t with
  | .nm i => K (sv δ i x)
  | .tp is => (match x with
    | .tup ds => ds.length = is.length ∧ K (svs δ is ds)
    | _ => False)
abbrev Tg.slots : Tg → List Nat
  | .nm i => [i]
  | .tp is => is
theorem wipe_set {σ : St} {i : Nat} {v : Option V} : ∀ {vs : List Nat}, i ∈ vs → L2.wipe (σ.set i v) vs = L2.wipe σ vs
  | [], h => by cases h
  | w :: vs, h => by
    unfold L2.wipe
    rcases List.mem_cons.mp h with h | h
    · subst h
      by_cases m : i ∈ vs
      · rw [wipe_set m]
      · have : ∀ (ws : List Nat) (τ : St), i ∉ ws → L2.wipe (τ.set i v) ws = (L2.wipe τ ws).set i v := fun ws => by
          induction ws with
          | nil => intro τ _; rfl
          | cons w ws ih =>
            intro τ hn
            unfold L2.wipe
            rw [ih τ fun z => hn (List.mem_cons_of_mem _ z)]
            rw [List.set_comm _ _ (fun z => hn (by rw [← z]; exact List.mem_cons_self))]
        rw [this vs σ m, List.set_set]
    · rw [wipe_set h]
theorem gNs_ok : ∀ (is : List Nat) (ds : List D) (ws : List V) (σ0 : St) (δ0 : Env) (H : Hp) (A : List Addr) (G : Hp) (Q : St → Hp → Prop), ds.length = is.length → RVs S A G ds ws → RE S A G δ0 σ0 →
    (∀ σ2, RE S A G (svs δ0 is ds) σ2 → (∀ vs : List Nat, (∀ i ∈ is, i ∈ vs) → L2.wipe σ2 vs = L2.wipe σ0 vs) → Q σ2 H) → gNs is ws σ0 H Q
  | [], ds, ws, σ0, δ0, H, A, G, Q, hl, r, E, k => by
    have : ds = [] := by simpa using hl
    subst this
    exact ⟨r.un0, k σ0 E fun _ _ => rfl⟩
  | i :: is, ds, ws, σ0, δ0, H, A, G, Q, hl, r, E, k => by
    cases ds with
    | nil => simp at hl
    | cons d ds =>
      obtain ⟨w, us, rfl, r1, r2⟩ := r.uncons
      refine ⟨w, us, rfl, gNs_ok is ds us _ (sv δ0 i d) H A G Q (by simpa using hl) r2 (E.sv r1) fun σ2 E2 hw => k σ2 E2 fun vs hv => ?_⟩
      rw [hw vs fun j hj => hv j (List.mem_cons_of_mem _ hj)]
      exact wipe_set (hv i List.mem_cons_self)
theorem Tg.ok {t : Tg} {x : D} {v : V} {K : Env → Prop} {Q : St → Hp → Prop} (R : Rel S A G H μ) (E : RE S A G δ σ) (r : RV S A G x v) (q : t.d x δ K)
    (k : ∀ σ2 δ2, RE S A G δ2 σ2 → K δ2 → (∀ vs : List Nat, (∀ i ∈ t.slots, i ∈ vs) → L2.wipe σ2 vs = L2.wipe σ vs) → Q σ2 H) : t.h S.K v σ H Q := by
  cases t with
  | nm i =>
    exact k _ _ (E.sv r) q fun vs h => wipe_set (h i (List.mem_singleton.mpr rfl))
  | tp is =>
    cases x <;> try exact q.elim
    unfold RV at r
    obtain ⟨a, vs, rfl, k1, k2, k3⟩ := r
    refine ⟨a, vs, rfl, SqT.sub k1 R.sub, by rw [← k3.len]; exact q.1, gNs_ok is _ vs σ δ H A G Q q.1 k3 E fun σ2 E2 hw => k σ2 _ E2 q.2 fun vs h => hw vs h⟩
theorem wipe_in {σ : St} {i : Nat} : ∀ {vs : List Nat}, i ∈ vs → (L2.wipe σ vs)[i]? = if i < σ.length then some none else none
  | [], h => by cases h
  | w :: vs, h => by
    unfold L2.wipe
    by_cases e : w = i
    · subst e
      by_cases hl : w < σ.length
      · rw [List.getElem?_set_self (by rw [L2.wipe_length]; exact hl), if_pos hl]
      · rw [if_neg hl, List.getElem?_eq_none_iff]; rw [List.length_set, L2.wipe_length]; omega
    · rw [List.getElem?_set_ne e]
      exact wipe_in ((List.mem_cons.mp h).resolve_left fun z => e z.symm)
theorem wipe_wipe {σ : St} {vs : List Nat} : L2.wipe (L2.wipe σ vs) vs = L2.wipe σ vs := by
  apply List.ext_getElem?
  intro i
  by_cases h : i ∈ vs
  · rw [wipe_in h, wipe_in h, L2.wipe_length]
  · rw [L2.wipe_out h]
abbrev mapL (still : Mu → Prop) (g : Tg) (tt : RT1) (te : RE1) (δ : Env) : List D → Mu → (List D → Mu → Prop) → Prop
  | [], μ, Q => still μ ∧ Q [] μ
  | d :: ds, μ, Q => still μ ∧ g.d d δ fun δ1 => tt δ1 μ (fun b μ2 => sel b (te δ1 μ2 (fun y μ3 => mapL still g tt te δ ds μ3 fun ys μ4 => Q (y :: ys) μ4) E00) (mapL still g tt te δ ds μ2 Q)) E00
/-- the tests of a clause -/
abbrev PDTs (S : Sg) (X : Cx) (W : WX) (ifs : List Expr) (r : RT1) : Prop := PTs X ifs (tT S W r)
abbrev rYes : RT1 := fun _ μ Q _ => Q true μ
section
variable {X : Cx} {W : WX} {c : Expr} {rc : RT1}
theorem dts_nil : PDTs S X W [] rYes := ⟨fun pins s σ H Q I h => pts_nil.run pins s σ H Q I (by
  obtain ⟨A, G, δ, μ, QD, ED, R, E, q, hx, k⟩ := h
  exact k _ H A G μ .refl R q)⟩
theorem dts_one (h : PDT S X W c rc) : PDTs S X W [c] rc := pts_one h
end
/-- a new list by a comprehension -/
abbrev rLc (own : Bool) (ri : RI1) (g : Tg) (tt : RT1) (te : RE1) (vs : List Nat) : RE1 := fun δ μ Q E => ri δ μ (fun ds still μ1 => ds.length ≤ sizeLine ∧ mapL still g tt te (wipeE δ vs) ds μ1 fun ys μ2 =>
  sel own (∀ n, μ2 n = none → Q (.loc n) (mset μ2 n (some (.lst ys)))) (Q (.lst ys) μ2)) E
theorem lc_ok {K : PySem.W.Frag} (hK : K = S.K) {W : WX} {wi : TI} {ri : RI1} {g : Tg} {tt : RT1} {te : RE1} {vs : List Nat} (own : Bool) (h2 : DIs S W wi ri) (hv : ∀ i ∈ g.slots, i ∈ vs) : ∀ σ H Q, tO S W (rLc own ri g tt te vs) σ H Q → tLc wi (g.h K) (tT S W0 tt) (tO S W0 te) vs σ H Q := fun σ H Q h => by
  subst hK
  obtain ⟨A, G, δ, μ, QD, ED, R, E, q, hx, k⟩ := h
  refine h2 A G H μ δ σ _ _ ED R E q hx fun J A1 G1 H1 ds still μ1 F1 R1 w q1 => ?_
  obtain ⟨hz, q1⟩ := q1
  intro D hD
  have gD : G1 D = none := R1.sub.free hD
  have aD : D ∉ A1 := fun z => by
    obtain ⟨u, hu⟩ := R1.trk D z
    rw [hD] at hu; cases hu
  have hDH : H D = none := by
    cases e : H D with
    | none => rfl
    | some u =>
      by_cases m : D ∈ A
      · obtain ⟨n, hn⟩ := List.getElem?_of_mem m
        exact absurd (List.mem_of_getElem? (F1.ext n D hn)) aD
      · have := F1.same D u e m
        rw [hD] at this; cases this
  refine ⟨fun i m H' => m = ds.length - i ∧ i ≤ ds.length ∧ ∃ A' G' μ' acc ws, Aft A1 G1 H1 A' G' H' ∧ Rel S A' G' H' μ' ∧ G' D = none ∧ D ∉ A' ∧ H' D = some (.lst ws) ∧ RVs S A' G' acc ws ∧ acc.length ≤ i ∧
    mapL still g tt te (wipeE δ vs) (ds.drop i) μ' fun ys μ2 => sel own (∀ n, μ2 n = none → QD (.loc n) (mset μ2 n (some (.lst (acc ++ ys))))) (QD (.lst (acc ++ ys)) μ2), ⟨_, rfl, Nat.zero_le _, A1, G1, μ1, [], [], Aft.off .refl hD, R1.off gD aD, gD, aD, upd_same, .nil, Nat.zero_le _, q1⟩, ?_⟩
  rintro i m H' ⟨rfl, hi, A', G', μ', acc, ws, F, R', gD', aD', hD', ra, la, q'⟩
  have E' := ((E.aft F1).aft F).wipe vs
  by_cases hlt : i < ds.length
  · rw [List.drop_eq_getElem_cons hlt] at q'
    obtain ⟨st, q'⟩ := q'
    obtain ⟨_, w2⟩ := w A' G' H' μ' F.ext F.sub R' st
    obtain ⟨w3, w4⟩ := w2 i ds[i] (by simp [hlt])
    refine .inr ⟨w3, fun H2 => ∃ A' G' μ' acc ws, Aft A1 G1 H1 A' G' H2 ∧ Rel S A' G' H2 μ' ∧ G' D = none ∧ D ∉ A' ∧ H2 D = some (.lst ws) ∧ RVs S A' G' acc ws ∧ acc.length ≤ i + 1 ∧
      mapL still g tt te (wipeE δ vs) (ds.drop (i + 1)) μ' fun ys μ2 => sel own (∀ n, μ2 n = none → QD (.loc n) (mset μ2 n (some (.lst (acc ++ ys))))) (QD (.lst (acc ++ ys)) μ2), fun H2 z => ⟨_, by omega, rfl, hlt, z⟩, fun x H'' y => ?_⟩
    obtain ⟨A2, G2, F2, R2, r2⟩ := w4 x H'' y
    refine Tg.ok R2 (E'.aft F2) r2 q' fun σ2 δ2 E2 q2 hw => ⟨(hw vs hv).trans wipe_wipe, ?_⟩
    refine tT.step R2 E2 q2 hx0 fun b H3 A3 G3 μ3 F3 R3 q3 => ?_
    have FF := F2.trans F3
    obtain ⟨g3, a3, h3⟩ := FF.free gD' aD' hD'
    cases b with
    | false =>
      rw [if_neg (by decide)]; simp only [sel] at q3
      exact ⟨A3, G3, μ3, acc, ws, F.trans FF, R3, g3, a3, h3, ra.aft FF, by omega, q3⟩
    | true =>
      rw [if_pos rfl]; simp only [sel] at q3
      refine tO.step R3 (E2.aft F3) q3 hx0 fun y H4 A4 G4 dy μ4 F4 R4 r4 q4 => ?_
      obtain ⟨g4, a4, h4⟩ := F4.free g3 a3 h3
      have ra4 := (ra.aft FF).aft F4
      have lw := ra4.len
      refine ⟨ws, h4, by omega, A4, G4, μ4, acc ++ [dy], ws ++ [y], Aft.off ((F.trans FF).trans F4) hD, R4.off g4 a4, g4, a4, upd_same, ra4.app (.cons r4 .nil), by simp; omega, ?_⟩
      simpa [List.append_assoc] using q4
  · have e : i = ds.length := by omega
    subst e
    rw [List.drop_length] at q'
    obtain ⟨st, q'⟩ := q'
    refine .inl ⟨(w A' G' H' μ' F.ext F.sub R' st).1 _ (Nat.le_refl _), ?_⟩
    rw [List.append_nil] at q'
    have la' : acc.length ≤ sizeLine := Nat.le_trans la hz
    have F0 := F1.trans F
    cases own with
    | false =>
      simp only [sel] at q'
      have Fa := Aft.adopt (o := .lst ws) F0 gD' hDH
      refine k _ _ A' _ (.lst acc) μ' Fa (R'.adopt gD' aD' hD') ?_ q'
      unfold RV
      exact ⟨D, ws, rfl, upd_same, la', RVs.mono (fun _ _ h => h) (fun b x q => by rw [upd_ne (ne_of_none q gD')]; exact q) ra⟩
    | true =>
      simp only [sel] at q'
      refine k _ _ (A' ++ [D]) G' (.loc A'.length) _ (F0.take hDH) (R'.take (d := .lst acc) gD' aD' hD' ?_) ?_ (q' _ R'.fresh)
      · unfold RO; exact ⟨ws, rfl, la', RVs.mono (Ext.new A' D) (fun _ _ h => h) ra⟩
      · unfold RV; exact ⟨D, rfl, by simp⟩
section
variable {X : Cx} {W : WX} {elt tg iter : Expr} {ifs : List Expr} {scope : Scope} {own : List (Str × Nat)} {pos spos py : Pos} {ri : RI1} {g : Tg} {tt : RT1} {te : RE1}
theorem d_lc (ow : Bool) (g : Tg) (hc : X.calm = true) (hN : X.N.Nodup) (hi : PDI S X W tg iter ri) (ok : BlkOk X.N X.env.scope scope own)
    (hg : ∀ (s : Shared) (H : Hp) (C : Addr) (cl : List (Str × Addr)) (fp : List Addr), PG (X.blk s H scope (compEnvC scope cl C X.env) fp) tg (g.h X.K)) (ht : ∀ (s : Shared) (H : Hp) (C : Addr) (cl : List (Str × Addr)) (fp : List Addr), PDTs S (X.blk s H scope (compEnvC scope cl C X.env) fp) W0 ifs tt)
    (he : ∀ (s : Shared) (H : Hp) (C : Addr) (cl : List (Str × Addr)) (fp : List Addr), PD S (X.blk s H scope (compEnvC scope cl C X.env) fp) W0 elt te) (hs : ∀ x, foldedSetIterable iter X.env x = pure x := by intro _; rfl)
    (hK : X.K = S.K := by rfl) (hv : ∀ i ∈ g.slots, i ∈ own.map (·.2) := by decide) : PD S X W (.ListComp elt [⟨tg, iter, ifs, 0⟩] scope pos) (rLc ow ri g tt te (own.map (·.2))) := by
  obtain ⟨wi, h1, h2⟩ := hi.ex
  exact PE.of (pe_lc hc hN h1 ok hg ht he hs) (lc_ok hK ow h2 hv)
theorem ds_setLc (ow : Bool) (g : Tg) {i : Nat} {y : Str} (hc : X.calm = true) (hN : X.N.Nodup) (hy : X.N[i]? = some y) (hyl : X.env.scope.names.lookup y = some .local)
    (hsw : swapsWith (.ListComp elt [⟨tg, iter, ifs, 0⟩] scope pos) (some (.Name y py)) spos.line X.env = pure true) (hi : PDI S X W tg iter ri) (ok : BlkOk X.N X.env.scope scope own)
    (hg : ∀ (s : Shared) (H : Hp) (C : Addr) (cl : List (Str × Addr)) (fp : List Addr), PG (X.blk s H scope (compEnvC scope cl C X.env) fp) tg (g.h X.K)) (ht : ∀ (s : Shared) (H : Hp) (C : Addr) (cl : List (Str × Addr)) (fp : List Addr), PDTs S (X.blk s H scope (compEnvC scope cl C X.env) fp) W0 ifs tt)
    (he : ∀ (s : Shared) (H : Hp) (C : Addr) (cl : List (Str × Addr)) (fp : List Addr), PD S (X.blk s H scope (compEnvC scope cl C X.env) fp) W0 elt te) (hs : ∀ x, foldedSetIterable iter X.env x = pure x := by intro _; rfl)
    (hK : X.K = S.K := by rfl) (hv : ∀ i ∈ g.slots, i ∈ own.map (·.2) := by decide) : PDS S X W (.Assign [.Name y py] (.ListComp elt [⟨tg, iter, ifs, 0⟩] scope pos) spos) (rAsg (rLc ow ri g tt te (own.map (·.2))) (gNm i)) := by
  obtain ⟨wi, h1, h2⟩ := hi.ex
  refine PS.of (ps_setLc hc hN hy hyl hsw h1 ok hg ht he hs) fun D σ H h => ?_
  obtain ⟨A, G, δ, μ, K, ED, R, E, q, hx, k⟩ := h
  exact lc_ok hK ow h2 hv σ H _ ⟨A, G, δ, μ, _, ED, R, E, q, hx, fun v H1 A1 G1 d μ1 F1 R1 r1 q1 => k.nx _ H1 A1 G1 _ μ1 F1 R1 ((E.aft F1).sv r1) q1⟩
end
end DL
namespace DL
open PySem L2
variable {S : Sg} {A A' A'' : List Addr} {G G' G'' H H' H'' : Hp} {μ μ' μ'' : Mu} {δ δ' : Env} {σ σ' : St}
/-! ### defs: what they do, over data -/
abbrev EX := Str → List Str → List D → Mu → Prop
abbrev SpecD := List D → Mu → DQ → EX → Prop
abbrev KX (S : Sg) (A : List Addr) (G H : Hp) (ED : EX) (E : XK) : Prop := ∀ c fs es μ' dx A' G' H', Aft A G H A' G' H' → Rel S A' G' H' μ' → RX S A' G' H' fs es dx → ED c fs es μ' → E (.ref (S.cls c)) dx H'
def toSp (S : Sg) (f : SpecD) : Sp := fun vs H Q E => ∃ A G μ ds QD ED, Rel S A G H μ ∧ RVs S A G ds vs ∧ f ds μ QD ED ∧ Kont S A G H QD Q ∧ KX S A G H ED E
abbrev rCall (f : SpecD) (dfl : List D) (rs : RA1) : RE1 := fun δ μ Q E => rs δ μ (fun ds μ1 => f (ds ++ dfl) μ1 Q fun c fs es μ2 => E c fs es δ μ2) E
section
variable {X : Cx} {W : WX} {e : Expr} {es : List Expr} {pos p : Pos} {rs : RA1} {k : Nat} {f : Addr} {fd : FuncData} {ps : List Str} {sp : SpecD} {dvs : List V} {ds : List Value} {dfl : List D} {x : Str}
theorem d_call (F : FnOk X.prog X.w X.K X.mg X.base (L2.CX X.prog X.w) k f fd ps (toSp S sp)) (hr : Room k X.A) (hg : Gl X x) (hm : X.mg x = some (.ref f)) (hk : PySem.W.keepIn X.K (.ref f) = true) (hb : Binds X.K fd ps ds) (hd : Vals dvs ds) (hdf : ∀ A G, RVs S A G dfl dvs) (tk : Takes X W)
    (ha : PDA S X W (e :: es) rs) (hdb : (x == ("__debug__" : Str)) = false := by decide) (he : starEach (e :: es) X.env = (false, eval e X.env) :: starEach es X.env := by rfl) (hpl : (backTo pos (starEach es X.env)).any (·.1) = false := by rfl) :
    PD S X W (.Call (.Name x p) (e :: es) [] pos) (rCall sp dfl rs) :=
  PE.of (pe_callSD (E := WE W) F hr hg hm hk hb hd (fun σ => passAt tk σ) ha hdb he hpl) fun σ H Q h => by
    obtain ⟨A, G, δ, μ, QD, ED, R, E, q, hx, kq⟩ := h
    refine tA.step R E q hx fun vs H1 A1 G1 d μ1 F1 R1 r1 q1 => ?_
    exact ⟨A1, G1, μ1, d ++ dfl, QD, _, R1, r1.app (hdf _ _), q1, Kont.aft F1 kq, fun c fs es' μ2 dx A2 G2 H2 F2 R2 rx z => hx c fs es' δ μ2 σ dx A2 G2 H2 (F1.trans F2) R2 ((E.aft F1).aft F2) rx z⟩
end
/-- the names' data at the entry -/
def startE (n : Nat) (ds : List D) : Env := ds.map some ++ List.replicate (n - ds.length) none
theorem RE.start {N : List Str} {ds : List D} {vs : List V} (r : RVs S A G ds vs) : RE S A G (startE N.length ds) (L2.start N vs) := by
  unfold startE L2.start
  refine ⟨by simp [r.len], fun i d q => ?_⟩
  by_cases h : i < ds.length
  · rw [List.getElem?_append_left (by simpa using h), List.getElem?_map] at q
    have e : ds[i]? = some d := by
      cases e : ds[i]? with
      | none => rw [e] at q; cases q
      | some x => rw [e] at q; simp at q; rw [q]
    obtain ⟨v, h1, h2⟩ := r.get e
    refine ⟨v, ?_, h2⟩
    rw [List.getElem?_append_left (by rw [List.length_map, ← r.len]; exact h), List.getElem?_map, h1]
    rfl
  · rw [List.getElem?_append_right (by simp; omega)] at q
    rw [List.getElem?_replicate] at q
    split at q <;> simp at q
/-- behind a def's body -/
abbrev exitD (Q : DQ) : EndsD := { nx := fun _ μ' => ∃ μ'', MSub μ'' μ' ∧ Q .non μ'', rt := fun d μ' => ∃ μ'', MSub μ'' μ' ∧ Q d μ'' }
abbrev exitX (E : EX) : DX := fun c fs es _ μ' => ∃ μ'', MSub μ'' μ' ∧ E c fs es μ''
section
variable {P : Program} {w : World} {mg : Str → Option Value} {base : Heap} {x qual : Str} {params : Arguments} {body : List Stmt} {scope : Scope} {dvs : List V} {kws : List (Str × V)} {f : Addr} {fd : FuncData}
/-- THE RULE for a def -/
theorem fn_okD {N ps : List Str} {k : Nat} {sp : SpecD} {rs : RS1} (F : FunD S.K x qual params body scope dvs kws f fd) (Sc : FnScope N ps scope) (n : Nat) (hn : n = N.length) (len : ∀ ds μ Q E, sp ds μ Q E → ds.length = ps.length)
    (hbody : ∀ (cdv : Value) (A : Around) (outer : List PySem.Env) (s : Shared) (H : Hp) (E : XK), Room k (A.deeper (PyProof.Rows.envOfC qual scope s.heap.objs.size f cdv)) →
      Takes (cxOf (L2.CX P w) P w S.K mg base N qual scope f cdv A outer s H E) (fun cls d _ H => E cls d H) → PDB S (cxOf (L2.CX P w) P w S.K mg base N qual scope f cdv A outer s H E) (fun cls d _ H => E cls d H) body rs)
    (hpure : ∀ ds μ Q E, sp ds μ Q E → rs (exitD Q) (startE n ds) μ (exitX E)) : FnOk P w S.K mg base (L2.CX P w) (k + 1) f fd ps (toSp S sp) := by
  refine F.ok Sc (fun vs H Q E h => ?_) (fun cdv A outer s H vs Q E hr h => ?_)
  · obtain ⟨A, G, μ, ds, QD, ED, R, r, q, _⟩ := h
    rw [← r.len]; exact len _ _ _ _ q
  · obtain ⟨A0, G, μ, ds, QD, ED, R, r, q, kq, kx⟩ := h
    refine ⟨_, hbody cdv A outer s H E hr (takes_of rfl rfl rfl rfl), ?_⟩
    refine ⟨A0, G, startE n ds, μ, exitD QD, exitX ED, R, by rw [hn]; exact RE.start r, hpure ds μ QD ED q, fun c fs es δ' μ' σ' dx A' G' H' F' R' E' rx z => ?_, ⟨fun σ' H' A' G' δ' μ' F' R' E' z => ?_, fun v H' A' G' d μ' F' R' rv z => ?_, fun _ _ _ _ _ _ _ _ _ z => z.elim, fun _ _ _ _ _ _ _ _ _ z => z.elim⟩⟩
    · obtain ⟨μ2, s2, z⟩ := z
      exact kx c fs es μ2 dx A' G' H' F' (R'.drop s2) rx z
    · obtain ⟨μ2, s2, z⟩ := z
      exact kq .non H' A' G' .non μ2 F' (R'.drop s2) RV.non z
    · obtain ⟨μ2, s2, z⟩ := z
      exact kq v H' A' G' d μ2 F' (R'.drop s2) rv z
end
end DL
namespace DL
open PySem L2
variable {S : Sg} {A A' A'' : List Addr} {G G' G'' H H' H'' : Hp} {μ μ' μ'' : Mu} {δ δ' : Env} {σ σ' : St}
/-! ### a def by its name -/
structure OkFn (P : Program) (w : World) (S : Sg) (mg : Str → Option Value) (base : Heap) (x : Str) (lvl : Nat) (ps : List Str) (sp : SpecD) : Prop where
  ex : ∃ f fd, mg x = some (.ref f) ∧ PySem.W.keepIn S.K (.ref f) = true ∧ Binds S.K fd ps [] ∧ FnOk P w S.K mg base (L2.CX P w) lvl f fd ps (toSp S sp)
section
variable {X : Cx} {W : WX} {e : Expr} {es : List Expr} {pos p : Pos} {rs : RA1} {k : Nat} {ps : List Str} {sp : SpecD} {x : Str}
theorem d_callO (F : OkFn X.prog X.w S X.mg X.base x k ps sp) (hr : Room k X.A) (hg : Gl X x) (tk : Takes X W)
    (ha : PDA S X W (e :: es) rs) (hK : X.K = S.K := by rfl) (hdb : (x == ("__debug__" : Str)) = false := by decide) (he : starEach (e :: es) X.env = (false, eval e X.env) :: starEach es X.env := by rfl) (hpl : (backTo pos (starEach es X.env)).any (·.1) = false := by rfl) :
    PD S X W (.Call (.Name x p) (e :: es) [] pos) (rCall sp [] rs) := by
  obtain ⟨f, fd, h1, h2, h3, h4⟩ := F.ex
  exact d_call (by rw [hK]; exact h4) hr hg h1 (by rw [hK]; exact h2) (by rw [hK]; exact h3) .nil (fun _ _ => .nil) tk ha hdb he hpl
end
/-! ### methods of one's own list -/
abbrev FL := List D → List D → (D → List D → Prop) → Prop
abbrev rLM (f : FL) (ro : RE1) (rs : RA1) : RE1 := fun δ μ Q E => ro δ μ (fun x μ1 => match x with
  | .loc n => (match μ1 n with
    | some (.lst _) => rs δ μ1 (fun ys μ2 => match μ2 n with
      | some (.lst ds) => f ds ys fun d ds' => ds'.length ≤ sizeLine ∧ Q d (mset μ2 n (some (.lst ds')))
      | _ => False) E
    | _ => False)
  | _ => False) E
def DLm (f : FL) (r : V → List V → Hp → VK → Prop) : Prop := ∀ (S : Sg) (A : List Addr) (G H : Hp) (l : Addr) (ds ys : List D) (vs ws : List V) (Q : VK) (K : D → List D → Prop), H l = some (.lst vs) → RVs S A G ds vs → RVs S A G ys ws → f ds ys K →
  (∀ d ds' v vs', RV S A G d v → RVs S A G ds' vs' → K d ds' → Q v (upd H l (.lst vs'))) → ds.length ≤ sizeLine → r (.ref l) ws H Q
section
variable {X : Cx} {W : WX} {o e : Expr} {es : List Expr} {pos apos cpos : Pos} {ro : RE1} {rs : RA1} {name : Str} {id : String} {f : FL} {r : V → List V → Hp → VK → Prop}
theorem tLM.of {K : PySem.W.Frag} (hK : K = S.K) (hf : DLm f r) : ∀ σ H Q, tO S W (rLM f ro rs) σ H Q → tBM K "list" r (tO S W ro) (tA S W rs) σ H Q := fun σ H Q h => by
  obtain ⟨A, G, δ, μ, QD, ED, R, E, q, hx, k⟩ := h
  refine tO.step R E q hx fun v H1 A1 G1 d μ1 F1 R1 r1 q1 => ?_
  cases d <;> simp only at q1 <;> try exact q1.elim
  rename_i n
  split at q1
  case h_2 => exact q1.elim
  rename_i ds0 e1
  unfold RV at r1
  obtain ⟨p, rfl, hp⟩ := r1
  obtain ⟨p', k1, k2, k3⟩ := R1.own n _ e1
  rw [hp] at k1; cases k1
  unfold RO at k3
  obtain ⟨vs0, k4, k5, k6⟩ := k3
  refine ⟨.inl ⟨rfl, vs0, SqL.of k4⟩, ?_⟩
  refine tA.step R1 (E.aft F1) q1 (hx.aft F1) fun ws H2 A2 G2 ys μ2 F2 R2 r2 q2 => ?_
  split at q2
  case h_2 => exact q2.elim
  rename_i ds e2
  obtain ⟨p', k1, k2, k3⟩ := R2.own n _ e2
  rw [F2.ext n p hp] at k1; cases k1
  unfold RO at k3
  obtain ⟨vs, l4, l5, l6⟩ := k3
  refine hf S A2 G2 H2 p ds ys vs ws Q _ l4 l6 r2 q2 (fun d ds' v vs' rv rvs z => ?_) l5
  obtain ⟨R3, F3⟩ := R2.write (o := .lst vs') (e := .lst ds') e2 (F2.ext n p hp) (by unfold RO; exact ⟨_, rfl, z.1, rvs⟩)
  exact k v _ A2 G2 d _ ((F1.trans F2).trans F3) R3 rv z.2
theorem d_lm (slot : Slot "list" name id) (hty : typeOf (.builtin id) = pure (.type "method_descriptor")) (hm : MtM X id r) (hf : DLm f r) (ho : PD S X W o ro) (ha : PDA S X W (e :: es) rs) (hK : X.K = S.K := by rfl)
    (hbase : attributeBase o name X.env (eval o X.env) = eval o X.env := by rfl)
    (hfew : ((backTo cpos (starEach (e :: es) X.env)).all (fun x => !x.1) && (backToKw cpos (keywordEach [] X.env)).all (fun x => x.1.isSome)
      && decide ((e :: es).length + ([] : List Keyword).length + (if ([] : List Keyword).isEmpty then 0 else 1) < 30)) = true := by rfl)
    (hline : (apos.endLine == cpos.line) = true := by rfl)
    (he : starEach (e :: es) X.env = (false, eval e X.env) :: starEach es X.env := by rfl) (hpl : (backTo cpos (starEach es X.env)).any (·.1) = false := by rfl) : PD S X W (.Call (.Attribute o name apos) (e :: es) [] cpos) (rLM f ro rs) :=
  PE.of (pe_bm PySem.F.plainAttrs_list slot hty hm ho ha hbase hfew hline he hpl) (tLM.of hK hf)
/-- the same without arguments -/
abbrev rLM0 (f : FL) (ro : RE1) : RE1 := rLM f ro rNil
theorem tLM0.of {K : PySem.W.Frag} (hK : K = S.K) (hf : DLm f r) : ∀ σ H Q, tO S W (rLM f ro rNil) σ H Q → tBM0 K "list" r (tO S W ro) σ H Q := fun σ H Q h => by
  obtain ⟨A, G, δ, μ, QD, ED, R, E, q, hx, k⟩ := h
  refine tO.step R E q hx fun v H1 A1 G1 d μ1 F1 R1 r1 q1 => ?_
  cases d <;> simp only at q1 <;> try exact q1.elim
  rename_i n
  split at q1
  case h_2 => exact q1.elim
  rename_i ds e1
  unfold RV at r1
  obtain ⟨p, rfl, hp⟩ := r1
  obtain ⟨p', k1, k2, k3⟩ := R1.own n _ e1
  rw [hp] at k1; cases k1
  unfold RO at k3
  obtain ⟨vs, k4, k5, k6⟩ := k3
  have q2 : f ds [] fun d ds' => ds'.length ≤ sizeLine ∧ QD d (mset μ1 n (some (.lst ds'))) := by
    have q1' : (match μ1 n with
      | some (.lst ds) => f ds [] fun d ds' => ds'.length ≤ sizeLine ∧ QD d (mset μ1 n (some (.lst ds')))
      | _ => False) := q1
    rw [e1] at q1'; exact q1'
  refine ⟨.inl ⟨rfl, vs, SqL.of k4⟩, hf S A1 G1 H1 p ds [] vs [] Q _ k4 k6 .nil q2 (fun d ds' v vs' rv rvs z => ?_) k5⟩
  obtain ⟨R3, F3⟩ := R1.write (o := .lst vs') (e := .lst ds') e1 hp (by unfold RO; exact ⟨_, rfl, z.1, rvs⟩)
  exact k v _ A1 G1 d _ (F1.trans F3) R3 rv z.2
theorem d_lm0 (slot : Slot "list" name id) (hty : typeOf (.builtin id) = pure (.type "method_descriptor")) (hm : MtR X id r) (hf : DLm f r) (ho : PD S X W o ro) (hK : X.K = S.K := by rfl)
    (hbase : attributeBase o name X.env (eval o X.env) = eval o X.env := by rfl) (hline : (apos.endLine == cpos.line) = true := by rfl) : PD S X W (.Call (.Attribute o name apos) [] [] cpos) (rLM0 f ro) :=
  PE.of (pe_bm0 PySem.F.plainAttrs_list slot hty hm ho hbase hline) (tLM0.of hK hf)
abbrev fApp : FL := fun ds ys K => match ys with
  | [y] => ds.length < sizeLine ∧ K .non (ds ++ [y])
  | _ => False
theorem fApp_ok : DLm fApp rAppend := fun S A G H l ds ys vs ws Q K h rd ry q k _ => by
  unfold fApp at q
  split at q
  · obtain ⟨v, rfl, r1⟩ := ry.one
    exact ⟨l, vs, v, rfl, rfl, h, by rw [← rd.len]; exact q.1, k _ _ _ _ RV.non (rd.app (.cons r1 .nil)) q.2⟩
  · exact q.elim
theorem d_append (ho : PD S X W o ro) (ha : PDA S X W (e :: es) rs) (hK : X.K = S.K := by rfl) (hbase : attributeBase o "append" X.env (eval o X.env) = eval o X.env := by rfl)
    (hfew : ((backTo cpos (starEach (e :: es) X.env)).all (fun x => !x.1) && (backToKw cpos (keywordEach [] X.env)).all (fun x => x.1.isSome)
      && decide ((e :: es).length + ([] : List Keyword).length + (if ([] : List Keyword).isEmpty then 0 else 1) < 30)) = true := by rfl)
    (hline : (apos.endLine == cpos.line) = true := by rfl)
    (he : starEach (e :: es) X.env = (false, eval e X.env) :: starEach es X.env := by rfl) (hpl : (backTo cpos (starEach es X.env)).any (·.1) = false := by rfl) : PD S X W (.Call (.Attribute o "append" apos) (e :: es) [] cpos) (rLM fApp ro rs) :=
  d_lm PySem.F.slot_list_append PySem.F.type_list_append mt_append fApp_ok ho ha hK hbase hfew hline he hpl
abbrev fPop : FL := fun ds ys K => match ys with
  | [] => (match ds[ds.length - 1]? with
    | some d => K d ds.dropLast
    | none => False)
  | _ => False
theorem fPop_ok : DLm fPop rPop := fun S A G H l ds ys vs ws Q K h rd ry q k _ => by
  unfold fPop at q
  split at q
  · split at q
    · rename_i d e
      obtain ⟨v, h1, h2⟩ := rd.get e
      exact ⟨l, vs, v, rfl, ry.un0, h, by rw [← rd.len]; exact h1, k _ _ _ _ h2 rd.dropLast q⟩
    · exact q.elim
  · exact q.elim
abbrev fPopAt : FL := fun ds ys K => match ys with
  | [.int i] => (-(2 ^ 63) ≤ i ∧ i < 2 ^ 63) ∧ (match seqIndex? i ds.length with
    | some j => (match ds[j]? with
      | some d => K d (ds.eraseIdx j)
      | none => False)
    | none => False)
  | _ => False
theorem fPopAt_ok : DLm fPopAt rPopAt := fun S A G H l ds ys vs ws Q K h rd ry q k _ => by
  unfold fPopAt at q
  split at q
  · obtain ⟨v, rfl, r1⟩ := ry.one
    obtain ⟨⟨b1, b2⟩, q⟩ := q
    split at q
    · rename_i j e
      split at q
      · rename_i d e2
        obtain ⟨v, h1, h2⟩ := rd.get e2
        exact ⟨l, vs, _, j, v, rfl, by rw [r1.i], h, b1, b2, by rw [← rd.len]; exact e, h1, k _ _ _ _ h2 (rd.eraseIdx j) q⟩
      · exact q.elim
    · exact q.elim
  · exact q.elim
end
/-! ### exceptions -/
section
variable {X : Cx} {W : WX} {e c : Expr} {es : List Expr} {pos p np pos' : Pos} {rs : RA1} {body suite : List Stmt} {b₀ : Stmt} {r u : RS1} {x : Str}
/-- raise C(): an own class without fields -/
abbrev rRaise0 (c : Str) : RS1 := fun _ δ μ E => E c [] [] δ μ
theorem ds_raise0 {x : Str} (hc : X.calm = true) (tk : Takes X W) (he : PMk X e fun _ H Q => Q (.ref (S.cls x)) none H) : PDS S X W (.Raise (some e) none pos) (rRaise0 x) :=
  PS.of (ps_raise hc tk he) fun D σ H h => by
    obtain ⟨A, G, δ, μ, K, ED, R, E, q, hx, k⟩ := h
    exact hx x [] [] δ μ σ none A G H .refl R E ⟨rfl, rfl⟩ q
/-- raise C(e, ..), C's __init__ keeps what it is given -/
abbrev rRaise (c : Str) (fs : List Str) (rs : RA1) : RS1 := fun _ δ μ E => rs δ μ (fun ds μ1 => ds.length = fs.length ∧ E c fs ds δ μ1) E
/-- how such a class is made -/
def tMkD (C : Addr) (fs : List Str) (ta : TA) : St → Hp → XK → Prop := fun σ H Q => ta σ H fun vs H1 => vs.length = fs.length ∧ ∀ d, H1 d = none → Q (.ref C) (some d) (upd H1 d (.xd (fs.zip vs)))
theorem ds_raise {x : Str} {fs : List Str} (hc : X.calm = true) (tk : Takes X W) (he : PMk X e (tMkD (S.cls x) fs (tA S W rs))) : PDS S X W (.Raise (some e) none pos) (rRaise x fs rs) :=
  PS.of (ps_raise hc tk he) fun D σ H h => by
    obtain ⟨A, G, δ, μ, K, ED, R, E, q, hx, k⟩ := h
    refine tA.step R E q hx fun vs H1 A1 G1 ds μ1 F1 R1 r1 q1 => ⟨by rw [← r1.len]; exact q1.1, fun d hd => ?_⟩
    obtain ⟨R2, F2⟩ := R1.tree (o := .xd (fs.zip vs)) hd
    exact hx x fs ds δ μ1 σ (some d) A1 _ _ (F1.trans F2) R2 ((E.aft F1).aft F2) ⟨vs, upd_same, q1.1.symm, r1.aft F2⟩ q1.2
end
end DL
namespace L2
open PySem PySem.Spec PySem.Calls PyProof.Rows PySem.W
/-! ### a, .., *b = a list | a tuple -/
section
variable {X : Cx} {pins : List (Addr × Obj)} {σ : L2.St} {H : Hp} {s : Shared} {l : Addr} {xs : List V} {i : Nat}
theorem unpk_list {Q : List Value → Shared → Prop} (I : Inv X pins σ H s) (hS : SqL X.K H l xs) (hc : X.calm = true) (hi : i ≤ xs.length)
    (h : ∀ us D s', Vals (xs.take i) us → Inv X pins σ (upd H D (.lst (xs.drop i))) s' → H D = none → Q (us ++ [.ref D]) s') : wpAny (model X.prog X.w) X.A (unpackItems (.ref l) (i + 1) (some i)) Q X.xe s := by
  obtain ⟨its, rv, pl, hz⟩ := I.list hS
  have hl := pl.isList
  have hlen : its.length = xs.length := rv.length.symm
  have hlt : l ≠ s.heap.objs.size := by obtain ⟨o, ho, _⟩ := hl; exact Nat.ne_of_lt (Heap.lt_size ho)
  unfold unpackItems
  refine wpAny_bind ?_
  unfold notIterableAtAll
  refine wpAny_bind (wpAny_specialOf hl.typeIs slot_list_iter.lookup ?_)
  refine wpAny_pure ?_
  simp only [Bool.false_eq_true, if_false]
  refine wpAny_bind (wpAny_holding (wpAny_pyIter_list hl ?_))
  refine wpAny_bind (wpAny_holding (kun_draw hlt i 0 _ _ ⟨_, Heap.get?_push_size _ rfl, rfl, rfl⟩ (hl.push _) (by simp [hlen]; omega) fun h₁ hit₁ hs₁ => ?_))
  have hl₁ : h₁.IsList l its.toArray := (hl.push _).extBut hs₁.extBut hlt
  rw [Nat.zero_add] at hit₁
  have hit₁' := hit₁
  obtain ⟨oi, hoi, _⟩ := hit₁'
  have hl₁' := hl₁
  obtain ⟨ol, hol, _⟩ := hl₁'
  rw [List.drop_zero]
  have hfl : (its.toArray.toList.take i).length = i := by simp [hlen]; omega
  rw [if_neg (show ¬ ((its.toArray.toList.take i).length < i) by rw [hfl]; omega)]
  refine wpAny_bind (wpAny_holding (kun_collect (s := { s with heap := h₁ }) (T := "list_iterator") (.inr (.inr (.inl rfl))) (Walks.list (A := X.A.in1) (I.ok.hd hc) s.heap.objs.size l hlt its.toArray) (fun j u st => st.1.typeIs) (k := i) (by simp [hlen]; omega) ⟨hit₁, hl₁⟩ (Heap.lt_size hoi) (Heap.lt_size hol) (fun h₂ tk hk => ?_) (by simp [hlen]; omega)))
  have hrl : (its.toArray.toList.drop i).length = xs.length - i := by simp [hlen]
  show wpAny _ _ (if (its.toArray.toList.drop i).length < i + 1 - 1 - i then _ else _) _ _ _
  rw [if_neg (by omega)]
  show wpAny _ _ (newList ((its.toArray.toList.drop i).take ((its.toArray.toList.drop i).length - (i + 1 - 1 - i))) >>= fun d => pure (its.toArray.toList.take i ++ [d] ++ (its.toArray.toList.drop i).drop ((its.toArray.toList.drop i).length - (i + 1 - 1 - i)))) _ _ _
  have e0 : i + 1 - 1 - i = 0 := by omega
  simp only [e0, Nat.sub_zero, List.take_length, List.drop_length, List.append_nil]
  have he : Heap.ExtBut s.heap.objs.size s.heap h₂ := fun b o hb e => hk b o hb (hs₁.extBut b o hb (Heap.get?_push_of_some _ e))
  have I2 : Inv X pins σ H { s with heap := h₂, toks := tk } := I.kept fun b o e => he b o (Nat.ne_of_lt (Heap.lt_size e)) e
  refine wpAny_bind (wpAny_newList (wpAny_pure ?_) ?_)
  · refine h (its.toArray.toList.take i) h₂.objs.size _ (by simpa using rv.take i) ?_ (I2.hok.fresh (Nat.le_refl _))
    exact I2.lnew (t' := tk) (its := its.toArray.toList.drop i) (by simpa using rv.drop i) (by rw [List.length_drop]; omega)
  · rw [hrl]; omega
theorem unpk_tup {Q : List Value → Shared → Prop} (I : Inv X pins σ H s) (hS : SqT X.K H l xs) (hc : X.calm = true) (hi : i ≤ xs.length)
    (h : ∀ us D s', Vals (xs.take i) us → Inv X pins σ (upd H D (.lst (xs.drop i))) s' → H D = none → Q (us ++ [.ref D]) s') : wpAny (model X.prog X.w) X.A (unpackItems (.ref l) (i + 1) (some i)) Q X.xe s := by
  obtain ⟨its, rv, hl, hz⟩ := I.tuple hS
  have hlen : its.length = xs.length := rv.length.symm
  have hlt : l ≠ s.heap.objs.size := by obtain ⟨o, ho, _⟩ := hl; exact Nat.ne_of_lt (Heap.lt_size ho)
  unfold unpackItems
  refine wpAny_bind ?_
  unfold notIterableAtAll
  refine wpAny_bind (wpAny_specialOf hl.typeIs slot_tuple_iter.lookup ?_)
  refine wpAny_pure ?_
  simp only [Bool.false_eq_true, if_false]
  refine wpAny_bind (wpAny_holding (iter_tuple hl ?_))
  refine wpAny_bind (wpAny_holding (draw_tuple hlt i 0 _ _ ⟨_, Heap.get?_push_size _ rfl, rfl, rfl⟩ (hl.push _) (by simp [hlen]; omega) fun h₁ hit₁ hs₁ => ?_))
  have hl₁ : IsTup h₁ l its.toArray := (hl.push _).extBut hs₁.extBut hlt
  rw [Nat.zero_add] at hit₁
  have hit₁' := hit₁
  obtain ⟨oi, hoi, _⟩ := hit₁'
  have hl₁' := hl₁
  obtain ⟨ol, hol, _⟩ := hl₁'
  rw [List.drop_zero]
  have hfl : (its.toArray.toList.take i).length = i := by simp [hlen]; omega
  rw [if_neg (show ¬ ((its.toArray.toList.take i).length < i) by rw [hfl]; omega)]
  refine wpAny_bind (wpAny_holding (kun_collect (s := { s with heap := h₁ }) (T := "tuple_iterator") (.inr (.inr (.inr rfl))) (Walks.tuple (A := X.A.in1) (I.ok.hd hc) s.heap.objs.size l hlt its.toArray) (fun j u st => st.1.typeIs) (k := i) (by simp [hlen]; omega) ⟨hit₁, hl₁⟩ (Heap.lt_size hoi) (Heap.lt_size hol) (fun h₂ tk hk => ?_) (by simp [hlen]; omega)))
  have hrl : (its.toArray.toList.drop i).length = xs.length - i := by simp [hlen]
  show wpAny _ _ (if (its.toArray.toList.drop i).length < i + 1 - 1 - i then _ else _) _ _ _
  rw [if_neg (by omega)]
  show wpAny _ _ (newList ((its.toArray.toList.drop i).take ((its.toArray.toList.drop i).length - (i + 1 - 1 - i))) >>= fun d => pure (its.toArray.toList.take i ++ [d] ++ (its.toArray.toList.drop i).drop ((its.toArray.toList.drop i).length - (i + 1 - 1 - i)))) _ _ _
  have e0 : i + 1 - 1 - i = 0 := by omega
  simp only [e0, Nat.sub_zero, List.take_length, List.drop_length, List.append_nil]
  have he : Heap.ExtBut s.heap.objs.size s.heap h₂ := fun b o hb e => hk b o hb (hs₁.extBut b o hb (Heap.get?_push_of_some _ e))
  have I2 : Inv X pins σ H { s with heap := h₂, toks := tk } := I.kept fun b o e => he b o (Nat.ne_of_lt (Heap.lt_size e)) e
  refine wpAny_bind (wpAny_newList (wpAny_pure ?_) ?_)
  · refine h (its.toArray.toList.take i) h₂.objs.size _ (by simpa using rv.take i) ?_ (I2.hok.fresh (Nat.le_refl _))
    exact I2.lnew (t' := tk) (its := its.toArray.toList.drop i) (by simpa using rv.drop i) (by rw [List.length_drop]; omega)
  · rw [hrl]; omega
/-- a, .., *b: i names, then the rest in a new list -/
def gStar (K : PySem.W.Frag) (i : Nat) (t : TGs) : TG := fun v σ H Q => ∃ a xs, v = .ref a ∧ (SqL K H a xs ∨ SqT K H a xs) ∧ i ≤ xs.length ∧ ∀ D, H D = none → t (xs.take i ++ [.ref D]) σ (upd H D (.lst (xs.drop i))) Q
theorem pg_star {es : List Expr} {k : Nat} {t : TGs} {pos : Pos} (i : Nat) (hc : X.calm = true) (h : PGs X es t) (hn : (assignEach es X.env).length = i + 1) (hst : (assignEach es X.env).findIdx? (·.1) = some i) : PG X (.Tuple es k pos) (gStar X.K i t) := by
  refine ⟨fun pins s σ H v u Q I r hw => ?_⟩
  obtain ⟨a, xs, e1, hq, hl, hw⟩ := hw
  subst e1
  cases r
  rw [PyProof.Rows.assign_Tuple]
  refine wpAny_bind (wpAny_standAt ?_)
  unfold unpack
  rw [hn, hst]
  refine wpAny_bind (wpAny_holding ?_)
  have go : ∀ us D s', Vals (xs.take i) us → Inv X pins σ (upd H D (.lst (xs.drop i))) s' → H D = none → wpAny (model X.prog X.w) X.A (assignInOrder ((assignEach es X.env).map (·.2)) (us ++ [.ref D])) (fun _ s' => ∃ σ' H', Inv X pins σ' H' s' ∧ Q σ' H') X.xe s' :=
    fun us D s' r J n => h.run pins s' σ _ _ _ Q J (r.append (.cons (show RelV (.ref D) (.ref D) from rfl) .nil)) (hw D n)
  rcases hq with hq | hq
  · exact unpk_list I hq hc hl fun us D s' r J n => go us D s' r J n
  · exact unpk_tup I hq hc hl fun us D s' r J n => go us D s' r J n
/-- the targets behind one another, the last one starred -/
theorem pgs_star {e : Expr} {p : Pos} {t : TG} (h1 : PG X e t) (hs : (assignEach [Expr.Starred e p] X.env).map (·.2) = assign e X.env :: (assignEach [] X.env).map (·.2) := by rfl) : PGs X [.Starred e p] (gCons t gNil) := by
  refine ⟨fun pins s σ H vs us Q I r h => ?_⟩
  obtain ⟨v, ws, rfl, h⟩ := h
  cases r with
  | @cons _ u _ ur ra rr =>
    rw [hs]
    show wpAny _ _ (do holding ur (assign e X.env u); assignInOrder ((assignEach [] X.env).map (·.2)) ur) _ _ _
    refine wpAny_bind (wpAny_holding (thn (h1.run pins s σ H v u _ I ra h) fun _ s1 ⟨σ1, H1, I1, q⟩ => ?_))
    exact (pgs_nil (X := X)).run pins s1 σ1 H1 ws ur Q I1 rr q
end
end L2
namespace DL
open PySem L2
variable {S : Sg} {A A' A'' : List Addr} {G G' G'' H H' H'' : Hp} {μ μ' μ'' : Mu} {δ δ' : Env} {σ σ' : St}
section
variable {X : Cx} {W : WX} {e : Expr} {es : List Expr} {pos p : Pos} {ra : RE1} {rs : RA1} {g : G1}
/-- *e among the items -/
abbrev rStar (ra : RE1) (rs : RA1) : RA1 := fun δ μ Q E => ra δ μ (fun x μ1 => match seqA μ1 x with
  | some ds => rs δ μ1 (fun ys μ2 => Q (ds ++ ys) μ2) E
  | none => False) E
theorem da_star (ha : PD S X W e ra) (hr : PDA S X W es rs) (hK : X.K = S.K := by rfl) (hs : starEach (.Starred e p :: es) X.env = (true, eval e X.env) :: starEach es X.env := by rfl) : PDA S X W (.Starred e p :: es) (rStar ra rs) :=
  PA.of (StX.pa_star ha hr hs) fun σ H Q q => by
    obtain ⟨A, G, δ, μ, QD, ED, R, E, q, hx, k⟩ := q
    refine tO.step R E q hx fun v H1 A1 G1 d μ1 F1 R1 r1 q1 => ?_
    split at q1
    · rename_i ds e1
      obtain ⟨p, vs, rfl, k1, k2, k3⟩ := any_at R1 r1 e1
      refine ⟨p, vs, rfl, by rw [hK]; exact k1.symm, ?_⟩
      refine tA.step R1 (E.aft F1) q1 (hx.aft F1) fun ws H2 A2 G2 ys μ2 F2 R2 r2 q2 => ?_
      exact k _ H2 A2 G2 _ μ2 (F1.trans F2) R2 ((k3.aft F2).app r2) q2
    · exact q1.elim
abbrev gSt (own : Bool) (i : Nat) (g : Gs1) : G1 := fun d δ μ K E => match seqA μ d with
  | some ds => i ≤ ds.length ∧ (sel own (∀ n, μ n = none → g (ds.take i ++ [.loc n]) δ (mset μ n (some (.lst (ds.drop i)))) K E) (g (ds.take i ++ [.lst (ds.drop i)]) δ μ K E))
  | none => False
theorem dg_star {ts : List Expr} {k : Nat} {h : Gs1} (own : Bool) (i : Nat) (hc : X.calm = true) (hh : PDGs S X W ts h) (hK : X.K = S.K := by rfl) (hn : (assignEach ts X.env).length = i + 1 := by rfl) (hst : (assignEach ts X.env).findIdx? (·.1) = some i := by rfl) : PDG S X W (.Tuple ts k pos) (gSt own i h) :=
  PG.of (pg_star i hc hh hn hst) fun v σ H Q h => by
    obtain ⟨A, G, d, δ, μ, K, ED, R, E, r, q, hx, k⟩ := h
    unfold gSt at q
    split at q
    · rename_i ds e1
      obtain ⟨p, vs, rfl, k1, k2, k3⟩ := any_at R r e1
      refine ⟨p, vs, rfl, by rw [hK]; exact k1, by rw [← k3.len]; exact q.1, fun D hD => ?_⟩
      have hz : (ds.drop i).length ≤ sizeLine := by rw [List.length_drop]; omega
      cases own with
      | true =>
        obtain ⟨R1, F⟩ := R.new (o := .lst (vs.drop i)) (d := .lst (ds.drop i)) hD (by unfold RO; exact ⟨_, rfl, hz, RVs.mono (Ext.new A D) (fun _ _ h => h) (k3.drop i)⟩)
        exact ⟨_, _, _, δ, _, K, ED, R1, E.aft F, ((k3.take i).aft F).app (.cons (show RV S (A ++ [D]) G (.loc A.length) (.ref D) from by unfold RV; exact ⟨D, rfl, by simp⟩) .nil), by simpa [sel] using q.2 _ R.fresh, hx.aft F, KE1.aft F k⟩
      | false =>
        obtain ⟨R1, F⟩ := R.tree (o := .lst (vs.drop i)) hD
        exact ⟨_, _, _, δ, _, K, ED, R1, E.aft F, ((k3.take i).aft F).app (.cons (show RV S A (upd G D (.lst (vs.drop i))) (.lst (ds.drop i)) (.ref D) from by unfold RV; exact ⟨D, _, rfl, upd_same, hz, (k3.drop i).aft F⟩) .nil), by simpa [sel] using q.2, hx.aft F, KE1.aft F k⟩
    · exact q.elim
theorem dgs_star (h1 : PDG S X W e g) (hs : (assignEach [Expr.Starred e p] X.env).map (·.2) = assign e X.env :: (assignEach [] X.env).map (·.2) := by rfl) : PDGs S X W [.Starred e p] (gCn g gNl) :=
  PGs.of (pgs_star h1 hs) fun v σ H Q h => by
    obtain ⟨A, G, ds, δ, μ, K, ED, R, E, r, q, hx, k⟩ := h
    cases ds with
    | nil => exact q.elim
    | cons d ds =>
      obtain ⟨w, ws, rfl, r1, r2⟩ := r.uncons
      refine ⟨w, ws, rfl, A, G, d, δ, μ, _, ED, R, E, r1, q, hx, fun σ' H' A' G' δ' μ' F R' E' q' => ?_⟩
      cases ds with
      | nil => exact ⟨r2.un0, k _ H' A' G' _ μ' F R' E' q'⟩
      | cons _ _ => exact q'.elim
end
end DL
namespace L2
open PySem PySem.Spec PyProof.Rows
/-- X(), an own class without own __init__ -/
theorem pmk_own0 {X : Cx} {C : Addr} {bmB : List Value} {B newId initId : String} {x : Str} {p pos : Pos} (F : ExcBaseFacts B newId initId bmB) (q : PySem.W.excIn X.K C bmB newId = true) (gC : X.mg x = some (.ref C)) (kC : PySem.W.keepIn X.K (.ref C) = true) (r : Raises X (.ref C)) (hg : Gl X x)
    (hdb : (x == ("__debug__" : Str)) = false := by decide) : PMk X (.Call (.Name x p) [] [] pos) (fun _ H Q => Q (.ref C) none H) := by
  intro pins s σ H Q I h
  refine wpAny_Call_Name_kw (ld_glob I hg gC ?_ hdb)
  refine PySem.W.callWith_K0 (K := X.K) I.kIn kC ?_
  show wpAny _ _ (call (.ref C) []) _ _ _
  obtain ⟨bm, N, nm, qn, bs, hdct, sn, sub, ab, col, dd, k0, k1, k2, k3, k5, mN, hC, hN, hni, T⟩ := exc_obj I.kIn q
  obtain ⟨hp, g, d, t, os⟩ := s
  refine wpAny_call_exc_subT F T hC hN hni (fun h' e hm => ?_) (by show 0 ≤ sizeLine; omega)
  exact mk_of I hm r h (I.hok.gone hm.new)
def repS (x : Str) (n : Int) : Str := if n < 1 then Str.empty else if (n == 1 || x.length == 0) = true then x else ⟨(List.replicate n.toNat x.cps).foldl (· ++ ·) #[]⟩
theorem op_mul_str {X : Cx} : OpR X (binaryOp .Mult) (fun x y H Q => ∃ a n, x = .str a ∧ y = .int n ∧ -(2 ^ 63) ≤ n ∧ n < 2 ^ 63 ∧ a.length * n.toNat ≤ sizeLine ∧ Q (.str (repS a n)) H) := by
  intro pins s σ H x y v u Q I rx ry h
  obtain ⟨a, n, rfl, rfl, h1, h2, h3, q⟩ := h
  obtain ⟨t, rfl⟩ := rx
  obtain ⟨t', rfl⟩ := ry
  have hs : sizeLine ≤ 2 ^ 62 := by rw [sizeLine_eq]; decide
  have b1 : decide (n < -(2 ^ 63 : Int)) = false := decide_eq_false (by omega)
  have b2 : decide (n ≥ (2 ^ 63 : Int)) = false := decide_eq_false (by omega)
  refine PySem.P.mul_str (by rw [b1, b2]; rfl) (fun g1 _ => ?_) (fun g1 _ => decide_eq_false (Nat.not_lt.mpr h3)) ?_
  · have g2 : (0 : Int) < n := by omega
    rw [gt_iff_lt, Int.not_lt]
    rw [Int.le_ediv_iff_mul_le g2]
    have g3 : ((a.length * n.toNat : Nat) : Int) ≤ 2 ^ 62 := by exact_mod_cast Nat.le_trans h3 hs
    rw [Int.natCast_mul, Int.toNat_of_nonneg (by omega)] at g3
    omega
  · unfold repS at q
    split
    · rename_i c
      rw [if_pos c] at q
      exact ⟨by decide, .str Str.empty, H, I.tok _, ⟨_, rfl⟩, q⟩
    · rename_i c
      rw [if_neg c] at q
      split
      · rename_i c2
        rw [if_pos c2] at q
        exact ⟨.str a, H, I, ⟨_, rfl⟩, q⟩
      · rename_i c2
        rw [if_neg c2] at q
        refine ⟨?_, .str _, H, I.tok _, ⟨_, rfl⟩, q⟩
        exact fits_reps (decide_eq_false (Nat.not_lt.mpr h3))
end L2
namespace DL
open PySem L2
variable {S : Sg} {A A' A'' : List Addr} {G G' G'' H H' H'' : Hp} {μ μ' μ'' : Mu} {δ δ' : Env} {σ σ' : St}
/-- *: of ints, a text by an int, a list by an int -/
abbrev oMulA (own : Bool) : F2
  | .int i, .int j, μ, Q => CMulW i j ∧ Q (.int (i * j)) μ
  | .str a, .int n, μ, Q => -(2 ^ 63) ≤ n ∧ n < 2 ^ 63 ∧ a.length * n.toNat ≤ sizeLine ∧ Q (.str (repS a n)) μ
  | x, .int k, μ, Q => match seqOf μ x with
    | some ds => (-(2 ^ 63) ≤ k ∧ k < 2 ^ 63 ∧ ds.length * k.toNat ≤ sizeLine) ∧ (sel own (∀ n, μ n = none → Q (.loc n) (mset μ n (some (.lst (List.replicate k.toNat ds).flatten)))) (Q (.lst (List.replicate k.toNat ds).flatten) μ))
    | none => False
  | _, _, _, _ => False
abbrev rMulAll : R2 := fun x y H Q => ((rI CMulW fun i j => .int (i * j)) x y H Q ∨ (∃ a n, x = .str a ∧ y = .int n ∧ -(2 ^ 63) ≤ n ∧ n < 2 ^ 63 ∧ a.length * n.toNat ≤ sizeLine ∧ Q (.str (repS a n)) H)) ∨ rRep x y H Q
theorem op_mulAll {X : Cx} : OpR X (binaryOp .Mult) rMulAll := (op_mulW.or op_mul_str).or op_rep
theorem oMulA_ok {own : Bool} : DOp S (oMulA own) rMulAll := fun A G H μ x y v u QD Q R rx ry q k => by
  cases y with
  | int n =>
    rw [ry.i]
    have oth : (match seqOf μ x with
      | some ds => (-(2 ^ 63) ≤ n ∧ n < 2 ^ 63 ∧ ds.length * n.toNat ≤ sizeLine) ∧ (sel own (∀ m, μ m = none → QD (.loc m) (mset μ m (some (.lst (List.replicate n.toNat ds).flatten)))) (QD (.lst (List.replicate n.toNat ds).flatten) μ))
      | none => False) → rMulAll v (.int n) H Q := fun z => by
      split at z
      · rename_i ds e
        obtain ⟨p, vs, rfl, k1, k2, k3⟩ := seq_at R rx e
        have hz : (List.replicate n.toNat ds).flatten.length ≤ sizeLine := by
          rw [List.length_flatten, List.map_replicate, List.sum_replicate_nat, Nat.mul_comm]; exact z.1.2.2
        refine .inr ⟨p, n, vs, rfl, rfl, k1, z.1.1, z.1.2.1, by rw [← k3.len]; exact z.1.2.2, fun t ht => ?_⟩
        cases own with
        | true => exact Kont.own k R (k3.rep _) hz (by simpa [sel] using z.2) t ht
        | false => exact Kont.lst k R (k3.rep _) hz (by simpa [sel] using z.2) t ht
      · exact z.elim
    cases x with
    | int i => rw [rx.i]; exact .inl (.inl ⟨i, n, rfl, rfl, q.1, Kont.now k R (RV.int _) q.2⟩)
    | str a => rw [rx.s]; exact .inl (.inr ⟨a, n, rfl, rfl, q.1, q.2.1, q.2.2.1, Kont.now k R (RV.str _) q.2.2.2⟩)
    | _ => exact oth q
  | _ => cases x <;> exact q.elim
/-- flat values -/
abbrev fV : D → Option V
  | .non => some .non
  | .bl b => some (.bl b)
  | .int i => some (.int i)
  | .str x => some (.str x)
  | _ => none
abbrev fVs : List D → Option (List V)
  | [] => some []
  | d :: ds => match fV d, fVs ds with
    | some v, some vs => some (v :: vs)
    | _, _ => none
theorem RV.flat {d : D} {v w : V} (r : RV S A G d v) (h : fV d = some w) : v = w ∧ flatV w = true := by
  cases d <;> simp only [fV] at h <;> cases h
  · unfold RV at r; exact ⟨r, rfl⟩
  · exact ⟨r.b, rfl⟩
  · exact ⟨r.i, rfl⟩
  · exact ⟨r.s, rfl⟩
theorem RVs.flat : ∀ {ds : List D} {vs ws : List V}, RVs S A G ds vs → fVs ds = some ws → vs = ws ∧ ws.all flatV = true
  | [], vs, ws, r, h => by
    unfold RVs at r
    simp only [fVs] at h
    cases h
    exact ⟨r, rfl⟩
  | d :: ds, vs, ws, r, h => by
    unfold RVs at r
    obtain ⟨v, us, rfl, r1, r2⟩ := r
    simp only [fVs] at h
    split at h
    · rename_i x xs e1 e2
      cases h
      obtain ⟨a1, a2⟩ := RV.flat r1 e1
      obtain ⟨b1, b2⟩ := RVs.flat r2 e2
      rw [a1, b1, List.all_cons, a2, b2]
      exact ⟨rfl, rfl⟩
    · cases h
abbrev oIn (neg : Bool) : F2 := fun x y μ Q => match fV x, seqA μ y with
  | some v, some ds => (match fVs ds with
    | some vs => Q (.bl (sel neg (!inV v vs) (inV v vs))) μ
    | none => False)
  | _, _ => False
theorem oIn_ok {K : PySem.W.Frag} {neg : Bool} (hK : K = S.K) : DOp S (oIn neg) (rIn K neg) := fun A G H μ x y v u QD Q R rx ry q k => by
  unfold oIn at q
  split at q
  · rename_i w ds e1 e2
    split at q
    · rename_i vs e3
      obtain ⟨p, us, rfl, k1, k2, k3⟩ := any_at R ry e2
      obtain ⟨a1, a2⟩ := RV.flat rx e1
      obtain ⟨b1, b2⟩ := RVs.flat k3 e3
      subst a1 b1
      exact ⟨p, _, rfl, by rw [hK]; exact k1, a2, b2, by cases neg <;> exact Kont.now k R (RV.bl _) q⟩
    · exact q.elim
  · exact q.elim
section
variable {X : Cx} {W : WX} {a b c e : Expr} {es : List Expr} {pos : Pos} {ra rb rc : RE1} {rs : RA1}
theorem d_mulA (own : Bool) (ha : PD S X W a ra) (hb : PD S X W b rb) : PD S X W (.BinOp a .Mult b pos) (rOp (oMulA own) ra rb) := d_op op_mulAll oMulA_ok ha hb
theorem d_in (ha : PD S X W a ra) (hb : PD S X W b rb) (hK : X.K = S.K := by rfl) (hm : behindInMarks .In b = false := by rfl) : PD S X W (.Compare a [.In] [b] pos) (rOp (oIn false) ra rb) := d_cmp op_in_seq (oIn_ok hK) ha hb hm
theorem d_notin (ha : PD S X W a ra) (hb : PD S X W b rb) (hK : X.K = S.K := by rfl) (hm : behindInMarks .NotIn b = false := by rfl) : PD S X W (.Compare a [.NotIn] [b] pos) (rOp (oIn true) ra rb) := d_cmp op_notIn_seq (oIn_ok hK) ha hb hm
end
/-! ### try .. except C (without a name) -/
section
variable {X : Cx} {W : WX} {body suite : List Stmt} {b₀ : Stmt} {np pos pos' : Pos} {rb rh : RS1} {x : Str} {c : Value} {m : Str → Option Bool}
abbrev rTry (m : Str → Option Bool) (rb rh : RS1) : RS1 := fun K δ μ E => rb K δ μ fun c fs ds δ1 μ1 => match m c with
  | some true => rh K δ1 μ1 fun _ _ _ _ _ => False
  | some false => E c fs ds δ1 μ1
  | none => False
theorem ds_try (hs : X.stack = X.env :: X.outer) (hf : X.env.frame = some X.env.locals) (hc : Names X x c) (tk : Takes X W) (hm : ∀ y b, m y = some b → PySem.W.exmOne X.K (.ref (S.cls y)) c = some b)
    (hb : ∀ (W' : WX) (pn : List (Addr × Obj)) (xe : Value → Shared → Prop), Takes (X.tr pn xe) W' → PassesOwn (model X.prog X.w) X.A X.env xe → PDB S (X.tr pn xe) W' body rb)
    (hsu : ∀ (a : Addr) (pn : List (Addr × Obj)), PDB S (X.suite a pn) (fun _ _ _ _ => False) (b₀ :: suite) rh) :
    PDS S X W (.Try body [.ExceptHandler (some (.Name x np)) none (b₀ :: suite) pos'] [] [] pos) (rTry m rb rh) :=
  PS.of (ps_try_only hs hf hc tk (fun W' pn xe h1 h2 => hb W' pn xe h1 h2) (fun a oe cls d pn _ _ => hsu a _)) fun D σ H h => by
    obtain ⟨A, G, δ, μ, K, ED, R, E, q, hx, k⟩ := h
    refine ⟨A, G, δ, μ, K, _, R, E, q, fun y fs ds δ' μ' σ' dx A' G' H' F R' E' rx z => ?_, k⟩
    dsimp only at z
    split at z
    · rename_i e
      exact ⟨true, hm y _ e, fun _ _ _ => ⟨A', G', δ', μ', K, _, R', E', z, fun _ _ _ _ _ _ _ _ _ _ _ _ _ _ z => z.elim, k.aft F⟩, fun z => by cases z⟩
    · rename_i e
      exact ⟨false, hm y _ e, (fun z => by cases z), fun _ => hx y fs ds δ' μ' σ' dx A' G' H' F R' E' rx z⟩
    · exact z.elim
end
end DL
namespace DL
open PySem L2
variable {S : Sg} {A A' A'' : List Addr} {G G' G'' H H' H'' : Hp} {μ μ' μ'' : Mu} {δ δ' : Env} {σ σ' : St}
section
variable {X : Cx} {W : WX} {a b c e : Expr} {es : List Expr} {pos : Pos} {ra rb rc : RE1} {rs : RA1}
theorem dt_lt (ha : PD S X W a ra) (hb : PD S X W b rb) : PDT S X W (.Compare a [.Lt] [b] pos) (rTst (rOp (oC fun i j => decide (i < j)) ra rb)) := dt_cmp op_lt oC_ok ha hb (nomark _)
theorem dt_le (ha : PD S X W a ra) (hb : PD S X W b rb) : PDT S X W (.Compare a [.LtE] [b] pos) (rTst (rOp (oC fun i j => decide (i ≤ j)) ra rb)) := dt_cmp op_le oC_ok ha hb (nomark _)
theorem dt_gt (ha : PD S X W a ra) (hb : PD S X W b rb) : PDT S X W (.Compare a [.Gt] [b] pos) (rTst (rOp (oC fun i j => decide (j < i)) ra rb)) := dt_cmp op_gt oC_ok ha hb (nomark _)
theorem dt_ge (ha : PD S X W a ra) (hb : PD S X W b rb) : PDT S X W (.Compare a [.GtE] [b] pos) (rTst (rOp (oC fun i j => decide (j ≤ i)) ra rb)) := dt_cmp op_ge oC_ok ha hb (nomark _)
theorem dt_is (ha : PD S X W a ra) (hb : PD S X W b rb) : PDT S X W (.Compare a [.Is] [b] pos) (rTst (rOp (oIsN false) ra rb)) := dt_cmp op_isN oIsN_ok ha hb (nomark _)
theorem dt_isnot (ha : PD S X W a ra) (hb : PD S X W b rb) : PDT S X W (.Compare a [.IsNot] [b] pos) (rTst (rOp (oIsN true) ra rb)) := dt_cmp op_notN oIsNN_ok ha hb (nomark _)
theorem dt_eq (hu : X.A.units + 64 < cLine) (ha : PD S X W a ra) (hb : PD S X W b rb) (hK : X.K = S.K := by rfl) : PDT S X W (.Compare a [.Eq] [b] pos) (rTst (rOp (oEq false) ra rb)) := dt_cmp (op_eq.or (op_eqD hu)) (oEq_ok hK) ha hb (nomark _)
theorem dt_ne (hu : X.A.units + 64 < cLine) (ha : PD S X W a ra) (hb : PD S X W b rb) (hK : X.K = S.K := by rfl) : PDT S X W (.Compare a [.NotEq] [b] pos) (rTst (rOp (oEq true) ra rb)) := dt_cmp (op_ne.or (op_neD hu)) (oNe_ok hK) ha hb (nomark _)
theorem dt_in (ha : PD S X W a ra) (hb : PD S X W b rb) (hK : X.K = S.K := by rfl) (hm : behindInMarks .In b = false := by rfl) : PDT S X W (.Compare a [.In] [b] pos) (rTst (rOp (oIn false) ra rb)) := dt_cmp op_in_seq (oIn_ok hK) ha hb hm
theorem dt_notin (ha : PD S X W a ra) (hb : PD S X W b rb) (hK : X.K = S.K := by rfl) (hm : behindInMarks .NotIn b = false := by rfl) : PDT S X W (.Compare a [.NotIn] [b] pos) (rTst (rOp (oIn true) ra rb)) := dt_cmp op_notIn_seq (oIn_ok hK) ha hb hm
theorem dt_insign (ha : PD S X W a ra) (hb : PD S X W b rb) (hm : behindInMarks .In b = false := by rfl) : PDT S X W (.Compare a [.In] [b] pos) (rTst (rOp (oInS false) ra rb)) := dt_cmp op_in_sign oInS_ok ha hb hm
theorem tChn.of {f g : F2} {r r' : R2} (hf : DOp S f r) (hg : DOp S g r') : ∀ σ H Q, tO S W (rChn f g ra rb rc) σ H Q → tChain r r' (tO S W ra) (tO S W rb) (tO S W rc) σ H Q := fun σ H Q h => by
  obtain ⟨A, G, δ, μ, QD, ED, R, E, q, hx, k⟩ := h
  refine tO.step R E q hx fun v H1 A1 G1 d μ1 F1 R1 r1 q1 => ?_
  refine tO.step R1 (E.aft F1) q1 (hx.aft F1) fun u H2 A2 G2 y μ2 F2 R2 r2 q2 => ?_
  refine hf A2 G2 H2 μ2 d y v u _ _ R2 (r1.aft F2) r2 q2 fun z H3 A3 G3 w μ3 F3 R3 r3 q3 => ?_
  cases w <;> simp only at q3 <;> try exact q3.elim
  rename_i kk
  refine ⟨kk, r3.b, ?_⟩
  cases kk with
  | false => rw [if_neg (by decide)]; simp only [sel] at q3; exact k _ _ A3 G3 _ μ3 ((F1.trans F2).trans F3) R3 (RV.bl _) q3
  | true =>
    rw [if_pos rfl]; simp only [sel] at q3
    refine tO.step R3 (((E.aft F1).aft F2).aft F3) q3 (((hx.aft F1).aft F2).aft F3) fun t H4 A4 G4 t' μ4 F4 R4 r4 q4 => ?_
    exact hg A4 G4 H4 μ4 y t' u t QD Q R4 ((r2.aft F3).aft F4) r4 q4 (Kont.aft F4 (Kont.aft F3 (Kont.aft F2 (Kont.aft F1 k))))
theorem dt_chn {op op' : CmpOp} {f g : F2} {r r' : R2} (ho : OpR X (compareOp op) r) (ho' : OpR X (compareOp op') r') (hf : DOp S f r) (hg : DOp S g r') (ha : PD S X W a ra) (hb : PD S X W b rb) (hc : PD S X W c rc)
    (hm : lastMarks [op, op'] [b, c] = false := by with_unfolding_all rfl) : PDT S X W (.Compare a [op, op'] [b, c] pos) (rTst (rChn f g ra rb rc)) :=
  PT.of (pt_chain ho ho' ha hb hc hm) (tB.of (tChn.of hf hg))
/-! ### op= -/
abbrev rAug (i : Nat) (f : F2) (ra : RE1) : RS1 := fun K δ μ E => match gt δ i with
  | some x => ra δ μ (fun y μ1 => f x y μ1 fun z μ2 => K.nx (sv δ i z) μ2) E
  | none => False
theorem pip_of {op : Operator} {r : R2} (h : OpR X (inplaceOp op) r) : PIp X op r := h
theorem ds_aug {i : Nat} {x : Str} {pos' : Pos} {op : Operator} {f : F2} {r : R2} (hN : X.N.Nodup) (hi : X.N[i]? = some x) (ho : OpR X (inplaceOp op) r) (hf : DOp S f r) (ha : PD S X W a ra)
    (hx : Loc X.env.scope x := by first | exact .inl rfl | exact .inr rfl) (hfn : X.fn x = true ∨ X.env.scope.names.lookup x = some .local := by first | exact .inl rfl | exact .inr rfl | assumption) : PDS S X W (.AugAssign (.Name x pos') op a pos) (rAug i f ra) :=
  PS.of (ps_aug hN hi hx ha (pip_of ho) hfn) fun D σ H h => by
    obtain ⟨A, G, δ, μ, K, ED, R, E, q, hx, k⟩ := h
    unfold rAug at q
    split at q
    case h_2 => exact q.elim
    rename_i d e1
    obtain ⟨v, h1, h2⟩ := E.2 i _ (gt_some e1)
    refine ⟨v, h1, ?_⟩
    refine tO.step R E q hx fun u H1 A1 G1 y μ1 F1 R1 r1 q1 => ?_
    exact hf A1 G1 H1 μ1 d y v u _ _ R1 (h2.aft F1) r1 q1 fun w H2 A2 G2 z μ2 F2 R2 rz qz => k.nx _ H2 A2 G2 _ μ2 (F1.trans F2) R2 (((E.aft F1).aft F2).sv rz) qz
end
/-! ### a def with defaults, by its name -/
structure OkFnD (P : Program) (w : World) (S : Sg) (mg : Str → Option Value) (base : Heap) (x : Str) (lvl : Nat) (ps : List Str) (dfl : List D) (sp : SpecD) : Prop where
  ex : ∃ f fd dvs ds, mg x = some (.ref f) ∧ PySem.W.keepIn S.K (.ref f) = true ∧ Binds S.K fd ps ds ∧ Vals dvs ds ∧ (∀ A G, RVs S A G dfl dvs) ∧ FnOk P w S.K mg base (L2.CX P w) lvl f fd ps (toSp S sp)
section
variable {X : Cx} {W : WX} {e : Expr} {es : List Expr} {pos p : Pos} {rs : RA1} {k : Nat} {ps : List Str} {sp : SpecD} {x : Str} {dfl : List D}
theorem d_callD (F : OkFnD X.prog X.w S X.mg X.base x k ps dfl sp) (hr : Room k X.A) (hg : Gl X x) (tk : Takes X W)
    (ha : PDA S X W (e :: es) rs) (hK : X.K = S.K := by rfl) (hdb : (x == ("__debug__" : Str)) = false := by decide) (he : starEach (e :: es) X.env = (false, eval e X.env) :: starEach es X.env := by rfl) (hpl : (backTo pos (starEach es X.env)).any (·.1) = false := by rfl) :
    PD S X W (.Call (.Name x p) (e :: es) [] pos) (rCall sp dfl rs) := by
  obtain ⟨f, fd, dvs, ds, h1, h2, h3, h5, h6, h4⟩ := F.ex
  exact d_call (by rw [hK]; exact h4) hr hg h1 (by rw [hK]; exact h2) (by rw [hK]; exact h3) h5 h6 tk ha hdb he hpl
end
section
variable {P : Program} {w : World} {mg : Str → Option Value} {base : Heap} {x qual : Str} {params : Arguments} {body : List Stmt} {scope : Scope} {dvs : List V} {kws : List (Str × V)} {f : Addr} {fd : FuncData}
theorem passes_cx {K : PySem.W.Frag} {N : List Str} {cdv : Value} {A : Around} {outer : List PySem.Env} {s : Shared} {H : Hp} {E : XK} : PassesOwn (model P w) (cxOf (L2.CX P w) P w K mg base N qual scope f cdv A outer s H E).A (cxOf (L2.CX P w) P w K mg base N qual scope f cdv A outer s H E).env (cxOf (L2.CX P w) P w K mg base N qual scope f cdv A outer s H E).xe := passes_of rfl
end
end DL
namespace DL
open PySem L2
variable {μ : Mu}
/-! ### looking at known data -/
theorem seqOf_loc {n : Nat} {ds : List D} (h : μ n = some (.lst ds)) : seqOf μ (.loc n) = some ds := by simp only [seqOf, h]
theorem seqOf_mset {n : Nat} {ds : List D} : seqOf (mset μ n (some (.lst ds))) (.loc n) = some ds := seqOf_loc (mset_same ..)
theorem seqA_loc {n : Nat} {ds : List D} (h : μ n = some (.lst ds)) : seqA μ (.loc n) = some ds := seqOf_loc h
theorem seqA_mset {n : Nat} {ds : List D} : seqA (mset μ n (some (.lst ds))) (.loc n) = some ds := seqOf_loc (mset_same ..)
theorem seqOf_lst {ds : List D} : seqOf μ (.lst ds) = some ds := rfl
theorem seqA_lst {ds : List D} : seqA μ (.lst ds) = some ds := rfl
theorem seqA_tup {ds : List D} : seqA μ (.tup ds) = some ds := rfl
theorem seqA_kst {ds : List D} : seqA μ (.kst ds) = some ds := rfl
theorem atI_nn {α : Type} {xs : List α} {i : Int} (h : 0 ≤ i) : atI xs i = xs[i.toNat]? := by
  unfold atI
  cases e : ixN xs.length i with
  | none =>
    unfold ixN at e
    rw [if_pos h] at e
    split at e
    · cases e
    · rw [List.getElem?_eq_none (by omega)]; rfl
  | some j =>
    unfold ixN at e
    rw [if_pos h] at e
    split at e
    · cases e; rfl
    · cases e
theorem atI_0 {α : Type} {a0 : α} {ds : List α} : atI (a0 :: ds) 0 = some a0 := by rw [atI_nn (by decide)]; rfl
theorem putI_0 {d a0 : D} {ds : List D} : putI (a0 :: ds) 0 d = some (d :: ds) := by unfold putI ixN; rw [if_pos (by decide), if_pos (by simp only [List.length_cons]; omega)]; rfl
theorem atI_1 {α : Type} {a0 a1 : α} {ds : List α} : atI (a0 :: a1 :: ds) 1 = some a1 := by rw [atI_nn (by decide)]; rfl
theorem putI_1 {d a0 a1 : D} {ds : List D} : putI (a0 :: a1 :: ds) 1 d = some (a0 :: d :: ds) := by unfold putI ixN; rw [if_pos (by decide), if_pos (by simp only [List.length_cons]; omega)]; rfl
theorem atI_2 {α : Type} {a0 a1 a2 : α} {ds : List α} : atI (a0 :: a1 :: a2 :: ds) 2 = some a2 := by rw [atI_nn (by decide)]; rfl
theorem putI_2 {d a0 a1 a2 : D} {ds : List D} : putI (a0 :: a1 :: a2 :: ds) 2 d = some (a0 :: a1 :: d :: ds) := by unfold putI ixN; rw [if_pos (by decide), if_pos (by simp only [List.length_cons]; omega)]; rfl
theorem atI_3 {α : Type} {a0 a1 a2 a3 : α} {ds : List α} : atI (a0 :: a1 :: a2 :: a3 :: ds) 3 = some a3 := by rw [atI_nn (by decide)]; rfl
theorem putI_3 {d a0 a1 a2 a3 : D} {ds : List D} : putI (a0 :: a1 :: a2 :: a3 :: ds) 3 d = some (a0 :: a1 :: a2 :: d :: ds) := by unfold putI ixN; rw [if_pos (by decide), if_pos (by simp only [List.length_cons]; omega)]; rfl
theorem atI_4 {α : Type} {a0 a1 a2 a3 a4 : α} {ds : List α} : atI (a0 :: a1 :: a2 :: a3 :: a4 :: ds) 4 = some a4 := by rw [atI_nn (by decide)]; rfl
theorem putI_4 {d a0 a1 a2 a3 a4 : D} {ds : List D} : putI (a0 :: a1 :: a2 :: a3 :: a4 :: ds) 4 d = some (a0 :: a1 :: a2 :: a3 :: d :: ds) := by unfold putI ixN; rw [if_pos (by decide), if_pos (by simp only [List.length_cons]; omega)]; rfl
theorem atI_5 {α : Type} {a0 a1 a2 a3 a4 a5 : α} {ds : List α} : atI (a0 :: a1 :: a2 :: a3 :: a4 :: a5 :: ds) 5 = some a5 := by rw [atI_nn (by decide)]; rfl
theorem putI_5 {d a0 a1 a2 a3 a4 a5 : D} {ds : List D} : putI (a0 :: a1 :: a2 :: a3 :: a4 :: a5 :: ds) 5 d = some (a0 :: a1 :: a2 :: a3 :: a4 :: d :: ds) := by unfold putI ixN; rw [if_pos (by decide), if_pos (by simp only [List.length_cons]; omega)]; rfl
theorem atI_6 {α : Type} {a0 a1 a2 a3 a4 a5 a6 : α} {ds : List α} : atI (a0 :: a1 :: a2 :: a3 :: a4 :: a5 :: a6 :: ds) 6 = some a6 := by rw [atI_nn (by decide)]; rfl
theorem putI_6 {d a0 a1 a2 a3 a4 a5 a6 : D} {ds : List D} : putI (a0 :: a1 :: a2 :: a3 :: a4 :: a5 :: a6 :: ds) 6 d = some (a0 :: a1 :: a2 :: a3 :: a4 :: a5 :: d :: ds) := by unfold putI ixN; rw [if_pos (by decide), if_pos (by simp only [List.length_cons]; omega)]; rfl
theorem atI_7 {α : Type} {a0 a1 a2 a3 a4 a5 a6 a7 : α} {ds : List α} : atI (a0 :: a1 :: a2 :: a3 :: a4 :: a5 :: a6 :: a7 :: ds) 7 = some a7 := by rw [atI_nn (by decide)]; rfl
theorem putI_7 {d a0 a1 a2 a3 a4 a5 a6 a7 : D} {ds : List D} : putI (a0 :: a1 :: a2 :: a3 :: a4 :: a5 :: a6 :: a7 :: ds) 7 d = some (a0 :: a1 :: a2 :: a3 :: a4 :: a5 :: a6 :: d :: ds) := by unfold putI ixN; rw [if_pos (by decide), if_pos (by simp only [List.length_cons]; omega)]; rfl
theorem atI_8 {α : Type} {a0 a1 a2 a3 a4 a5 a6 a7 a8 : α} {ds : List α} : atI (a0 :: a1 :: a2 :: a3 :: a4 :: a5 :: a6 :: a7 :: a8 :: ds) 8 = some a8 := by rw [atI_nn (by decide)]; rfl
theorem putI_8 {d a0 a1 a2 a3 a4 a5 a6 a7 a8 : D} {ds : List D} : putI (a0 :: a1 :: a2 :: a3 :: a4 :: a5 :: a6 :: a7 :: a8 :: ds) 8 d = some (a0 :: a1 :: a2 :: a3 :: a4 :: a5 :: a6 :: a7 :: d :: ds) := by unfold putI ixN; rw [if_pos (by decide), if_pos (by simp only [List.length_cons]; omega)]; rfl
theorem atI_9 {α : Type} {a0 a1 a2 a3 a4 a5 a6 a7 a8 a9 : α} {ds : List α} : atI (a0 :: a1 :: a2 :: a3 :: a4 :: a5 :: a6 :: a7 :: a8 :: a9 :: ds) 9 = some a9 := by rw [atI_nn (by decide)]; rfl
theorem putI_9 {d a0 a1 a2 a3 a4 a5 a6 a7 a8 a9 : D} {ds : List D} : putI (a0 :: a1 :: a2 :: a3 :: a4 :: a5 :: a6 :: a7 :: a8 :: a9 :: ds) 9 d = some (a0 :: a1 :: a2 :: a3 :: a4 :: a5 :: a6 :: a7 :: a8 :: d :: ds) := by unfold putI ixN; rw [if_pos (by decide), if_pos (by simp only [List.length_cons]; omega)]; rfl
theorem atI_10 {α : Type} {a0 a1 a2 a3 a4 a5 a6 a7 a8 a9 a10 : α} {ds : List α} : atI (a0 :: a1 :: a2 :: a3 :: a4 :: a5 :: a6 :: a7 :: a8 :: a9 :: a10 :: ds) 10 = some a10 := by rw [atI_nn (by decide)]; rfl
theorem putI_10 {d a0 a1 a2 a3 a4 a5 a6 a7 a8 a9 a10 : D} {ds : List D} : putI (a0 :: a1 :: a2 :: a3 :: a4 :: a5 :: a6 :: a7 :: a8 :: a9 :: a10 :: ds) 10 d = some (a0 :: a1 :: a2 :: a3 :: a4 :: a5 :: a6 :: a7 :: a8 :: a9 :: d :: ds) := by unfold putI ixN; rw [if_pos (by decide), if_pos (by simp only [List.length_cons]; omega)]; rfl
theorem atI_11 {α : Type} {a0 a1 a2 a3 a4 a5 a6 a7 a8 a9 a10 a11 : α} {ds : List α} : atI (a0 :: a1 :: a2 :: a3 :: a4 :: a5 :: a6 :: a7 :: a8 :: a9 :: a10 :: a11 :: ds) 11 = some a11 := by rw [atI_nn (by decide)]; rfl
theorem putI_11 {d a0 a1 a2 a3 a4 a5 a6 a7 a8 a9 a10 a11 : D} {ds : List D} : putI (a0 :: a1 :: a2 :: a3 :: a4 :: a5 :: a6 :: a7 :: a8 :: a9 :: a10 :: a11 :: ds) 11 d = some (a0 :: a1 :: a2 :: a3 :: a4 :: a5 :: a6 :: a7 :: a8 :: a9 :: a10 :: d :: ds) := by unfold putI ixN; rw [if_pos (by decide), if_pos (by simp only [List.length_cons]; omega)]; rfl
end DL
namespace TX
open PySem PySem.Spec PyProof.Rows L2 TL NumText
/-! ### numbers as texts -/
/-- an int, written -/
abbrev numS (n : Int) : Str := Str.ofString (toString n)
def intL (n : Int) : List Nat := if n < 0 then 45 :: numL n.natAbs else numL n.natAbs
theorem tl_int (n : Int) : tl (numS n) = intL n := by
  cases n with
  | ofNat m =>
    unfold intL
    rw [if_neg (by simp)]
    exact tl_num m
  | negSucc m =>
    unfold intL
    rw [if_pos (by omega)]
    have e : tl (Str.ofString (toString ((m + 1 : Nat) : Int))) = numL (m + 1) := tl_num (m + 1)
    rw [tl_ofString] at e ⊢
    have t : toString (Int.negSucc m) = "-" ++ toString ((m + 1 : Nat) : Int) := rfl
    rw [t, String.toList_append, List.map_append, e]
    rfl
theorem digVal_snoc (l : List Nat) (c : Nat) : digitsVal (l ++ [c]) = digitsVal l * 10 + (c - 48) := by
  unfold digitsVal
  rw [List.foldl_append]
  rfl
theorem numL_zero : numL 0 = [48] := numL_lt (by decide)
theorem numL_of : ∀ (k : Nat) (ds : List Nat), ds.length = k → AllDigits ds → ds ≠ [] → ds.head? ≠ some 48 → numL (digitsVal ds) = ds
  | 0, ds, hk, _, hne, _ => absurd (List.length_eq_zero_iff.mp hk) hne
  | k + 1, ds, hk, hd, hne, hh => by
    obtain ⟨l, c, rfl⟩ : ∃ l c, ds = l ++ [c] := ⟨ds.dropLast, ds.getLast hne, (List.dropLast_concat_getLast hne).symm⟩
    have hc := hd c (by simp)
    rw [digVal_snoc]
    cases l with
    | nil =>
      show numL (0 * 10 + (c - 48)) = [c]
      rw [numL_lt (by omega)]
      congr 1
      omega
    | cons a l =>
      have ih := numL_of k (a :: l) (by simpa using hk) (fun x hx => hd x (List.mem_append_left _ hx)) (by simp) (by simpa using hh)
      have hv : digitsVal (a :: l) ≠ 0 := fun z => by
        rw [z, numL_zero] at ih
        cases ih
        simp at hh
      rw [numL_step (by omega)]
      have e1 : (digitsVal (a :: l) * 10 + (c - 48)) / 10 = digitsVal (a :: l) := by omega
      have e2 : 48 + (digitsVal (a :: l) * 10 + (c - 48)) % 10 = c := by omega
      rw [e1, e2, ih]
theorem numL_head {n : Nat} (h : (numL n).head? = some 48) : n = 0 := by
  have key : ∀ (k n : Nat), n < k → n ≠ 0 → (numL n).head? ≠ some 48 := fun k => by
    induction k with
    | zero => intro n h; omega
    | succ k ih =>
      intro n h hn
      by_cases h10 : n < 10
      · rw [numL_lt h10]
        simp
        omega
      · rw [numL_step (by omega)]
        have := ih (n / 10) (by omega) (by omega)
        cases e : numL (n / 10) with
        | nil => exact absurd e (numL_ne _)
        | cons a l => rw [e] at this; simpa using this
  by_cases hn : n = 0
  · exact hn
  · exact absurd h (key (n + 1) n (by omega) hn)
/-- the figures of a text: without its sign -/
def figL : List Nat → List Nat
  | 45 :: cs => cs
  | cs => cs
theorem figL_ne {cs : List Nat} (h : cs.head? ≠ some 45) : figL cs = cs := by
  unfold figL
  split
  · simp at h
  · rfl
/-- a text that a plain number is written by -/
def PlainL (cs : List Nat) : Prop := figL cs ≠ [] ∧ AllDigits (figL cs) ∧ (cs = [48] ∨ (figL cs).head? ≠ some 48)
theorem numL_head45 (n : Nat) : (numL n).head? ≠ some 45 := fun h => by
  have := numL_digits n 45 (by
    cases e : numL n with
    | nil => rw [e] at h; cases h
    | cons a l => rw [e] at h; simp at h; simp [h])
  omega
theorem plain_int (n : Int) : PlainL (intL n) := by
  unfold intL
  by_cases h : n < 0
  · rw [if_pos h]
    refine ⟨numL_ne _, numL_digits _, .inr fun z => ?_⟩
    have := numL_head z
    omega
  · rw [if_neg h]
    unfold PlainL
    rw [figL_ne (numL_head45 _)]
    refine ⟨numL_ne _, numL_digits _, ?_⟩
    by_cases h0 : n = 0
    · subst h0; exact .inl numL_zero
    · refine .inr fun z => ?_
      have := numL_head z
      omega
theorem plain_is {cs : List Nat} (h : PlainL cs) : ∃ n, cs = intL n := by
  obtain ⟨h1, h2, h3⟩ := h
  by_cases hm : cs.head? = some 45
  · obtain ⟨r, rfl⟩ : ∃ r, cs = 45 :: r := by
      cases cs with
      | nil => cases hm
      | cons a l => simp at hm; exact ⟨l, by rw [hm]⟩
    have h3' : r.head? ≠ some 48 := by
      rcases h3 with z | z
      · cases z
      · exact z
    have e := numL_of _ r rfl h2 h1 h3'
    have hv : digitsVal r ≠ 0 := fun z => by
      rw [z, numL_zero] at e
      rw [← e] at h3'
      simp at h3'
    refine ⟨-(digitsVal r : Int), ?_⟩
    unfold intL
    rw [if_pos (by omega), Int.natAbs_neg, Int.natAbs_natCast, e]
  · rw [figL_ne hm] at h1 h2 h3
    rcases h3 with z | z
    · exact ⟨0, by rw [z]; exact numL_zero.symm⟩
    · refine ⟨(digitsVal cs : Int), ?_⟩
      unfold intL
      rw [if_neg (by omega), Int.natAbs_natCast, numL_of _ cs rfl h2 h1 z]
theorem intL_inj {m n : Int} (h : intL m = intL n) : m = n := by
  unfold intL at h
  by_cases hm : m < 0 <;> by_cases hn : n < 0
  · rw [if_pos hm, if_pos hn] at h
    have := numL_inj (List.cons.inj h).2
    omega
  · rw [if_pos hm, if_neg hn] at h
    exact absurd (by rw [← h]; rfl) (numL_head45 n.natAbs)
  · rw [if_neg hm, if_pos hn] at h
    exact absurd (by rw [h]; rfl) (numL_head45 m.natAbs)
  · rw [if_neg hm, if_neg hn] at h
    have := numL_inj h
    omega
theorem numS_inj {m n : Int} (h : numS m = numS n) : m = n := intL_inj (by rw [← tl_int, ← tl_int, h])
theorem numS_iff {x : Str} : (∃ n, x = numS n) ↔ PlainL (tl x) :=
  ⟨fun ⟨n, e⟩ => by rw [e, tl_int]; exact plain_int n, fun h => by
    obtain ⟨n, e⟩ := plain_is h
    exact ⟨n, ext_tl (by rw [e, tl_int])⟩⟩
theorem intText_num {n : Int} (h : (numS n).length ≤ 4300) : intText? (numS n) = some n := by
  have e := tl_int n
  unfold intL at e
  by_cases hn : n < 0
  · rw [if_pos hn] at e
    rw [intText_neg e (numL_digits _) (numL_ne _) h, numL_val]
    congr 1
    omega
  · rw [if_neg hn] at e
    rw [intText_digits (by rw [show (numS n).cps.toList = _ from e]; exact numL_digits _) (by rw [show (numS n).cps.toList = _ from e]; exact numL_ne _) h, show (numS n).cps.toList = _ from e, numL_val]
    congr 1
    omega
theorem intL_free {n : Int} {s : Nat} (h : s < 48 ∨ 57 < s) (h5 : s ≠ 45) : s ∉ intL n := by
  unfold intL
  split
  · simp [h5, numL_free h]
  · exact numL_free h
theorem intL_len {n : Int} {k : Nat} (hk : 0 < k) (h : n.natAbs < 10 ^ k) : (intL n).length ≤ k + 1 := by
  have := numL_len hk h
  unfold intL
  split
  · simp; exact this
  · omega
theorem intL_len0 {n : Int} {k : Nat} (hk : 0 < k) (h0 : 0 ≤ n) (h : n.natAbs < 10 ^ k) : (intL n).length ≤ k := by
  have := numL_len hk h
  unfold intL
  rw [if_neg (by omega)]
  exact this
theorem numS_len (n : Int) : (numS n).length = (intL n).length := by rw [len_tl, tl_int]
end TX
namespace DL
open PySem L2
/-! ### comprehensions and loops, by the item -/
theorem mapL_map {still : Mu → Prop} {g : Tg} {te : RE1} {δ : Env} {μ : Mu} {f : D → D} : ∀ {ds : List D} {Q : List D → Mu → Prop}, (∀ d ∈ ds, ∀ K : D → Mu → Prop, K (f d) μ → g.d d δ fun δ1 => te δ1 μ K E00) → still μ → Q (ds.map f) μ → mapL still g rYes te δ ds μ Q
  | [], Q, _, hs, hq => ⟨hs, hq⟩
  | d :: ds, Q, h, hs, hq => ⟨hs, h d List.mem_cons_self _ (mapL_map (fun d hd => h d (List.mem_cons_of_mem _ hd)) hs hq)⟩
theorem mapL_filter {still : Mu → Prop} {g : Tg} {tt : RT1} {te : RE1} {δ : Env} {μ : Mu} {f : D → D} {p : D → Bool} : ∀ {ds : List D} {Q : List D → Mu → Prop},
    (∀ d ∈ ds, ∀ (K : D → Mu → Prop) (K' : Mu → Prop), (p d = true → K (f d) μ) → (p d = false → K' μ) → g.d d δ fun δ1 => tt δ1 μ (fun b μ2 => sel b (te δ1 μ2 K E00) (K' μ2)) E00) → still μ → Q ((ds.filter p).map f) μ → mapL still g tt te δ ds μ Q
  | [], Q, _, hs, hq => ⟨hs, hq⟩
  | d :: ds, Q, h, hs, hq => ⟨hs, h d List.mem_cons_self _ _
      (fun e => mapL_filter (f := f) (p := p) (Q := fun ys μ4 => Q (f d :: ys) μ4) (fun d hd => h d (List.mem_cons_of_mem _ hd)) hs (by rw [List.filter_cons_of_pos e] at hq; exact hq))
      (fun e => mapL_filter (f := f) (p := p) (fun d hd => h d (List.mem_cons_of_mem _ hd)) hs (by rw [List.filter_cons_of_neg (by rw [e]; decide)] at hq; exact hq))⟩
theorem forL_inv {still : Mu → Prop} {g : G1} {r : RS1} {K : EndsD} {E : DX} (I : List D → Env → Mu → Prop) : ∀ {ds : List D},
    (∀ d rest δ μ (N : Env → Mu → Prop), (∃ pre, ds = pre ++ d :: rest) → (∀ δ μ, I rest δ μ → N δ μ) → I (d :: rest) δ μ → still μ ∧ g d δ μ (fun δ1 μ1 => r { K with nx := N, ct := N, bk := K.nx } δ1 μ1 E) E) →
    (∀ δ μ, I [] δ μ → still μ ∧ K.nx δ μ) → ∀ {δ μ}, I ds δ μ → forL still g r K E ds δ μ
  | [], _, h2, δ, μ, hi => h2 δ μ hi
  | d :: ds, h1, h2, δ, μ, hi => h1 d ds δ μ _ ⟨[], rfl⟩ (fun δ μ z => forL_inv I (fun d rest δ μ N ⟨pre, e⟩ => h1 d rest δ μ N ⟨_ :: pre, by rw [e]; rfl⟩) h2 z) hi
end DL
namespace TX
open PySem PySem.Spec PyProof.Rows L2 TL NumText
/-! ### pieces at a sign -/
theorem join_one (y p : Str) : Str.join y [p] = p := ext_tl (by rw [tl_join]; rfl)
theorem join_two (y p q : Str) : Str.join y [p, q] = p ++ y ++ q := ext_tl (by rw [tl_join, tl_append, tl_append]; simp [joinL])
theorem split_one {y p : Str} {s : Nat} (ey : tl y = [s]) (hk : y.cps.all (· < 256) = true) (h : s ∉ tl p) : Txt.split p y = [p] := by
  have := split_join (S := []) ey hk (parts := [p]) (by simp) (by simpa using h)
  rwa [join_eq, join_one] at this
theorem split_two {y p q : Str} {s : Nat} (ey : tl y = [s]) (hk : y.cps.all (· < 256) = true) (h : s ∉ tl p) (h2 : s ∉ tl q) : Txt.split (p ++ y ++ q) y = [p, q] := by
  have := split_join (S := []) ey hk (parts := [p, q]) (by simp) (fun z hz => by
    rcases List.mem_cons.mp hz with e | hz
    · rw [e]; exact h
    · rw [List.mem_singleton.mp hz]; exact h2)
  rwa [join_eq, join_two] at this
/-- text[1:] if text[:1] == '-' else text -/
theorem tl_cut (z : Str) (lo hi : Option Int) : tl (cutS z lo hi) = ((tl z).drop (HT.sIx z.length 0 lo)).take (HT.sIx z.length z.length hi - HT.sIx z.length 0 lo) := rfl
theorem tl_cut_to (z : Str) (k : Nat) : tl (cutS z none (some (k : Int))) = (tl z).take k := by
  rw [tl_cut]
  have e : HT.sIx z.length z.length (some (k : Int)) = min k z.length := HT.sIx_nat _ _ _
  rw [e]
  show ((tl z).drop 0).take (min k z.length - 0) = _
  rw [List.drop_zero, Nat.sub_zero, len_tl, ← List.take_eq_take_min]
theorem tl_cut_from (z : Str) (k : Nat) : tl (cutS z (some (k : Int)) none) = (tl z).drop k := by
  rw [tl_cut]
  have e : HT.sIx z.length 0 (some (k : Int)) = min k z.length := HT.sIx_nat _ _ _
  rw [e]
  show ((tl z).drop (min k z.length)).take (z.length - min k z.length) = _
  rw [List.take_of_length_le (by rw [List.length_drop, ← len_tl]; omega)]
  by_cases h : k ≤ z.length
  · rw [Nat.min_eq_left h]
  · rw [Nat.min_eq_right (by omega), List.drop_eq_nil_of_le (by rw [← len_tl]; omega), List.drop_eq_nil_of_le (by rw [← len_tl]; omega)]
theorem tl_minus : tl ("-" : Str) = [45] := by decide +kernel
theorem fig_yes {x : Str} (h : cutS x none (some 1) = "-") : tl (cutS x (some 1) none) = figL (tl x) := by
  have e := tl_cut_to x 1
  rw [show ((1 : Nat) : Int) = (1 : Int) from rfl, h, tl_minus] at e
  rw [show (1 : Int) = ((1 : Nat) : Int) from rfl, tl_cut_from]
  cases hx : tl x with
  | nil => rw [hx] at e; cases e
  | cons a l => rw [hx] at e; cases e; rfl
theorem fig_no {x : Str} (h : ¬ cutS x none (some 1) = "-") : tl x = figL (tl x) := by
  refine (figL_ne fun z => h (ext_tl ?_)).symm
  have e := tl_cut_to x 1
  rw [show ((1 : Nat) : Int) = (1 : Int) from rfl] at e
  rw [e, tl_minus]
  cases hx : tl x with
  | nil => rw [hx] at z; cases z
  | cons a l => rw [hx] at z; cases z; rfl
theorem tl_figures : tl ("0123456789" : Str) = [48, 49, 50, 51, 52, 53, 54, 55, 56, 57] := by decide +kernel
theorem is_figure {c : Nat} : (c ∈ tl ("0123456789" : Str)) ↔ 48 ≤ c ∧ c ≤ 57 := by
  rw [tl_figures]
  simp
  omega
theorem all_figures {F : Str} : (((tl F).map fun c => decide (c ∈ tl ("0123456789" : Str))).all id = true) ↔ AllDigits (tl F) := by
  rw [List.all_map, List.all_eq_true]
  unfold AllDigits
  constructor
  · intro h c hc
    exact is_figure.mp (by simpa using h c hc)
  · intro h c hc
    simpa using is_figure.mpr (h c hc)
end TX
namespace DL
open PySem L2
/-! ### data that == tells apart -/
/-- None, ints, texts, lists and tuples of such, of some depth -/
def nice : Nat → D → Prop
  | 0, _ => False
  | n + 1, d => match d with
    | .lst ds => ∀ x ∈ ds, nice n x
    | .tup ds => ∀ x ∈ ds, nice n x
    | .str x => PyData.strOk x = true
    | .non => True
    | .int _ => True
    | _ => False
theorem nice_dok : ∀ {n : Nat} {d : D}, nice n d → dok n d
  | 0, _, h => h.elim
  | n + 1, d, h => by
    cases d with
    | lst ds => exact fun x hx => nice_dok (h x hx)
    | tup ds => exact fun x hx => nice_dok (h x hx)
    | str x => exact h
    | non => exact h
    | int i => exact h
    | _ => exact h.elim
theorem nice_more : ∀ {n m : Nat} {d : D}, n ≤ m → nice n d → nice m d
  | 0, _, _, _, h => h.elim
  | n + 1, 0, _, hm, _ => absurd hm (by omega)
  | n + 1, m + 1, d, hm, h => by
    cases d with
    | lst ds => exact fun x hx => nice_more (by omega) (h x hx)
    | tup ds => exact fun x hx => nice_more (by omega) (h x hx)
    | str x => exact h
    | non => exact h
    | int i => exact h
    | _ => exact h.elim
theorem deq_refl {n : Nat} {d : D} (h : dok n d) : deq d d = true := SeqAt.eqv_refl _ (dok_shape h).1
theorem eqv_nice : ∀ {n m : Nat} {x y : D}, nice n x → nice m y → PyData.eqv (py x) (py y) = true → x = y
  | 0, _, _, _, h, _, _ => h.elim
  | _ + 1, 0, _, _, _, h, _ => h.elim
  | n + 1, m + 1, x, y, hx, hy, e => by
    have all : ∀ (xs ys : List D), (∀ x ∈ xs, nice n x) → (∀ x ∈ ys, nice m x) → PyData.eqvAll (pys xs) (pys ys) = true → xs = ys := fun xs => by
      induction xs with
      | nil =>
        intro ys _ _ e
        cases ys with
        | nil => rfl
        | cons _ _ => simp [pys, PyData.eqvAll] at e
      | cons x xs ih =>
        intro ys h1 h2 e
        cases ys with
        | nil => simp [pys, PyData.eqvAll] at e
        | cons y ys =>
          simp only [pys, PyData.eqvAll, Bool.and_eq_true] at e
          rw [eqv_nice (h1 x List.mem_cons_self) (h2 y List.mem_cons_self) e.1, ih ys (fun x hx => h1 x (List.mem_cons_of_mem _ hx)) (fun x hx => h2 x (List.mem_cons_of_mem _ hx)) e.2]
    cases x <;> first | exact hx.elim | skip
    all_goals cases y <;> first | exact hy.elim | (simp [py, PyData.eqv] at e; done) | skip
    all_goals first
      | rfl
      | (simp [py, PyData.eqv] at e; rw [e])
      | (simp only [py, PyData.eqv] at e; rw [all _ _ hx hy e])
theorem deq_iff {n m : Nat} {x y : D} (hx : nice n x) (hy : nice m y) : deq x y = true ↔ x = y :=
  ⟨fun e => eqv_nice hx hy e, fun e => by rw [e]; exact deq_refl (nice_dok hy)⟩
theorem deq_ne {n m : Nat} {x y : D} (hx : nice n x) (hy : nice m y) (h : x ≠ y) : deq x y = false := by
  cases e : deq x y with
  | false => rfl
  | true => exact absurd ((deq_iff hx hy).mp e) h
theorem nice_int {n : Nat} {i : Int} : nice (n + 1) (.int i) := trivial
theorem nice_non {n : Nat} : nice (n + 1) .non := trivial
theorem nice_lst {n : Nat} {ds : List D} (h : ∀ x ∈ ds, nice n x) : nice (n + 1) (.lst ds) := h
theorem nice_tup {n : Nat} {ds : List D} (h : ∀ x ∈ ds, nice n x) : nice (n + 1) (.tup ds) := h
theorem nice_ints {n : Nat} {ns : List Int} : ∀ x ∈ ns.map D.int, nice (n + 1) x := fun x hx => by
  obtain ⟨i, _, rfl⟩ := List.mem_map.mp hx
  exact nice_int
/-! ### lengths, places -/
theorem repS_len (x : Str) (n : Int) : (repS x n).length ≤ x.length * n.toNat := by
  unfold repS
  split
  · show 0 ≤ _; omega
  · split
    · rename_i h1 h2
      have : 1 ≤ n.toNat := by omega
      exact Nat.le_mul_of_pos_right _ this
    · show (Array.size _) ≤ _
      rw [PySem.size_reps]
      show 0 + n.toNat * x.cps.size ≤ x.cps.size * n.toNat
      rw [Nat.zero_add, Nat.mul_comm]
      exact Nat.le_refl _
theorem str_at {x : Str} {i : Int} (h0 : 0 ≤ i) (h1 : i < x.length) : ∃ c, atI x.cps.toList i = some c ∧ c ∈ x.cps.toList := by
  have h2 : i.toNat < x.cps.toList.length := by
    rw [Array.length_toList]
    have : x.length = x.cps.size := rfl
    omega
  exact ⟨x.cps.toList[i.toNat], by rw [atI_nn h0, List.getElem?_eq_getElem h2], List.getElem_mem h2⟩
theorem at_some {α : Type} {xs : List α} {i : Int} (h0 : 0 ≤ i) (h1 : i < xs.length) : ∃ d, atI xs i = some d ∧ d ∈ xs := by
  have h2 : i.toNat < xs.length := by omega
  exact ⟨xs[i.toNat], by rw [atI_nn h0, List.getElem?_eq_getElem h2], List.getElem_mem h2⟩
/-- an index of a pool's digit below 2 -/
theorem two_of {i : Int} (h0 : 0 ≤ i) (h1 : i < 2) : i = 0 ∨ i = 1 := by omega
end DL
namespace DL
open PySem L2
/-! ### the law's start and end -/
theorem quiet {P : Program} {w : World} {K : PySem.W.Frag} {mg : Str → Option Value} {base : Heap} {k : Nat} {f : Addr} {fd : FuncData} {ps : List Str} {sp : Sp} (F : FnOk P w K mg base (L2.CX P w) k f fd ps sp) :
    FnOk P w K mg base CX0 k f fd ps (fun vs H Q _ => sp vs H Q fun _ _ _ => False) :=
  ⟨fun vs H Q E h => F.len _ _ _ _ h, fun A outer s H args us vs Q E hr he hb hv hs => PySem.codeAny_mono (F.run A outer s H args us vs Q _ hr he hb hv hs) fun r s' hq => by
    cases r with
    | error e =>
      obtain ⟨_, _, _, _, _, _, _, _, _, _, _, _, z⟩ := hq
      exact z.elim
    | ok fl => cases fl <;> exact hq⟩
/-- the law over a script of ints -/
theorem toSp_law {S : Sg} {sp : SpecD} {H : Hp} {a : Addr} {ns : List Int} (hl : ns.length ≤ sizeLine) (hS : SqL S.K H a (ns.map V.int)) (h : ∀ μ QD ED, (∀ μ', QD (.bl true) μ') → sp [.kst (ns.map D.int)] μ QD ED) :
    toSp S sp [.ref a] H (fun v _ => v = .bl true) (fun _ _ _ => False) := by
  have rs : ∀ ns : List Int, RVs S [] H (ns.map D.int) (ns.map V.int) := fun ns => by
    induction ns with
    | nil => exact .nil
    | cons n ns ih => exact .cons (RV.int n) ih
  refine ⟨[], H, fun _ => none, [.kst (ns.map D.int)], fun d _ => d = .bl true, fun _ _ _ _ => False, ?_, ?_, h _ _ _ fun _ => rfl, ?_, ?_⟩
  · exact ⟨fun _ _ h => h, fun n d h => (by cases h), fun n m d e a h => (by cases h), fun a h => by cases h⟩
  · refine .cons ?_ .nil
    unfold RV
    exact ⟨a, _, rfl, hS, by rw [List.length_map]; exact hl, rs ns⟩
  · intro v H' A' G' d μ' F R r e
    rw [e] at r
    exact r.b
  · intro c fs es μ' dx A' G' H' F R rx z
    exact z
/-- an own exception without fields, made without arguments, from the head's facts -/
theorem mk_own0 {K : PySem.W.Frag} {mg : Str → Option Value} {x : Str} (c : (He.Fa.exc x).ok K = true) (g : mg x = some (.ref (He.ga K x))) {X : Cx} {p pos : Pos} (hK : X.K = K) (hmg : X.mg = mg) (hg : Gl X x) (hdb : (x == ("__debug__" : Str)) = false := by decide) :
    PMk X (.Call (.Name x p) [] [] pos) fun _ H Q => Q (.ref (He.ga K x)) none H := by
  obtain ⟨c1, c2, c3, c4⟩ := He.exc_ok c
  subst hK hmg
  exact pmk_own0 PySem.F.excBase_ValueError c1 g c2 (raises_own c3 c4) hg hdb
end DL
namespace DLm
open PySem
def m_BadText : Str → Option Bool := fun c => if c = "DeciderError" then some false else if c = "BadRatio" then some false else if c = "BadText" then some true else none
end DLm
namespace K13
open PySem PySem.Spec PyProof.Rows L2 DL TX TL NumText
def top (i : Nat) : Stmt := PySem.Challenge.pw_everydecider_k13_texts_of_ratios.main.body.getD i (.Pass ⟨0, 0, 0, 0⟩)
structure Fx (S : Sg) (mg : Str → Option Value) : Prop where
  b_abs : mg "abs" = none
  b_all : mg "all" = none
  b_int : mg "int" = none
  b_len : mg "len" = none
  b_list : mg "list" = none
  b_max : mg "max" = none
  b_range : mg "range" = none
  b_str : mg "str" = none
  c_FIGURES : ∃ t, mg "FIGURES" = some (.str "0123456789" t)
  c_LONGEST_TEXT : ∃ t, mg "LONGEST_TEXT" = some (.int 60 t)
  x_BadText : ∀ {X : Cx} {p pos : Pos}, X.K = S.K → X.mg = mg → Gl X "BadText" → PMk X (.Call (.Name "BadText" p) [] [] pos) fun _ H Q => Q (.ref (S.cls "BadText")) none H
  g_BadText : mg "BadText" = some (.ref (S.cls "BadText"))
  m_BadText : ∀ y b, DLm.m_BadText y = some b → PySem.W.exmOne S.K (.ref (S.cls y)) (.ref (S.cls "BadText")) = some b
theorem gcd_step {x y : Int} (hx : 0 ≤ x) (hy : 0 ≤ y) : Int.gcd y (x % y) = Int.gcd x y := by
  obtain ⟨n, rfl⟩ := Int.eq_ofNat_of_zero_le hx
  obtain ⟨m, rfl⟩ := Int.eq_ofNat_of_zero_le hy
  rw [show ((n : Int) % (m : Int)) = ((n % m : Nat) : Int) from rfl]
  show Nat.gcd m (n % m) = Nat.gcd n m
  rw [Nat.gcd_comm n m, Nat.gcd_rec m n, Nat.gcd_comm]
abbrev sp_divisor : SpecD := fun ds μ Q _ => ∃ a b : Int, ds = [.int a, .int b] ∧ Q (.int (Int.gcd a b)) μ
abbrev N_divisor : List Str := ["one", "other"]
abbrev ps_divisor : List Str := ["one", "other"]
theorem sc_divisor : FnScope N_divisor ps_divisor (defScope (top 7)) := ⟨rfl, rfl, rfl, by decide +kernel, rfl, by decide +kernel, by decide +kernel⟩
def r_divisor : RS1 := rSeq (rPar 0 1 (rCons (rCl oAbs (rCons (rVar 0) (rNil))) (rCons (rCl oAbs (rCons (rVar 1) (rNil))) (rNil)))) (rSeq (rWhile (rTst (rOp (oEq true) (rVar 1) (rC (.int 0)))) (rPar 0 1 (rCons (rVar 1) (rCons (rOp (oI (fun _ j => 0 < j) fun i j => i % j) (rVar 0) (rVar 1)) (rNil))))) (rRet (rVar 0)))
theorem b_divisor {P : Program} {w : World} {S : Sg} {mg : Str → Option Value} {base : Heap} {f : Addr} {cdv : Value} {A : Around} {outer : List PySem.Env} {s : Shared} {H : Hp} {E : XK} (fx : Fx S mg) (hr : Room 0 (A.deeper (PyProof.Rows.envOfC "divisor" (defScope (top 7)) s.heap.objs.size f cdv)))
    (tk : Takes (cxOf (L2.CX P w) P w S.K mg base N_divisor "divisor" (defScope (top 7)) f cdv A outer s H E) (fun cls d _ H => E cls d H)) : PDB S (cxOf (L2.CX P w) P w S.K mg base N_divisor "divisor" (defScope (top 7)) f cdv A outer s H E) (fun cls d _ H => E cls d H) (defBody (top 7)) r_divisor :=
  by delta r_divisor; exact ds_cons (ds_par (i := 0) (j := 1) rfl sc_divisor.nd rfl rfl (by decide) rfl rfl (da_cons (d_abs rfl fx.b_abs (da_cons (dv 0) (da_nil))) (da_cons (d_abs rfl fx.b_abs (da_cons (dv 1) (da_nil))) (da_nil)))) (ds_cons (ds_while passes_cx (dt_ne hr.units (dv 1) (d_int)) (ds_one (ds_par (i := 0) (j := 1) rfl sc_divisor.nd rfl rfl (by decide) rfl rfl (da_cons (dv 1) (da_cons (d_mod (dv 0) (dv 1)) (da_nil)))))) (ds_one (ds_ret (dv 0))))
theorem fn_divisor {P : Program} {w : World} {S : Sg} {mg : Str → Option Value} {base : Heap} {f : Addr} {fd : FuncData} (fx : Fx S mg) (F : FunD S.K "divisor" "divisor" (defArgs (top 7)) (defBody (top 7)) (defScope (top 7)) [] [] f fd)
    (len : ∀ ds μ Q E, sp_divisor ds μ Q E → ds.length = ps_divisor.length) (pure_ : ∀ ds μ Q E, sp_divisor ds μ Q E → r_divisor (exitD Q) (startE 2 ds) μ (exitX E)) : FnOk P w S.K mg base (L2.CX P w) 1 f fd ps_divisor (toSp S sp_divisor) :=
  fn_okD F sc_divisor 2 rfl len (fun cdv A outer s H E hr tk => b_divisor fx hr tk) pure_
theorem ok_divisor {P : Program} {w : World} {S : Sg} {mg : Str → Option Value} {base : Heap} {f : Addr} {fd : FuncData} (fx : Fx S mg) (F : FunD S.K "divisor" "divisor" (defArgs (top 7)) (defBody (top 7)) (defScope (top 7)) [] [] f fd) (g : mg "divisor" = some (.ref f))
    (len : ∀ ds μ Q E, sp_divisor ds μ Q E → ds.length = ps_divisor.length) (pure_ : ∀ ds μ Q E, sp_divisor ds μ Q E → r_divisor (exitD Q) (startE 2 ds) μ (exitX E)) : OkFn P w S mg base "divisor" 1 ps_divisor sp_divisor :=
  ⟨f, fd, g, F.kp, F.bindsN (ps := ps_divisor) (fun _ _ _ _ _ _ us hl => match us, hl with | [_, _], _ => rfl), fn_divisor fx F len pure_⟩
theorem p_divisor : ∀ ds μ Q E, sp_divisor ds μ Q E → r_divisor (exitD Q) (startE 2 ds) μ (exitX E) := by
  rintro ds μ Q E ⟨a, b, rfl, h⟩
  show r_divisor (exitD Q) [some (.int a), some (.int b)] μ (exitX E)
  unfold r_divisor
  (with_reducible conv => whnf)
  refine ⟨fun m δ μ' => ∃ x y : Int, 0 ≤ x ∧ 0 ≤ y ∧ δ = [some (.int x), some (.int y)] ∧ μ' = μ ∧ m = y.toNat ∧ Int.gcd x y = Int.gcd a b, ⟨_, _, _, ?_, ?_, rfl, rfl, rfl, ?_⟩, ?_⟩
  · split <;> omega
  · split <;> omega
  · split <;> split <;> simp
  rintro m δ μ' ⟨x, y, hx, hy, rfl, rfl, rfl, hg⟩
  (with_reducible conv => whnf)
  split
  · rename_i c
    simp at c
    (with_reducible conv => whnf)
    refine ⟨by omega, ?_⟩
    (with_reducible conv => whnf)
    refine ⟨_, ?_, y, x % y, hy, Int.emod_nonneg _ c, rfl, rfl, rfl, ?_⟩
    · have := Int.emod_lt_of_pos x (show 0 < y by omega)
      have := Int.emod_nonneg x c
      omega
    · rw [← hg]; exact gcd_step hx hy
  · rename_i c
    simp at c
    subst c
    (with_reducible conv => whnf)
    refine ⟨_, MSub.refl _, ?_⟩
    have e : (x : Int) = ((Int.gcd a b : Nat) : Int) := by
      rw [← hg, Int.gcd_zero_right]
      omega
    rw [e]; exact h
abbrev sp__law_pool : SpecD := fun ds μ Q _ => ∃ (x : D) (ns : List Int), ds = [x] ∧ seqA μ x = some (ns.map D.int) ∧ ∀ n, μ n = none → Q (.loc n) (mset μ n (some (.lst [.int 0, .int 0, .lst (ns.map D.int)])))
abbrev N__law_pool : List Str := ["_law_script"]
abbrev ps__law_pool : List Str := ["_law_script"]
theorem sc__law_pool : FnScope N__law_pool ps__law_pool (defScope (top 13)) := ⟨rfl, rfl, rfl, by decide +kernel, rfl, by decide +kernel, by decide +kernel⟩
def r__law_pool : RS1 := rRet (rLstN (rCons (rC (.int 0)) (rCons (rC (.int 0)) (rCons (rCl (oListN false) (rCons (rVar 0) (rNil))) (rNil)))))
theorem b__law_pool {P : Program} {w : World} {S : Sg} {mg : Str → Option Value} {base : Heap} {f : Addr} {cdv : Value} {A : Around} {outer : List PySem.Env} {s : Shared} {H : Hp} {E : XK} (fx : Fx S mg) (hr : Room 0 (A.deeper (PyProof.Rows.envOfC "_law_pool" (defScope (top 13)) s.heap.objs.size f cdv)))
    (tk : Takes (cxOf (L2.CX P w) P w S.K mg base N__law_pool "_law_pool" (defScope (top 13)) f cdv A outer s H E) (fun cls d _ H => E cls d H)) : PDB S (cxOf (L2.CX P w) P w S.K mg base N__law_pool "_law_pool" (defScope (top 13)) f cdv A outer s H E) (fun cls d _ H => E cls d H) (defBody (top 13)) r__law_pool :=
  by delta r__law_pool; exact ds_one (ds_ret (d_lstN (da_cons (d_int) (da_cons (d_int) (da_cons (d_list false rfl fx.b_list (da_cons (dv 0) (da_nil))) (da_nil))))))
theorem fn__law_pool {P : Program} {w : World} {S : Sg} {mg : Str → Option Value} {base : Heap} {f : Addr} {fd : FuncData} (fx : Fx S mg) (F : FunD S.K "_law_pool" "_law_pool" (defArgs (top 13)) (defBody (top 13)) (defScope (top 13)) [] [] f fd)
    (len : ∀ ds μ Q E, sp__law_pool ds μ Q E → ds.length = ps__law_pool.length) (pure_ : ∀ ds μ Q E, sp__law_pool ds μ Q E → r__law_pool (exitD Q) (startE 1 ds) μ (exitX E)) : FnOk P w S.K mg base (L2.CX P w) 1 f fd ps__law_pool (toSp S sp__law_pool) :=
  fn_okD F sc__law_pool 1 rfl len (fun cdv A outer s H E hr tk => b__law_pool fx hr tk) pure_
theorem ok__law_pool {P : Program} {w : World} {S : Sg} {mg : Str → Option Value} {base : Heap} {f : Addr} {fd : FuncData} (fx : Fx S mg) (F : FunD S.K "_law_pool" "_law_pool" (defArgs (top 13)) (defBody (top 13)) (defScope (top 13)) [] [] f fd) (g : mg "_law_pool" = some (.ref f))
    (len : ∀ ds μ Q E, sp__law_pool ds μ Q E → ds.length = ps__law_pool.length) (pure_ : ∀ ds μ Q E, sp__law_pool ds μ Q E → r__law_pool (exitD Q) (startE 1 ds) μ (exitX E)) : OkFn P w S mg base "_law_pool" 1 ps__law_pool sp__law_pool :=
  ⟨f, fd, g, F.kp, F.bindsN (ps := ps__law_pool) (fun _ _ _ _ _ _ us hl => match us, hl with | [_], _ => rfl), fn__law_pool fx F len pure_⟩
theorem p__law_pool : ∀ ds μ Q E, sp__law_pool ds μ Q E → r__law_pool (exitD Q) (startE 1 ds) μ (exitX E) := by
  rintro ds μ Q E ⟨x, ns, rfl, hx, h⟩
  show r__law_pool (exitD Q) [some x] μ (exitX E)
  unfold r__law_pool
  (with_reducible conv => whnf)
  rw [hx]
  (with_reducible conv => whnf)
  refine ⟨(by simp only [List.length_cons, List.length_nil, List.length_append, List.length_map, sizeLine_eq]; omega), fun n hn => ?_⟩
  (with_reducible conv => whnf)
  exact ⟨_, MSub.refl _, h n hn⟩
theorem at_ints (ns : List Int) (i : Int) (h0 : 0 ≤ i) (h1 : i < ns.length) : ∃ c, c ∈ ns ∧ atI (ns.map D.int) i = some (.int c) := by
  rw [atI_nn h0, List.getElem?_map]
  have h2 : i.toNat < ns.length := by omega
  exact ⟨ns[i.toNat], List.getElem_mem h2, by rw [List.getElem?_eq_getElem h2]; rfl⟩
abbrev sp__law_take : SpecD := fun ds μ Q _ => ∃ (n : Nat) (at_ rest many : Int) (ns : List Int), ds = [.loc n, .int many] ∧ μ n = some (.lst [.int at_, .int rest, .lst (ns.map D.int)]) ∧ 0 ≤ at_ ∧ at_ < 2 ^ 40 ∧ 1 ≤ many ∧ many < 2 ^ 8000 ∧ ns.length < 100000 ∧
  ∀ d at' rest' : Int, 0 ≤ d → d < many → 0 ≤ at' → at' ≤ at_ + 1 → Q (.int d) (mset μ n (some (.lst [.int at', .int rest', .lst (ns.map D.int)])))
abbrev N__law_take : List Str := ["_law_pool_here", "_law_many", "_law_at", "_law_cell", "_law_mixed", "_law_digit"]
abbrev ps__law_take : List Str := ["_law_pool_here", "_law_many"]
theorem sc__law_take : FnScope N__law_take ps__law_take (defScope (top 14)) := ⟨rfl, rfl, rfl, by decide +kernel, rfl, by decide +kernel, by decide +kernel⟩
def r__law_take : RS1 := rSeq (rIfS (rTst (rOp (oEq false) (rOp oIx (rVar 0) (rC (.int 1))) (rC (.int 0)))) (rSeq (rAsg (rOp oIx (rVar 0) (rC (.int 0))) (gNm 2)) (rSeq (rAsg (rOp oAdd (rVar 2) (rC (.int 1))) (gSb (rVar 0) (rC (.int 0)))) (rSeq (rAsg (rOp oIx (rOp oAdd (rOp oIx (rVar 0) (rC (.int 2))) (rLst (rCons (rC (.int 0)) (rNil)))) (rOp (oI (fun _ j => 0 < j) fun i j => i % j) (rCl oInt (rCons (rVar 2) (rNil))) (rCl oMax (rCons (rC (.int 1)) (rCons (rCl oLen (rCons (rOp oIx (rVar 0) (rC (.int 2))) (rNil))) (rNil)))))) (gNm 3)) (rSeq (rAsg (rOp (oI (fun _ j => 0 < j) fun i j => i % j) (rOp (oI CPow fun i j => i ^ j.toNat) (rOp oAdd (rOp oAdd (rOp (oI (fun _ j => 0 < j) fun i j => i % j) (rCl oInt (rCons (rVar 3) (rNil))) (rC (.int 2147483647))) (rOp (oMulA false) (rC (.int 7919)) (rVar 2))) (rC (.int 13))) (rC (.int 5))) (rC (.int 2147483647))) (gNm 4)) (rSeq (rAsg (rOp (oI (fun _ j => 0 < j) fun i j => i % j) (rOp (oI CPow fun i j => i ^ j.toNat) (rOp oAdd (rOp oAdd (rVar 4) (rOp (oMulA false) (rC (.int 104729)) (rVar 2))) (rC (.int 29))) (rC (.int 3))) (rC (.int 2147483629))) (gNm 4)) (rSeq (rIfS (rTst (rOp (oC fun i j => decide (i < j)) (rVar 3) (rOp (oI CPow fun i j => i ^ j.toNat) (rC (.int 10)) (rC (.int 18))))) (rRet (rOp (oI (fun _ j => 0 < j) fun i j => i % j) (rOp (oI CDivW fun i j => i / j) (rVar 4) (rC (.int 11))) (rVar 1))) (rNext)) (rAsg (rVar 3) (gSb (rVar 0) (rC (.int 1)))))))))) (rNext)) (rSeq (rAsg (rOp (oI (fun _ j => 0 < j) fun i j => i % j) (rCl oInt (rCons (rOp oIx (rVar 0) (rC (.int 1))) (rNil))) (rVar 1)) (gNm 5)) (rSeq (rAsg (rOp (oI CDivW fun i j => i / j) (rOp oIx (rVar 0) (rC (.int 1))) (rVar 1)) (gSb (rVar 0) (rC (.int 1)))) (rRet (rVar 5))))
theorem b__law_take {P : Program} {w : World} {S : Sg} {mg : Str → Option Value} {base : Heap} {f : Addr} {cdv : Value} {A : Around} {outer : List PySem.Env} {s : Shared} {H : Hp} {E : XK} (fx : Fx S mg) (hr : Room 0 (A.deeper (PyProof.Rows.envOfC "_law_take" (defScope (top 14)) s.heap.objs.size f cdv)))
    (tk : Takes (cxOf (L2.CX P w) P w S.K mg base N__law_take "_law_take" (defScope (top 14)) f cdv A outer s H E) (fun cls d _ H => E cls d H)) : PDB S (cxOf (L2.CX P w) P w S.K mg base N__law_take "_law_take" (defScope (top 14)) f cdv A outer s H E) (fun cls d _ H => E cls d H) (defBody (top 14)) r__law_take :=
  by delta r__law_take; exact ds_cons (ds_if (dt_eq hr.units (d_idx (dv 0) (d_int)) (d_int)) (ds_cons (ds_set (i := 2) sc__law_take.nd rfl (by first | exact Or.inl rfl | exact Or.inr rfl) (d_idx (dv 0) (d_int))) (ds_cons (ds_asg (d_add (dv 2) (d_int)) (dg_sub (dv 0) (d_int))) (ds_cons (ds_set (i := 3) sc__law_take.nd rfl (by first | exact Or.inl rfl | exact Or.inr rfl) (d_idx (d_add (d_idx (dv 0) (d_int)) (d_lst (da_cons (d_int) (da_nil)))) (d_mod (d_toint rfl fx.b_int (da_cons (dv 2) (da_nil))) (d_max rfl rfl fx.b_max (da_cons (d_int) (da_cons (d_len rfl fx.b_len (da_cons (d_idx (dv 0) (d_int)) (da_nil))) (da_nil))))))) (ds_cons (ds_set (i := 4) sc__law_take.nd rfl (by first | exact Or.inl rfl | exact Or.inr rfl) (d_mod (d_pow (d_add (d_add (d_mod (d_toint rfl fx.b_int (da_cons (dv 3) (da_nil))) (d_int)) (d_mulA false (d_int) (dv 2))) (d_int)) (d_int)) (d_int))) (ds_cons (ds_set (i := 4) sc__law_take.nd rfl (by first | exact Or.inl rfl | exact Or.inr rfl) (d_mod (d_pow (d_add (d_add (dv 4) (d_mulA false (d_int) (dv 2))) (d_int)) (d_int)) (d_int))) (ds_cons (ds_if (dt_lt (dv 3) (d_pow (d_int) (d_int))) (ds_one (ds_ret (d_mod (d_fdiv (dv 4) (d_int)) (dv 1)))) (ds_nil)) (ds_one (ds_asg (dv 3) (dg_sub (dv 0) (d_int)))))))))) (ds_nil)) (ds_cons (ds_set (i := 5) sc__law_take.nd rfl (by first | exact Or.inl rfl | exact Or.inr rfl) (d_mod (d_toint rfl fx.b_int (da_cons (d_idx (dv 0) (d_int)) (da_nil))) (dv 1))) (ds_cons (ds_asg (d_fdiv (d_idx (dv 0) (d_int)) (dv 1)) (dg_sub (dv 0) (d_int))) (ds_one (ds_ret (dv 5)))))
theorem fn__law_take {P : Program} {w : World} {S : Sg} {mg : Str → Option Value} {base : Heap} {f : Addr} {fd : FuncData} (fx : Fx S mg) (F : FunD S.K "_law_take" "_law_take" (defArgs (top 14)) (defBody (top 14)) (defScope (top 14)) [] [] f fd)
    (len : ∀ ds μ Q E, sp__law_take ds μ Q E → ds.length = ps__law_take.length) (pure_ : ∀ ds μ Q E, sp__law_take ds μ Q E → r__law_take (exitD Q) (startE 6 ds) μ (exitX E)) : FnOk P w S.K mg base (L2.CX P w) 1 f fd ps__law_take (toSp S sp__law_take) :=
  fn_okD F sc__law_take 6 rfl len (fun cdv A outer s H E hr tk => b__law_take fx hr tk) pure_
theorem ok__law_take {P : Program} {w : World} {S : Sg} {mg : Str → Option Value} {base : Heap} {f : Addr} {fd : FuncData} (fx : Fx S mg) (F : FunD S.K "_law_take" "_law_take" (defArgs (top 14)) (defBody (top 14)) (defScope (top 14)) [] [] f fd) (g : mg "_law_take" = some (.ref f))
    (len : ∀ ds μ Q E, sp__law_take ds μ Q E → ds.length = ps__law_take.length) (pure_ : ∀ ds μ Q E, sp__law_take ds μ Q E → r__law_take (exitD Q) (startE 6 ds) μ (exitX E)) : OkFn P w S mg base "_law_take" 1 ps__law_take sp__law_take :=
  ⟨f, fd, g, F.kp, F.bindsN (ps := ps__law_take) (fun _ _ _ _ _ _ us hl => match us, hl with | [_, _], _ => rfl), fn__law_take fx F len pure_⟩
theorem p__law_take : ∀ ds μ Q E, sp__law_take ds μ Q E → r__law_take (exitD Q) (startE 6 ds) μ (exitX E) := by
  rintro ds μ Q E ⟨n, at_, rest, many, ns, rfl, hm, h0, h1, h2, h3, h4, h⟩
  show r__law_take (exitD Q) [some (.loc n), some (.int many), none, none, none, none] μ (exitX E)
  unfold r__law_take
  ((try with_reducible conv => whnf); repeat (simp only [List.isEmpty_cons, List.isEmpty_nil, Bool.not_true, Bool.not_false, seqOf_lst, seqA_lst, seqA_tup, seqA_kst, seqOf_mset, seqA_mset, mset_same, mset_mset, atI_0, atI_1, atI_2, atI_3, atI_4, atI_5, putI_0, putI_1, putI_2, putI_3, putI_4, seqOf_loc hm]; with_reducible conv => whnf))
  split
  · rename_i c
    simp only [sel, decide_eq_true_eq] at c
    subst c
    ((try with_reducible conv => whnf); repeat (simp only [List.isEmpty_cons, List.isEmpty_nil, Bool.not_true, Bool.not_false, seqOf_lst, seqA_lst, seqA_tup, seqA_kst, seqOf_mset, seqA_mset, mset_same, mset_mset, atI_0, atI_1, atI_2, atI_3, atI_4, atI_5, putI_0, putI_1, putI_2, putI_3, putI_4, seqOf_loc hm, hm]; with_reducible conv => whnf))
    (with_reducible conv => whnf)
    refine ⟨(by simp only [List.length_cons, List.length_nil, List.length_append, List.length_map, sizeLine_eq]; omega), ?_⟩
    ((try with_reducible conv => whnf); repeat (simp only [List.isEmpty_cons, List.isEmpty_nil, Bool.not_true, Bool.not_false, seqOf_lst, seqA_lst, seqA_tup, seqA_kst, seqOf_mset, seqA_mset, mset_same, mset_mset, atI_0, atI_1, atI_2, atI_3, atI_4, atI_5, putI_0, putI_1, putI_2, putI_3, putI_4]; with_reducible conv => whnf))
    refine ⟨(by simp only [List.length_cons, List.length_nil, List.length_append, List.length_map, sizeLine_eq]; omega), ?_⟩
    ((try with_reducible conv => whnf); repeat (simp only [List.isEmpty_cons, List.isEmpty_nil, Bool.not_true, Bool.not_false, seqOf_lst, seqA_lst, seqA_tup, seqA_kst, seqOf_mset, seqA_mset, mset_same, mset_mset, atI_0, atI_1, atI_2, atI_3, atI_4, atI_5, putI_0, putI_1, putI_2, putI_3, putI_4]; with_reducible conv => whnf))
    have hp : (0 : Int) < if ((ns.map D.int).length : Int) > 1 then ((ns.map D.int).length : Int) else 1 := by split <;> omega
    refine ⟨hp, ?_⟩
    have hM : (if ((ns.map D.int).length : Int) > 1 then ((ns.map D.int).length : Int) else 1) ≤ ((ns ++ [0]).length : Int) := by
      rw [List.length_append, List.length_map]
      simp only [List.length_cons, List.length_nil]
      split <;> omega
    obtain ⟨cell, _, hcell⟩ := at_ints (ns ++ [0]) _ (Int.emod_nonneg at_ (Int.ne_of_gt hp)) (Int.lt_of_lt_of_le (Int.emod_lt_of_pos at_ hp) hM)
    rw [List.map_append, List.map_cons, List.map_nil] at hcell
    ((try with_reducible conv => whnf); repeat (simp only [List.isEmpty_cons, List.isEmpty_nil, Bool.not_true, Bool.not_false, seqOf_lst, seqA_lst, seqA_tup, seqA_kst, seqOf_mset, seqA_mset, mset_same, mset_mset, atI_0, atI_1, atI_2, atI_3, atI_4, atI_5, putI_0, putI_1, putI_2, putI_3, putI_4, hcell]; with_reducible conv => whnf))
    have e1 : 0 ≤ cell % 2147483647 := Int.emod_nonneg _ (by decide)
    have e2 : cell % 2147483647 < 2147483647 := Int.emod_lt_of_pos _ (by decide)
    refine ⟨by decide, ?_⟩
    ((try with_reducible conv => whnf); repeat (simp only [List.isEmpty_cons, List.isEmpty_nil, Bool.not_true, Bool.not_false, seqOf_lst, seqA_lst, seqA_tup, seqA_kst, seqOf_mset, seqA_mset, mset_same, mset_mset, atI_0, atI_1, atI_2, atI_3, atI_4, atI_5, putI_0, putI_1, putI_2, putI_3, putI_4]; with_reducible conv => whnf))
    refine ⟨wide_mul (a := 20) (b := 50) (by decide) (by omega) (by decide) (by decide) (by decide), ?_⟩
    ((try with_reducible conv => whnf); repeat (simp only [List.isEmpty_cons, List.isEmpty_nil, Bool.not_true, Bool.not_false, seqOf_lst, seqA_lst, seqA_tup, seqA_kst, seqOf_mset, seqA_mset, mset_same, mset_mset, atI_0, atI_1, atI_2, atI_3, atI_4, atI_5, putI_0, putI_1, putI_2, putI_3, putI_4]; with_reducible conv => whnf))
    refine ⟨⟨by decide, by decide, by omega⟩, ?_⟩
    ((try with_reducible conv => whnf); repeat (simp only [List.isEmpty_cons, List.isEmpty_nil, Bool.not_true, Bool.not_false, seqOf_lst, seqA_lst, seqA_tup, seqA_kst, seqOf_mset, seqA_mset, mset_same, mset_mset, atI_0, atI_1, atI_2, atI_3, atI_4, atI_5, putI_0, putI_1, putI_2, putI_3, putI_4]; with_reducible conv => whnf))
    refine ⟨by decide, ?_⟩
    ((try with_reducible conv => whnf); repeat (simp only [List.isEmpty_cons, List.isEmpty_nil, Bool.not_true, Bool.not_false, seqOf_lst, seqA_lst, seqA_tup, seqA_kst, seqOf_mset, seqA_mset, mset_same, mset_mset, atI_0, atI_1, atI_2, atI_3, atI_4, atI_5, putI_0, putI_1, putI_2, putI_3, putI_4]; with_reducible conv => whnf))
    refine ⟨wide_mul (a := 20) (b := 50) (by decide) (by omega) (by decide) (by decide) (by decide), ?_⟩
    ((try with_reducible conv => whnf); repeat (simp only [List.isEmpty_cons, List.isEmpty_nil, Bool.not_true, Bool.not_false, seqOf_lst, seqA_lst, seqA_tup, seqA_kst, seqOf_mset, seqA_mset, mset_same, mset_mset, atI_0, atI_1, atI_2, atI_3, atI_4, atI_5, putI_0, putI_1, putI_2, putI_3, putI_4]; with_reducible conv => whnf))
    have e3 := Int.emod_nonneg ((cell % 2147483647 + 7919 * at_ + 13) ^ Int.toNat 5) (show (2147483647 : Int) ≠ 0 by decide)
    have e4 := Int.emod_lt_of_pos ((cell % 2147483647 + 7919 * at_ + 13) ^ Int.toNat 5) (show (0 : Int) < 2147483647 by decide)
    generalize (cell % 2147483647 + 7919 * at_ + 13) ^ Int.toNat 5 % 2147483647 = y at e3 e4 ⊢
    refine ⟨⟨by decide, by decide, by omega⟩, ?_⟩
    ((try with_reducible conv => whnf); repeat (simp only [List.isEmpty_cons, List.isEmpty_nil, Bool.not_true, Bool.not_false, seqOf_lst, seqA_lst, seqA_tup, seqA_kst, seqOf_mset, seqA_mset, mset_same, mset_mset, atI_0, atI_1, atI_2, atI_3, atI_4, atI_5, putI_0, putI_1, putI_2, putI_3, putI_4]; with_reducible conv => whnf))
    refine ⟨by decide, ?_⟩
    ((try with_reducible conv => whnf); repeat (simp only [List.isEmpty_cons, List.isEmpty_nil, Bool.not_true, Bool.not_false, seqOf_lst, seqA_lst, seqA_tup, seqA_kst, seqOf_mset, seqA_mset, mset_same, mset_mset, atI_0, atI_1, atI_2, atI_3, atI_4, atI_5, putI_0, putI_1, putI_2, putI_3, putI_4]; with_reducible conv => whnf))
    refine ⟨⟨by decide, by decide, by decide⟩, ?_⟩
    ((try with_reducible conv => whnf); repeat (simp only [List.isEmpty_cons, List.isEmpty_nil, Bool.not_true, Bool.not_false, seqOf_lst, seqA_lst, seqA_tup, seqA_kst, seqOf_mset, seqA_mset, mset_same, mset_mset, atI_0, atI_1, atI_2, atI_3, atI_4, atI_5, putI_0, putI_1, putI_2, putI_3, putI_4]; with_reducible conv => whnf))
    split
    · (with_reducible conv => whnf)
      refine ⟨⟨by decide, by decide⟩, ?_⟩
      (with_reducible conv => whnf)
      refine ⟨by omega, ?_⟩
      (with_reducible conv => whnf)
      exact ⟨_, MSub.refl _, h _ (at_ + 1) 0 (Int.emod_nonneg _ (by omega)) (Int.emod_lt_of_pos _ (by omega)) (by omega) (by omega)⟩
    · ((try with_reducible conv => whnf); repeat (simp only [List.isEmpty_cons, List.isEmpty_nil, Bool.not_true, Bool.not_false, seqOf_lst, seqA_lst, seqA_tup, seqA_kst, seqOf_mset, seqA_mset, mset_same, mset_mset, atI_0, atI_1, atI_2, atI_3, atI_4, atI_5, putI_0, putI_1, putI_2, putI_3, putI_4]; with_reducible conv => whnf))
      refine ⟨by omega, ?_⟩
      ((try with_reducible conv => whnf); repeat (simp only [List.isEmpty_cons, List.isEmpty_nil, Bool.not_true, Bool.not_false, seqOf_lst, seqA_lst, seqA_tup, seqA_kst, seqOf_mset, seqA_mset, mset_same, mset_mset, atI_0, atI_1, atI_2, atI_3, atI_4, atI_5, putI_0, putI_1, putI_2, putI_3, putI_4]; with_reducible conv => whnf))
      refine ⟨wide_div (b := 8000) (by omega) (by omega) (by decide) (by decide), ?_⟩
      ((try with_reducible conv => whnf); repeat (simp only [List.isEmpty_cons, List.isEmpty_nil, Bool.not_true, Bool.not_false, seqOf_lst, seqA_lst, seqA_tup, seqA_kst, seqOf_mset, seqA_mset, mset_same, mset_mset, atI_0, atI_1, atI_2, atI_3, atI_4, atI_5, putI_0, putI_1, putI_2, putI_3, putI_4]; with_reducible conv => whnf))
      exact ⟨_, MSub.refl _, h _ (at_ + 1) _ (Int.emod_nonneg _ (by omega)) (Int.emod_lt_of_pos _ (by omega)) (by omega) (by omega)⟩
  · ((try with_reducible conv => whnf); repeat (simp only [List.isEmpty_cons, List.isEmpty_nil, Bool.not_true, Bool.not_false, seqOf_lst, seqA_lst, seqA_tup, seqA_kst, seqOf_mset, seqA_mset, mset_same, mset_mset, atI_0, atI_1, atI_2, atI_3, atI_4, atI_5, putI_0, putI_1, putI_2, putI_3, putI_4, seqOf_loc hm, hm]; with_reducible conv => whnf))
    refine ⟨by omega, ?_⟩
    ((try with_reducible conv => whnf); repeat (simp only [List.isEmpty_cons, List.isEmpty_nil, Bool.not_true, Bool.not_false, seqOf_lst, seqA_lst, seqA_tup, seqA_kst, seqOf_mset, seqA_mset, mset_same, mset_mset, atI_0, atI_1, atI_2, atI_3, atI_4, atI_5, putI_0, putI_1, putI_2, putI_3, putI_4, seqOf_loc hm, hm]; with_reducible conv => whnf))
    refine ⟨wide_div (b := 8000) (by omega) (by omega) (by decide) (by decide), ?_⟩
    ((try with_reducible conv => whnf); repeat (simp only [List.isEmpty_cons, List.isEmpty_nil, Bool.not_true, Bool.not_false, seqOf_lst, seqA_lst, seqA_tup, seqA_kst, seqOf_mset, seqA_mset, mset_same, mset_mset, atI_0, atI_1, atI_2, atI_3, atI_4, atI_5, putI_0, putI_1, putI_2, putI_3, putI_4, seqOf_loc hm, hm]; with_reducible conv => whnf))
    exact ⟨_, MSub.refl _, h _ at_ _ (Int.emod_nonneg _ (by omega)) (Int.emod_lt_of_pos _ (by omega)) (by omega) (by omega)⟩
abbrev sp_ratio : SpecD := fun ds μ Q _ => ∃ a b : Int, ds = [.int a, .int b] ∧ 1 ≤ b ∧ b < 2 ^ 8000 ∧ Q (.tup [.int (a / (Int.gcd a b : Int)), .int (b / (Int.gcd a b : Int))]) μ
abbrev N_ratio : List Str := ["top", "bottom", "part"]
abbrev ps_ratio : List Str := ["top", "bottom"]
theorem sc_ratio : FnScope N_ratio ps_ratio (defScope (top 8)) := ⟨rfl, rfl, rfl, by decide +kernel, rfl, by decide +kernel, by decide +kernel⟩
def r_ratio : RS1 := rSeq (rIfS (rTst (rOp (oEq false) (rVar 1) (rC (.int 0)))) (rNever) (rNext)) (rSeq (rAsg (rCall sp_divisor [] (rCons (rVar 0) (rCons (rVar 1) (rNil)))) (gNm 2)) (rSeq (rIfS (rTst (rOp (oC fun i j => decide (i < j)) (rVar 1) (rC (.int 0)))) (rNever) (rNext)) (rRet (rTup (rCons (rOp (oI CDivW fun i j => i / j) (rVar 0) (rVar 2)) (rCons (rOp (oI CDivW fun i j => i / j) (rVar 1) (rVar 2)) (rNil)))))))
theorem b_ratio {P : Program} {w : World} {S : Sg} {mg : Str → Option Value} {base : Heap} {f : Addr} {cdv : Value} {A : Around} {outer : List PySem.Env} {s : Shared} {H : Hp} {E : XK} (fx : Fx S mg) (h_divisor : OkFn P w S mg base "divisor" 1 ps_divisor sp_divisor) (hr : Room 1 (A.deeper (PyProof.Rows.envOfC "ratio" (defScope (top 8)) s.heap.objs.size f cdv)))
    (tk : Takes (cxOf (L2.CX P w) P w S.K mg base N_ratio "ratio" (defScope (top 8)) f cdv A outer s H E) (fun cls d _ H => E cls d H)) : PDB S (cxOf (L2.CX P w) P w S.K mg base N_ratio "ratio" (defScope (top 8)) f cdv A outer s H E) (fun cls d _ H => E cls d H) (defBody (top 8)) r_ratio :=
  by delta r_ratio; exact ds_cons (ds_if (dt_eq hr.units (dv 1) (d_int)) (ds_one (ds_never)) (ds_nil)) (ds_cons (ds_set (i := 2) sc_ratio.nd rfl (by first | exact Or.inl rfl | exact Or.inr rfl) (d_callO h_divisor (hr.mono (by decide)) rfl tk (da_cons (dv 0) (da_cons (dv 1) (da_nil))))) (ds_cons (ds_if (dt_lt (dv 1) (d_int)) (ds_one (ds_never)) (ds_nil)) (ds_one (ds_ret (d_tup (da_cons (d_fdiv (dv 0) (dv 2)) (da_cons (d_fdiv (dv 1) (dv 2)) (da_nil))))))))
theorem fn_ratio {P : Program} {w : World} {S : Sg} {mg : Str → Option Value} {base : Heap} {f : Addr} {fd : FuncData} (fx : Fx S mg) (h_divisor : OkFn P w S mg base "divisor" 1 ps_divisor sp_divisor) (F : FunD S.K "ratio" "ratio" (defArgs (top 8)) (defBody (top 8)) (defScope (top 8)) [.int 1] [] f fd)
    (len : ∀ ds μ Q E, sp_ratio ds μ Q E → ds.length = ps_ratio.length) (pure_ : ∀ ds μ Q E, sp_ratio ds μ Q E → r_ratio (exitD Q) (startE 3 ds) μ (exitX E)) : FnOk P w S.K mg base (L2.CX P w) 2 f fd ps_ratio (toSp S sp_ratio) :=
  fn_okD F sc_ratio 3 rfl len (fun cdv A outer s H E hr tk => b_ratio fx h_divisor hr tk) pure_
theorem ok_ratio {P : Program} {w : World} {S : Sg} {mg : Str → Option Value} {base : Heap} {f : Addr} {fd : FuncData} (fx : Fx S mg) (h_divisor : OkFn P w S mg base "divisor" 1 ps_divisor sp_divisor) (F : FunD S.K "ratio" "ratio" (defArgs (top 8)) (defBody (top 8)) (defScope (top 8)) [.int 1] [] f fd) (g : mg "ratio" = some (.ref f))
    (len : ∀ ds μ Q E, sp_ratio ds μ Q E → ds.length = ps_ratio.length) (pure_ : ∀ ds μ Q E, sp_ratio ds μ Q E → r_ratio (exitD Q) (startE 3 ds) μ (exitX E)) : OkFn P w S mg base "ratio" 2 ps_ratio sp_ratio := by
  obtain ⟨ds, v, b⟩ := F.binds1 (ps := ps_ratio) 2 1 (by simp) (by decide) (fun _ _ _ _ _ _ _ us its h1 h2 => match us, its, h1, h2 with | [_, _], [_], _, _ => ⟨_, rfl, rfl⟩)
  cases v
  exact ⟨f, fd, g, F.kp, b, fn_ratio fx h_divisor F len pure_⟩
theorem ok_ratioD1 {P : Program} {w : World} {S : Sg} {mg : Str → Option Value} {base : Heap} {f : Addr} {fd : FuncData} (fx : Fx S mg) (h_divisor : OkFn P w S mg base "divisor" 1 ps_divisor sp_divisor) (F : FunD S.K "ratio" "ratio" (defArgs (top 8)) (defBody (top 8)) (defScope (top 8)) [.int 1] [] f fd) (g : mg "ratio" = some (.ref f))
    (len : ∀ ds μ Q E, sp_ratio ds μ Q E → ds.length = ps_ratio.length) (pure_ : ∀ ds μ Q E, sp_ratio ds μ Q E → r_ratio (exitD Q) (startE 3 ds) μ (exitX E)) : OkFnD P w S mg base "ratio" 2 ps_ratio [.int 1] sp_ratio := by
  obtain ⟨ds, v, b⟩ := F.binds1 (ps := ps_ratio) 1 0 (by simp) (by decide) (fun _ _ _ _ _ _ _ us its h1 h2 => match us, its, h1, h2 with | [_], [_], _, _ => ⟨_, rfl, rfl⟩)
  exact ⟨f, fd, _, ds, g, F.kp, b, v, fun _ _ => .cons (RV.int _) (.nil), fn_ratio fx h_divisor F len pure_⟩
theorem gcd_pos {a b : Int} (h : 1 ≤ b) : 0 < (Int.gcd a b : Int) ∧ (Int.gcd a b : Int) ≤ b := by
  have h1 : Int.gcd a b ≠ 0 := fun z => by
    have := (Int.gcd_eq_zero_iff.mp z).2
    omega
  have h2 : (Int.gcd a b : Int) ∣ b := Int.gcd_dvd_right ..
  exact ⟨by omega, Int.le_of_dvd (by omega) h2⟩
theorem p_ratio : ∀ ds μ Q E, sp_ratio ds μ Q E → r_ratio (exitD Q) (startE 3 ds) μ (exitX E) := by
  rintro ds μ Q E ⟨a, b, rfl, h1, h2, h⟩
  show r_ratio (exitD Q) [some (.int a), some (.int b), none] μ (exitX E)
  unfold r_ratio
  obtain ⟨g1, g2⟩ := gcd_pos (a := a) h1
  (with_reducible conv => whnf)
  split
  · rename_i c
    simp only [sel, decide_eq_true_eq] at c
    omega
  (with_reducible conv => whnf)
  refine ⟨_, _, rfl, ?_⟩
  (with_reducible conv => whnf)
  split
  · rename_i c
    simp only [decide_eq_true_eq] at c
    omega
  (with_reducible conv => whnf)
  refine ⟨wide_div (b := 8000) g1 (by omega) (by decide) (by decide), ?_⟩
  (with_reducible conv => whnf)
  refine ⟨wide_div (b := 8000) g1 (by omega) (by decide) (by decide), ?_⟩
  (with_reducible conv => whnf)
  refine ⟨(by simp only [List.length_cons, List.length_nil, List.length_append, List.length_map, sizeLine_eq]; omega), ?_⟩
  (with_reducible conv => whnf)
  exact ⟨_, MSub.refl _, h⟩
end K13
namespace K13
open PySem PySem.Spec PyProof.Rows L2 DL TX TL NumText
abbrev sp_read_integer : SpecD := fun ds μ Q _ => ∃ x : Str, ds = [.str x] ∧ x.length ≤ 640 ∧ (∀ n, x = numS n → Q (.int n) μ) ∧ ((¬ ∃ n, x = numS n) → Q .non μ)
abbrev N_read_integer : List Str := ["text", "figures", "sign"]
abbrev ps_read_integer : List Str := ["text"]
theorem sc_read_integer : FnScope N_read_integer ps_read_integer (defScope (top 9)) := ⟨rfl, rfl, rfl, by decide +kernel, rfl, by decide +kernel, by decide +kernel⟩
def rt_read_integer_1 : RS1 := rSeq (rIfS (rOrT (rTst (rOp (oEq false) (rVar 1) (rC (.str "")))) (rNotT (rTru (rCl oAll (rCons (rLc false (rIS (rVar 1)) (.nm 2) (rYes) (rOp (oInS false) (rVar 2) (rC (.str "0123456789"))) [2]) (rNil)))))) (rRet (rC .non)) (rNext)) (rSeq (rIfS (rAndT (rTst (rOp (oEq false) (rOp oIx (rVar 1) (rC (.int 0))) (rC (.str "0")))) (rTst (rOp (oEq true) (rVar 0) (rC (.str "0"))))) (rRet (rC .non)) (rNext)) (rRet (rCl oInt (rCons (rVar 0) (rNil)))))
def r_read_integer : RS1 := rSeq (rAsg (rIf (rTst (rOp (oEq false) (rSlice (rVar 0) (rNoP) (rP (rC (.int 1)))) (rC (.str "-")))) (rSlice (rVar 0) (rP (rC (.int 1))) (rNoP)) (rVar 0)) (gNm 1)) (rt_read_integer_1)
theorem b_read_integer {P : Program} {w : World} {S : Sg} {mg : Str → Option Value} {base : Heap} {f : Addr} {cdv : Value} {A : Around} {outer : List PySem.Env} {s : Shared} {H : Hp} {E : XK} (fx : Fx S mg) (hr : Room 0 (A.deeper (PyProof.Rows.envOfC "read_integer" (defScope (top 9)) s.heap.objs.size f cdv)))
    (tk : Takes (cxOf (L2.CX P w) P w S.K mg base N_read_integer "read_integer" (defScope (top 9)) f cdv A outer s H E) (fun cls d _ H => E cls d H)) : PDB S (cxOf (L2.CX P w) P w S.K mg base N_read_integer "read_integer" (defScope (top 9)) f cdv A outer s H E) (fun cls d _ H => E cls d H) (defBody (top 9)) r_read_integer :=
  by delta r_read_integer rt_read_integer_1; exact ds_cons (ds_set (i := 1) sc_read_integer.nd rfl (by first | exact Or.inl rfl | exact Or.inr rfl) (d_if (dt_eq hr.units (d_slice (dv 0) (do_none) (do_some (d_int))) (d_str)) (d_slice (dv 0) (do_some (d_int)) (do_none)) (dv 0))) (ds_cons (ds_if (dt_w (dw_or (dt_eq hr.units (dv 1) (d_str)) (dw_or1 (dt_not (dt_tru (d_all rfl rfl fx.b_all (da_cons (d_lc false (.nm 2) rfl sc_read_integer.nd (di_str (dv 1)) (ok := (show BlkOk N_read_integer (defScope (top 9)) _ _ from ⟨rfl, by decide +kernel, by decide +kernel, by decide +kernel, by decide +kernel⟩)) (own := [("sign", 2)]) (fun _ _ _ _ _ => pg_name sc_read_integer.nd rfl (by first | exact Or.inl rfl | exact Or.inr rfl) (by first | exact Or.inl rfl | exact Or.inr rfl)) (fun _ _ _ _ _ => dts_nil) (fun _ _ _ _ _ => d_insign (dv 2) (d_gstr rfl fx.c_FIGURES))) (da_nil)))))))) (ds_one (ds_ret (d_non))) (ds_nil)) (ds_cons (ds_if (dt_w (dw_and (dt_eq hr.units (d_idx (dv 1) (d_int)) (d_str)) (dw_and1 (dt_ne hr.units (dv 0) (d_str))))) (ds_one (ds_ret (d_non))) (ds_nil)) (ds_one (ds_ret (d_toint rfl fx.b_int (da_cons (dv 0) (da_nil)))))))
theorem fn_read_integer {P : Program} {w : World} {S : Sg} {mg : Str → Option Value} {base : Heap} {f : Addr} {fd : FuncData} (fx : Fx S mg) (F : FunD S.K "read_integer" "read_integer" (defArgs (top 9)) (defBody (top 9)) (defScope (top 9)) [] [] f fd)
    (len : ∀ ds μ Q E, sp_read_integer ds μ Q E → ds.length = ps_read_integer.length) (pure_ : ∀ ds μ Q E, sp_read_integer ds μ Q E → r_read_integer (exitD Q) (startE 3 ds) μ (exitX E)) : FnOk P w S.K mg base (L2.CX P w) 1 f fd ps_read_integer (toSp S sp_read_integer) :=
  fn_okD F sc_read_integer 3 rfl len (fun cdv A outer s H E hr tk => b_read_integer fx hr tk) pure_
theorem ok_read_integer {P : Program} {w : World} {S : Sg} {mg : Str → Option Value} {base : Heap} {f : Addr} {fd : FuncData} (fx : Fx S mg) (F : FunD S.K "read_integer" "read_integer" (defArgs (top 9)) (defBody (top 9)) (defScope (top 9)) [] [] f fd) (g : mg "read_integer" = some (.ref f))
    (len : ∀ ds μ Q E, sp_read_integer ds μ Q E → ds.length = ps_read_integer.length) (pure_ : ∀ ds μ Q E, sp_read_integer ds μ Q E → r_read_integer (exitD Q) (startE 3 ds) μ (exitX E)) : OkFn P w S mg base "read_integer" 1 ps_read_integer sp_read_integer :=
  ⟨f, fd, g, F.kp, F.bindsN (ps := ps_read_integer) (fun _ _ _ _ _ _ us hl => match us, hl with | [_], _ => rfl), fn_read_integer fx F len pure_⟩
def fSign : D → D
  | .str z => .bl (match tl z with
    | [c] => decide (c ∈ tl ("0123456789" : Str))
    | _ => false)
  | _ => .non
theorem sign_map (F : Str) : (sgD F).map fSign = ((tl F).map fun c => decide (c ∈ tl ("0123456789" : Str))).map D.bl := by
  unfold sgD
  rw [List.map_map, List.map_map]
  rfl
theorem tl_empty : tl ("" : Str) = [] := by decide +kernel
theorem tl_zero : tl ("0" : Str) = [48] := by decide +kernel
theorem figL_len (l : List Nat) : (figL l).length ≤ l.length := by
  unfold figL
  split <;> simp
theorem fig_len {x F : Str} (hF : tl F = figL (tl x)) : F.length ≤ x.length := by
  rw [len_tl, len_tl, hF]
  exact figL_len _
theorem fig_first {F : Str} (h : F ≠ "") : ∃ c, (tl F).head? = some c ∧ atI F.cps.toList 0 = some c := by
  cases e : tl F with
  | nil => exact absurd (ext_tl (by rw [e, tl_empty])) h
  | cons a l => exact ⟨a, rfl, by rw [show F.cps.toList = a :: l from e, atI_0]⟩
theorem one_zero {c : Nat} : ((⟨#[c]⟩ : Str) = "0") ↔ c = 48 := by
  constructor
  · intro h
    have := congrArg tl h
    rw [tl_zero] at this
    exact (List.cons.inj this).1
  · rintro rfl; exact ext_tl (by rw [tl_zero])
theorem pt_read_integer {x F : Str} {μ : Mu} {Q : DQ} {E : EX} (hl : x.length ≤ 640) (hF : tl F = figL (tl x)) (h1 : ∀ n, x = numS n → Q (.int n) μ) (h2 : (¬ ∃ n, x = numS n) → Q .non μ) : rt_read_integer_1 (exitD Q) [some (.str x), some (.str F), none] μ (exitX E) := by
  unfold rt_read_integer_1
  (with_reducible conv => whnf)
  have hFl := fig_len hF
  split
  · rename_i c
    simp only [sel, decide_eq_true_eq] at c
    (with_reducible conv => whnf)
    refine ⟨_, MSub.refl _, h2 fun z => ?_⟩
    have := (numS_iff.mp z).1
    rw [← hF, c] at this
    exact this tl_empty
  · rename_i c0
    simp only [sel, decide_eq_false_iff_not] at c0
    (with_reducible conv => whnf)
    refine ⟨by unfold sgD; rw [List.length_map, ← len_tl, sizeLine_eq]; omega, mapL_map (f := fSign) (fun d hd K hK => ?_) trivial ?_⟩
    · obtain ⟨c, _, rfl⟩ := List.mem_map.mp hd
      (with_reducible conv => whnf)
      exact hK
    rw [sign_map]
    ((try with_reducible conv => whnf); repeat (simp only [List.isEmpty_cons, List.isEmpty_nil, Bool.not_true, Bool.not_false, seqOf_lst, seqA_lst, seqA_tup, seqA_kst, seqOf_mset, seqA_mset, mset_same, mset_mset, atI_0, atI_1, atI_2, atI_3, atI_4, atI_5, putI_0, putI_1, putI_2, putI_3, putI_4]; with_reducible conv => whnf))
    refine ⟨_, rfl, ?_⟩
    (with_reducible conv => whnf)
    split
    · rename_i c
      (with_reducible conv => whnf)
      refine ⟨_, MSub.refl _, h2 fun z => ?_⟩
      have z1 := (numS_iff.mp z).2.1
      rw [← hF] at z1
      rw [all_figures.mpr z1] at c
      cases c
    · rename_i c
      have hd : AllDigits (tl F) := all_figures.mp (by simpa using c)
      obtain ⟨a, ha, hat⟩ := fig_first c0
      (with_reducible conv => whnf)
      refine ⟨by rw [sizeLine_eq]; omega, ?_⟩
      rw [hat]
      (with_reducible conv => whnf)
      split
      · rename_i c1
        simp only [sel, decide_eq_true_eq, one_zero] at c1
        (with_reducible conv => whnf)
        split
        · rename_i c2
          (with_reducible conv => whnf)
          refine ⟨_, MSub.refl _, h2 fun z => ?_⟩
          rcases (numS_iff.mp z).2.2 with z1 | z1
          · simp only [sel, Bool.not_eq_true', decide_eq_false_iff_not] at c2
            exact c2 (ext_tl (by rw [z1, tl_zero]))
          · rw [← hF, ha, c1] at z1
            exact z1 rfl
        · rename_i c2
          simp only [sel, Bool.not_eq_false', decide_eq_true_eq] at c2
          (with_reducible conv => whnf)
          have e : x = numS 0 := by rw [c2]; exact ext_tl (by rw [tl_zero, tl_int]; rfl)
          rw [e, intText_num (by decide)]
          (with_reducible conv => whnf)
          exact ⟨by decide, _, MSub.refl _, h1 0 e⟩
      · rename_i c1
        simp only [sel, decide_eq_false_iff_not, one_zero] at c1
        (with_reducible conv => whnf)
        obtain ⟨n, e⟩ := numS_iff.mpr (show PlainL (tl x) from ⟨(by rw [← hF]; intro z; rw [z] at ha; cases ha), by rw [← hF]; exact hd, .inr (by rw [← hF, ha]; simpa using c1)⟩)
        rw [e, intText_num (by rw [← e]; omega)]
        (with_reducible conv => whnf)
        exact ⟨by rw [← e]; exact hl, _, MSub.refl _, h1 n e⟩
theorem p_read_integer : ∀ ds μ Q E, sp_read_integer ds μ Q E → r_read_integer (exitD Q) (startE 3 ds) μ (exitX E) := by
  rintro ds μ Q E ⟨x, rfl, hl, h1, h2⟩
  show r_read_integer (exitD Q) [some (.str x), none, none] μ (exitX E)
  unfold r_read_integer
  (with_reducible conv => whnf)
  refine ⟨by rw [sizeLine_eq]; omega, ?_⟩
  (with_reducible conv => whnf)
  split
  · rename_i c
    simp only [sel, decide_eq_true_eq] at c
    (with_reducible conv => whnf)
    refine ⟨by rw [sizeLine_eq]; omega, ?_⟩
    (with_reducible conv => whnf)
    exact pt_read_integer hl (fig_yes c) h1 h2
  · rename_i c
    simp only [sel, decide_eq_false_iff_not] at c
    (with_reducible conv => whnf)
    exact pt_read_integer hl (fig_no c) h1 h2
theorem len_app (x y : Str) : (x ++ y).length = x.length + y.length := by rw [len_tl, len_tl, len_tl, tl_append, List.length_append]
theorem len_empty : Str.empty.length = 0 := rfl
theorem tl_slash : tl ("/" : Str) = [47] := by decide +kernel
theorem len_slash : ("/" : Str).length = 1 := by rw [len_tl, tl_slash] <;> rfl
def ratS (n m : Int) : Str := if m = 1 then numS n else numS n ++ "/" ++ numS m
abbrev sp_ratio_text : SpecD := fun ds μ Q _ => ∃ n m : Int, ds = [.tup [.int n, .int m]] ∧ n.natAbs < 2 ^ 1000 ∧ m.natAbs < 2 ^ 1000 ∧ Q (.str (ratS n m)) μ
abbrev N_ratio_text : List Str := ["one"]
abbrev ps_ratio_text : List Str := ["one"]
theorem sc_ratio_text : FnScope N_ratio_text ps_ratio_text (defScope (top 10)) := ⟨rfl, rfl, rfl, by decide +kernel, rfl, by decide +kernel, by decide +kernel⟩
def r_ratio_text : RS1 := rRet (rIf (rTst (rOp (oEq false) (rOp oIx (rVar 0) (rC (.int 1))) (rC (.int 1)))) (rCl oStr (rCons (rOp oIx (rVar 0) (rC (.int 0))) (rNil))) (rJoined [rUn oFmt (rOp oIx (rVar 0) (rC (.int 0))), rC (.str "/"), rUn oFmt (rOp oIx (rVar 0) (rC (.int 1)))]))
theorem b_ratio_text {P : Program} {w : World} {S : Sg} {mg : Str → Option Value} {base : Heap} {f : Addr} {cdv : Value} {A : Around} {outer : List PySem.Env} {s : Shared} {H : Hp} {E : XK} (fx : Fx S mg) (hr : Room 0 (A.deeper (PyProof.Rows.envOfC "ratio_text" (defScope (top 10)) s.heap.objs.size f cdv)))
    (tk : Takes (cxOf (L2.CX P w) P w S.K mg base N_ratio_text "ratio_text" (defScope (top 10)) f cdv A outer s H E) (fun cls d _ H => E cls d H)) : PDB S (cxOf (L2.CX P w) P w S.K mg base N_ratio_text "ratio_text" (defScope (top 10)) f cdv A outer s H E) (fun cls d _ H => E cls d H) (defBody (top 10)) r_ratio_text :=
  by delta r_ratio_text; exact ds_one (ds_ret (d_if (dt_eq hr.units (d_idx (dv 0) (d_int)) (d_int)) (d_tostr rfl fx.b_str (da_cons (d_idx (dv 0) (d_int)) (da_nil))) (d_joined (.cons (d_fmt (d_idx (dv 0) (d_int))) (.cons (d_str) (.cons (d_fmt (d_idx (dv 0) (d_int))) (.nil)))))))
theorem fn_ratio_text {P : Program} {w : World} {S : Sg} {mg : Str → Option Value} {base : Heap} {f : Addr} {fd : FuncData} (fx : Fx S mg) (F : FunD S.K "ratio_text" "ratio_text" (defArgs (top 10)) (defBody (top 10)) (defScope (top 10)) [] [] f fd)
    (len : ∀ ds μ Q E, sp_ratio_text ds μ Q E → ds.length = ps_ratio_text.length) (pure_ : ∀ ds μ Q E, sp_ratio_text ds μ Q E → r_ratio_text (exitD Q) (startE 1 ds) μ (exitX E)) : FnOk P w S.K mg base (L2.CX P w) 1 f fd ps_ratio_text (toSp S sp_ratio_text) :=
  fn_okD F sc_ratio_text 1 rfl len (fun cdv A outer s H E hr tk => b_ratio_text fx hr tk) pure_
theorem ok_ratio_text {P : Program} {w : World} {S : Sg} {mg : Str → Option Value} {base : Heap} {f : Addr} {fd : FuncData} (fx : Fx S mg) (F : FunD S.K "ratio_text" "ratio_text" (defArgs (top 10)) (defBody (top 10)) (defScope (top 10)) [] [] f fd) (g : mg "ratio_text" = some (.ref f))
    (len : ∀ ds μ Q E, sp_ratio_text ds μ Q E → ds.length = ps_ratio_text.length) (pure_ : ∀ ds μ Q E, sp_ratio_text ds μ Q E → r_ratio_text (exitD Q) (startE 1 ds) μ (exitX E)) : OkFn P w S mg base "ratio_text" 1 ps_ratio_text sp_ratio_text :=
  ⟨f, fd, g, F.kp, F.bindsN (ps := ps_ratio_text) (fun _ _ _ _ _ _ us hl => match us, hl with | [_], _ => rfl), fn_ratio_text fx F len pure_⟩
theorem num_fits {n : Int} (h : n.natAbs < 2 ^ 1000) : n.natAbs.log2 < 1920 ∧ (Str.ofString (toString n)).length ≤ 400 := by
  refine ⟨Nat.lt_of_lt_of_le (PySem.Flt.log2_lt_of (by decide) h) (by decide), ?_⟩
  rw [show (Str.ofString (toString n)).length = _ from numS_len n]
  have := intL_len (n := n) (k := 302) (by decide) (Nat.lt_trans h (by decide +kernel))
  omega
theorem p_ratio_text : ∀ ds μ Q E, sp_ratio_text ds μ Q E → r_ratio_text (exitD Q) (startE 1 ds) μ (exitX E) := by
  rintro ds μ Q E ⟨n, m, rfl, h1, h2, h⟩
  show r_ratio_text (exitD Q) [some (.tup [.int n, .int m])] μ (exitX E)
  unfold r_ratio_text
  obtain ⟨a1, a2⟩ := num_fits h1
  obtain ⟨b1, b2⟩ := num_fits h2
  ((try with_reducible conv => whnf); repeat (simp only [List.isEmpty_cons, List.isEmpty_nil, Bool.not_true, Bool.not_false, seqOf_lst, seqA_lst, seqA_tup, seqA_kst, seqOf_mset, seqA_mset, mset_same, mset_mset, atI_0, atI_1, atI_2, atI_3, atI_4, atI_5, putI_0, putI_1, putI_2, putI_3, putI_4]; with_reducible conv => whnf))
  split
  · rename_i c
    simp only [sel, decide_eq_true_eq] at c
    ((try with_reducible conv => whnf); repeat (simp only [List.isEmpty_cons, List.isEmpty_nil, Bool.not_true, Bool.not_false, seqOf_lst, seqA_lst, seqA_tup, seqA_kst, seqOf_mset, seqA_mset, mset_same, mset_mset, atI_0, atI_1, atI_2, atI_3, atI_4, atI_5, putI_0, putI_1, putI_2, putI_3, putI_4]; with_reducible conv => whnf))
    refine ⟨a1, _, MSub.refl _, ?_⟩
    rw [ratS, if_pos c] at h
    exact h
  · rename_i c
    simp only [sel, decide_eq_false_iff_not] at c
    ((try with_reducible conv => whnf); repeat (simp only [List.isEmpty_cons, List.isEmpty_nil, Bool.not_true, Bool.not_false, seqOf_lst, seqA_lst, seqA_tup, seqA_kst, seqOf_mset, seqA_mset, mset_same, mset_mset, atI_0, atI_1, atI_2, atI_3, atI_4, atI_5, putI_0, putI_1, putI_2, putI_3, putI_4]; with_reducible conv => whnf))
    refine ⟨a1, by rw [len_app, sizeLine_eq, len_empty]; omega, ?_⟩
    (with_reducible conv => whnf)
    refine ⟨by rw [len_app, len_app, sizeLine_eq, len_empty, len_slash]; omega, ?_⟩
    ((try with_reducible conv => whnf); repeat (simp only [List.isEmpty_cons, List.isEmpty_nil, Bool.not_true, Bool.not_false, seqOf_lst, seqA_lst, seqA_tup, seqA_kst, seqOf_mset, seqA_mset, mset_same, mset_mset, atI_0, atI_1, atI_2, atI_3, atI_4, atI_5, putI_0, putI_1, putI_2, putI_3, putI_4]; with_reducible conv => whnf))
    refine ⟨b1, by rw [len_app, len_app, len_app, sizeLine_eq, len_empty, len_slash]; omega, _, MSub.refl _, ?_⟩
    rw [ratS, if_neg c] at h
    have e : Str.empty ++ numS n ++ ("/" : Str) ++ numS m = numS n ++ "/" ++ numS m := ext_tl (by simp only [tl_append]; rfl)
    rw [e]
    exact h
theorem digitsVal_lt : ∀ (k : Nat) (l : List Nat), l.length = k → AllDigits l → digitsVal l < 10 ^ k
  | 0, l, hk, _ => by rw [List.length_eq_zero_iff.mp hk]; decide
  | k + 1, l, hk, h => by
    have hne : l ≠ [] := fun z => by rw [z] at hk; cases hk
    obtain ⟨i, c, rfl⟩ : ∃ i c, l = i ++ [c] := ⟨l.dropLast, l.getLast hne, (List.dropLast_concat_getLast hne).symm⟩
    have hc := h c (by simp)
    have ih := digitsVal_lt k i (by simpa using hk) fun x hx => h x (List.mem_append_left _ hx)
    rw [digVal_snoc, Nat.pow_succ]
    omega
theorem num_small {n : Int} (h : (numS n).length ≤ 60) : n.natAbs < 2 ^ 300 := by
  rw [numS_len] at h
  have h2 : (numL n.natAbs).length ≤ 60 := by
    unfold intL at h
    split at h
    · simp at h; omega
    · exact h
  have := digitsVal_lt _ _ rfl (numL_digits n.natAbs)
  rw [numL_val] at this
  have h3 : 10 ^ (numL n.natAbs).length ≤ 10 ^ 60 := Nat.pow_le_pow_right (by decide) h2
  exact Nat.lt_of_lt_of_le this (Nat.le_trans h3 (by decide +kernel))
/-- what a text of a ratio stands for -/
def IsDue (x : Str) (n m : Int) : Prop := x.length ≤ 60 ∧ ((m = 1 ∧ Txt.split x "/" = [numS n]) ∨ (2 ≤ m ∧ Int.gcd n m = 1 ∧ Txt.split x "/" = [numS n, numS m]))
theorem slash_free (n : Int) : 47 ∉ tl (numS n) := by rw [tl_int]; exact intL_free (by decide) (by decide)
theorem of_split {x : Str} {l : List Str} (h : Txt.split x "/" = l) : Str.join "/" l = x := by rw [← h]; exact PySem.StrLaws.join_split x "/"
open Classical in
noncomputable def rdI (p : Str) : D := if h : ∃ n, p = numS n then .int h.choose else .non
theorem rdI_num (n : Int) : rdI (numS n) = .int n := by
  unfold rdI
  have h : ∃ k, numS n = numS k := ⟨n, rfl⟩
  rw [dif_pos h, ← numS_inj h.choose_spec]
theorem rdI_non {p : Str} (h : ¬ ∃ n, p = numS n) : rdI p = .non := by unfold rdI; rw [dif_neg h]
end K13
namespace K13
open PySem PySem.Spec PyProof.Rows L2 DL TX TL NumText
abbrev sp_read_ratio : SpecD := fun ds μ Q E => ∃ x : Str, ds = [.str x] ∧ x.length ≤ 100000 ∧ (∀ n m, IsDue x n m → Q (.tup [.int n, .int m]) μ) ∧ ((¬ ∃ n m, IsDue x n m) → E "BadText" [] [] μ)
abbrev N_read_ratio : List Str := ["text", "top", "rest", "bottom", "word"]
abbrev ps_read_ratio : List Str := ["text"]
theorem sc_read_ratio : FnScope N_read_ratio ps_read_ratio (defScope (top 11)) := ⟨rfl, rfl, rfl, by decide +kernel, rfl, by decide +kernel, by decide +kernel⟩
def rt_read_ratio_1 : RS1 := rSeq (rIfS (rOrT (rTst (rOp (oC fun i j => decide (j < i)) (rCl oLen (rCons (rVar 2) (rNil))) (rC (.int 1)))) (rOrT (rTst (rOp (oIsN false) (rVar 1) (rC .non))) (rOrT (rTst (rOp (oIsN false) (rVar 3) (rC .non))) (rOrT (rTst (rOp (oC fun i j => decide (i < j)) (rVar 3) (rC (.int 1)))) (rTst (rOp (oEq true) (rCall sp_ratio_text [] (rCons (rCall sp_ratio [] (rCons (rVar 1) (rCons (rVar 3) (rNil)))) (rNil))) (rVar 0))))))) (rRaise0 "BadText") (rNext)) (rRet (rTup (rCons (rVar 1) (rCons (rVar 3) (rNil)))))
def r_read_ratio : RS1 := rSeq (rIfS (rTst (rOp (oC fun i j => decide (j < i)) (rCl oLen (rCons (rVar 0) (rNil))) (rC (.int 60)))) (rRaise0 "BadText") (rNext)) (rSeq (rAsg (rLc false (rIL (rSM oSplit (rVar 0) (rC (.str "/")))) (.nm 4) (rYes) (rCall sp_read_integer [] (rCons (rVar 4) (rNil))) [4]) (gSt false 1 (gCn (gNm 1) (gCn (gNm 2) gNl)))) (rSeq (rAsg (rIf (rTru (rVar 2)) (rOp oIx (rVar 2) (rC (.int 0))) (rC (.int 1))) (gNm 3)) (rt_read_ratio_1)))
theorem b_read_ratio {P : Program} {w : World} {S : Sg} {mg : Str → Option Value} {base : Heap} {f : Addr} {cdv : Value} {A : Around} {outer : List PySem.Env} {s : Shared} {H : Hp} {E : XK} (fx : Fx S mg) (h_ratio : OkFn P w S mg base "ratio" 2 ps_ratio sp_ratio) (h_ratio_text : OkFn P w S mg base "ratio_text" 1 ps_ratio_text sp_ratio_text) (h_read_integer : OkFn P w S mg base "read_integer" 1 ps_read_integer sp_read_integer) (hr : Room 2 (A.deeper (PyProof.Rows.envOfC "read_ratio" (defScope (top 11)) s.heap.objs.size f cdv)))
    (tk : Takes (cxOf (L2.CX P w) P w S.K mg base N_read_ratio "read_ratio" (defScope (top 11)) f cdv A outer s H E) (fun cls d _ H => E cls d H)) : PDB S (cxOf (L2.CX P w) P w S.K mg base N_read_ratio "read_ratio" (defScope (top 11)) f cdv A outer s H E) (fun cls d _ H => E cls d H) (defBody (top 11)) r_read_ratio :=
  by delta r_read_ratio rt_read_ratio_1; exact ds_cons (ds_if (dt_gt (d_len rfl fx.b_len (da_cons (dv 0) (da_nil))) (d_gint rfl fx.c_LONGEST_TEXT)) (ds_one (ds_raise0 (x := "BadText") rfl tk (fx.x_BadText rfl rfl rfl))) (ds_nil)) (ds_cons (ds_asg (d_lc false (.nm 4) rfl sc_read_ratio.nd (di_list (d_split (dv 0) (d_str))) (ok := (show BlkOk N_read_ratio (defScope (top 11)) _ _ from ⟨rfl, by decide +kernel, by decide +kernel, by decide +kernel, by decide +kernel⟩)) (own := [("word", 4)]) (fun _ _ _ _ _ => pg_name sc_read_ratio.nd rfl (by first | exact Or.inl rfl | exact Or.inr rfl) (by first | exact Or.inl rfl | exact Or.inr rfl)) (fun _ _ _ _ _ => dts_nil) (fun _ _ _ _ _ => d_callO h_read_integer (hr.mono (by decide)) rfl takes_none5 (da_cons (dv 4) (da_nil)))) (dg_star false 1 rfl (dgs_cons (dg_name (i := 1) sc_read_ratio.nd rfl (by first | exact Or.inl rfl | exact Or.inr rfl) (by first | exact Or.inl rfl | exact Or.inr rfl)) (dgs_star (dg_name (i := 2) sc_read_ratio.nd rfl (by first | exact Or.inl rfl | exact Or.inr rfl) (by first | exact Or.inl rfl | exact Or.inr rfl)))))) (ds_cons (ds_set (i := 3) sc_read_ratio.nd rfl (by first | exact Or.inl rfl | exact Or.inr rfl) (d_if (dt_tru (dv 2)) (d_idx (dv 2) (d_int)) (d_int))) (ds_cons (ds_if (dt_w (dw_or (dt_gt (d_len rfl fx.b_len (da_cons (dv 2) (da_nil))) (d_int)) (dw_or (dt_is (dv 1) (d_non)) (dw_or (dt_is (dv 3) (d_non)) (dw_or (dt_lt (dv 3) (d_int)) (dw_or1 (dt_ne hr.units (d_callO h_ratio_text (hr.mono (by decide)) rfl tk (da_cons (d_callO h_ratio (hr.mono (by decide)) rfl tk (da_cons (dv 1) (da_cons (dv 3) (da_nil)))) (da_nil))) (dv 0)))))))) (ds_one (ds_raise0 (x := "BadText") rfl tk (fx.x_BadText rfl rfl rfl))) (ds_nil)) (ds_one (ds_ret (d_tup (da_cons (dv 1) (da_cons (dv 3) (da_nil)))))))))
theorem fn_read_ratio {P : Program} {w : World} {S : Sg} {mg : Str → Option Value} {base : Heap} {f : Addr} {fd : FuncData} (fx : Fx S mg) (h_ratio : OkFn P w S mg base "ratio" 2 ps_ratio sp_ratio) (h_ratio_text : OkFn P w S mg base "ratio_text" 1 ps_ratio_text sp_ratio_text) (h_read_integer : OkFn P w S mg base "read_integer" 1 ps_read_integer sp_read_integer) (F : FunD S.K "read_ratio" "read_ratio" (defArgs (top 11)) (defBody (top 11)) (defScope (top 11)) [] [] f fd)
    (len : ∀ ds μ Q E, sp_read_ratio ds μ Q E → ds.length = ps_read_ratio.length) (pure_ : ∀ ds μ Q E, sp_read_ratio ds μ Q E → r_read_ratio (exitD Q) (startE 5 ds) μ (exitX E)) : FnOk P w S.K mg base (L2.CX P w) 3 f fd ps_read_ratio (toSp S sp_read_ratio) :=
  fn_okD F sc_read_ratio 5 rfl len (fun cdv A outer s H E hr tk => b_read_ratio fx h_ratio h_ratio_text h_read_integer hr tk) pure_
theorem ok_read_ratio {P : Program} {w : World} {S : Sg} {mg : Str → Option Value} {base : Heap} {f : Addr} {fd : FuncData} (fx : Fx S mg) (h_ratio : OkFn P w S mg base "ratio" 2 ps_ratio sp_ratio) (h_ratio_text : OkFn P w S mg base "ratio_text" 1 ps_ratio_text sp_ratio_text) (h_read_integer : OkFn P w S mg base "read_integer" 1 ps_read_integer sp_read_integer) (F : FunD S.K "read_ratio" "read_ratio" (defArgs (top 11)) (defBody (top 11)) (defScope (top 11)) [] [] f fd) (g : mg "read_ratio" = some (.ref f))
    (len : ∀ ds μ Q E, sp_read_ratio ds μ Q E → ds.length = ps_read_ratio.length) (pure_ : ∀ ds μ Q E, sp_read_ratio ds μ Q E → r_read_ratio (exitD Q) (startE 5 ds) μ (exitX E)) : OkFn P w S mg base "read_ratio" 3 ps_read_ratio sp_read_ratio :=
  ⟨f, fd, g, F.kp, F.bindsN (ps := ps_read_ratio) (fun _ _ _ _ _ _ us hl => match us, hl with | [_], _ => rfl), fn_read_ratio fx h_ratio h_ratio_text h_read_integer F len pure_⟩
noncomputable def rdD : D → D
  | .str p => rdI p
  | _ => .non
theorem rdD_str (p : Str) : rdD (.str p) = rdI p := rfl
theorem pt_long {x : Str} {T B : D} {R : List D} {μ : Mu} {Q : DQ} {E : EX} (h : 1 < R.length) (h2 : E "BadText" [] [] μ) : rt_read_ratio_1 (exitD Q) [some (.str x), some T, some (.lst R), some B, none] μ (exitX E) := by
  unfold rt_read_ratio_1
  ((try with_reducible conv => whnf); repeat (simp only [List.isEmpty_cons, List.isEmpty_nil, Bool.not_true, Bool.not_false, seqOf_lst, seqA_lst, seqA_tup, seqA_kst, seqOf_mset, seqA_mset, mset_same, mset_mset, atI_0, atI_1, atI_2, atI_3, atI_4, atI_5, putI_0, putI_1, putI_2, putI_3, putI_4]; with_reducible conv => whnf))
  split
  · (with_reducible conv => whnf)
    exact ⟨_, MSub.refl _, h2⟩
  · rename_i c
    simp only [decide_eq_false_iff_not] at c
    omega
theorem pt_top {x : Str} {B : D} {R : List D} {μ : Mu} {Q : DQ} {E : EX} (h2 : E "BadText" [] [] μ) : rt_read_ratio_1 (exitD Q) [some (.str x), some .non, some (.lst R), some B, none] μ (exitX E) := by
  unfold rt_read_ratio_1
  ((try with_reducible conv => whnf); repeat (simp only [List.isEmpty_cons, List.isEmpty_nil, Bool.not_true, Bool.not_false, seqOf_lst, seqA_lst, seqA_tup, seqA_kst, seqOf_mset, seqA_mset, mset_same, mset_mset, atI_0, atI_1, atI_2, atI_3, atI_4, atI_5, putI_0, putI_1, putI_2, putI_3, putI_4]; with_reducible conv => whnf))
  split
  · (with_reducible conv => whnf)
    exact ⟨_, MSub.refl _, h2⟩
  · (with_reducible conv => whnf)
    exact ⟨_, MSub.refl _, h2⟩
theorem pt_bot {x : Str} {n : Int} {R : List D} {μ : Mu} {Q : DQ} {E : EX} (h2 : E "BadText" [] [] μ) : rt_read_ratio_1 (exitD Q) [some (.str x), some (.int n), some (.lst R), some .non, none] μ (exitX E) := by
  unfold rt_read_ratio_1
  ((try with_reducible conv => whnf); repeat (simp only [List.isEmpty_cons, List.isEmpty_nil, Bool.not_true, Bool.not_false, seqOf_lst, seqA_lst, seqA_tup, seqA_kst, seqOf_mset, seqA_mset, mset_same, mset_mset, atI_0, atI_1, atI_2, atI_3, atI_4, atI_5, putI_0, putI_1, putI_2, putI_3, putI_4]; with_reducible conv => whnf))
  split
  · (with_reducible conv => whnf)
    exact ⟨_, MSub.refl _, h2⟩
  · (with_reducible conv => whnf)
    exact ⟨_, MSub.refl _, h2⟩
theorem pt_num {x : Str} {n m : Int} {R : List D} {μ : Mu} {Q : DQ} {E : EX} (hR : R.length ≤ 1) (hn : n.natAbs < 2 ^ 300) (hm : m.natAbs < 2 ^ 300) (h1 : 1 ≤ m → ratS (n / (Int.gcd n m : Int)) (m / (Int.gcd n m : Int)) = x → Q (.tup [.int n, .int m]) μ)
    (h2 : (1 ≤ m → ratS (n / (Int.gcd n m : Int)) (m / (Int.gcd n m : Int)) ≠ x) → E "BadText" [] [] μ) : rt_read_ratio_1 (exitD Q) [some (.str x), some (.int n), some (.lst R), some (.int m), none] μ (exitX E) := by
  unfold rt_read_ratio_1
  ((try with_reducible conv => whnf); repeat (simp only [List.isEmpty_cons, List.isEmpty_nil, Bool.not_true, Bool.not_false, seqOf_lst, seqA_lst, seqA_tup, seqA_kst, seqOf_mset, seqA_mset, mset_same, mset_mset, atI_0, atI_1, atI_2, atI_3, atI_4, atI_5, putI_0, putI_1, putI_2, putI_3, putI_4]; with_reducible conv => whnf))
  split
  · rename_i c
    simp only [decide_eq_true_eq] at c
    omega
  (with_reducible conv => whnf)
  split
  · rename_i c
    simp only [decide_eq_true_eq] at c
    (with_reducible conv => whnf)
    exact ⟨_, MSub.refl _, h2 fun z => by omega⟩
  rename_i c
  simp only [decide_eq_false_iff_not] at c
  have hm1 : 1 ≤ m := by omega
  obtain ⟨g1, g2⟩ := gcd_pos (a := n) hm1
  (with_reducible conv => whnf)
  refine ⟨_, _, rfl, hm1, by omega, _, _, rfl, ?_, ?_, ?_⟩
  · exact Nat.lt_of_le_of_lt (Int.natAbs_ediv_le_natAbs ..) (Nat.lt_trans hn (by decide))
  · exact Nat.lt_of_le_of_lt (Int.natAbs_ediv_le_natAbs ..) (Nat.lt_trans hm (by decide))
  (with_reducible conv => whnf)
  split
  · rename_i c
    simp only [sel, Bool.not_eq_true', decide_eq_false_iff_not] at c
    (with_reducible conv => whnf)
    exact ⟨_, MSub.refl _, h2 fun _ => c⟩
  · rename_i c
    simp only [sel, Bool.not_eq_false', decide_eq_true_eq] at c
    (with_reducible conv => whnf)
    refine ⟨(by simp only [List.length_cons, List.length_nil, List.length_append, List.length_map, sizeLine_eq]; omega), ?_⟩
    (with_reducible conv => whnf)
    exact ⟨_, MSub.refl _, h1 hm1 c⟩
theorem p_read_ratio : ∀ ds μ Q E, sp_read_ratio ds μ Q E → r_read_ratio (exitD Q) (startE 5 ds) μ (exitX E) := by
  rintro ds μ Q E ⟨x, rfl, hl, h1, h2⟩
  show r_read_ratio (exitD Q) [some (.str x), none, none, none, none] μ (exitX E)
  unfold r_read_ratio
  (with_reducible conv => whnf)
  refine ⟨by rw [sizeLine_eq]; omega, ?_⟩
  (with_reducible conv => whnf)
  split
  · rename_i c
    simp only [decide_eq_true_eq] at c
    (with_reducible conv => whnf)
    exact ⟨_, MSub.refl _, h2 fun ⟨n, m, z⟩ => by have := z.1; omega⟩
  rename_i c
  simp only [decide_eq_false_iff_not] at c
  (with_reducible conv => whnf)
  have hs := PyProof.Rows.split_le x "/"
  refine ⟨⟨by rw [len_slash]; rfl, by rw [sizeLine_eq]; omega⟩, by rw [sizeLine_eq]; omega, ?_⟩
  (with_reducible conv => whnf)
  refine ⟨by rw [List.length_map, sizeLine_eq]; omega, mapL_map (f := rdD) (fun d hd K hK => ?_) trivial ?_⟩
  · obtain ⟨p, hp, rfl⟩ := List.mem_map.mp hd
    have hpl := PyProof.Rows.part_short hp
    (with_reducible conv => whnf)
    refine ⟨p, rfl, by omega, fun n e => ?_, fun e => ?_⟩
    · have hK' : K (rdI p) μ := hK
      rw [e, rdI_num] at hK'
      exact hK'
    · have hK' : K (rdI p) μ := hK
      rw [rdI_non e] at hK'
      exact hK'
  (with_reducible conv => whnf)
  ((try with_reducible conv => whnf); repeat (simp only [List.isEmpty_cons, List.isEmpty_nil, Bool.not_true, Bool.not_false, seqOf_lst, seqA_lst, seqA_tup, seqA_kst, seqOf_mset, seqA_mset, mset_same, mset_mset, atI_0, atI_1, atI_2, atI_3, atI_4, atI_5, putI_0, putI_1, putI_2, putI_3, putI_4]; with_reducible conv => whnf))
  have hp := PyProof.Rows.split_pos x "/"
  cases hsp : Txt.split x "/" with
  | nil => rw [hsp] at hp; simp at hp
  | cons p rest =>
    have hlen : ∀ p ∈ Txt.split x "/", p.length ≤ 60 := fun p hp => by
      have := PyProof.Rows.part_short hp
      omega
    rw [hsp] at hlen
    simp only [List.map_cons, List.take_succ_cons, List.take_zero, List.drop_succ_cons, List.drop_zero, List.cons_append, List.nil_append]
    refine ⟨(by simp only [List.length_cons, List.length_nil, List.length_append, List.length_map, sizeLine_eq]; omega), ?_⟩
    have hx := of_split hsp
    cases rest with
    | nil =>
      have hx1 : p = x := by rw [TX.join_one] at hx; exact hx
      by_cases hpn : ∃ n, p = numS n
      · obtain ⟨n, rfl⟩ := hpn
        have hn := num_small (hlen _ List.mem_cons_self)
        simp only [List.map_nil, rdD_str, rdI_num]
        ((try with_reducible conv => whnf); repeat (simp only [List.isEmpty_cons, List.isEmpty_nil, Bool.not_true, Bool.not_false, seqOf_lst, seqA_lst, seqA_tup, seqA_kst, seqOf_mset, seqA_mset, mset_same, mset_mset, atI_0, atI_1, atI_2, atI_3, atI_4, atI_5, putI_0, putI_1, putI_2, putI_3, putI_4]; with_reducible conv => whnf))
        refine pt_num (n := n) (m := 1) (R := []) (by decide) hn (by decide) (fun _ _ => h1 n 1 ⟨by omega, .inl ⟨rfl, hsp⟩⟩) fun z => absurd ?_ (z (by decide))
        rw [Int.gcd_one_right]
        show ratS (n / 1) (1 / 1) = x
        rw [Int.ediv_one, Int.ediv_one, ratS, if_pos rfl]
        exact hx1
      · simp only [List.map_nil, rdD_str, rdI_non hpn]
        ((try with_reducible conv => whnf); repeat (simp only [List.isEmpty_cons, List.isEmpty_nil, Bool.not_true, Bool.not_false, seqOf_lst, seqA_lst, seqA_tup, seqA_kst, seqOf_mset, seqA_mset, mset_same, mset_mset, atI_0, atI_1, atI_2, atI_3, atI_4, atI_5, putI_0, putI_1, putI_2, putI_3, putI_4]; with_reducible conv => whnf))
        refine pt_top (R := []) (h2 fun ⟨n, m, z⟩ => ?_)
        rcases z.2 with ⟨_, z⟩ | ⟨_, _, z⟩
        · rw [hsp] at z; exact hpn ⟨n, (List.cons.inj z).1⟩
        · rw [hsp] at z; cases (List.cons.inj z).2
    | cons q rest =>
      simp only [List.map_cons, rdD_str]
      ((try with_reducible conv => whnf); repeat (simp only [List.isEmpty_cons, List.isEmpty_nil, Bool.not_true, Bool.not_false, seqOf_lst, seqA_lst, seqA_tup, seqA_kst, seqOf_mset, seqA_mset, mset_same, mset_mset, atI_0, atI_1, atI_2, atI_3, atI_4, atI_5, putI_0, putI_1, putI_2, putI_3, putI_4]; with_reducible conv => whnf))
      cases rest with
      | cons q2 rest =>
        refine pt_long ?_ (h2 fun ⟨n, m, z⟩ => ?_)
        · simp
        rcases z.2 with ⟨_, z⟩ | ⟨_, _, z⟩ <;> rw [hsp] at z <;> simp at z
      | nil =>
        have hx2 : p ++ "/" ++ q = x := by rw [join_two] at hx; exact hx
        by_cases hpn : ∃ n, p = numS n
        · obtain ⟨n, rfl⟩ := hpn
          rw [rdI_num]
          by_cases hqn : ∃ m, q = numS m
          · obtain ⟨m, rfl⟩ := hqn
            rw [rdI_num]
            have hn := num_small (hlen _ List.mem_cons_self)
            have hm := num_small (hlen _ (List.mem_cons_of_mem _ List.mem_cons_self))
            refine pt_num (n := n) (m := m) ?_ hn hm (fun hm1 e => ?_) fun z => h2 fun ⟨n', m', zz⟩ => ?_
            · simp
            · obtain ⟨g1, g2⟩ := gcd_pos (a := n) hm1
              have hgm : m / (Int.gcd n m : Int) ≠ 1 := fun z => by
                rw [ratS, if_pos z] at e
                have := split_one (y := "/") tl_slash (by decide +kernel) (slash_free (n / (Int.gcd n m : Int)))
                rw [e, hsp] at this
                cases (List.cons.inj this).2
              rw [ratS, if_neg hgm] at e
              have e2 := split_two (y := "/") tl_slash (by decide +kernel) (slash_free (n / (Int.gcd n m : Int))) (slash_free (m / (Int.gcd n m : Int)))
              rw [e, hsp] at e2
              have e3 := numS_inj (List.cons.inj (List.cons.inj e2).2).1
              have hg : Int.gcd n m = 1 := by
                have k1 : (Int.gcd n m : Int) * (m / (Int.gcd n m : Int)) = m := Int.mul_ediv_cancel' (Int.gcd_dvd_right ..)
                rw [← e3] at k1
                have : ((Int.gcd n m : Int) - 1) * m = 0 := by rw [Int.sub_mul, k1]; omega
                rcases Int.mul_eq_zero.mp this with w | w <;> omega
              exact h1 n m ⟨by omega, .inr ⟨by rw [hg] at hgm; rw [show ((1 : Nat) : Int) = 1 from rfl, Int.ediv_one] at hgm; omega, hg, hsp⟩⟩
            · rcases zz.2 with ⟨_, w⟩ | ⟨w1, w2, w⟩
              · rw [hsp] at w; cases (List.cons.inj w).2
              · rw [hsp] at w
                have a1 := numS_inj (List.cons.inj w).1
                have a2 := numS_inj (List.cons.inj (List.cons.inj w).2).1
                subst a1 a2
                refine z (by omega) ?_
                rw [w2]
                show ratS (n / 1) (m / 1) = x
                rw [Int.ediv_one, Int.ediv_one, ratS, if_neg (by omega)]
                exact hx2
          · rw [rdI_non hqn]
            refine pt_bot (h2 fun ⟨n, m, z⟩ => ?_)
            rcases z.2 with ⟨_, z⟩ | ⟨_, _, z⟩
            · rw [hsp] at z; cases (List.cons.inj z).2
            · rw [hsp] at z; exact hqn ⟨m, (List.cons.inj (List.cons.inj z).2).1⟩
        · rw [rdI_non hpn]
          refine pt_top (h2 fun ⟨n, m, z⟩ => ?_)
          rcases z.2 with ⟨_, z⟩ | ⟨_, _, z⟩
          · rw [hsp] at z; cases (List.cons.inj z).2
          · rw [hsp] at z; exact hpn ⟨n, (List.cons.inj z).1⟩
def gcdL (ns : List Int) : Nat := ns.foldl (fun g n => Int.gcd n (g : Int)) 0
end K13
namespace K13
open PySem PySem.Spec PyProof.Rows L2 DL TX TL NumText
abbrev sp__law_divisor : SpecD := fun ds μ Q _ => ∃ ns : List Int, ds = [.lst (ns.map D.int)] ∧ Q (.int (gcdL ns)) μ
abbrev N__law_divisor : List Str := ["_law_numbers", "_law_found", "_law_number", "_law_one", "_law_other"]
abbrev ps__law_divisor : List Str := ["_law_numbers"]
theorem sc__law_divisor : FnScope N__law_divisor ps__law_divisor (defScope (top 15)) := ⟨rfl, rfl, rfl, by decide +kernel, rfl, by decide +kernel, by decide +kernel⟩
def r__law_divisor : RS1 := rSeq (rAsg (rC (.int 0)) (gNm 1)) (rSeq (rFor (rIL (rVar 0)) (gNm 2) (rSeq (rAsg (rCl oAbs (rCons (rVar 2) (rNil))) (gNm 3)) (rSeq (rAsg (rVar 1) (gNm 4)) (rSeq (rWhile (rTst (rOp (oEq true) (rVar 4) (rC (.int 0)))) (rPar 3 4 (rCons (rVar 4) (rCons (rOp (oI (fun _ j => 0 < j) fun i j => i % j) (rCl oInt (rCons (rVar 3) (rNil))) (rVar 4)) (rNil))))) (rAsg (rVar 3) (gNm 1)))))) (rRet (rVar 1)))
theorem b__law_divisor {P : Program} {w : World} {S : Sg} {mg : Str → Option Value} {base : Heap} {f : Addr} {cdv : Value} {A : Around} {outer : List PySem.Env} {s : Shared} {H : Hp} {E : XK} (fx : Fx S mg) (hr : Room 0 (A.deeper (PyProof.Rows.envOfC "_law_divisor" (defScope (top 15)) s.heap.objs.size f cdv)))
    (tk : Takes (cxOf (L2.CX P w) P w S.K mg base N__law_divisor "_law_divisor" (defScope (top 15)) f cdv A outer s H E) (fun cls d _ H => E cls d H)) : PDB S (cxOf (L2.CX P w) P w S.K mg base N__law_divisor "_law_divisor" (defScope (top 15)) f cdv A outer s H E) (fun cls d _ H => E cls d H) (defBody (top 15)) r__law_divisor :=
  by delta r__law_divisor; exact ds_cons (ds_set (i := 1) sc__law_divisor.nd rfl (by first | exact Or.inl rfl | exact Or.inr rfl) (d_int)) (ds_cons (ds_for passes_cx rfl (di_list (dv 0)) (dg_name (i := 2) sc__law_divisor.nd rfl (by first | exact Or.inl rfl | exact Or.inr rfl) (by first | exact Or.inl rfl | exact Or.inr rfl)) (ds_cons (ds_set (i := 3) sc__law_divisor.nd rfl (by first | exact Or.inl rfl | exact Or.inr rfl) (d_abs rfl fx.b_abs (da_cons (dv 2) (da_nil)))) (ds_cons (ds_set (i := 4) sc__law_divisor.nd rfl (by first | exact Or.inl rfl | exact Or.inr rfl) (dv 1)) (ds_cons (ds_while passes_cx (dt_ne hr.units (dv 4) (d_int)) (ds_one (ds_par (i := 3) (j := 4) rfl sc__law_divisor.nd rfl rfl (by decide) rfl rfl (da_cons (dv 4) (da_cons (d_mod (d_toint rfl fx.b_int (da_cons (dv 3) (da_nil))) (dv 4)) (da_nil)))))) (ds_one (ds_set (i := 1) sc__law_divisor.nd rfl (by first | exact Or.inl rfl | exact Or.inr rfl) (dv 3))))))) (ds_one (ds_ret (dv 1))))
theorem fn__law_divisor {P : Program} {w : World} {S : Sg} {mg : Str → Option Value} {base : Heap} {f : Addr} {fd : FuncData} (fx : Fx S mg) (F : FunD S.K "_law_divisor" "_law_divisor" (defArgs (top 15)) (defBody (top 15)) (defScope (top 15)) [] [] f fd)
    (len : ∀ ds μ Q E, sp__law_divisor ds μ Q E → ds.length = ps__law_divisor.length) (pure_ : ∀ ds μ Q E, sp__law_divisor ds μ Q E → r__law_divisor (exitD Q) (startE 5 ds) μ (exitX E)) : FnOk P w S.K mg base (L2.CX P w) 1 f fd ps__law_divisor (toSp S sp__law_divisor) :=
  fn_okD F sc__law_divisor 5 rfl len (fun cdv A outer s H E hr tk => b__law_divisor fx hr tk) pure_
theorem ok__law_divisor {P : Program} {w : World} {S : Sg} {mg : Str → Option Value} {base : Heap} {f : Addr} {fd : FuncData} (fx : Fx S mg) (F : FunD S.K "_law_divisor" "_law_divisor" (defArgs (top 15)) (defBody (top 15)) (defScope (top 15)) [] [] f fd) (g : mg "_law_divisor" = some (.ref f))
    (len : ∀ ds μ Q E, sp__law_divisor ds μ Q E → ds.length = ps__law_divisor.length) (pure_ : ∀ ds μ Q E, sp__law_divisor ds μ Q E → r__law_divisor (exitD Q) (startE 5 ds) μ (exitX E)) : OkFn P w S mg base "_law_divisor" 1 ps__law_divisor sp__law_divisor :=
  ⟨f, fd, g, F.kp, F.bindsN (ps := ps__law_divisor) (fun _ _ _ _ _ _ us hl => match us, hl with | [_], _ => rfl), fn__law_divisor fx F len pure_⟩
theorem p__law_divisor : ∀ ds μ Q E, sp__law_divisor ds μ Q E → r__law_divisor (exitD Q) (startE 5 ds) μ (exitX E) := by
  rintro ds μ Q E ⟨ns, rfl, h⟩
  show r__law_divisor (exitD Q) [some (.lst (ns.map .int)), none, none, none, none] μ (exitX E)
  unfold r__law_divisor
  (with_reducible conv => whnf)
  refine forL_inv (fun rest δ μ' => μ' = μ ∧ ∃ (pre post : List Int) (a b c : Option D), rest = post.map D.int ∧ ns = pre ++ post ∧ δ = [some (.lst (ns.map .int)), some (.int (gcdL pre)), a, b, c]) ?_ ?_ ⟨rfl, [], ns, none, none, none, rfl, rfl, rfl⟩
  · rintro d rest δ μ' N _ hN ⟨rfl, pre, post, a, b, c, e1, e2, rfl⟩
    refine ⟨trivial, ?_⟩
    cases post with
    | nil => cases e1
    | cons k post =>
      rw [List.map_cons] at e1
      obtain ⟨rfl, rfl⟩ := List.cons.inj e1
      (with_reducible conv => whnf)
      refine ⟨fun m δ μ2 => ∃ x y : Int, 0 ≤ x ∧ 0 ≤ y ∧ δ = [some (.lst (ns.map .int)), some (.int (gcdL pre)), some (.int k), some (.int x), some (.int y)] ∧ μ2 = μ' ∧ m = y.toNat ∧ Int.gcd x y = Int.gcd k (gcdL pre), ⟨_, _, _, ?_, Int.natCast_nonneg _, rfl, rfl, rfl, ?_⟩, ?_⟩
      · split <;> omega
      · split <;> simp
      rintro m δ μ2 ⟨x, y, hx, hy, rfl, rfl, rfl, hg⟩
      (with_reducible conv => whnf)
      split
      · rename_i c
        simp only [sel, Bool.not_eq_true', decide_eq_false_iff_not] at c
        (with_reducible conv => whnf)
        refine ⟨by omega, ?_⟩
        (with_reducible conv => whnf)
        refine ⟨_, ?_, y, x % y, hy, Int.emod_nonneg _ c, rfl, rfl, rfl, ?_⟩
        · have := Int.emod_lt_of_pos x (show 0 < y by omega)
          have := Int.emod_nonneg x c
          omega
        · rw [← hg]; exact gcd_step hx hy
      · rename_i c
        simp only [sel, Bool.not_eq_false', decide_eq_true_eq] at c
        subst c
        (with_reducible conv => whnf)
        refine hN _ _ ⟨rfl, pre ++ [k], post, some (.int k), some (.int x), some (.int 0), rfl, (by rw [e2]; simp), ?_⟩
        have e : x = ((gcdL (pre ++ [k]) : Nat) : Int) := by
          have e3 : gcdL (pre ++ [k]) = Int.gcd k (gcdL pre) := by unfold gcdL; rw [List.foldl_append]; rfl
          rw [e3, ← hg, Int.gcd_zero_right]
          omega
        rw [← e]
  · rintro δ μ' ⟨rfl, pre, post, a, b, c, e1, e2, rfl⟩
    refine ⟨trivial, ?_⟩
    have : post = [] := List.map_eq_nil_iff.mp e1.symm
    rw [this, List.append_nil] at e2
    subst e2
    (with_reducible conv => whnf)
    exact ⟨_, MSub.refl _, h⟩
theorem gcdL_two (a b : Int) : gcdL [a, b] = Int.gcd a b := by
  show Int.gcd b ((Int.gcd a ((0 : Nat) : Int) : Nat) : Int) = Int.gcd a b
  rw [show ((0 : Nat) : Int) = 0 from rfl, Int.gcd_zero_right, Int.gcd_comm]
  show Nat.gcd (Int.natAbs ((a.natAbs : Nat) : Int)) b.natAbs = Nat.gcd a.natAbs b.natAbs
  rw [Int.natAbs_natCast]
abbrev sp__law_ratio : SpecD := fun ds μ Q _ => ∃ a b : Int, ds = [.int a, .int b] ∧ 1 ≤ b ∧ b < 2 ^ 8000 ∧ Q (.tup [.int (a / (Int.gcd a b : Int)), .int (b / (Int.gcd a b : Int))]) μ
abbrev N__law_ratio : List Str := ["_law_up", "_law_down", "_law_part"]
abbrev ps__law_ratio : List Str := ["_law_up", "_law_down"]
theorem sc__law_ratio : FnScope N__law_ratio ps__law_ratio (defScope (top 16)) := ⟨rfl, rfl, rfl, by decide +kernel, rfl, by decide +kernel, by decide +kernel⟩
def r__law_ratio : RS1 := rSeq (rAsg (rCall sp__law_divisor [] (rCons (rLst (rCons (rVar 0) (rCons (rVar 1) (rNil)))) (rNil))) (gNm 2)) (rSeq (rIfS (rTst (rOp (oC fun i j => decide (i < j)) (rVar 1) (rC (.int 0)))) (rNever) (rNext)) (rRet (rTup (rCons (rOp (oI CDivW fun i j => i / j) (rVar 0) (rVar 2)) (rCons (rOp (oI CDivW fun i j => i / j) (rVar 1) (rVar 2)) (rNil))))))
theorem b__law_ratio {P : Program} {w : World} {S : Sg} {mg : Str → Option Value} {base : Heap} {f : Addr} {cdv : Value} {A : Around} {outer : List PySem.Env} {s : Shared} {H : Hp} {E : XK} (fx : Fx S mg) (h__law_divisor : OkFn P w S mg base "_law_divisor" 1 ps__law_divisor sp__law_divisor) (hr : Room 1 (A.deeper (PyProof.Rows.envOfC "_law_ratio" (defScope (top 16)) s.heap.objs.size f cdv)))
    (tk : Takes (cxOf (L2.CX P w) P w S.K mg base N__law_ratio "_law_ratio" (defScope (top 16)) f cdv A outer s H E) (fun cls d _ H => E cls d H)) : PDB S (cxOf (L2.CX P w) P w S.K mg base N__law_ratio "_law_ratio" (defScope (top 16)) f cdv A outer s H E) (fun cls d _ H => E cls d H) (defBody (top 16)) r__law_ratio :=
  by delta r__law_ratio; exact ds_cons (ds_set (i := 2) sc__law_ratio.nd rfl (by first | exact Or.inl rfl | exact Or.inr rfl) (d_callO h__law_divisor (hr.mono (by decide)) rfl tk (da_cons (d_lst (da_cons (dv 0) (da_cons (dv 1) (da_nil)))) (da_nil)))) (ds_cons (ds_if (dt_lt (dv 1) (d_int)) (ds_one (ds_never)) (ds_nil)) (ds_one (ds_ret (d_tup (da_cons (d_fdiv (dv 0) (dv 2)) (da_cons (d_fdiv (dv 1) (dv 2)) (da_nil)))))))
theorem fn__law_ratio {P : Program} {w : World} {S : Sg} {mg : Str → Option Value} {base : Heap} {f : Addr} {fd : FuncData} (fx : Fx S mg) (h__law_divisor : OkFn P w S mg base "_law_divisor" 1 ps__law_divisor sp__law_divisor) (F : FunD S.K "_law_ratio" "_law_ratio" (defArgs (top 16)) (defBody (top 16)) (defScope (top 16)) [] [] f fd)
    (len : ∀ ds μ Q E, sp__law_ratio ds μ Q E → ds.length = ps__law_ratio.length) (pure_ : ∀ ds μ Q E, sp__law_ratio ds μ Q E → r__law_ratio (exitD Q) (startE 3 ds) μ (exitX E)) : FnOk P w S.K mg base (L2.CX P w) 2 f fd ps__law_ratio (toSp S sp__law_ratio) :=
  fn_okD F sc__law_ratio 3 rfl len (fun cdv A outer s H E hr tk => b__law_ratio fx h__law_divisor hr tk) pure_
theorem ok__law_ratio {P : Program} {w : World} {S : Sg} {mg : Str → Option Value} {base : Heap} {f : Addr} {fd : FuncData} (fx : Fx S mg) (h__law_divisor : OkFn P w S mg base "_law_divisor" 1 ps__law_divisor sp__law_divisor) (F : FunD S.K "_law_ratio" "_law_ratio" (defArgs (top 16)) (defBody (top 16)) (defScope (top 16)) [] [] f fd) (g : mg "_law_ratio" = some (.ref f))
    (len : ∀ ds μ Q E, sp__law_ratio ds μ Q E → ds.length = ps__law_ratio.length) (pure_ : ∀ ds μ Q E, sp__law_ratio ds μ Q E → r__law_ratio (exitD Q) (startE 3 ds) μ (exitX E)) : OkFn P w S mg base "_law_ratio" 2 ps__law_ratio sp__law_ratio :=
  ⟨f, fd, g, F.kp, F.bindsN (ps := ps__law_ratio) (fun _ _ _ _ _ _ us hl => match us, hl with | [_, _], _ => rfl), fn__law_ratio fx h__law_divisor F len pure_⟩
theorem p__law_ratio : ∀ ds μ Q E, sp__law_ratio ds μ Q E → r__law_ratio (exitD Q) (startE 3 ds) μ (exitX E) := by
  rintro ds μ Q E ⟨a, b, rfl, h1, h2, h⟩
  show r__law_ratio (exitD Q) [some (.int a), some (.int b), none] μ (exitX E)
  unfold r__law_ratio
  obtain ⟨g1, g2⟩ := gcd_pos (a := a) h1
  (with_reducible conv => whnf)
  refine ⟨(by simp only [List.length_cons, List.length_nil, List.length_append, List.length_map, sizeLine_eq]; omega), ?_⟩
  (with_reducible conv => whnf)
  refine ⟨[a, b], rfl, ?_⟩
  rw [gcdL_two]
  (with_reducible conv => whnf)
  split
  · rename_i c
    simp only [decide_eq_true_eq] at c
    omega
  (with_reducible conv => whnf)
  refine ⟨wide_div (b := 8000) g1 (by omega) (by decide) (by decide), ?_⟩
  (with_reducible conv => whnf)
  refine ⟨wide_div (b := 8000) g1 (by omega) (by decide) (by decide), ?_⟩
  (with_reducible conv => whnf)
  refine ⟨(by simp only [List.length_cons, List.length_nil, List.length_append, List.length_map, sizeLine_eq]; omega), ?_⟩
  (with_reducible conv => whnf)
  exact ⟨_, MSub.refl _, h⟩
abbrev sp__law_plain : SpecD := fun ds μ Q _ => ∃ x : Str, ds = [.str x] ∧ x.length ≤ 100000 ∧ ((∃ n, x = numS n) → Q (.bl true) μ) ∧ ((¬ ∃ n, x = numS n) → Q (.bl false) μ)
abbrev N__law_plain : List Str := ["_law_word", "_law_figures", "_law_sign"]
abbrev ps__law_plain : List Str := ["_law_word"]
theorem sc__law_plain : FnScope N__law_plain ps__law_plain (defScope (top 17)) := ⟨rfl, rfl, rfl, by decide +kernel, rfl, by decide +kernel, by decide +kernel⟩
def rt__law_plain_1 : RS1 := rSeq (rIfS (rOrT (rTst (rOp (oEq false) (rVar 1) (rC (.str "")))) (rNotT (rTru (rCl oAll (rCons (rLc false (rIS (rVar 1)) (.nm 2) (rYes) (rOp (oInS false) (rVar 2) (rC (.str "0123456789"))) [2]) (rNil)))))) (rRet (rC (.bl false))) (rNext)) (rRet (rOrV (rOp (oEq false) (rVar 0) (rC (.str "0"))) (rOp (oEq true) (rOp oIx (rVar 1) (rC (.int 0))) (rC (.str "0")))))
def r__law_plain : RS1 := rSeq (rAsg (rVar 0) (gNm 1)) (rSeq (rIfS (rTst (rOp (oEq false) (rSlice (rVar 0) (rNoP) (rP (rC (.int 1)))) (rC (.str "-")))) (rAsg (rSlice (rVar 0) (rP (rC (.int 1))) (rNoP)) (gNm 1)) (rNext)) (rt__law_plain_1))
theorem b__law_plain {P : Program} {w : World} {S : Sg} {mg : Str → Option Value} {base : Heap} {f : Addr} {cdv : Value} {A : Around} {outer : List PySem.Env} {s : Shared} {H : Hp} {E : XK} (fx : Fx S mg) (hr : Room 0 (A.deeper (PyProof.Rows.envOfC "_law_plain" (defScope (top 17)) s.heap.objs.size f cdv)))
    (tk : Takes (cxOf (L2.CX P w) P w S.K mg base N__law_plain "_law_plain" (defScope (top 17)) f cdv A outer s H E) (fun cls d _ H => E cls d H)) : PDB S (cxOf (L2.CX P w) P w S.K mg base N__law_plain "_law_plain" (defScope (top 17)) f cdv A outer s H E) (fun cls d _ H => E cls d H) (defBody (top 17)) r__law_plain :=
  by delta r__law_plain rt__law_plain_1; exact ds_cons (ds_set (i := 1) sc__law_plain.nd rfl (by first | exact Or.inl rfl | exact Or.inr rfl) (dv 0)) (ds_cons (ds_if (dt_eq hr.units (d_slice (dv 0) (do_none) (do_some (d_int))) (d_str)) (ds_one (ds_set (i := 1) sc__law_plain.nd rfl (by first | exact Or.inl rfl | exact Or.inr rfl) (d_slice (dv 0) (do_some (d_int)) (do_none)))) (ds_nil)) (ds_cons (ds_if (dt_w (dw_or (dt_eq hr.units (dv 1) (d_str)) (dw_or1 (dt_not (dt_tru (d_all rfl rfl fx.b_all (da_cons (d_lc false (.nm 2) rfl sc__law_plain.nd (di_str (dv 1)) (ok := (show BlkOk N__law_plain (defScope (top 17)) _ _ from ⟨rfl, by decide +kernel, by decide +kernel, by decide +kernel, by decide +kernel⟩)) (own := [("_law_sign", 2)]) (fun _ _ _ _ _ => pg_name sc__law_plain.nd rfl (by first | exact Or.inl rfl | exact Or.inr rfl) (by first | exact Or.inl rfl | exact Or.inr rfl)) (fun _ _ _ _ _ => dts_nil) (fun _ _ _ _ _ => d_insign (dv 2) (d_str))) (da_nil)))))))) (ds_one (ds_ret (d_bl))) (ds_nil)) (ds_one (ds_ret (d_or (d_eq hr.units (dv 0) (d_str)) (d_one (d_ne hr.units (d_idx (dv 1) (d_int)) (d_str))))))))
theorem fn__law_plain {P : Program} {w : World} {S : Sg} {mg : Str → Option Value} {base : Heap} {f : Addr} {fd : FuncData} (fx : Fx S mg) (F : FunD S.K "_law_plain" "_law_plain" (defArgs (top 17)) (defBody (top 17)) (defScope (top 17)) [] [] f fd)
    (len : ∀ ds μ Q E, sp__law_plain ds μ Q E → ds.length = ps__law_plain.length) (pure_ : ∀ ds μ Q E, sp__law_plain ds μ Q E → r__law_plain (exitD Q) (startE 3 ds) μ (exitX E)) : FnOk P w S.K mg base (L2.CX P w) 1 f fd ps__law_plain (toSp S sp__law_plain) :=
  fn_okD F sc__law_plain 3 rfl len (fun cdv A outer s H E hr tk => b__law_plain fx hr tk) pure_
theorem ok__law_plain {P : Program} {w : World} {S : Sg} {mg : Str → Option Value} {base : Heap} {f : Addr} {fd : FuncData} (fx : Fx S mg) (F : FunD S.K "_law_plain" "_law_plain" (defArgs (top 17)) (defBody (top 17)) (defScope (top 17)) [] [] f fd) (g : mg "_law_plain" = some (.ref f))
    (len : ∀ ds μ Q E, sp__law_plain ds μ Q E → ds.length = ps__law_plain.length) (pure_ : ∀ ds μ Q E, sp__law_plain ds μ Q E → r__law_plain (exitD Q) (startE 3 ds) μ (exitX E)) : OkFn P w S mg base "_law_plain" 1 ps__law_plain sp__law_plain :=
  ⟨f, fd, g, F.kp, F.bindsN (ps := ps__law_plain) (fun _ _ _ _ _ _ us hl => match us, hl with | [_], _ => rfl), fn__law_plain fx F len pure_⟩
theorem pt__law_plain {x F : Str} {μ : Mu} {Q : DQ} {E : EX} {o : Option D} (hl : x.length ≤ 100000) (hF : tl F = figL (tl x)) (h1 : (∃ n, x = numS n) → Q (.bl true) μ) (h2 : (¬ ∃ n, x = numS n) → Q (.bl false) μ) : rt__law_plain_1 (exitD Q) [some (.str x), some (.str F), o] μ (exitX E) := by
  unfold rt__law_plain_1
  have hFl := fig_len hF
  (with_reducible conv => whnf)
  split
  · rename_i c
    simp only [sel, decide_eq_true_eq] at c
    (with_reducible conv => whnf)
    refine ⟨_, MSub.refl _, h2 fun z => ?_⟩
    have := (numS_iff.mp z).1
    rw [← hF, c] at this
    exact this tl_empty
  · rename_i c0
    simp only [sel, decide_eq_false_iff_not] at c0
    (with_reducible conv => whnf)
    refine ⟨by unfold sgD; rw [List.length_map, ← len_tl, sizeLine_eq]; omega, mapL_map (f := fSign) (fun d hd K hK => ?_) trivial ?_⟩
    · obtain ⟨c, _, rfl⟩ := List.mem_map.mp hd
      (with_reducible conv => whnf)
      exact hK
    rw [sign_map]
    ((try with_reducible conv => whnf); repeat (simp only [List.isEmpty_cons, List.isEmpty_nil, Bool.not_true, Bool.not_false, seqOf_lst, seqA_lst, seqA_tup, seqA_kst, seqOf_mset, seqA_mset, mset_same, mset_mset, atI_0, atI_1, atI_2, atI_3, atI_4, atI_5, putI_0, putI_1, putI_2, putI_3, putI_4]; with_reducible conv => whnf))
    refine ⟨_, rfl, ?_⟩
    (with_reducible conv => whnf)
    split
    · rename_i c
      (with_reducible conv => whnf)
      refine ⟨_, MSub.refl _, h2 fun z => ?_⟩
      have z1 := (numS_iff.mp z).2.1
      rw [← hF] at z1
      rw [all_figures.mpr z1] at c
      cases c
    · rename_i c
      have hd : AllDigits (tl F) := all_figures.mp (by simpa using c)
      obtain ⟨a, ha, hat⟩ := fig_first c0
      have hne : figL (tl x) ≠ [] := by rw [← hF]; intro z; rw [z] at ha; cases ha
      (with_reducible conv => whnf)
      split
      · rename_i c1
        simp only [sel, decide_eq_true_eq] at c1
        (with_reducible conv => whnf)
        exact ⟨_, MSub.refl _, h1 ⟨0, by rw [c1]; exact ext_tl (by rw [tl_zero, tl_int]; rfl)⟩⟩
      · rename_i c1
        simp only [sel, decide_eq_false_iff_not] at c1
        (with_reducible conv => whnf)
        refine ⟨by rw [sizeLine_eq]; omega, ?_⟩
        rw [hat]
        (with_reducible conv => whnf)
        refine ⟨_, MSub.refl _, ?_⟩
        by_cases ca : a = 48
        · have e : decide ((⟨#[a]⟩ : Str) = "0") = true := decide_eq_true (one_zero.mpr ca)
          rw [e]
          refine h2 fun z => ?_
          rcases (numS_iff.mp z).2.2 with z1 | z1
          · exact c1 (ext_tl (by rw [z1, tl_zero]))
          · rw [← hF, ha, ca] at z1
            exact z1 rfl
        · have e : decide ((⟨#[a]⟩ : Str) = "0") = false := decide_eq_false fun z => ca (one_zero.mp z)
          rw [e]
          exact h1 (numS_iff.mpr ⟨hne, by rw [← hF]; exact hd, .inr (by rw [← hF, ha]; simpa using ca)⟩)
theorem p__law_plain : ∀ ds μ Q E, sp__law_plain ds μ Q E → r__law_plain (exitD Q) (startE 3 ds) μ (exitX E) := by
  rintro ds μ Q E ⟨x, rfl, hl, h1, h2⟩
  show r__law_plain (exitD Q) [some (.str x), none, none] μ (exitX E)
  unfold r__law_plain
  (with_reducible conv => whnf)
  refine ⟨by rw [sizeLine_eq]; omega, ?_⟩
  (with_reducible conv => whnf)
  split
  · rename_i c
    simp only [sel, decide_eq_true_eq] at c
    (with_reducible conv => whnf)
    refine ⟨by rw [sizeLine_eq]; omega, ?_⟩
    (with_reducible conv => whnf)
    exact pt__law_plain hl (fig_yes c) h1 h2
  · rename_i c
    simp only [sel, decide_eq_false_iff_not] at c
    (with_reducible conv => whnf)
    exact pt__law_plain hl (fig_no c) h1 h2
end K13
namespace K13
open PySem PySem.Spec PyProof.Rows L2 DL TX TL NumText
abbrev sp__law_due : SpecD := fun ds μ Q _ => ∃ x : Str, ds = [.str x] ∧ x.length ≤ 100000 ∧ (∀ n m, IsDue x n m → Q (.lst [.tup [.int n, .int m]]) μ) ∧ ((¬ ∃ n m, IsDue x n m) → Q (.lst []) μ)
abbrev N__law_due : List Str := ["_law_text", "_law_parts", "_law_top", "_law_bottom", "_law_part"]
abbrev ps__law_due : List Str := ["_law_text"]
theorem sc__law_due : FnScope N__law_due ps__law_due (defScope (top 18)) := ⟨rfl, rfl, rfl, by decide +kernel, rfl, by decide +kernel, by decide +kernel⟩
def r__law_due : RS1 := rSeq (rAsg (rSM oSplit (rVar 0) (rC (.str "/"))) (gNm 1)) (rSeq (rIfS (rOrT (rTst (rOp (oC fun i j => decide (j < i)) (rCl oLen (rCons (rVar 0) (rNil))) (rC (.int 60)))) (rOrT (rTst (rOp (oC fun i j => decide (j < i)) (rCl oLen (rCons (rVar 1) (rNil))) (rC (.int 2)))) (rNotT (rTru (rCl oAll (rCons (rLc false (rIL (rVar 1)) (.nm 4) (rYes) (rCall sp__law_plain [] (rCons (rVar 4) (rNil))) [4]) (rNil))))))) (rRet (rLst (rNil))) (rNext)) (rSeq (rIfS (rTst (rOp (oEq false) (rCl oLen (rCons (rVar 1) (rNil))) (rC (.int 1)))) (rRet (rLst (rCons (rTup (rCons (rCl oInt (rCons (rVar 0) (rNil))) (rCons (rC (.int 1)) (rNil)))) (rNil)))) (rNext)) (rSeq (rAsg (rCl oInt (rCons (rOp oIx (rVar 1) (rC (.int 0))) (rNil))) (gNm 2)) (rSeq (rAsg (rCl oInt (rCons (rOp oIx (rVar 1) (rC (.int 1))) (rNil))) (gNm 3)) (rSeq (rIfS (rOrT (rTst (rOp (oC fun i j => decide (i < j)) (rVar 3) (rC (.int 2)))) (rTst (rOp (oEq true) (rCall sp__law_divisor [] (rCons (rLst (rCons (rVar 2) (rCons (rVar 3) (rNil)))) (rNil))) (rC (.int 1))))) (rRet (rLst (rNil))) (rNext)) (rRet (rLst (rCons (rTup (rCons (rVar 2) (rCons (rVar 3) (rNil)))) (rNil)))))))))
theorem b__law_due {P : Program} {w : World} {S : Sg} {mg : Str → Option Value} {base : Heap} {f : Addr} {cdv : Value} {A : Around} {outer : List PySem.Env} {s : Shared} {H : Hp} {E : XK} (fx : Fx S mg) (h__law_divisor : OkFn P w S mg base "_law_divisor" 1 ps__law_divisor sp__law_divisor) (h__law_plain : OkFn P w S mg base "_law_plain" 1 ps__law_plain sp__law_plain) (hr : Room 1 (A.deeper (PyProof.Rows.envOfC "_law_due" (defScope (top 18)) s.heap.objs.size f cdv)))
    (tk : Takes (cxOf (L2.CX P w) P w S.K mg base N__law_due "_law_due" (defScope (top 18)) f cdv A outer s H E) (fun cls d _ H => E cls d H)) : PDB S (cxOf (L2.CX P w) P w S.K mg base N__law_due "_law_due" (defScope (top 18)) f cdv A outer s H E) (fun cls d _ H => E cls d H) (defBody (top 18)) r__law_due :=
  by delta r__law_due; exact ds_cons (ds_set (i := 1) sc__law_due.nd rfl (by first | exact Or.inl rfl | exact Or.inr rfl) (d_split (dv 0) (d_str))) (ds_cons (ds_if (dt_w (dw_or (dt_gt (d_len rfl fx.b_len (da_cons (dv 0) (da_nil))) (d_int)) (dw_or (dt_gt (d_len rfl fx.b_len (da_cons (dv 1) (da_nil))) (d_int)) (dw_or1 (dt_not (dt_tru (d_all rfl rfl fx.b_all (da_cons (d_lc false (.nm 4) rfl sc__law_due.nd (di_list (dv 1)) (ok := (show BlkOk N__law_due (defScope (top 18)) _ _ from ⟨rfl, by decide +kernel, by decide +kernel, by decide +kernel, by decide +kernel⟩)) (own := [("_law_part", 4)]) (fun _ _ _ _ _ => pg_name sc__law_due.nd rfl (by first | exact Or.inl rfl | exact Or.inr rfl) (by first | exact Or.inl rfl | exact Or.inr rfl)) (fun _ _ _ _ _ => dts_nil) (fun _ _ _ _ _ => d_callO h__law_plain (hr.mono (by decide)) rfl takes_none5 (da_cons (dv 4) (da_nil)))) (da_nil))))))))) (ds_one (ds_ret (d_lst (da_nil)))) (ds_nil)) (ds_cons (ds_if (dt_eq hr.units (d_len rfl fx.b_len (da_cons (dv 1) (da_nil))) (d_int)) (ds_one (ds_ret (d_lst (da_cons (d_tup (da_cons (d_toint rfl fx.b_int (da_cons (dv 0) (da_nil))) (da_cons (d_int) (da_nil)))) (da_nil))))) (ds_nil)) (ds_cons (ds_set (i := 2) sc__law_due.nd rfl (by first | exact Or.inl rfl | exact Or.inr rfl) (d_toint rfl fx.b_int (da_cons (d_idx (dv 1) (d_int)) (da_nil)))) (ds_cons (ds_set (i := 3) sc__law_due.nd rfl (by first | exact Or.inl rfl | exact Or.inr rfl) (d_toint rfl fx.b_int (da_cons (d_idx (dv 1) (d_int)) (da_nil)))) (ds_cons (ds_if (dt_w (dw_or (dt_lt (dv 3) (d_int)) (dw_or1 (dt_ne hr.units (d_callO h__law_divisor (hr.mono (by decide)) rfl tk (da_cons (d_lst (da_cons (dv 2) (da_cons (dv 3) (da_nil)))) (da_nil))) (d_int))))) (ds_one (ds_ret (d_lst (da_nil)))) (ds_nil)) (ds_one (ds_ret (d_lst (da_cons (d_tup (da_cons (dv 2) (da_cons (dv 3) (da_nil)))) (da_nil))))))))))
theorem fn__law_due {P : Program} {w : World} {S : Sg} {mg : Str → Option Value} {base : Heap} {f : Addr} {fd : FuncData} (fx : Fx S mg) (h__law_divisor : OkFn P w S mg base "_law_divisor" 1 ps__law_divisor sp__law_divisor) (h__law_plain : OkFn P w S mg base "_law_plain" 1 ps__law_plain sp__law_plain) (F : FunD S.K "_law_due" "_law_due" (defArgs (top 18)) (defBody (top 18)) (defScope (top 18)) [] [] f fd)
    (len : ∀ ds μ Q E, sp__law_due ds μ Q E → ds.length = ps__law_due.length) (pure_ : ∀ ds μ Q E, sp__law_due ds μ Q E → r__law_due (exitD Q) (startE 5 ds) μ (exitX E)) : FnOk P w S.K mg base (L2.CX P w) 2 f fd ps__law_due (toSp S sp__law_due) :=
  fn_okD F sc__law_due 5 rfl len (fun cdv A outer s H E hr tk => b__law_due fx h__law_divisor h__law_plain hr tk) pure_
theorem ok__law_due {P : Program} {w : World} {S : Sg} {mg : Str → Option Value} {base : Heap} {f : Addr} {fd : FuncData} (fx : Fx S mg) (h__law_divisor : OkFn P w S mg base "_law_divisor" 1 ps__law_divisor sp__law_divisor) (h__law_plain : OkFn P w S mg base "_law_plain" 1 ps__law_plain sp__law_plain) (F : FunD S.K "_law_due" "_law_due" (defArgs (top 18)) (defBody (top 18)) (defScope (top 18)) [] [] f fd) (g : mg "_law_due" = some (.ref f))
    (len : ∀ ds μ Q E, sp__law_due ds μ Q E → ds.length = ps__law_due.length) (pure_ : ∀ ds μ Q E, sp__law_due ds μ Q E → r__law_due (exitD Q) (startE 5 ds) μ (exitX E)) : OkFn P w S mg base "_law_due" 2 ps__law_due sp__law_due :=
  ⟨f, fd, g, F.kp, F.bindsN (ps := ps__law_due) (fun _ _ _ _ _ _ us hl => match us, hl with | [_], _ => rfl), fn__law_due fx h__law_divisor h__law_plain F len pure_⟩
noncomputable def isN (p : Str) : Bool := @decide (∃ n, p = numS n) (Classical.propDecidable _)
theorem isN_t {p : Str} (h : ∃ n, p = numS n) : isN p = true := by exact @decide_eq_true _ (Classical.propDecidable _) h
theorem isN_f {p : Str} (h : ¬ ∃ n, p = numS n) : isN p = false := by exact @decide_eq_false _ (Classical.propDecidable _) h
noncomputable def plD : D → D
  | .str p => .bl (isN p)
  | _ => .non
theorem plain_map (l : List Str) : (l.map D.str).map plD = (l.map isN).map D.bl := by
  rw [List.map_map, List.map_map]
  rfl
theorem plain_all {l : List Str} : ((l.map isN).all id = true) ↔ ∀ p ∈ l, ∃ n, p = numS n := by
  rw [List.all_map, List.all_eq_true]
  constructor
  · intro h p hp
    have h1 : isN p = true := h p hp
    exact Classical.byContradiction fun z => by rw [isN_f z] at h1; cases h1
  · intro h p hp
    exact isN_t (h p hp)
theorem p__law_due : ∀ ds μ Q E, sp__law_due ds μ Q E → r__law_due (exitD Q) (startE 5 ds) μ (exitX E) := by
  rintro ds μ Q E ⟨x, rfl, hl, h1, h2⟩
  show r__law_due (exitD Q) [some (.str x), none, none, none, none] μ (exitX E)
  unfold r__law_due
  have hs := PyProof.Rows.split_le x "/"
  have hp := PyProof.Rows.split_pos x "/"
  (with_reducible conv => whnf)
  refine ⟨⟨by rw [len_slash]; rfl, by rw [sizeLine_eq]; omega⟩, by rw [sizeLine_eq]; omega, ?_⟩
  (with_reducible conv => whnf)
  refine ⟨by rw [sizeLine_eq]; omega, ?_⟩
  (with_reducible conv => whnf)
  split
  · rename_i c
    simp only [decide_eq_true_eq] at c
    (with_reducible conv => whnf)
    refine ⟨(by simp only [List.length_cons, List.length_nil, List.length_append, List.length_map, sizeLine_eq]; omega), ?_⟩
    (with_reducible conv => whnf)
    exact ⟨_, MSub.refl _, h2 fun ⟨n, m, z⟩ => by have := z.1; omega⟩
  rename_i c
  simp only [decide_eq_false_iff_not] at c
  ((try with_reducible conv => whnf); repeat (simp only [List.isEmpty_cons, List.isEmpty_nil, Bool.not_true, Bool.not_false, seqOf_lst, seqA_lst, seqA_tup, seqA_kst, seqOf_mset, seqA_mset, mset_same, mset_mset, atI_0, atI_1, atI_2, atI_3, atI_4, atI_5, putI_0, putI_1, putI_2, putI_3, putI_4]; with_reducible conv => whnf))
  split
  · rename_i c2
    simp only [decide_eq_true_eq, List.length_map] at c2
    (with_reducible conv => whnf)
    refine ⟨(by simp only [List.length_cons, List.length_nil, List.length_append, List.length_map, sizeLine_eq]; omega), ?_⟩
    (with_reducible conv => whnf)
    refine ⟨_, MSub.refl _, h2 fun ⟨n, m, z⟩ => ?_⟩
    rcases z.2 with ⟨_, z⟩ | ⟨_, _, z⟩ <;> rw [z] at c2 <;> simp at c2
  rename_i c2
  simp only [decide_eq_false_iff_not, List.length_map] at c2
  have hlen : ∀ p ∈ Txt.split x "/", p.length ≤ 60 := fun p hp => by
    have := PyProof.Rows.part_short hp
    omega
  (with_reducible conv => whnf)
  refine ⟨by rw [List.length_map, sizeLine_eq]; omega, mapL_map (f := plD) (fun d hd K hK => ?_) trivial ?_⟩
  · obtain ⟨p, hp, rfl⟩ := List.mem_map.mp hd
    have := hlen p hp
    (with_reducible conv => whnf)
    refine ⟨p, rfl, by omega, fun e => ?_, fun e => ?_⟩
    · have hK' : K (.bl (isN p)) μ := hK
      rw [isN_t e] at hK'
      exact hK'
    · have hK' : K (.bl (isN p)) μ := hK
      rw [isN_f e] at hK'
      exact hK'
  rw [plain_map]
  ((try with_reducible conv => whnf); repeat (simp only [List.isEmpty_cons, List.isEmpty_nil, Bool.not_true, Bool.not_false, seqOf_lst, seqA_lst, seqA_tup, seqA_kst, seqOf_mset, seqA_mset, mset_same, mset_mset, atI_0, atI_1, atI_2, atI_3, atI_4, atI_5, putI_0, putI_1, putI_2, putI_3, putI_4]; with_reducible conv => whnf))
  refine ⟨_, rfl, ?_⟩
  (with_reducible conv => whnf)
  split
  · rename_i c3
    (with_reducible conv => whnf)
    refine ⟨(by simp only [List.length_cons, List.length_nil, List.length_append, List.length_map, sizeLine_eq]; omega), ?_⟩
    (with_reducible conv => whnf)
    refine ⟨_, MSub.refl _, h2 fun ⟨n, m, z⟩ => ?_⟩
    have : ∀ p ∈ Txt.split x "/", ∃ n, p = numS n := by
      rcases z.2 with ⟨_, z⟩ | ⟨_, _, z⟩ <;> rw [z] <;> intro p hp
      · rw [List.mem_singleton.mp hp]; exact ⟨n, rfl⟩
      · rcases List.mem_cons.mp hp with e | hp
        · rw [e]; exact ⟨n, rfl⟩
        · rw [List.mem_singleton.mp hp]; exact ⟨m, rfl⟩
    rw [plain_all.mpr this] at c3
    cases c3
  rename_i c3
  have hall := plain_all.mp (by simpa using c3)
  ((try with_reducible conv => whnf); repeat (simp only [List.isEmpty_cons, List.isEmpty_nil, Bool.not_true, Bool.not_false, seqOf_lst, seqA_lst, seqA_tup, seqA_kst, seqOf_mset, seqA_mset, mset_same, mset_mset, atI_0, atI_1, atI_2, atI_3, atI_4, atI_5, putI_0, putI_1, putI_2, putI_3, putI_4]; with_reducible conv => whnf))
  cases hsp : Txt.split x "/" with
  | nil => rw [hsp] at hp; simp at hp
  | cons p rest =>
    rw [hsp] at hall hlen c2
    have hx := of_split hsp
    obtain ⟨n, rfl⟩ := hall p List.mem_cons_self
    have hn := num_small (hlen _ List.mem_cons_self)
    have fit : ∀ {k : Int}, k.natAbs < 2 ^ 300 → (numS k).length ≤ 400 := fun h => (num_fits (Nat.lt_trans h (by decide +kernel))).2
    have hnf := fit hn
    cases rest with
    | nil =>
      have hx1 : numS n = x := by rw [TX.join_one] at hx; exact hx
      simp only [List.map_cons, List.map_nil, List.length_cons, List.length_nil]
      split
      case h_2 c4 => exact absurd c4 (by simp [sel])
      (with_reducible conv => whnf)
      rw [← hx1, intText_num (by omega)]
      (with_reducible conv => whnf)
      refine ⟨by omega, ?_⟩
      (with_reducible conv => whnf)
      refine ⟨(by simp only [List.length_cons, List.length_nil, List.length_append, List.length_map, sizeLine_eq]; omega), ?_⟩
      (with_reducible conv => whnf)
      refine ⟨(by simp only [List.length_cons, List.length_nil, List.length_append, List.length_map, sizeLine_eq]; omega), ?_⟩
      (with_reducible conv => whnf)
      exact ⟨_, MSub.refl _, h1 n 1 ⟨by omega, .inl ⟨rfl, hsp⟩⟩⟩
    | cons q rest =>
      obtain ⟨m, rfl⟩ := hall q (List.mem_cons_of_mem _ List.mem_cons_self)
      have hm := num_small (hlen _ (List.mem_cons_of_mem _ List.mem_cons_self))
      have hmf := fit hm
      cases rest with
      | cons _ _ => simp at c2; omega
      | nil =>
        simp only [List.map_cons, List.map_nil, List.length_cons, List.length_nil]
        split
        case h_1 c4 => exact absurd c4 (by simp [sel])
        ((try with_reducible conv => whnf); repeat (simp only [List.isEmpty_cons, List.isEmpty_nil, Bool.not_true, Bool.not_false, seqOf_lst, seqA_lst, seqA_tup, seqA_kst, seqOf_mset, seqA_mset, mset_same, mset_mset, atI_0, atI_1, atI_2, atI_3, atI_4, atI_5, putI_0, putI_1, putI_2, putI_3, putI_4]; with_reducible conv => whnf))
        rw [intText_num (by omega)]
        (with_reducible conv => whnf)
        refine ⟨by omega, ?_⟩
        ((try with_reducible conv => whnf); repeat (simp only [List.isEmpty_cons, List.isEmpty_nil, Bool.not_true, Bool.not_false, seqOf_lst, seqA_lst, seqA_tup, seqA_kst, seqOf_mset, seqA_mset, mset_same, mset_mset, atI_0, atI_1, atI_2, atI_3, atI_4, atI_5, putI_0, putI_1, putI_2, putI_3, putI_4]; with_reducible conv => whnf))
        rw [intText_num (by omega)]
        (with_reducible conv => whnf)
        refine ⟨by omega, ?_⟩
        (with_reducible conv => whnf)
        split
        · rename_i c4
          simp only [decide_eq_true_eq] at c4
          (with_reducible conv => whnf)
          refine ⟨(by simp only [List.length_cons, List.length_nil, List.length_append, List.length_map, sizeLine_eq]; omega), ?_⟩
          (with_reducible conv => whnf)
          refine ⟨_, MSub.refl _, h2 fun ⟨n', m', z⟩ => ?_⟩
          rcases z.2 with ⟨_, z⟩ | ⟨z1, _, z⟩ <;> rw [hsp] at z
          · simp at z
          · have := numS_inj (List.cons.inj (List.cons.inj z).2).1
            omega
        rename_i c4
        simp only [decide_eq_false_iff_not] at c4
        (with_reducible conv => whnf)
        refine ⟨(by simp only [List.length_cons, List.length_nil, List.length_append, List.length_map, sizeLine_eq]; omega), ?_⟩
        (with_reducible conv => whnf)
        refine ⟨[n, m], rfl, ?_⟩
        rw [gcdL_two]
        (with_reducible conv => whnf)
        split
        · rename_i c5
          simp only [sel, Bool.not_eq_true', decide_eq_false_iff_not] at c5
          (with_reducible conv => whnf)
          refine ⟨(by simp only [List.length_cons, List.length_nil, List.length_append, List.length_map, sizeLine_eq]; omega), ?_⟩
          (with_reducible conv => whnf)
          refine ⟨_, MSub.refl _, h2 fun ⟨n', m', z⟩ => ?_⟩
          rcases z.2 with ⟨_, z⟩ | ⟨z1, z2, z⟩ <;> rw [hsp] at z
          · simp at z
          · have a1 := numS_inj (List.cons.inj z).1
            have a2 := numS_inj (List.cons.inj (List.cons.inj z).2).1
            subst a1 a2
            exact c5 (by rw [z2]; rfl)
        · rename_i c5
          simp only [sel, Bool.not_eq_false', decide_eq_true_eq] at c5
          (with_reducible conv => whnf)
          refine ⟨(by simp only [List.length_cons, List.length_nil, List.length_append, List.length_map, sizeLine_eq]; omega), ?_⟩
          (with_reducible conv => whnf)
          refine ⟨(by simp only [List.length_cons, List.length_nil, List.length_append, List.length_map, sizeLine_eq]; omega), ?_⟩
          (with_reducible conv => whnf)
          exact ⟨_, MSub.refl _, h1 n m ⟨by omega, .inr ⟨by omega, by omega, hsp⟩⟩⟩
abbrev sp__law_read : SpecD := fun ds μ Q _ => ∃ x : Str, ds = [.str x] ∧ x.length ≤ 100000 ∧ (∀ n m, IsDue x n m → Q (.lst [.tup [.int n, .int m]]) μ) ∧ ((¬ ∃ n m, IsDue x n m) → Q (.lst []) μ)
abbrev N__law_read : List Str := ["_law_text"]
abbrev ps__law_read : List Str := ["_law_text"]
theorem sc__law_read : FnScope N__law_read ps__law_read (defScope (top 19)) := ⟨rfl, rfl, rfl, by decide +kernel, rfl, by decide +kernel, by decide +kernel⟩
def r__law_read : RS1 := rTry DLm.m_BadText (rRet (rLst (rCons (rCall sp_read_ratio [] (rCons (rVar 0) (rNil))) (rNil)))) (rRet (rLst (rNil)))
theorem b__law_read {P : Program} {w : World} {S : Sg} {mg : Str → Option Value} {base : Heap} {f : Addr} {cdv : Value} {A : Around} {outer : List PySem.Env} {s : Shared} {H : Hp} {E : XK} (fx : Fx S mg) (h_read_ratio : OkFn P w S mg base "read_ratio" 3 ps_read_ratio sp_read_ratio) (hr : Room 3 (A.deeper (PyProof.Rows.envOfC "_law_read" (defScope (top 19)) s.heap.objs.size f cdv)))
    (tk : Takes (cxOf (L2.CX P w) P w S.K mg base N__law_read "_law_read" (defScope (top 19)) f cdv A outer s H E) (fun cls d _ H => E cls d H)) : PDB S (cxOf (L2.CX P w) P w S.K mg base N__law_read "_law_read" (defScope (top 19)) f cdv A outer s H E) (fun cls d _ H => E cls d H) (defBody (top 19)) r__law_read :=
  by delta r__law_read; exact ds_one (ds_try (x := "BadText") rfl rfl ⟨rfl, by decide, .inl fx.g_BadText⟩ tk fx.m_BadText (fun _ _ _ tk1 hp1 => ds_one (ds_ret (d_lst (da_cons (d_callO h_read_ratio (hr.mono (by decide)) rfl tk1 (da_cons (dv 0) (da_nil))) (da_nil))))) (fun _ _ => ds_one (ds_ret (d_lst (da_nil)))))
theorem fn__law_read {P : Program} {w : World} {S : Sg} {mg : Str → Option Value} {base : Heap} {f : Addr} {fd : FuncData} (fx : Fx S mg) (h_read_ratio : OkFn P w S mg base "read_ratio" 3 ps_read_ratio sp_read_ratio) (F : FunD S.K "_law_read" "_law_read" (defArgs (top 19)) (defBody (top 19)) (defScope (top 19)) [] [] f fd)
    (len : ∀ ds μ Q E, sp__law_read ds μ Q E → ds.length = ps__law_read.length) (pure_ : ∀ ds μ Q E, sp__law_read ds μ Q E → r__law_read (exitD Q) (startE 1 ds) μ (exitX E)) : FnOk P w S.K mg base (L2.CX P w) 4 f fd ps__law_read (toSp S sp__law_read) :=
  fn_okD F sc__law_read 1 rfl len (fun cdv A outer s H E hr tk => b__law_read fx h_read_ratio hr tk) pure_
theorem ok__law_read {P : Program} {w : World} {S : Sg} {mg : Str → Option Value} {base : Heap} {f : Addr} {fd : FuncData} (fx : Fx S mg) (h_read_ratio : OkFn P w S mg base "read_ratio" 3 ps_read_ratio sp_read_ratio) (F : FunD S.K "_law_read" "_law_read" (defArgs (top 19)) (defBody (top 19)) (defScope (top 19)) [] [] f fd) (g : mg "_law_read" = some (.ref f))
    (len : ∀ ds μ Q E, sp__law_read ds μ Q E → ds.length = ps__law_read.length) (pure_ : ∀ ds μ Q E, sp__law_read ds μ Q E → r__law_read (exitD Q) (startE 1 ds) μ (exitX E)) : OkFn P w S mg base "_law_read" 4 ps__law_read sp__law_read :=
  ⟨f, fd, g, F.kp, F.bindsN (ps := ps__law_read) (fun _ _ _ _ _ _ us hl => match us, hl with | [_], _ => rfl), fn__law_read fx h_read_ratio F len pure_⟩
theorem p__law_read : ∀ ds μ Q E, sp__law_read ds μ Q E → r__law_read (exitD Q) (startE 1 ds) μ (exitX E) := by
  rintro ds μ Q E ⟨x, rfl, hl, h1, h2⟩
  show r__law_read (exitD Q) [some (.str x)] μ (exitX E)
  unfold r__law_read
  (with_reducible conv => whnf)
  refine ⟨x, rfl, hl, fun n m z => ?_, fun z => ?_⟩
  · (with_reducible conv => whnf)
    refine ⟨(by simp only [List.length_cons, List.length_nil, List.length_append, List.length_map, sizeLine_eq]; omega), ?_⟩
    (with_reducible conv => whnf)
    exact ⟨_, MSub.refl _, h1 n m z⟩
  · (with_reducible conv => whnf)
    rw [show DLm.m_BadText "BadText" = some true from by decide]
    (with_reducible conv => whnf)
    refine ⟨(by simp only [List.length_cons, List.length_nil, List.length_append, List.length_map, sizeLine_eq]; omega), ?_⟩
    (with_reducible conv => whnf)
    exact ⟨_, MSub.refl _, h2 z⟩
end K13
namespace K13
open PySem PySem.Spec PyProof.Rows L2 DL TX TL NumText
abbrev PoolD (at_ rest : Int) (ns : List Int) : Option D := some (.lst [.int at_, .int rest, .lst (ns.map D.int)])
abbrev sp__law_spoiled : SpecD := fun ds μ Q _ => ∃ (n : Nat) (at_ rest : Int) (ns : List Int) (x : Str), ds = [.loc n, .str x] ∧ μ n = PoolD at_ rest ns ∧ 0 ≤ at_ ∧ at_ < 2 ^ 39 ∧ ns.length < 100000 ∧ x.length ≤ 20000 ∧
  ∀ (y : Str) (at' rest' : Int), y.length ≤ 2 * x.length + 6000 → 0 ≤ at' → at' ≤ at_ + 5 → Q (.str y) (mset μ n (PoolD at' rest' ns))
abbrev N__law_spoiled : List Str := ["_law_pool_here", "_law_text", "_law_kind", "_law_at", "_law_sign", "_law_odd"]
abbrev ps__law_spoiled : List Str := ["_law_pool_here", "_law_text"]
theorem sc__law_spoiled : FnScope N__law_spoiled ps__law_spoiled (defScope (top 20)) := ⟨rfl, rfl, rfl, by decide +kernel, rfl, by decide +kernel, by decide +kernel⟩
def r__law_spoiled : RS1 := rSeq (rAsg (rCall sp__law_take [] (rCons (rVar 0) (rCons (rC (.int 6)) (rNil)))) (gNm 2)) (rSeq (rAsg (rCall sp__law_take [] (rCons (rVar 0) (rCons (rOp oAdd (rCl oLen (rCons (rVar 1) (rNil))) (rC (.int 1))) (rNil)))) (gNm 3)) (rSeq (rAsg (rOp oIx (rC (.str "0123456789-+/. a_")) (rCall sp__law_take [] (rCons (rVar 0) (rCons (rC (.int 17)) (rNil))))) (gNm 4)) (rSeq (rIfS (rTst (rOp (oEq false) (rVar 2) (rC (.int 0)))) (rRet (rOp oAdd (rOp oAdd (rSlice (rVar 1) (rNoP) (rP (rVar 3))) (rVar 4)) (rSlice (rVar 1) (rP (rVar 3)) (rNoP)))) (rNext)) (rSeq (rIfS (rTst (rOp (oEq false) (rVar 2) (rC (.int 1)))) (rRet (rOp oAdd (rSlice (rVar 1) (rNoP) (rP (rVar 3))) (rSlice (rVar 1) (rP (rOp oAdd (rVar 3) (rC (.int 1)))) (rNoP)))) (rNext)) (rSeq (rIfS (rTst (rOp (oEq false) (rVar 2) (rC (.int 2)))) (rRet (rOp oAdd (rOp oAdd (rSlice (rVar 1) (rNoP) (rP (rVar 3))) (rVar 4)) (rSlice (rVar 1) (rP (rOp oAdd (rVar 3) (rC (.int 1)))) (rNoP)))) (rNext)) (rSeq (rIfS (rTst (rOp (oEq false) (rVar 2) (rC (.int 3)))) (rRet (rOp oAdd (rVar 1) (rOp (oMulA false) (rC (.str "0")) (rOp oIx (rLst (rCons (rCall sp__law_take [] (rCons (rVar 0) (rCons (rC (.int 70)) (rNil)))) (rCons (rC (.int 5000)) (rNil)))) (rCl oInt (rCons (rOp (oEq false) (rVar 3) (rC (.int 0))) (rNil))))))) (rNext)) (rSeq (rAsg (rLst (rCons (rC (.str "")) (rCons (rC (.str "-")) (rCons (rC (.str "/")) (rCons (rC (.str "0")) (rCons (rC (.str "-0")) (rCons (rC (.str "00")) (rCons (rC (.str "1/1")) (rCons (rC (.str "2/4")) (rCons (rC (.str "1/-2")) (rCons (rC (.str "-1/2")) (rCons (rC (.str "1/0")) (rCons (rC (.str "0/1")) (rCons (rC (.str "0/2")) (rCons (rC (.str "1/")) (rCons (rC (.str "/2")) (rCons (rC (.str "1/2/3")) (rCons (rC (.str "+1")) (rNil))))))))))))))))))) (gNm 5)) (rRet (rOp oIx (rOp oAdd (rVar 5) (rLst (rCons (rVar 1) (rCons (rOp oAdd (rC (.str " ")) (rVar 1)) (rCons (rOp oAdd (rVar 1) (rC (.str " "))) (rCons (rOp oAdd (rVar 1) (rC (.str "\n"))) (rCons (rOp oAdd (rC (.str "\n")) (rVar 1)) (rNil)))))))) (rCall sp__law_take [] (rCons (rVar 0) (rCons (rC (.int 22)) (rNil)))))))))))))
theorem b__law_spoiled {P : Program} {w : World} {S : Sg} {mg : Str → Option Value} {base : Heap} {f : Addr} {cdv : Value} {A : Around} {outer : List PySem.Env} {s : Shared} {H : Hp} {E : XK} (fx : Fx S mg) (h__law_take : OkFn P w S mg base "_law_take" 1 ps__law_take sp__law_take) (hr : Room 1 (A.deeper (PyProof.Rows.envOfC "_law_spoiled" (defScope (top 20)) s.heap.objs.size f cdv)))
    (tk : Takes (cxOf (L2.CX P w) P w S.K mg base N__law_spoiled "_law_spoiled" (defScope (top 20)) f cdv A outer s H E) (fun cls d _ H => E cls d H)) : PDB S (cxOf (L2.CX P w) P w S.K mg base N__law_spoiled "_law_spoiled" (defScope (top 20)) f cdv A outer s H E) (fun cls d _ H => E cls d H) (defBody (top 20)) r__law_spoiled :=
  by delta r__law_spoiled; exact ds_cons (ds_set (i := 2) sc__law_spoiled.nd rfl (by first | exact Or.inl rfl | exact Or.inr rfl) (d_callO h__law_take (hr.mono (by decide)) rfl tk (da_cons (dv 0) (da_cons (d_int) (da_nil))))) (ds_cons (ds_set (i := 3) sc__law_spoiled.nd rfl (by first | exact Or.inl rfl | exact Or.inr rfl) (d_callO h__law_take (hr.mono (by decide)) rfl tk (da_cons (dv 0) (da_cons (d_add (d_len rfl fx.b_len (da_cons (dv 1) (da_nil))) (d_int)) (da_nil))))) (ds_cons (ds_set (i := 4) sc__law_spoiled.nd rfl (by first | exact Or.inl rfl | exact Or.inr rfl) (d_idx (d_str) (d_callO h__law_take (hr.mono (by decide)) rfl tk (da_cons (dv 0) (da_cons (d_int) (da_nil)))))) (ds_cons (ds_if (dt_eq hr.units (dv 2) (d_int)) (ds_one (ds_ret (d_add (d_add (d_slice (dv 1) (do_none) (do_some (dv 3))) (dv 4)) (d_slice (dv 1) (do_some (dv 3)) (do_none))))) (ds_nil)) (ds_cons (ds_if (dt_eq hr.units (dv 2) (d_int)) (ds_one (ds_ret (d_add (d_slice (dv 1) (do_none) (do_some (dv 3))) (d_slice (dv 1) (do_some (d_add (dv 3) (d_int))) (do_none))))) (ds_nil)) (ds_cons (ds_if (dt_eq hr.units (dv 2) (d_int)) (ds_one (ds_ret (d_add (d_add (d_slice (dv 1) (do_none) (do_some (dv 3))) (dv 4)) (d_slice (dv 1) (do_some (d_add (dv 3) (d_int))) (do_none))))) (ds_nil)) (ds_cons (ds_if (dt_eq hr.units (dv 2) (d_int)) (ds_one (ds_ret (d_add (dv 1) (d_mulA false (d_str) (d_idx (d_lst (da_cons (d_callO h__law_take (hr.mono (by decide)) rfl tk (da_cons (dv 0) (da_cons (d_int) (da_nil)))) (da_cons (d_int) (da_nil)))) (d_toint rfl fx.b_int (da_cons (d_eq hr.units (dv 3) (d_int)) (da_nil)))))))) (ds_nil)) (ds_cons (ds_set (i := 5) sc__law_spoiled.nd rfl (by first | exact Or.inl rfl | exact Or.inr rfl) (d_lst (da_cons (d_str) (da_cons (d_str) (da_cons (d_str) (da_cons (d_str) (da_cons (d_str) (da_cons (d_str) (da_cons (d_str) (da_cons (d_str) (da_cons (d_str) (da_cons (d_str) (da_cons (d_str) (da_cons (d_str) (da_cons (d_str) (da_cons (d_str) (da_cons (d_str) (da_cons (d_str) (da_cons (d_str) (da_nil)))))))))))))))))))) (ds_one (ds_ret (d_idx (d_add (dv 5) (d_lst (da_cons (dv 1) (da_cons (d_add (d_str) (dv 1)) (da_cons (d_add (dv 1) (d_str)) (da_cons (d_add (dv 1) (d_str)) (da_cons (d_add (d_str) (dv 1)) (da_nil)))))))) (d_callO h__law_take (hr.mono (by decide)) rfl tk (da_cons (dv 0) (da_cons (d_int) (da_nil))))))))))))))
theorem fn__law_spoiled {P : Program} {w : World} {S : Sg} {mg : Str → Option Value} {base : Heap} {f : Addr} {fd : FuncData} (fx : Fx S mg) (h__law_take : OkFn P w S mg base "_law_take" 1 ps__law_take sp__law_take) (F : FunD S.K "_law_spoiled" "_law_spoiled" (defArgs (top 20)) (defBody (top 20)) (defScope (top 20)) [] [] f fd)
    (len : ∀ ds μ Q E, sp__law_spoiled ds μ Q E → ds.length = ps__law_spoiled.length) (pure_ : ∀ ds μ Q E, sp__law_spoiled ds μ Q E → r__law_spoiled (exitD Q) (startE 6 ds) μ (exitX E)) : FnOk P w S.K mg base (L2.CX P w) 2 f fd ps__law_spoiled (toSp S sp__law_spoiled) :=
  fn_okD F sc__law_spoiled 6 rfl len (fun cdv A outer s H E hr tk => b__law_spoiled fx h__law_take hr tk) pure_
theorem ok__law_spoiled {P : Program} {w : World} {S : Sg} {mg : Str → Option Value} {base : Heap} {f : Addr} {fd : FuncData} (fx : Fx S mg) (h__law_take : OkFn P w S mg base "_law_take" 1 ps__law_take sp__law_take) (F : FunD S.K "_law_spoiled" "_law_spoiled" (defArgs (top 20)) (defBody (top 20)) (defScope (top 20)) [] [] f fd) (g : mg "_law_spoiled" = some (.ref f))
    (len : ∀ ds μ Q E, sp__law_spoiled ds μ Q E → ds.length = ps__law_spoiled.length) (pure_ : ∀ ds μ Q E, sp__law_spoiled ds μ Q E → r__law_spoiled (exitD Q) (startE 6 ds) μ (exitX E)) : OkFn P w S mg base "_law_spoiled" 2 ps__law_spoiled sp__law_spoiled :=
  ⟨f, fd, g, F.kp, F.bindsN (ps := ps__law_spoiled) (fun _ _ _ _ _ _ us hl => match us, hl with | [_, _], _ => rfl), fn__law_spoiled fx h__law_take F len pure_⟩
theorem len_zero : ("0" : Str).length = 1 := by decide +kernel
theorem len_sp : (" " : Str).length = 1 := by decide +kernel
theorem len_nl : ("\n" : Str).length = 1 := by decide +kernel
theorem strs_at (ys : List Str) (B : Nat) (i : Int) (h0 : 0 ≤ i) (h1 : i < ys.length) (hB : ∀ y ∈ ys, y.length ≤ B) : ∃ y, atI (ys.map D.str) i = some (.str y) ∧ y.length ≤ B := by
  have h2 : i.toNat < ys.length := by omega
  exact ⟨ys[i.toNat], by rw [atI_nn h0, List.getElem?_map, List.getElem?_eq_getElem h2]; rfl, hB _ (List.getElem_mem h2)⟩
def oddC : List Str := ["", "-", "/", "0", "-0", "00", "1/1", "2/4", "1/-2", "-1/2", "1/0", "0/1", "0/2", "1/", "/2", "1/2/3", "+1"]
def oddL (x : Str) : List Str := oddC ++ [x, " " ++ x, x ++ " ", x ++ "\n", "\n" ++ x]
theorem oddC_len : ∀ y ∈ oddC, y.length ≤ 1000 := by decide +kernel
theorem odd_len (x : Str) : ∀ y ∈ oddL x, y.length ≤ x.length + 1000 := fun y hy => by
  rcases List.mem_append.mp hy with h | h
  · have := oddC_len y h
    omega
  · simp only [List.mem_cons, List.not_mem_nil, or_false] at h
    rcases h with h | h | h | h | h <;> subst h
    · omega
    all_goals rw [len_app]; first | rw [len_sp] | rw [len_nl]
    all_goals omega
theorem cut_len (z : Str) (lo hi : Option Int) : (cutS z lo hi).length ≤ z.length := cutS_length z lo hi
theorem p__law_spoiled : ∀ ds μ Q E, sp__law_spoiled ds μ Q E → r__law_spoiled (exitD Q) (startE 6 ds) μ (exitX E) := by
  rintro ds μ Q E ⟨n, at_, rest, ns, x, rfl, hm, h0, h1, hns, hx, h⟩
  show r__law_spoiled (exitD Q) [some (.loc n), some (.str x), none, none, none, none] μ (exitX E)
  unfold r__law_spoiled
  (with_reducible conv => whnf)
  refine ⟨_, _, _, _, _, rfl, hm, h0, by omega, by decide, by decide, hns, fun kind a1 r1 k0 k1 b0 b1 => ?_⟩
  (with_reducible conv => whnf)
  refine ⟨by rw [sizeLine_eq]; omega, ?_⟩
  ((try with_reducible conv => whnf); repeat (simp only [List.isEmpty_cons, List.isEmpty_nil, Bool.not_true, Bool.not_false, seqOf_lst, seqA_lst, seqA_tup, seqA_kst, seqOf_mset, seqA_mset, mset_same, mset_mset, atI_0, atI_1, atI_2, atI_3, atI_4, atI_5, putI_0, putI_1, putI_2, putI_3, putI_4]; with_reducible conv => whnf))
  refine ⟨_, _, _, _, _, rfl, mset_same .., b0, by omega, by omega, by omega, hns, fun pos a2 r2 p0 p1 b2 b3 => ?_⟩
  rw [mset_mset]
  (with_reducible conv => whnf)
  refine ⟨_, _, _, _, _, rfl, mset_same .., b2, by omega, by decide, by decide, hns, fun sg a3 r3 s0 s1 b4 b5 => ?_⟩
  rw [mset_mset]
  (with_reducible conv => whnf)
  refine ⟨by decide +kernel, ?_⟩
  obtain ⟨c, hc, _⟩ := str_at (x := ("0123456789-+/. a_" : Str)) s0 s1
  rw [hc]
  (with_reducible conv => whnf)
  have l1 := cut_len x none (some pos)
  have l2 := cut_len x (some pos) none
  have l3 := cut_len x (some (pos + 1)) none
  have l4 : (⟨#[c]⟩ : Str).length = 1 := rfl
  split
  · (with_reducible conv => whnf)
    refine ⟨by rw [sizeLine_eq]; omega, ?_⟩
    (with_reducible conv => whnf)
    refine ⟨by rw [sizeLine_eq]; omega, ?_⟩
    (with_reducible conv => whnf)
    refine ⟨by rw [sizeLine_eq]; omega, ?_⟩
    (with_reducible conv => whnf)
    refine ⟨by rw [len_app, sizeLine_eq]; omega, ?_⟩
    (with_reducible conv => whnf)
    exact ⟨_, MSub.refl _, h _ _ _ (by rw [len_app, len_app]; omega) b4 (by omega)⟩
  (with_reducible conv => whnf)
  split
  · (with_reducible conv => whnf)
    refine ⟨by rw [sizeLine_eq]; omega, ?_⟩
    (with_reducible conv => whnf)
    refine ⟨by rw [sizeLine_eq]; omega, ?_⟩
    (with_reducible conv => whnf)
    refine ⟨by rw [sizeLine_eq]; omega, ?_⟩
    (with_reducible conv => whnf)
    exact ⟨_, MSub.refl _, h _ _ _ (by rw [len_app]; omega) b4 (by omega)⟩
  (with_reducible conv => whnf)
  split
  · (with_reducible conv => whnf)
    refine ⟨by rw [sizeLine_eq]; omega, ?_⟩
    (with_reducible conv => whnf)
    refine ⟨by rw [sizeLine_eq]; omega, ?_⟩
    (with_reducible conv => whnf)
    refine ⟨by rw [sizeLine_eq]; omega, ?_⟩
    (with_reducible conv => whnf)
    refine ⟨by rw [len_app, sizeLine_eq]; omega, ?_⟩
    (with_reducible conv => whnf)
    exact ⟨_, MSub.refl _, h _ _ _ (by rw [len_app, len_app]; omega) b4 (by omega)⟩
  (with_reducible conv => whnf)
  split
  · (with_reducible conv => whnf)
    refine ⟨_, _, _, _, _, rfl, mset_same .., b4, by omega, by decide, by decide, hns, fun dg a4 r4 g0 g1 b6 b7 => ?_⟩
    rw [mset_mset]
    (with_reducible conv => whnf)
    refine ⟨(by simp only [List.length_cons, List.length_nil, List.length_append, List.length_map, sizeLine_eq]; omega), ?_⟩
    ((try with_reducible conv => whnf); repeat (simp only [List.isEmpty_cons, List.isEmpty_nil, Bool.not_true, Bool.not_false, seqOf_lst, seqA_lst, seqA_tup, seqA_kst, seqOf_mset, seqA_mset, mset_same, mset_mset, atI_0, atI_1, atI_2, atI_3, atI_4, atI_5, putI_0, putI_1, putI_2, putI_3, putI_4]; with_reducible conv => whnf))
    cases hz : decide (pos = 0) with
    | true =>
      simp only [sel, hz, eq_self, if_true, atI_1]
      (with_reducible conv => whnf)
      refine ⟨by decide, by decide, by rw [len_zero, sizeLine_eq]; decide, ?_⟩
      have l5 := repS_len "0" 5000
      rw [len_zero] at l5
      simp only [show (1 * (5000 : Int).toNat) = 5000 from rfl] at l5
      (with_reducible conv => whnf)
      refine ⟨by rw [sizeLine_eq]; omega, ?_⟩
      (with_reducible conv => whnf)
      exact ⟨_, MSub.refl _, h _ _ _ (by rw [len_app]; omega) b6 (by omega)⟩
    | false =>
      simp only [sel, hz, Bool.false_eq_true, if_false, atI_0]
      (with_reducible conv => whnf)
      have l5 := repS_len "0" dg
      rw [len_zero, Nat.one_mul] at l5
      refine ⟨by omega, by omega, by rw [len_zero, sizeLine_eq]; omega, ?_⟩
      (with_reducible conv => whnf)
      refine ⟨by rw [sizeLine_eq]; omega, ?_⟩
      (with_reducible conv => whnf)
      exact ⟨_, MSub.refl _, h _ _ _ (by rw [len_app]; omega) b6 (by omega)⟩
  (with_reducible conv => whnf)
  refine ⟨(by simp only [List.length_cons, List.length_nil, List.length_append, List.length_map, sizeLine_eq]; omega), ?_⟩
  (with_reducible conv => whnf)
  refine ⟨by rw [sizeLine_eq, len_sp]; omega, ?_⟩
  (with_reducible conv => whnf)
  refine ⟨by rw [sizeLine_eq, len_sp]; omega, ?_⟩
  (with_reducible conv => whnf)
  refine ⟨by rw [sizeLine_eq, len_nl]; omega, ?_⟩
  (with_reducible conv => whnf)
  refine ⟨by rw [sizeLine_eq, len_nl]; omega, ?_⟩
  (with_reducible conv => whnf)
  refine ⟨(by simp only [List.length_cons, List.length_nil, List.length_append, List.length_map, sizeLine_eq]; omega), ?_⟩
  ((try with_reducible conv => whnf); repeat (simp only [List.isEmpty_cons, List.isEmpty_nil, Bool.not_true, Bool.not_false, seqOf_lst, seqA_lst, seqA_tup, seqA_kst, seqOf_mset, seqA_mset, mset_same, mset_mset, atI_0, atI_1, atI_2, atI_3, atI_4, atI_5, putI_0, putI_1, putI_2, putI_3, putI_4]; with_reducible conv => whnf))
  refine ⟨(by simp only [List.length_cons, List.length_nil, List.length_append, List.length_map, sizeLine_eq]; omega), ?_⟩
  ((try with_reducible conv => whnf); repeat (simp only [List.isEmpty_cons, List.isEmpty_nil, Bool.not_true, Bool.not_false, seqOf_lst, seqA_lst, seqA_tup, seqA_kst, seqOf_mset, seqA_mset, mset_same, mset_mset, atI_0, atI_1, atI_2, atI_3, atI_4, atI_5, putI_0, putI_1, putI_2, putI_3, putI_4]; with_reducible conv => whnf))
  refine ⟨_, _, _, _, _, rfl, mset_same .., b4, by omega, by decide, by decide, hns, fun dg a4 r4 g0 g1 b6 b7 => ?_⟩
  rw [mset_mset]
  ((try with_reducible conv => whnf); repeat (simp only [List.isEmpty_cons, List.isEmpty_nil, Bool.not_true, Bool.not_false, seqOf_lst, seqA_lst, seqA_tup, seqA_kst, seqOf_mset, seqA_mset, mset_same, mset_mset, atI_0, atI_1, atI_2, atI_3, atI_4, atI_5, putI_0, putI_1, putI_2, putI_3, putI_4]; with_reducible conv => whnf))
  obtain ⟨y, hy, hyl⟩ := strs_at (oddL x) (x.length + 1000) dg g0 g1 (odd_len x)
  generalize hg : atI _ dg = o
  rw [show o = some (.str y) from hg.symm.trans hy]
  (with_reducible conv => whnf)
  exact ⟨_, MSub.refl _, h _ _ _ (by omega) b6 (by omega)⟩
end K13
namespace K13
open PySem PySem.Spec PyProof.Rows L2 DL TX TL NumText
abbrev sp_law : SpecD := fun ds μ Q _ => ∃ (x : D) (ns : List Int), ds = [x] ∧ seqA μ x = some (ns.map D.int) ∧ ns.length ≤ 63 ∧ ∀ μ', Q (.bl true) μ'
abbrev N_law : List Str := ["_law_script", "_law_pool_here", "_law_size", "_law_top", "_law_one", "_law_due_here", "_law_text", "_law_k", "_law_told"]
abbrev ps_law : List Str := ["_law_script"]
theorem sc_law : FnScope N_law ps_law (defScope (top 21)) := ⟨rfl, rfl, rfl, by decide +kernel, rfl, by decide +kernel, by decide +kernel⟩
def rt_law_1 : RS1 := rSeq (rAsg (rCall sp__law_read [] (rCons (rVar 6) (rNil))) (gNm 8)) (rRet (rAndV (rOp (oEq false) (rVar 8) (rCall sp__law_due [] (rCons (rVar 6) (rNil)))) (rOrV (rOp (oEq false) (rVar 8) (rLst (rNil))) (rOp (oEq false) (rCall sp_ratio_text [] (rCons (rOp oIx (rVar 8) (rC (.int 0))) (rNil))) (rVar 6)))))
def rt_law_2 : RS1 := rSeq (rIfS (rOrT (rTst (rOp (oEq true) (rCall sp_ratio_text [] (rCons (rVar 4) (rNil))) (rVar 5))) (rTst (rOp (oEq true) (rCall sp__law_read [] (rCons (rVar 5) (rNil))) (rLst (rCons (rVar 4) (rNil)))))) (rRet (rC (.bl false))) (rNext)) (rSeq (rAsg (rVar 5) (gNm 6)) (rSeq (rFor (rIR1 (rCons (rCall sp__law_take [] (rCons (rVar 1) (rCons (rC (.int 3)) (rNil)))) (rNil))) (gNm 7) (rAsg (rCall sp__law_spoiled [] (rCons (rVar 1) (rCons (rVar 6) (rNil)))) (gNm 6))) (rt_law_1)))
def r_law : RS1 := rSeq (rAsg (rCall sp__law_pool [] (rCons (rVar 0) (rNil))) (gNm 1)) (rSeq (rAsg (rOp oIx (rLst (rCons (rC (.int 9)) (rCons (rOp (oI CPow fun i j => i ^ j.toNat) (rC (.int 10)) (rC (.int 29))) (rNil)))) (rCall sp__law_take [] (rCons (rVar 1) (rCons (rC (.int 2)) (rNil))))) (gNm 2)) (rSeq (rAsg (rOp (oI0 fun i j => i - j) (rCall sp__law_take [] (rCons (rVar 1) (rCons (rOp oAdd (rOp (oMulA false) (rC (.int 2)) (rVar 2)) (rC (.int 1))) (rNil)))) (rVar 2)) (gNm 3)) (rSeq (rAsg (rCall sp__law_ratio [] (rCons (rVar 3) (rCons (rOp oAdd (rC (.int 1)) (rCall sp__law_take [] (rCons (rVar 1) (rCons (rOp oIx (rLst (rCons (rC (.int 9)) (rCons (rOp (oI CPow fun i j => i ^ j.toNat) (rC (.int 10)) (rC (.int 20))) (rNil)))) (rCall sp__law_take [] (rCons (rVar 1) (rCons (rC (.int 2)) (rNil))))) (rNil))))) (rNil)))) (gNm 4)) (rSeq (rAsg (rCl oStr (rCons (rOp oIx (rVar 4) (rC (.int 0))) (rNil))) (gNm 5)) (rSeq (rIfS (rTst (rOp (oEq true) (rOp oIx (rVar 4) (rC (.int 1))) (rC (.int 1)))) (rAsg (rOp oAdd (rOp oAdd (rVar 5) (rC (.str "/"))) (rCl oStr (rCons (rOp oIx (rVar 4) (rC (.int 1))) (rNil)))) (gNm 5)) (rNext)) (rt_law_2))))))
theorem b_law {P : Program} {w : World} {S : Sg} {mg : Str → Option Value} {base : Heap} {f : Addr} {cdv : Value} {A : Around} {outer : List PySem.Env} {s : Shared} {H : Hp} {E : XK} (fx : Fx S mg) (h__law_due : OkFn P w S mg base "_law_due" 2 ps__law_due sp__law_due) (h__law_pool : OkFn P w S mg base "_law_pool" 1 ps__law_pool sp__law_pool) (h__law_ratio : OkFn P w S mg base "_law_ratio" 2 ps__law_ratio sp__law_ratio) (h__law_read : OkFn P w S mg base "_law_read" 4 ps__law_read sp__law_read) (h__law_spoiled : OkFn P w S mg base "_law_spoiled" 2 ps__law_spoiled sp__law_spoiled) (h__law_take : OkFn P w S mg base "_law_take" 1 ps__law_take sp__law_take) (h_ratio_text : OkFn P w S mg base "ratio_text" 1 ps_ratio_text sp_ratio_text) (hr : Room 4 (A.deeper (PyProof.Rows.envOfC "law" (defScope (top 21)) s.heap.objs.size f cdv)))
    (tk : Takes (cxOf (L2.CX P w) P w S.K mg base N_law "law" (defScope (top 21)) f cdv A outer s H E) (fun cls d _ H => E cls d H)) : PDB S (cxOf (L2.CX P w) P w S.K mg base N_law "law" (defScope (top 21)) f cdv A outer s H E) (fun cls d _ H => E cls d H) (defBody (top 21)) r_law :=
  by delta r_law rt_law_2 rt_law_1; exact ds_cons (ds_set (i := 1) sc_law.nd rfl (by first | exact Or.inl rfl | exact Or.inr rfl) (d_callO h__law_pool (hr.mono (by decide)) rfl tk (da_cons (dv 0) (da_nil)))) (ds_cons (ds_set (i := 2) sc_law.nd rfl (by first | exact Or.inl rfl | exact Or.inr rfl) (d_idx (d_lst (da_cons (d_int) (da_cons (d_pow (d_int) (d_int)) (da_nil)))) (d_callO h__law_take (hr.mono (by decide)) rfl tk (da_cons (dv 1) (da_cons (d_int) (da_nil)))))) (ds_cons (ds_set (i := 3) sc_law.nd rfl (by first | exact Or.inl rfl | exact Or.inr rfl) (d_sub (d_callO h__law_take (hr.mono (by decide)) rfl tk (da_cons (dv 1) (da_cons (d_add (d_mulA false (d_int) (dv 2)) (d_int)) (da_nil)))) (dv 2))) (ds_cons (ds_set (i := 4) sc_law.nd rfl (by first | exact Or.inl rfl | exact Or.inr rfl) (d_callO h__law_ratio (hr.mono (by decide)) rfl tk (da_cons (dv 3) (da_cons (d_add (d_int) (d_callO h__law_take (hr.mono (by decide)) rfl tk (da_cons (dv 1) (da_cons (d_idx (d_lst (da_cons (d_int) (da_cons (d_pow (d_int) (d_int)) (da_nil)))) (d_callO h__law_take (hr.mono (by decide)) rfl tk (da_cons (dv 1) (da_cons (d_int) (da_nil))))) (da_nil))))) (da_nil))))) (ds_cons (ds_set (i := 5) sc_law.nd rfl (by first | exact Or.inl rfl | exact Or.inr rfl) (d_tostr rfl fx.b_str (da_cons (d_idx (dv 4) (d_int)) (da_nil)))) (ds_cons (ds_if (dt_ne hr.units (d_idx (dv 4) (d_int)) (d_int)) (ds_one (ds_set (i := 5) sc_law.nd rfl (by first | exact Or.inl rfl | exact Or.inr rfl) (d_add (d_add (dv 5) (d_str)) (d_tostr rfl fx.b_str (da_cons (d_idx (dv 4) (d_int)) (da_nil)))))) (ds_nil)) (ds_cons (ds_if (dt_w (dw_or (dt_ne hr.units (d_callO h_ratio_text (hr.mono (by decide)) rfl tk (da_cons (dv 4) (da_nil))) (dv 5)) (dw_or1 (dt_ne hr.units (d_callO h__law_read (hr.mono (by decide)) rfl tk (da_cons (dv 5) (da_nil))) (d_lst (da_cons (dv 4) (da_nil))))))) (ds_one (ds_ret (d_bl))) (ds_nil)) (ds_cons (ds_set (i := 6) sc_law.nd rfl (by first | exact Or.inl rfl | exact Or.inr rfl) (dv 5)) (ds_cons (ds_for passes_cx rfl (di_range1 rfl fx.b_range (da_cons (d_callO h__law_take (hr.mono (by decide)) rfl tk (da_cons (dv 1) (da_cons (d_int) (da_nil)))) (da_nil))) (dg_name (i := 7) sc_law.nd rfl (by first | exact Or.inl rfl | exact Or.inr rfl) (by first | exact Or.inl rfl | exact Or.inr rfl)) (ds_one (ds_set (i := 6) sc_law.nd rfl (by first | exact Or.inl rfl | exact Or.inr rfl) (d_callO h__law_spoiled (hr.mono (by decide)) rfl tk (da_cons (dv 1) (da_cons (dv 6) (da_nil))))))) (ds_cons (ds_set (i := 8) sc_law.nd rfl (by first | exact Or.inl rfl | exact Or.inr rfl) (d_callO h__law_read (hr.mono (by decide)) rfl tk (da_cons (dv 6) (da_nil)))) (ds_one (ds_ret (d_and (d_eq hr.units (dv 8) (d_callO h__law_due (hr.mono (by decide)) rfl tk (da_cons (dv 6) (da_nil)))) (d_one (d_or (d_eq hr.units (dv 8) (d_lst (da_nil))) (d_one (d_eq hr.units (d_callO h_ratio_text (hr.mono (by decide)) rfl tk (da_cons (d_idx (dv 8) (d_int)) (da_nil))) (dv 6)))))))))))))))))
theorem fn_law {P : Program} {w : World} {S : Sg} {mg : Str → Option Value} {base : Heap} {f : Addr} {fd : FuncData} (fx : Fx S mg) (h__law_due : OkFn P w S mg base "_law_due" 2 ps__law_due sp__law_due) (h__law_pool : OkFn P w S mg base "_law_pool" 1 ps__law_pool sp__law_pool) (h__law_ratio : OkFn P w S mg base "_law_ratio" 2 ps__law_ratio sp__law_ratio) (h__law_read : OkFn P w S mg base "_law_read" 4 ps__law_read sp__law_read) (h__law_spoiled : OkFn P w S mg base "_law_spoiled" 2 ps__law_spoiled sp__law_spoiled) (h__law_take : OkFn P w S mg base "_law_take" 1 ps__law_take sp__law_take) (h_ratio_text : OkFn P w S mg base "ratio_text" 1 ps_ratio_text sp_ratio_text) (F : FunD S.K "law" "law" (defArgs (top 21)) (defBody (top 21)) (defScope (top 21)) [] [] f fd)
    (len : ∀ ds μ Q E, sp_law ds μ Q E → ds.length = ps_law.length) (pure_ : ∀ ds μ Q E, sp_law ds μ Q E → r_law (exitD Q) (startE 9 ds) μ (exitX E)) : FnOk P w S.K mg base (L2.CX P w) 5 f fd ps_law (toSp S sp_law) :=
  fn_okD F sc_law 9 rfl len (fun cdv A outer s H E hr tk => b_law fx h__law_due h__law_pool h__law_ratio h__law_read h__law_spoiled h__law_take h_ratio_text hr tk) pure_
theorem ok_law {P : Program} {w : World} {S : Sg} {mg : Str → Option Value} {base : Heap} {f : Addr} {fd : FuncData} (fx : Fx S mg) (h__law_due : OkFn P w S mg base "_law_due" 2 ps__law_due sp__law_due) (h__law_pool : OkFn P w S mg base "_law_pool" 1 ps__law_pool sp__law_pool) (h__law_ratio : OkFn P w S mg base "_law_ratio" 2 ps__law_ratio sp__law_ratio) (h__law_read : OkFn P w S mg base "_law_read" 4 ps__law_read sp__law_read) (h__law_spoiled : OkFn P w S mg base "_law_spoiled" 2 ps__law_spoiled sp__law_spoiled) (h__law_take : OkFn P w S mg base "_law_take" 1 ps__law_take sp__law_take) (h_ratio_text : OkFn P w S mg base "ratio_text" 1 ps_ratio_text sp_ratio_text) (F : FunD S.K "law" "law" (defArgs (top 21)) (defBody (top 21)) (defScope (top 21)) [] [] f fd) (g : mg "law" = some (.ref f))
    (len : ∀ ds μ Q E, sp_law ds μ Q E → ds.length = ps_law.length) (pure_ : ∀ ds μ Q E, sp_law ds μ Q E → r_law (exitD Q) (startE 9 ds) μ (exitX E)) : OkFn P w S mg base "law" 5 ps_law sp_law :=
  ⟨f, fd, g, F.kp, F.bindsN (ps := ps_law) (fun _ _ _ _ _ _ us hl => match us, hl with | [_], _ => rfl), fn_law fx h__law_due h__law_pool h__law_ratio h__law_read h__law_spoiled h__law_take h_ratio_text F len pure_⟩
theorem low_ok {t d : Int} (h : 1 ≤ d) : 1 ≤ d / (Int.gcd t d : Int) ∧ d / (Int.gcd t d : Int) ≤ d ∧ (t / (Int.gcd t d : Int)).natAbs ≤ t.natAbs ∧ Int.gcd (t / (Int.gcd t d : Int)) (d / (Int.gcd t d : Int)) = 1 := by
  obtain ⟨g1, g2⟩ := gcd_pos (a := t) h
  have k1 : (Int.gcd t d : Int) * (d / (Int.gcd t d : Int)) = d := Int.mul_ediv_cancel' (Int.gcd_dvd_right ..)
  refine ⟨?_, Int.ediv_le_self _ (by omega), Int.natAbs_ediv_le_natAbs .., Int.gcd_ediv_gcd_ediv_gcd (by omega)⟩
  by_cases z : d / (Int.gcd t d : Int) ≤ 0
  · have := Int.mul_nonpos_of_nonneg_of_nonpos (Int.le_of_lt g1) z
    omega
  · omega
theorem due_of {a b : Int} (h1 : 1 ≤ b) (h2 : b < 10 ^ 21) (h3 : a.natAbs < 10 ^ 30) (h4 : Int.gcd a b = 1) : IsDue (ratS a b) a b := by
  have l1 : (numS a).length ≤ 31 := by rw [numS_len]; exact intL_len (by decide) h3
  have l2 : (numS b).length ≤ 21 := by rw [numS_len]; exact intL_len0 (by decide) (by omega) (by omega)
  by_cases hb : b = 1
  · subst hb
    rw [ratS, if_pos rfl]
    exact ⟨by omega, .inl ⟨rfl, split_one (y := "/") tl_slash (by decide +kernel) (slash_free a)⟩⟩
  · rw [ratS, if_neg hb]
    exact ⟨by rw [len_app, len_app, len_slash]; omega, .inr ⟨by omega, h4, split_two (y := "/") tl_slash (by decide +kernel) (slash_free a) (slash_free b)⟩⟩
theorem due_text {x : Str} {n m : Int} (h : IsDue x n m) : ratS n m = x := by
  rcases h.2 with ⟨h1, h2⟩ | ⟨h1, h2, h3⟩
  · rw [ratS, if_pos h1, ← of_split h2, TX.join_one]
  · rw [ratS, if_neg (by omega), ← of_split h3, TX.join_two]
theorem due_small {x : Str} {n m : Int} (h : IsDue x n m) : n.natAbs < 2 ^ 1000 ∧ m.natAbs < 2 ^ 1000 := by
  have hlen : ∀ p ∈ Txt.split x "/", p.length ≤ 60 := fun p hp => by
    have := PyProof.Rows.part_short hp
    have := h.1
    omega
  have big : (2 : Nat) ^ 300 < 2 ^ 1000 := by decide +kernel
  rcases h.2 with ⟨h1, h2⟩ | ⟨h1, _, h2⟩ <;> rw [h2] at hlen
  · exact ⟨Nat.lt_trans (num_small (hlen _ List.mem_cons_self)) big, by rw [h1]; decide +kernel⟩
  · exact ⟨Nat.lt_trans (num_small (hlen _ List.mem_cons_self)) big, Nat.lt_trans (num_small (hlen _ (List.mem_cons_of_mem _ List.mem_cons_self))) big⟩
theorem due_one {x : Str} {n m n' m' : Int} (h : IsDue x n m) (h' : IsDue x n' m') : n = n' ∧ m = m' := by
  rcases h.2 with ⟨h1, h2⟩ | ⟨h1, _, h2⟩ <;> rcases h'.2 with ⟨k1, k2⟩ | ⟨k1, _, k2⟩ <;> rw [h2] at k2
  · exact ⟨numS_inj (List.cons.inj k2).1, by omega⟩
  · cases (List.cons.inj k2).2
  · cases (List.cons.inj k2).2
  · exact ⟨numS_inj (List.cons.inj k2).1, numS_inj (List.cons.inj (List.cons.inj k2).2).1⟩
theorem dok_due (n m : Int) : dok 60 (.lst [.tup [.int n, .int m]]) := by simp [dok]
theorem dok_nil : dok 60 (.lst []) := by simp [dok]
theorem due_nil (n m : Int) : deq (.lst [.tup [.int n, .int m]]) (.lst []) = false := by simp [deq, py, pys, PyData.eqv, PyData.eqvAll]
theorem pt2_law {x : Str} {μ : Mu} {Q : DQ} {E : EX} {s1 s2 s3 s4 s5 s6 s7 o : Option D} (hx : x.length ≤ 100000) (h : ∀ μ', Q (.bl true) μ') : rt_law_1 (exitD Q) [s1, s2, s3, s4, s5, s6, some (.str x), s7, o] μ (exitX E) := by
  unfold rt_law_1
  (with_reducible conv => whnf)
  by_cases hd : ∃ n m, IsDue x n m
  · obtain ⟨n, m, hd⟩ := hd
    refine ⟨x, rfl, hx, fun n' m' hd' => ?_, fun z => absurd ⟨n, m, hd⟩ z⟩
    obtain ⟨rfl, rfl⟩ := due_one hd hd'
    (with_reducible conv => whnf)
    refine ⟨x, rfl, hx, fun n' m' hd' => ?_, fun z => absurd ⟨n, m, hd⟩ z⟩
    obtain ⟨rfl, rfl⟩ := due_one hd hd'
    (with_reducible conv => whnf)
    refine And.intro (dok_due n m) (And.intro (dok_due n m) ?_)
    rw [deq_refl (dok_due n m)]
    (with_reducible conv => whnf)
    refine And.intro (by simp only [List.length_cons, List.length_nil, List.length_append, List.length_map, sizeLine_eq]; omega) ?_
    (with_reducible conv => whnf)
    refine And.intro (dok_due n m) (And.intro dok_nil ?_)
    rw [due_nil]
    ((try with_reducible conv => whnf); repeat (simp only [List.isEmpty_cons, List.isEmpty_nil, Bool.not_true, Bool.not_false, seqOf_lst, seqA_lst, seqA_tup, seqA_kst, seqOf_mset, seqA_mset, mset_same, mset_mset, atI_0, atI_1, atI_2, atI_3, atI_4, atI_5, putI_0, putI_1, putI_2, putI_3, putI_4]; with_reducible conv => whnf))
    obtain ⟨z1, z2⟩ := due_small hd
    refine ⟨n, m, rfl, z1, z2, ?_⟩
    (with_reducible conv => whnf)
    refine ⟨_, MSub.refl _, ?_⟩
    have e : decide (ratS n m = x) = true := decide_eq_true (due_text hd)
    simp only [sel, e]
    exact h _
  · refine ⟨x, rfl, hx, fun n' m' hd' => absurd ⟨n', m', hd'⟩ hd, fun _ => ?_⟩
    (with_reducible conv => whnf)
    refine ⟨x, rfl, hx, fun n' m' hd' => absurd ⟨n', m', hd'⟩ hd, fun _ => ?_⟩
    (with_reducible conv => whnf)
    refine And.intro dok_nil (And.intro dok_nil ?_)
    rw [deq_refl dok_nil]
    (with_reducible conv => whnf)
    refine And.intro (by simp only [List.length_cons, List.length_nil, List.length_append, List.length_map, sizeLine_eq]; omega) ?_
    (with_reducible conv => whnf)
    refine And.intro dok_nil (And.intro dok_nil ?_)
    rw [deq_refl dok_nil]
    (with_reducible conv => whnf)
    exact ⟨_, MSub.refl _, h _⟩
theorem pt1_law {a b at_ rest : Int} {ns : List Int} {k : Nat} {μ : Mu} {Q : DQ} {E : EX} {s1 s3 s4 : Option D} (hm : μ k = PoolD at_ rest ns) (h0 : 0 ≤ at_) (h9 : at_ < 1000) (hns : ns.length < 100000) (h1 : 1 ≤ b) (h2 : b < 10 ^ 21) (h3 : a.natAbs < 10 ^ 30) (h4 : Int.gcd a b = 1)
    (h : ∀ μ', Q (.bl true) μ') : rt_law_2 (exitD Q) [s1, some (.loc k), s3, s4, some (.tup [.int a, .int b]), some (.str (ratS a b)), none, none, none] μ (exitX E) := by
  unfold rt_law_2
  have hd := due_of h1 h2 h3 h4
  obtain ⟨z1, z2⟩ := due_small hd
  (with_reducible conv => whnf)
  refine ⟨a, b, rfl, z1, z2, ?_⟩
  (with_reducible conv => whnf)
  split
  · rename_i c
    simp [sel] at c
  (with_reducible conv => whnf)
  refine ⟨_, rfl, by have := hd.1; omega, fun n' m' hd' => ?_, fun z => absurd ⟨a, b, hd⟩ z⟩
  obtain ⟨rfl, rfl⟩ := due_one hd hd'
  (with_reducible conv => whnf)
  refine ⟨(by simp only [List.length_cons, List.length_nil, List.length_append, List.length_map, sizeLine_eq]; omega), ?_⟩
  (with_reducible conv => whnf)
  refine And.intro (dok_due a b) (And.intro (dok_due a b) ?_)
  rw [deq_refl (dok_due a b)]
  (with_reducible conv => whnf)
  refine ⟨_, _, _, _, _, rfl, hm, h0, by omega, by decide, by decide, hns, fun cnt a1 r1 c0 c1 b0 b1 => ?_⟩
  (with_reducible conv => whnf)
  refine ⟨by omega, ?_⟩
  (with_reducible conv => whnf)
  refine forL_inv (fun rest δ μ' => ∃ (x : Str) (a1 r1 : Int) (o : Option D), δ = [s1, some (.loc k), s3, s4, some (.tup [.int a, .int b]), some (.str (ratS a b)), some (.str x), o, none] ∧ μ' k = PoolD a1 r1 ns ∧ 0 ≤ a1 ∧ a1 < 2000 - 10 * rest.length ∧ rest.length ≤ 2 ∧
    x.length ≤ 20000 ∧ (1 ≤ rest.length → x.length ≤ 6120) ∧ (2 ≤ rest.length → x.length ≤ 60)) ?_ ?_ ?_
  · rintro d rest δ μ' N _ hN ⟨x, a2, r2, o, rfl, hm2, q0, q1, q2, q3, q4, q5⟩
    refine ⟨trivial, ?_⟩
    simp only [List.length_cons] at q1 q2 q4 q5
    (with_reducible conv => whnf)
    refine ⟨k, a2, r2, ns, x, rfl, hm2, q0, by omega, hns, by omega, fun y a3 r3 y1 y2 y3 => ?_⟩
    (with_reducible conv => whnf)
    refine hN _ _ ⟨y, a3, r3, some d, rfl, mset_same .., y2, by omega, by omega, by omega, fun z => by omega, fun z => by omega⟩
  · rintro δ μ' ⟨x, a2, r2, o, rfl, hm2, q0, q1, q2, q3, q4, q5⟩
    refine ⟨trivial, ?_⟩
    exact pt2_law (by omega) h
  · have hl : (rgD 0 cnt.toNat).length = cnt.toNat := rgD_len _ _
    have := hd.1
    refine ⟨ratS a b, a1, r1, none, rfl, mset_same .., b0, by omega, by omega, by omega, fun _ => by omega, fun _ => by omega⟩
theorem p_law : ∀ ds μ Q E, sp_law ds μ Q E → r_law (exitD Q) (startE 9 ds) μ (exitX E) := by
  rintro ds μ Q E ⟨x, ns, rfl, hx, hns, h⟩
  show r_law (exitD Q) [some x, none, none, none, none, none, none, none, none] μ (exitX E)
  unfold r_law
  (with_reducible conv => whnf)
  refine ⟨x, ns, rfl, hx, fun k hk => ?_⟩
  (with_reducible conv => whnf)
  refine ⟨⟨by decide, by decide, by decide⟩, ?_⟩
  (with_reducible conv => whnf)
  refine ⟨(by simp only [List.length_cons, List.length_nil, List.length_append, List.length_map, sizeLine_eq]; omega), ?_⟩
  (with_reducible conv => whnf)
  refine ⟨k, 0, 0, 2, ns, rfl, mset_same .., by decide, by decide, by decide, by decide, by omega, fun d1 a1 r1 c0 c1 b0 b1 => ?_⟩
  rw [mset_mset]
  obtain ⟨sz, hsz, hsz1, hsz2⟩ : ∃ sz : Int, atI [D.int 9, D.int (10 ^ Int.toNat 29)] d1 = some (.int sz) ∧ 9 ≤ sz ∧ sz ≤ 10 ^ 29 := by
    rcases two_of c0 c1 with rfl | rfl
    · exact ⟨9, atI_0, by decide, by decide⟩
    · exact ⟨10 ^ 29, atI_1, by decide, by decide⟩
  ((try with_reducible conv => whnf); repeat (simp only [List.isEmpty_cons, List.isEmpty_nil, Bool.not_true, Bool.not_false, seqOf_lst, seqA_lst, seqA_tup, seqA_kst, seqOf_mset, seqA_mset, mset_same, mset_mset, atI_0, atI_1, atI_2, atI_3, atI_4, atI_5, putI_0, putI_1, putI_2, putI_3, putI_4, hsz]; with_reducible conv => whnf))
  refine ⟨wide_mul (a := 10) (b := 200) (by decide) (by omega) (by decide) (by decide) (by decide), ?_⟩
  (with_reducible conv => whnf)
  refine ⟨k, _, _, _, ns, rfl, mset_same .., b0, by omega, by omega, by omega, by omega, fun d2 a2 r2 e0 e1 b2 b3 => ?_⟩
  rw [mset_mset]
  (with_reducible conv => whnf)
  refine ⟨⟨by decide, by decide, by decide⟩, ?_⟩
  (with_reducible conv => whnf)
  refine ⟨(by simp only [List.length_cons, List.length_nil, List.length_append, List.length_map, sizeLine_eq]; omega), ?_⟩
  (with_reducible conv => whnf)
  refine ⟨k, _, _, _, ns, rfl, mset_same .., b2, by omega, by decide, by decide, by omega, fun d3 a3 r3 g0 g1 b4 b5 => ?_⟩
  rw [mset_mset]
  obtain ⟨sb, hsb, hsb1, hsb2⟩ : ∃ sb : Int, atI [D.int 9, D.int (10 ^ Int.toNat 20)] d3 = some (.int sb) ∧ 9 ≤ sb ∧ sb ≤ 10 ^ 20 := by
    rcases two_of g0 g1 with rfl | rfl
    · exact ⟨9, atI_0, by decide, by decide⟩
    · exact ⟨10 ^ 20, atI_1, by decide, by decide⟩
  ((try with_reducible conv => whnf); repeat (simp only [List.isEmpty_cons, List.isEmpty_nil, Bool.not_true, Bool.not_false, seqOf_lst, seqA_lst, seqA_tup, seqA_kst, seqOf_mset, seqA_mset, mset_same, mset_mset, atI_0, atI_1, atI_2, atI_3, atI_4, atI_5, putI_0, putI_1, putI_2, putI_3, putI_4, hsb]; with_reducible conv => whnf))
  refine ⟨k, _, _, _, ns, rfl, mset_same .., b4, by omega, by omega, by omega, by omega, fun d4 a4 r4 i0 i1 b6 b7 => ?_⟩
  rw [mset_mset]
  (with_reducible conv => whnf)
  refine ⟨_, _, rfl, by omega, by omega, ?_⟩
  have hd1 : (1 : Int) ≤ 1 + d4 := by omega
  obtain ⟨w1, w2, w3, w4⟩ := low_ok (t := d2 - sz) hd1
  generalize hA : (d2 - sz) / (Int.gcd (d2 - sz) (1 + d4) : Int) = A at w1 w2 w3 w4 ⊢
  generalize hB : (1 + d4) / (Int.gcd (d2 - sz) (1 + d4) : Int) = B at w1 w2 w3 w4 ⊢
  have hBb : B < 10 ^ 21 := by omega
  have hAb : A.natAbs < 10 ^ 30 := by omega
  have fA : A.natAbs.log2 < 1920 := (num_fits (Nat.lt_trans hAb (by decide +kernel))).1
  have fB : B.natAbs.log2 < 1920 := (num_fits (Nat.lt_trans (show B.natAbs < 10 ^ 21 by omega) (by decide +kernel))).1
  ((try with_reducible conv => whnf); repeat (simp only [List.isEmpty_cons, List.isEmpty_nil, Bool.not_true, Bool.not_false, seqOf_lst, seqA_lst, seqA_tup, seqA_kst, seqOf_mset, seqA_mset, mset_same, mset_mset, atI_0, atI_1, atI_2, atI_3, atI_4, atI_5, putI_0, putI_1, putI_2, putI_3, putI_4]; with_reducible conv => whnf))
  refine ⟨fA, ?_⟩
  ((try with_reducible conv => whnf); repeat (simp only [List.isEmpty_cons, List.isEmpty_nil, Bool.not_true, Bool.not_false, seqOf_lst, seqA_lst, seqA_tup, seqA_kst, seqOf_mset, seqA_mset, mset_same, mset_mset, atI_0, atI_1, atI_2, atI_3, atI_4, atI_5, putI_0, putI_1, putI_2, putI_3, putI_4]; with_reducible conv => whnf))
  split
  · rename_i c
    simp only [sel, Bool.not_eq_true', decide_eq_false_iff_not] at c
    have l1 : (Str.ofString (toString A)).length ≤ 31 := by rw [show (Str.ofString (toString A)).length = _ from numS_len A]; exact intL_len (by decide) hAb
    have l2 : (Str.ofString (toString B)).length ≤ 31 := by rw [show (Str.ofString (toString B)).length = _ from numS_len B]; exact intL_len (by decide) (by omega)
    (with_reducible conv => whnf)
    refine ⟨by rw [sizeLine_eq, len_slash]; omega, ?_⟩
    ((try with_reducible conv => whnf); repeat (simp only [List.isEmpty_cons, List.isEmpty_nil, Bool.not_true, Bool.not_false, seqOf_lst, seqA_lst, seqA_tup, seqA_kst, seqOf_mset, seqA_mset, mset_same, mset_mset, atI_0, atI_1, atI_2, atI_3, atI_4, atI_5, putI_0, putI_1, putI_2, putI_3, putI_4]; with_reducible conv => whnf))
    refine ⟨fB, ?_⟩
    (with_reducible conv => whnf)
    refine ⟨by rw [len_app, sizeLine_eq, len_slash]; omega, ?_⟩
    (with_reducible conv => whnf)
    have e : ratS A B = Str.ofString (toString A) ++ "/" ++ Str.ofString (toString B) := by rw [ratS, if_neg c]
    rw [← e]
    exact pt1_law (mset_same ..) b6 (by omega) (by omega) w1 hBb hAb w4 h
  · rename_i c
    simp only [sel, Bool.not_eq_false', decide_eq_true_eq] at c
    (with_reducible conv => whnf)
    have e : ratS A B = Str.ofString (toString A) := by rw [ratS, if_pos c]
    rw [← e]
    exact pt1_law (mset_same ..) b6 (by omega) (by omega) w1 hBb hAb w4 h
end K13
namespace K13
open PySem PySem.Spec PyProof.Rows L2 DL TX TL NumText
def d_divisor : He.DefD := ⟨("divisor", none), "divisor", "divisor", defArgs (top 7), defBody (top 7), defScope (top 7), [], []⟩
def d_ratio : He.DefD := ⟨("ratio", none), "ratio", "ratio", defArgs (top 8), defBody (top 8), defScope (top 8), [.int 1], []⟩
def d_read_integer : He.DefD := ⟨("read_integer", none), "read_integer", "read_integer", defArgs (top 9), defBody (top 9), defScope (top 9), [], []⟩
def d_ratio_text : He.DefD := ⟨("ratio_text", none), "ratio_text", "ratio_text", defArgs (top 10), defBody (top 10), defScope (top 10), [], []⟩
def d_read_ratio : He.DefD := ⟨("read_ratio", none), "read_ratio", "read_ratio", defArgs (top 11), defBody (top 11), defScope (top 11), [], []⟩
def d__law_pool : He.DefD := ⟨("_law_pool", none), "_law_pool", "_law_pool", defArgs (top 13), defBody (top 13), defScope (top 13), [], []⟩
def d__law_take : He.DefD := ⟨("_law_take", none), "_law_take", "_law_take", defArgs (top 14), defBody (top 14), defScope (top 14), [], []⟩
def d__law_divisor : He.DefD := ⟨("_law_divisor", none), "_law_divisor", "_law_divisor", defArgs (top 15), defBody (top 15), defScope (top 15), [], []⟩
def d__law_ratio : He.DefD := ⟨("_law_ratio", none), "_law_ratio", "_law_ratio", defArgs (top 16), defBody (top 16), defScope (top 16), [], []⟩
def d__law_plain : He.DefD := ⟨("_law_plain", none), "_law_plain", "_law_plain", defArgs (top 17), defBody (top 17), defScope (top 17), [], []⟩
def d__law_due : He.DefD := ⟨("_law_due", none), "_law_due", "_law_due", defArgs (top 18), defBody (top 18), defScope (top 18), [], []⟩
def d__law_read : He.DefD := ⟨("_law_read", none), "_law_read", "_law_read", defArgs (top 19), defBody (top 19), defScope (top 19), [], []⟩
def d__law_spoiled : He.DefD := ⟨("_law_spoiled", none), "_law_spoiled", "_law_spoiled", defArgs (top 20), defBody (top 20), defScope (top 20), [], []⟩
def d_law : He.DefD := ⟨("law", none), "law", "law", defArgs (top 21), defBody (top 21), defScope (top 21), [], []⟩
def fn : List He.DefD := ([d_divisor, d_ratio, d_read_integer, d_ratio_text, d_read_ratio, d__law_pool, d__law_take, d__law_divisor, d__law_ratio, d__law_plain, d__law_due, d__law_read, d__law_spoiled, d_law] : List He.DefD)
def fa : List He.Fa := ([.glo "divisor", .glo "ratio", .glo "read_integer", .glo "ratio_text", .glo "read_ratio", .glo "_law_pool", .glo "_law_take", .glo "_law_divisor", .glo "_law_ratio", .glo "_law_plain", .glo "_law_due", .glo "_law_read", .glo "_law_spoiled", .glo "law", .free "abs", .free "all", .free "int", .free "len", .free "list", .free "max", .free "range", .free "str", .str "FIGURES" "0123456789", .int "LONGEST_TEXT" 60, .glo "BadText", .exc "BadText", .exm "DeciderError" "BadText" false, .exm "BadRatio" "BadText" false, .exm "BadText" "BadText" true] : List He.Fa)
abbrev R : PySem.W.OpenRow := PySem.W.OpenLaw.row PySem.Challenge.rw_everydecider_k13_texts_of_ratios
abbrev hk : PySem.W.Hook := He.hookD 6 fa fn
def ob (s : PySem.W.SharedT) : He.AlD := He.obsDG 6 fa fn (HandSHeadRun.getT s)
theorem ob_eq (s : PySem.W.SharedT) : ob s = hk.obs s.abs := He.obsDG_eq (HandSHeadRun.getT_eq s)
def loose : List PySem.Str := (["DeciderError", "BadRatio", "BadText", "FIGURES", "LONGEST_TEXT", "divisor", "ratio", "read_integer", "ratio_text", "read_ratio", "_law_pool", "_law_take", "_law_divisor", "_law_ratio", "_law_plain", "_law_due", "_law_read", "_law_spoiled"] : List PySem.Str)
theorem run (w : World) : HandSHeadRun.RunEq R (PySem.W.view R.prog [21]) hk ob 20000 loose w := by
  intro os
  kernel_rfl
end K13
namespace K13
open PySem PySem.Spec PyProof.Rows L2 DL TX TL NumText
theorem len_divisor : ∀ ds μ Q E, sp_divisor ds μ Q E → ds.length = ps_divisor.length := by
  intro ds μ Q E h
  repeat (first | (obtain ⟨e, h⟩ := h; subst e; rfl) | obtain ⟨_, h⟩ := h)
theorem len__law_pool : ∀ ds μ Q E, sp__law_pool ds μ Q E → ds.length = ps__law_pool.length := by
  intro ds μ Q E h
  repeat (first | (obtain ⟨e, h⟩ := h; subst e; rfl) | obtain ⟨_, h⟩ := h)
theorem len__law_take : ∀ ds μ Q E, sp__law_take ds μ Q E → ds.length = ps__law_take.length := by
  intro ds μ Q E h
  repeat (first | (obtain ⟨e, h⟩ := h; subst e; rfl) | obtain ⟨_, h⟩ := h)
theorem len_ratio : ∀ ds μ Q E, sp_ratio ds μ Q E → ds.length = ps_ratio.length := by
  intro ds μ Q E h
  repeat (first | (obtain ⟨e, h⟩ := h; subst e; rfl) | obtain ⟨_, h⟩ := h)
theorem len_read_integer : ∀ ds μ Q E, sp_read_integer ds μ Q E → ds.length = ps_read_integer.length := by
  intro ds μ Q E h
  repeat (first | (obtain ⟨e, h⟩ := h; subst e; rfl) | obtain ⟨_, h⟩ := h)
theorem len_ratio_text : ∀ ds μ Q E, sp_ratio_text ds μ Q E → ds.length = ps_ratio_text.length := by
  intro ds μ Q E h
  repeat (first | (obtain ⟨e, h⟩ := h; subst e; rfl) | obtain ⟨_, h⟩ := h)
theorem len_read_ratio : ∀ ds μ Q E, sp_read_ratio ds μ Q E → ds.length = ps_read_ratio.length := by
  intro ds μ Q E h
  repeat (first | (obtain ⟨e, h⟩ := h; subst e; rfl) | obtain ⟨_, h⟩ := h)
theorem len__law_divisor : ∀ ds μ Q E, sp__law_divisor ds μ Q E → ds.length = ps__law_divisor.length := by
  intro ds μ Q E h
  repeat (first | (obtain ⟨e, h⟩ := h; subst e; rfl) | obtain ⟨_, h⟩ := h)
theorem len__law_ratio : ∀ ds μ Q E, sp__law_ratio ds μ Q E → ds.length = ps__law_ratio.length := by
  intro ds μ Q E h
  repeat (first | (obtain ⟨e, h⟩ := h; subst e; rfl) | obtain ⟨_, h⟩ := h)
theorem len__law_plain : ∀ ds μ Q E, sp__law_plain ds μ Q E → ds.length = ps__law_plain.length := by
  intro ds μ Q E h
  repeat (first | (obtain ⟨e, h⟩ := h; subst e; rfl) | obtain ⟨_, h⟩ := h)
theorem len__law_due : ∀ ds μ Q E, sp__law_due ds μ Q E → ds.length = ps__law_due.length := by
  intro ds μ Q E h
  repeat (first | (obtain ⟨e, h⟩ := h; subst e; rfl) | obtain ⟨_, h⟩ := h)
theorem len__law_read : ∀ ds μ Q E, sp__law_read ds μ Q E → ds.length = ps__law_read.length := by
  intro ds μ Q E h
  repeat (first | (obtain ⟨e, h⟩ := h; subst e; rfl) | obtain ⟨_, h⟩ := h)
theorem len__law_spoiled : ∀ ds μ Q E, sp__law_spoiled ds μ Q E → ds.length = ps__law_spoiled.length := by
  intro ds μ Q E h
  repeat (first | (obtain ⟨e, h⟩ := h; subst e; rfl) | obtain ⟨_, h⟩ := h)
theorem len_law : ∀ ds μ Q E, sp_law ds μ Q E → ds.length = ps_law.length := by
  intro ds μ Q E h
  repeat (first | (obtain ⟨e, h⟩ := h; subst e; rfl) | obtain ⟨_, h⟩ := h)
theorem facts {P : Program} {w : World} {K : PySem.W.Frag} {h : Heap} {mg : Str → Option Value} {f : Addr} (X : K.In h) (G : h.Ns mainGlobals mg) (hfa : mg ("law" : Str) = some (.ref f)) (c : He.SaysD fa fn K) :
    ∃ fd : FuncData, (∀ (s : Shared) (v : Value), BindsTo s fd ⟨[v], []⟩ [("_law_script", v)]) ∧ ∀ base : Heap, K.In base → base.Ns mainGlobals mg → FnOk P w K mg base L2.CX0 5 f fd ps_law (fun vs H Q _ => toSp ⟨He.ga K, K⟩ sp_law vs H Q fun _ _ _ => False) := by
  obtain ⟨fd_divisor, F_divisor⟩ := c.def_ 0 (d := d_divisor) rfl
  obtain ⟨fd_ratio, F_ratio⟩ := c.def_ 1 (d := d_ratio) rfl
  obtain ⟨fd_read_integer, F_read_integer⟩ := c.def_ 2 (d := d_read_integer) rfl
  obtain ⟨fd_ratio_text, F_ratio_text⟩ := c.def_ 3 (d := d_ratio_text) rfl
  obtain ⟨fd_read_ratio, F_read_ratio⟩ := c.def_ 4 (d := d_read_ratio) rfl
  obtain ⟨fd__law_pool, F__law_pool⟩ := c.def_ 5 (d := d__law_pool) rfl
  obtain ⟨fd__law_take, F__law_take⟩ := c.def_ 6 (d := d__law_take) rfl
  obtain ⟨fd__law_divisor, F__law_divisor⟩ := c.def_ 7 (d := d__law_divisor) rfl
  obtain ⟨fd__law_ratio, F__law_ratio⟩ := c.def_ 8 (d := d__law_ratio) rfl
  obtain ⟨fd__law_plain, F__law_plain⟩ := c.def_ 9 (d := d__law_plain) rfl
  obtain ⟨fd__law_due, F__law_due⟩ := c.def_ 10 (d := d__law_due) rfl
  obtain ⟨fd__law_read, F__law_read⟩ := c.def_ 11 (d := d__law_read) rfl
  obtain ⟨fd__law_spoiled, F__law_spoiled⟩ := c.def_ 12 (d := d__law_spoiled) rfl
  obtain ⟨fd_law, F_law⟩ := c.def_ 13 (d := d_law) rfl
  have g_divisor := He.glo_ok X G (c.fact 0 (f := .glo "divisor") rfl)
  have g_ratio := He.glo_ok X G (c.fact 1 (f := .glo "ratio") rfl)
  have g_read_integer := He.glo_ok X G (c.fact 2 (f := .glo "read_integer") rfl)
  have g_ratio_text := He.glo_ok X G (c.fact 3 (f := .glo "ratio_text") rfl)
  have g_read_ratio := He.glo_ok X G (c.fact 4 (f := .glo "read_ratio") rfl)
  have g__law_pool := He.glo_ok X G (c.fact 5 (f := .glo "_law_pool") rfl)
  have g__law_take := He.glo_ok X G (c.fact 6 (f := .glo "_law_take") rfl)
  have g__law_divisor := He.glo_ok X G (c.fact 7 (f := .glo "_law_divisor") rfl)
  have g__law_ratio := He.glo_ok X G (c.fact 8 (f := .glo "_law_ratio") rfl)
  have g__law_plain := He.glo_ok X G (c.fact 9 (f := .glo "_law_plain") rfl)
  have g__law_due := He.glo_ok X G (c.fact 10 (f := .glo "_law_due") rfl)
  have g__law_read := He.glo_ok X G (c.fact 11 (f := .glo "_law_read") rfl)
  have g__law_spoiled := He.glo_ok X G (c.fact 12 (f := .glo "_law_spoiled") rfl)
  have g_law := He.glo_ok X G (c.fact 13 (f := .glo "law") rfl)
  have g_BadText := He.glo_ok X G (c.fact 24 (f := .glo "BadText") rfl)
  have fx : Fx ⟨He.ga K, K⟩ mg := {
    b_abs := He.free_ok X G (c.fact 14 (f := .free "abs") rfl)
    b_all := He.free_ok X G (c.fact 15 (f := .free "all") rfl)
    b_int := He.free_ok X G (c.fact 16 (f := .free "int") rfl)
    b_len := He.free_ok X G (c.fact 17 (f := .free "len") rfl)
    b_list := He.free_ok X G (c.fact 18 (f := .free "list") rfl)
    b_max := He.free_ok X G (c.fact 19 (f := .free "max") rfl)
    b_range := He.free_ok X G (c.fact 20 (f := .free "range") rfl)
    b_str := He.free_ok X G (c.fact 21 (f := .free "str") rfl)
    c_FIGURES := He.str_ok X G (c.fact 22 (f := .str "FIGURES" "0123456789") rfl)
    c_LONGEST_TEXT := He.int_ok X G (c.fact 23 (f := .int "LONGEST_TEXT" 60) rfl)
    x_BadText := fun h1 h2 h3 => mk_own0 (c.fact 25 (f := .exc "BadText") rfl) g_BadText h1 h2 h3
    g_BadText := g_BadText
    m_BadText := fun y b h => by
      unfold DLm.m_BadText at h
      split at h
      · rename_i e
        subst e
        cases h
        exact He.exm_ok (c.fact 26 (f := .exm "DeciderError" "BadText" false) rfl)
      split at h
      · rename_i e
        subst e
        cases h
        exact He.exm_ok (c.fact 27 (f := .exm "BadRatio" "BadText" false) rfl)
      split at h
      · rename_i e
        subst e
        cases h
        exact He.exm_ok (c.fact 28 (f := .exm "BadText" "BadText" true) rfl)
      cases h }
  have h_divisor := fun base : Heap => ok_divisor (P := P) (w := w) (base := base) fx F_divisor g_divisor len_divisor p_divisor
  have h__law_pool := fun base : Heap => ok__law_pool (P := P) (w := w) (base := base) fx F__law_pool g__law_pool len__law_pool p__law_pool
  have h__law_take := fun base : Heap => ok__law_take (P := P) (w := w) (base := base) fx F__law_take g__law_take len__law_take p__law_take
  have h_ratio := fun base : Heap => ok_ratio (P := P) (w := w) (base := base) fx (h_divisor base) F_ratio g_ratio len_ratio p_ratio
  have h_read_integer := fun base : Heap => ok_read_integer (P := P) (w := w) (base := base) fx F_read_integer g_read_integer len_read_integer p_read_integer
  have h_ratio_text := fun base : Heap => ok_ratio_text (P := P) (w := w) (base := base) fx F_ratio_text g_ratio_text len_ratio_text p_ratio_text
  have h_read_ratio := fun base : Heap => ok_read_ratio (P := P) (w := w) (base := base) fx (h_ratio base) (h_ratio_text base) (h_read_integer base) F_read_ratio g_read_ratio len_read_ratio p_read_ratio
  have h__law_divisor := fun base : Heap => ok__law_divisor (P := P) (w := w) (base := base) fx F__law_divisor g__law_divisor len__law_divisor p__law_divisor
  have h__law_ratio := fun base : Heap => ok__law_ratio (P := P) (w := w) (base := base) fx (h__law_divisor base) F__law_ratio g__law_ratio len__law_ratio p__law_ratio
  have h__law_plain := fun base : Heap => ok__law_plain (P := P) (w := w) (base := base) fx F__law_plain g__law_plain len__law_plain p__law_plain
  have h__law_due := fun base : Heap => ok__law_due (P := P) (w := w) (base := base) fx (h__law_divisor base) (h__law_plain base) F__law_due g__law_due len__law_due p__law_due
  have h__law_read := fun base : Heap => ok__law_read (P := P) (w := w) (base := base) fx (h_read_ratio base) F__law_read g__law_read len__law_read p__law_read
  have h__law_spoiled := fun base : Heap => ok__law_spoiled (P := P) (w := w) (base := base) fx (h__law_take base) F__law_spoiled g__law_spoiled len__law_spoiled p__law_spoiled
  have e := hfa.symm.trans g_law
  cases e
  have b := FunD.bindsA (ps := ps_law) F_law fun _ _ _ _ _ _ us hl => match us, hl with | [_], _ => rfl
  exact ⟨fd_law, fun s v => b s [v] rfl, fun base _ _ => quiet (fn_law fx (h__law_due base) (h__law_pool base) (h__law_ratio base) (h__law_read base) (h__law_spoiled base) (h__law_take base) (h_ratio_text base) F_law len_law p_law)⟩
end K13
open PySem PySem.W PySem.Calls PyProof.Rows
theorem PySem.Challenge.cw_everydecider_k13_texts_of_ratios_holds : PySem.Challenge.rw_everydecider_k13_texts_of_ratios.Holds := by
  w_on; o_law
  refine HandSHeadRun.head_any (r := OpenLaw.row PySem.Challenge.rw_everydecider_k13_texts_of_ratios) (q := view (OpenLaw.row PySem.Challenge.rw_everydecider_k13_texts_of_ratios).prog [21]) (H := K13.hk) (ob := K13.ob) (M := 20000) (loose := K13.loose) (d := HandSHeadRun.topDef (OpenLaw.row PySem.Challenge.rw_everydecider_k13_texts_of_ratios).prog 21) (kwd := []) K13.ob_eq
    (by kernel_rfl) (fun s => by kernel_rfl) K13.run (by kernel_rfl) (by kernel_rfl) (by kernel_rfl) (by rfl) (by first | assumption | decide +kernel) (by decide +kernel) ⟨rfl, rfl, rfl, rfl, rfl, by decide +kernel⟩ ?hw ?hc
  case hw => w_witness2
  case hc =>
    refine L2.walk_ofE (l := PySem.Challenge.rw_everydecider_k13_texts_of_ratios) (n := 63) (k := 5) (x := "_law_script") (CX := L2.CX0) rfl (by decide) (by kernel_rfl) ⟨rfl, by decide, by decide⟩ ?F (fun _ _ _ _ z => z)
    intro w mg fa h Y G hmg0
    obtain ⟨K, KX, c⟩ := Y
    have hmg : mg ("law" : PySem.Str) = some (.ref fa) := by
      have e : (HandSHeadRun.topDef (OpenLaw.row PySem.Challenge.rw_everydecider_k13_texts_of_ratios).prog 21).name = ("law" : PySem.Str) := by kernel_rfl
      rw [← e]
      exact hmg0
    obtain ⟨fd, hb, hF⟩ := K13.facts (P := (PySem.Challenge.rw_everydecider_k13_texts_of_ratios).prog) (w := w) KX G hmg c
    exact ⟨K, fd, fun vs H Q _ => DL.toSp ⟨He.ga K, K⟩ K13.sp_law vs H Q fun _ _ _ => False, KX, hb, fun H a ns hl _ hS => DL.toSp_law (Nat.le_trans hl (by decide)) hS fun μ QD ED hq => ⟨_, ns, rfl, rfl, hl, hq⟩, hF⟩
