import PyProof.Rows.All
import Wide.All
import OpenK.AllK
import Wide.FinOn
import PySem.Challenge.RW_sj0108_01
open PySem PySem.W PyProof.Rows PySem.Calls PySem.Spec
set_option Elab.async false
set_option compiler.extract_closed false
set_option linter.all false
set_option linter.unusedVariables false
set_option genInjectivity false
set_option genSizeOf false
local macro_rules | `(tactic| lia) => `(tactic| lia -abstractProof)
local macro_rules | `(tactic| omega) => `(tactic| lia)
open PySem PySem.W PyProof.Rows PySem.Calls PySem.Spec
namespace Mine
/-! the constants of a counterexample, if there is one: what holds of them holds of all -/
noncomputable abbrev CxBase := World × Program × (List Str) × (ExcName → Option Value) × (Str → Option Value) × (Str → Option Value) × Nat × Nat × (Option (List Code)) × Str × Scope × Addr × Value × (List (Str × Addr)) × (List Env) × Around × Heap × Heap × Addr × (Str → Option Value) × (List (Addr × Obj)) × (List (Addr × Obj)) × Shared × Value × (Value → Shared → Prop) × (Value → Shared → Prop)
noncomputable def cx0 : CxBase := (⟨fun _ _ => 0, { strHash := fun _ => 0, shareClass := fun _ => 0, mergeTok := id, idOf := fun _ => 0, idOfShared := fun _ _ => 0, followText := fun _ => false, idOfImm := fun _ => 0 }⟩, default, [], fun _ => none, fun _ => none, fun _ => none, 0, 0, none, default, default, default, default, [], [], {}, {}, {}, default, fun _ => none, [], [], {}, default, fun _ _ => True, fun _ _ => True)
noncomputable def cx_w (c : CxBase) : World := c.1
noncomputable def cx_p (c : CxBase) : Program := c.2.1
noncomputable def cx_loose (c : CxBase) : List Str := c.2.2.1
noncomputable def cx_mean (c : CxBase) : ExcName → Option Value := c.2.2.2.1
noncomputable def cx_mg (c : CxBase) : Str → Option Value := c.2.2.2.2.1
noncomputable def cx_mb (c : CxBase) : Str → Option Value := c.2.2.2.2.2.1
noncomputable def cx_dp (c : CxBase) : Nat := c.2.2.2.2.2.2.1
noncomputable def cx_un (c : CxBase) : Nat := c.2.2.2.2.2.2.2.1
noncomputable def cx_gd (c : CxBase) : Option (List Code) := c.2.2.2.2.2.2.2.2.1
noncomputable def cx_cn (c : CxBase) : Str := c.2.2.2.2.2.2.2.2.2.1
noncomputable def cx_cs (c : CxBase) : Scope := c.2.2.2.2.2.2.2.2.2.2.1
noncomputable def cx_a (c : CxBase) : Addr := c.2.2.2.2.2.2.2.2.2.2.2.1
noncomputable def cx_ccd (c : CxBase) : Value := c.2.2.2.2.2.2.2.2.2.2.2.2.1
noncomputable def cx_cl (c : CxBase) : List (Str × Addr) := c.2.2.2.2.2.2.2.2.2.2.2.2.2.1
noncomputable def cx_outer (c : CxBase) : List Env := c.2.2.2.2.2.2.2.2.2.2.2.2.2.2.1
noncomputable def cx_A₀ (c : CxBase) : Around := c.2.2.2.2.2.2.2.2.2.2.2.2.2.2.2.1
noncomputable def cx_base (c : CxBase) : Heap := c.2.2.2.2.2.2.2.2.2.2.2.2.2.2.2.2.1
noncomputable def cx_h₀ (c : CxBase) : Heap := c.2.2.2.2.2.2.2.2.2.2.2.2.2.2.2.2.2.1
noncomputable def cx_L (c : CxBase) : Addr := c.2.2.2.2.2.2.2.2.2.2.2.2.2.2.2.2.2.2.1
noncomputable def cx_m (c : CxBase) : Str → Option Value := c.2.2.2.2.2.2.2.2.2.2.2.2.2.2.2.2.2.2.2.1
noncomputable def cx_R (c : CxBase) : List (Addr × Obj) := c.2.2.2.2.2.2.2.2.2.2.2.2.2.2.2.2.2.2.2.2.1
noncomputable def cx_T (c : CxBase) : List (Addr × Obj) := c.2.2.2.2.2.2.2.2.2.2.2.2.2.2.2.2.2.2.2.2.2.1
noncomputable def cx_s (c : CxBase) : Shared := c.2.2.2.2.2.2.2.2.2.2.2.2.2.2.2.2.2.2.2.2.2.2.1
noncomputable def cx_v (c : CxBase) : Value := c.2.2.2.2.2.2.2.2.2.2.2.2.2.2.2.2.2.2.2.2.2.2.2.1
noncomputable def cx_Q (c : CxBase) : Value → Shared → Prop := c.2.2.2.2.2.2.2.2.2.2.2.2.2.2.2.2.2.2.2.2.2.2.2.2.1
noncomputable def cx_E (c : CxBase) : Value → Shared → Prop := c.2.2.2.2.2.2.2.2.2.2.2.2.2.2.2.2.2.2.2.2.2.2.2.2.2
noncomputable def fn {α : Type} : List α → α → Nat → α
  | [], d, _ => d
  | x :: _, _, 0 => x
  | _ :: r, d, i + 1 => fn r d i
noncomputable abbrev CxF := CxBase × (Nat → Tok) × (Nat → Addr) × (Nat → Value) × (Nat → Obj) × (Nat → List (Int × Int)) × (Nat → Array UInt8) × (Nat → List (Int × Array UInt8))
noncomputable def cx_tok (c : CxF) (i : Nat) : Tok := c.2.1 i
noncomputable def cx_adr (c : CxF) (i : Nat) : Addr := c.2.2.1 i
noncomputable def cx_val (c : CxF) (i : Nat) : Value := c.2.2.2.1 i
noncomputable def cx_obj (c : CxF) (i : Nat) : Obj := c.2.2.2.2.1 i
noncomputable def cx_sps (c : CxF) (i : Nat) : List (Int × Int) := c.2.2.2.2.2.1 i
noncomputable def cx_byt (c : CxF) (i : Nat) : Array UInt8 := c.2.2.2.2.2.2.1 i
noncomputable def cx_pcs (c : CxF) (i : Nat) : List (Int × Array UInt8) := c.2.2.2.2.2.2.2 i
theorem ne_cxf : Nonempty CxF := ⟨(cx0, fun _ => default, fun _ => default, fun _ => default, fun _ => default, fun _ => [], fun _ => #[], fun _ => [])⟩
theorem ne_base : Nonempty CxBase := ⟨cx0⟩
theorem all_eps {α : Type} {ne : Nonempty α} {S : α → Prop} (h : S (@Classical.epsilon α ne fun c => ¬ S c)) (c : α) : S c :=
  Classical.byContradiction fun q => @Classical.epsilon_spec α (fun c => ¬ S c) ⟨c, q⟩ h
/-- the same for one variable, with the constant in its place -/
@[irreducible] noncomputable def ek {α : Type} (ne : Nonempty α) (S : α → Prop) : α := @Classical.epsilon α ne fun c => ¬ S c
theorem ne_shared : Nonempty PySem.Shared := ⟨{}⟩
theorem all_ek {α : Type} [ne : Nonempty α] {S : α → Prop} (h : S (ek ne S)) : ∀ c, S c := fun c =>
  Classical.byContradiction fun q => @Classical.epsilon_spec α (fun c => ¬ S c) ⟨c, q⟩ (by unfold ek at h; exact h)
theorem all_eks {S : PySem.Shared → Prop} (h : S (ek ne_shared S)) : ∀ c, S c := all_ek (ne := ne_shared) h
theorem ne_dat : Nonempty PySem.W.Dat := ⟨.none⟩
theorem all_ekd {S : PySem.W.Dat → Prop} (h : S (ek ne_dat S)) : ∀ c, S c := all_ek (ne := ne_dat) h
/-! the same for several variables at once -/
@[irreducible] noncomputable def e2a {α β : Type} {na : Nonempty α} {nb : Nonempty β} (S : α → β → Prop) : α := (@Classical.epsilon (α × β) ⟨(Classical.choice na, Classical.choice nb)⟩ (fun p : α × β => ¬ S p.1 p.2)).1
@[irreducible] noncomputable def e2b {α β : Type} {na : Nonempty α} {nb : Nonempty β} (S : α → β → Prop) : β := (@Classical.epsilon (α × β) ⟨(Classical.choice na, Classical.choice nb)⟩ (fun p : α × β => ¬ S p.1 p.2)).2
theorem all_ek2 {α β : Type} [na : Nonempty α] [nb : Nonempty β] {S : α → β → Prop} (h : S (@e2a α β na nb S) (@e2b α β na nb S)) : ∀ c0 c1, S c0 c1 := fun c0 c1 =>
  Classical.byContradiction fun q => @Classical.epsilon_spec (α × β) (fun p : α × β => ¬ S p.1 p.2) ⟨(c0, c1), q⟩ (by unfold e2a e2b at h; exact h)
@[irreducible] noncomputable def e3a {α β γ : Type} {na : Nonempty α} {nb : Nonempty β} {nc : Nonempty γ} (S : α → β → γ → Prop) : α := (@Classical.epsilon (α × β × γ) ⟨(Classical.choice na, Classical.choice nb, Classical.choice nc)⟩ (fun p : α × β × γ => ¬ S p.1 p.2.1 p.2.2)).1
@[irreducible] noncomputable def e3b {α β γ : Type} {na : Nonempty α} {nb : Nonempty β} {nc : Nonempty γ} (S : α → β → γ → Prop) : β := (@Classical.epsilon (α × β × γ) ⟨(Classical.choice na, Classical.choice nb, Classical.choice nc)⟩ (fun p : α × β × γ => ¬ S p.1 p.2.1 p.2.2)).2.1
@[irreducible] noncomputable def e3c {α β γ : Type} {na : Nonempty α} {nb : Nonempty β} {nc : Nonempty γ} (S : α → β → γ → Prop) : γ := (@Classical.epsilon (α × β × γ) ⟨(Classical.choice na, Classical.choice nb, Classical.choice nc)⟩ (fun p : α × β × γ => ¬ S p.1 p.2.1 p.2.2)).2.2
theorem all_ek3 {α β γ : Type} [na : Nonempty α] [nb : Nonempty β] [nc : Nonempty γ] {S : α → β → γ → Prop} (h : S (@e3a α β γ na nb nc S) (@e3b α β γ na nb nc S) (@e3c α β γ na nb nc S)) : ∀ c0 c1 c2, S c0 c1 c2 := fun c0 c1 c2 =>
  Classical.byContradiction fun q => @Classical.epsilon_spec (α × β × γ) (fun p : α × β × γ => ¬ S p.1 p.2.1 p.2.2) ⟨(c0, c1, c2), q⟩ (by unfold e3a e3b e3c at h; exact h)
@[irreducible] noncomputable def e4a {α β γ δ : Type} {na : Nonempty α} {nb : Nonempty β} {nc : Nonempty γ} {nd : Nonempty δ} (S : α → β → γ → δ → Prop) : α := (@Classical.epsilon (α × β × γ × δ) ⟨(Classical.choice na, Classical.choice nb, Classical.choice nc, Classical.choice nd)⟩ (fun p : α × β × γ × δ => ¬ S p.1 p.2.1 p.2.2.1 p.2.2.2)).1
@[irreducible] noncomputable def e4b {α β γ δ : Type} {na : Nonempty α} {nb : Nonempty β} {nc : Nonempty γ} {nd : Nonempty δ} (S : α → β → γ → δ → Prop) : β := (@Classical.epsilon (α × β × γ × δ) ⟨(Classical.choice na, Classical.choice nb, Classical.choice nc, Classical.choice nd)⟩ (fun p : α × β × γ × δ => ¬ S p.1 p.2.1 p.2.2.1 p.2.2.2)).2.1
@[irreducible] noncomputable def e4c {α β γ δ : Type} {na : Nonempty α} {nb : Nonempty β} {nc : Nonempty γ} {nd : Nonempty δ} (S : α → β → γ → δ → Prop) : γ := (@Classical.epsilon (α × β × γ × δ) ⟨(Classical.choice na, Classical.choice nb, Classical.choice nc, Classical.choice nd)⟩ (fun p : α × β × γ × δ => ¬ S p.1 p.2.1 p.2.2.1 p.2.2.2)).2.2.1
@[irreducible] noncomputable def e4d {α β γ δ : Type} {na : Nonempty α} {nb : Nonempty β} {nc : Nonempty γ} {nd : Nonempty δ} (S : α → β → γ → δ → Prop) : δ := (@Classical.epsilon (α × β × γ × δ) ⟨(Classical.choice na, Classical.choice nb, Classical.choice nc, Classical.choice nd)⟩ (fun p : α × β × γ × δ => ¬ S p.1 p.2.1 p.2.2.1 p.2.2.2)).2.2.2
theorem all_ek4 {α β γ δ : Type} [na : Nonempty α] [nb : Nonempty β] [nc : Nonempty γ] [nd : Nonempty δ] {S : α → β → γ → δ → Prop} (h : S (@e4a α β γ δ na nb nc nd S) (@e4b α β γ δ na nb nc nd S) (@e4c α β γ δ na nb nc nd S) (@e4d α β γ δ na nb nc nd S)) : ∀ c0 c1 c2 c3, S c0 c1 c2 c3 := fun c0 c1 c2 c3 =>
  Classical.byContradiction fun q => @Classical.epsilon_spec (α × β × γ × δ) (fun p : α × β × γ × δ => ¬ S p.1 p.2.1 p.2.2.1 p.2.2.2) ⟨(c0, c1, c2, c3), q⟩ (by unfold e4a e4b e4c e4d at h; exact h)
@[irreducible] noncomputable def e5a {α β γ δ ε : Type} {na : Nonempty α} {nb : Nonempty β} {nc : Nonempty γ} {nd : Nonempty δ} {ne : Nonempty ε} (S : α → β → γ → δ → ε → Prop) : α := (@Classical.epsilon (α × β × γ × δ × ε) ⟨(Classical.choice na, Classical.choice nb, Classical.choice nc, Classical.choice nd, Classical.choice ne)⟩ (fun p : α × β × γ × δ × ε => ¬ S p.1 p.2.1 p.2.2.1 p.2.2.2.1 p.2.2.2.2)).1
@[irreducible] noncomputable def e5b {α β γ δ ε : Type} {na : Nonempty α} {nb : Nonempty β} {nc : Nonempty γ} {nd : Nonempty δ} {ne : Nonempty ε} (S : α → β → γ → δ → ε → Prop) : β := (@Classical.epsilon (α × β × γ × δ × ε) ⟨(Classical.choice na, Classical.choice nb, Classical.choice nc, Classical.choice nd, Classical.choice ne)⟩ (fun p : α × β × γ × δ × ε => ¬ S p.1 p.2.1 p.2.2.1 p.2.2.2.1 p.2.2.2.2)).2.1
@[irreducible] noncomputable def e5c {α β γ δ ε : Type} {na : Nonempty α} {nb : Nonempty β} {nc : Nonempty γ} {nd : Nonempty δ} {ne : Nonempty ε} (S : α → β → γ → δ → ε → Prop) : γ := (@Classical.epsilon (α × β × γ × δ × ε) ⟨(Classical.choice na, Classical.choice nb, Classical.choice nc, Classical.choice nd, Classical.choice ne)⟩ (fun p : α × β × γ × δ × ε => ¬ S p.1 p.2.1 p.2.2.1 p.2.2.2.1 p.2.2.2.2)).2.2.1
@[irreducible] noncomputable def e5d {α β γ δ ε : Type} {na : Nonempty α} {nb : Nonempty β} {nc : Nonempty γ} {nd : Nonempty δ} {ne : Nonempty ε} (S : α → β → γ → δ → ε → Prop) : δ := (@Classical.epsilon (α × β × γ × δ × ε) ⟨(Classical.choice na, Classical.choice nb, Classical.choice nc, Classical.choice nd, Classical.choice ne)⟩ (fun p : α × β × γ × δ × ε => ¬ S p.1 p.2.1 p.2.2.1 p.2.2.2.1 p.2.2.2.2)).2.2.2.1
@[irreducible] noncomputable def e5e {α β γ δ ε : Type} {na : Nonempty α} {nb : Nonempty β} {nc : Nonempty γ} {nd : Nonempty δ} {ne : Nonempty ε} (S : α → β → γ → δ → ε → Prop) : ε := (@Classical.epsilon (α × β × γ × δ × ε) ⟨(Classical.choice na, Classical.choice nb, Classical.choice nc, Classical.choice nd, Classical.choice ne)⟩ (fun p : α × β × γ × δ × ε => ¬ S p.1 p.2.1 p.2.2.1 p.2.2.2.1 p.2.2.2.2)).2.2.2.2
theorem all_ek5 {α β γ δ ε : Type} [na : Nonempty α] [nb : Nonempty β] [nc : Nonempty γ] [nd : Nonempty δ] [ne : Nonempty ε] {S : α → β → γ → δ → ε → Prop} (h : S (@e5a α β γ δ ε na nb nc nd ne S) (@e5b α β γ δ ε na nb nc nd ne S) (@e5c α β γ δ ε na nb nc nd ne S) (@e5d α β γ δ ε na nb nc nd ne S) (@e5e α β γ δ ε na nb nc nd ne S)) : ∀ c0 c1 c2 c3 c4, S c0 c1 c2 c3 c4 := fun c0 c1 c2 c3 c4 =>
  Classical.byContradiction fun q => @Classical.epsilon_spec (α × β × γ × δ × ε) (fun p : α × β × γ × δ × ε => ¬ S p.1 p.2.1 p.2.2.1 p.2.2.2.1 p.2.2.2.2) ⟨(c0, c1, c2, c3, c4), q⟩ (by unfold e5a e5b e5c e5d e5e at h; exact h)
@[irreducible] noncomputable def e6a {α β γ δ ε ζ : Type} {na : Nonempty α} {nb : Nonempty β} {nc : Nonempty γ} {nd : Nonempty δ} {ne : Nonempty ε} {nf : Nonempty ζ} (S : α → β → γ → δ → ε → ζ → Prop) : α := (@Classical.epsilon (α × β × γ × δ × ε × ζ) ⟨(Classical.choice na, Classical.choice nb, Classical.choice nc, Classical.choice nd, Classical.choice ne, Classical.choice nf)⟩ (fun p : α × β × γ × δ × ε × ζ => ¬ S p.1 p.2.1 p.2.2.1 p.2.2.2.1 p.2.2.2.2.1 p.2.2.2.2.2)).1
@[irreducible] noncomputable def e6b {α β γ δ ε ζ : Type} {na : Nonempty α} {nb : Nonempty β} {nc : Nonempty γ} {nd : Nonempty δ} {ne : Nonempty ε} {nf : Nonempty ζ} (S : α → β → γ → δ → ε → ζ → Prop) : β := (@Classical.epsilon (α × β × γ × δ × ε × ζ) ⟨(Classical.choice na, Classical.choice nb, Classical.choice nc, Classical.choice nd, Classical.choice ne, Classical.choice nf)⟩ (fun p : α × β × γ × δ × ε × ζ => ¬ S p.1 p.2.1 p.2.2.1 p.2.2.2.1 p.2.2.2.2.1 p.2.2.2.2.2)).2.1
@[irreducible] noncomputable def e6c {α β γ δ ε ζ : Type} {na : Nonempty α} {nb : Nonempty β} {nc : Nonempty γ} {nd : Nonempty δ} {ne : Nonempty ε} {nf : Nonempty ζ} (S : α → β → γ → δ → ε → ζ → Prop) : γ := (@Classical.epsilon (α × β × γ × δ × ε × ζ) ⟨(Classical.choice na, Classical.choice nb, Classical.choice nc, Classical.choice nd, Classical.choice ne, Classical.choice nf)⟩ (fun p : α × β × γ × δ × ε × ζ => ¬ S p.1 p.2.1 p.2.2.1 p.2.2.2.1 p.2.2.2.2.1 p.2.2.2.2.2)).2.2.1
@[irreducible] noncomputable def e6d {α β γ δ ε ζ : Type} {na : Nonempty α} {nb : Nonempty β} {nc : Nonempty γ} {nd : Nonempty δ} {ne : Nonempty ε} {nf : Nonempty ζ} (S : α → β → γ → δ → ε → ζ → Prop) : δ := (@Classical.epsilon (α × β × γ × δ × ε × ζ) ⟨(Classical.choice na, Classical.choice nb, Classical.choice nc, Classical.choice nd, Classical.choice ne, Classical.choice nf)⟩ (fun p : α × β × γ × δ × ε × ζ => ¬ S p.1 p.2.1 p.2.2.1 p.2.2.2.1 p.2.2.2.2.1 p.2.2.2.2.2)).2.2.2.1
@[irreducible] noncomputable def e6e {α β γ δ ε ζ : Type} {na : Nonempty α} {nb : Nonempty β} {nc : Nonempty γ} {nd : Nonempty δ} {ne : Nonempty ε} {nf : Nonempty ζ} (S : α → β → γ → δ → ε → ζ → Prop) : ε := (@Classical.epsilon (α × β × γ × δ × ε × ζ) ⟨(Classical.choice na, Classical.choice nb, Classical.choice nc, Classical.choice nd, Classical.choice ne, Classical.choice nf)⟩ (fun p : α × β × γ × δ × ε × ζ => ¬ S p.1 p.2.1 p.2.2.1 p.2.2.2.1 p.2.2.2.2.1 p.2.2.2.2.2)).2.2.2.2.1
@[irreducible] noncomputable def e6f {α β γ δ ε ζ : Type} {na : Nonempty α} {nb : Nonempty β} {nc : Nonempty γ} {nd : Nonempty δ} {ne : Nonempty ε} {nf : Nonempty ζ} (S : α → β → γ → δ → ε → ζ → Prop) : ζ := (@Classical.epsilon (α × β × γ × δ × ε × ζ) ⟨(Classical.choice na, Classical.choice nb, Classical.choice nc, Classical.choice nd, Classical.choice ne, Classical.choice nf)⟩ (fun p : α × β × γ × δ × ε × ζ => ¬ S p.1 p.2.1 p.2.2.1 p.2.2.2.1 p.2.2.2.2.1 p.2.2.2.2.2)).2.2.2.2.2
theorem all_ek6 {α β γ δ ε ζ : Type} [na : Nonempty α] [nb : Nonempty β] [nc : Nonempty γ] [nd : Nonempty δ] [ne : Nonempty ε] [nf : Nonempty ζ] {S : α → β → γ → δ → ε → ζ → Prop} (h : S (@e6a α β γ δ ε ζ na nb nc nd ne nf S) (@e6b α β γ δ ε ζ na nb nc nd ne nf S) (@e6c α β γ δ ε ζ na nb nc nd ne nf S) (@e6d α β γ δ ε ζ na nb nc nd ne nf S) (@e6e α β γ δ ε ζ na nb nc nd ne nf S) (@e6f α β γ δ ε ζ na nb nc nd ne nf S)) : ∀ c0 c1 c2 c3 c4 c5, S c0 c1 c2 c3 c4 c5 := fun c0 c1 c2 c3 c4 c5 =>
  Classical.byContradiction fun q => @Classical.epsilon_spec (α × β × γ × δ × ε × ζ) (fun p : α × β × γ × δ × ε × ζ => ¬ S p.1 p.2.1 p.2.2.1 p.2.2.2.1 p.2.2.2.2.1 p.2.2.2.2.2) ⟨(c0, c1, c2, c3, c4, c5), q⟩ (by unfold e6a e6b e6c e6d e6e e6f at h; exact h)
/-- a continuation that is not put into its place yet -/
noncomputable def wrap {α : Type} (Q : α → PySem.Shared → Prop) : α → PySem.Shared → Prop := Q
theorem wrap1 {M : PySem.Model} {A : PySem.Around} {Q : Unit → PySem.Shared → Prop} {E : PySem.Value → PySem.Shared → Prop} {s : PySem.Shared} {e : PySem.Env} {n : PySem.Str} {v : PySem.Value} (h : PySem.wpAny M A (PySem.storeName e n v) (wrap Q) E s) : PySem.wpAny M A (PySem.storeName e n v) Q E s := h
theorem wrap2 {M : PySem.Model} {A : PySem.Around} {Q : PySem.Value → PySem.Shared → Prop} {E : PySem.Value → PySem.Shared → Prop} {s : PySem.Shared} {l : List PySem.Value} (h : PySem.wpAny M A (PySem.newTuple l) (wrap Q) E s) : PySem.wpAny M A (PySem.newTuple l) Q E s := h
theorem wrap3 {M : PySem.Model} {A : PySem.Around} {Q : PySem.Value → PySem.Shared → Prop} {E : PySem.Value → PySem.Shared → Prop} {s : PySem.Shared} {l : List PySem.Value} (h : PySem.wpAny M A (PySem.newList l) (wrap Q) E s) : PySem.wpAny M A (PySem.newList l) Q E s := h
theorem wrap4 {M : PySem.Model} {A : PySem.Around} {Q : Unit → PySem.Shared → Prop} {E : PySem.Value → PySem.Shared → Prop} {s : PySem.Shared} {o v : PySem.Value} {n : PySem.Str} (h : PySem.wpAny M A (PySem.setAttr o n v) (wrap Q) E s) : PySem.wpAny M A (PySem.setAttr o n v) Q E s := h
theorem wrap5 {M : PySem.Model} {A : PySem.Around} {Q : PySem.Value → PySem.Shared → Prop} {E : PySem.Value → PySem.Shared → Prop} {s : PySem.Shared} {f : PySem.Value} {l : List PySem.Value} {k : List (PySem.Str × PySem.Value)} (h : PySem.wpAny M A (PySem.call f l k) (wrap Q) E s) : PySem.wpAny M A (PySem.call f l k) Q E s := h
theorem wrap6 {M : PySem.Model} {A : PySem.Around} {Q : Unit → PySem.Shared → Prop} {E : PySem.Value → PySem.Shared → Prop} {s : PySem.Shared} {o i v : PySem.Value} (h : PySem.wpAny M A (PySem.setItem o i v) (wrap Q) E s) : PySem.wpAny M A (PySem.setItem o i v) Q E s := h
theorem wrap7 {M : PySem.Model} {A : PySem.Around} {Q : PySem.Value → PySem.Shared → Prop} {E : PySem.Value → PySem.Shared → Prop} {s : PySem.Shared} {o : PySem.Operator} {a : PySem.Addr} {v : PySem.Value} (h : PySem.wpAny M A (PySem.binaryOp o (.ref a) v) (wrap Q) E s) : PySem.wpAny M A (PySem.binaryOp o (.ref a) v) Q E s := h
theorem unwrap {α : Type} {Q : α → PySem.Shared → Prop} {v : α} {s : PySem.Shared} (h : Q v s) : wrap Q v s := h
theorem skip_ar {α : Sort _} {p : Prop} (h : p) : α → p := fun _ => h
/-! a datum taken apart, goal by goal -/
section
open PySem PySem.W PyProof.Rows
variable {T : List (Addr × Obj)} {v : Value} {ds : List Dat} {d : Dat} {G : Value → Prop} {H : List Value → Prop} {vs : List Value}
@[elab_as_elim] theorem el_list (h : DatIn T v (.list ds)) (k : ∀ a vs n, (a, W.listOf vs.toArray n) ∈ T → DatAll T vs ds → G (.ref a)) : G v := by
  cases h with
  | list hm ha => exact k _ _ _ hm ha
@[elab_as_elim] theorem el_listk (h : DatIn T v (.list ds)) (k : ∀ a, DatIn T (.ref a) (.list ds) → G (.ref a)) : G v := by
  cases h with
  | list hm ha => exact k _ (.list hm ha)
@[elab_as_elim] theorem el_tuple (h : DatIn T v (.tuple ds)) (k : ∀ a vs n, (a, ({ cls := .type "tuple", data := .seq vs.toArray n } : Obj)) ∈ T → DatAll T vs ds → G (.ref a)) : G v := by
  cases h with
  | tuple hm ha => exact k _ _ _ hm ha
@[elab_as_elim] theorem el_int {i : Int} (h : DatIn T v (.int i)) (k : ∀ t, G (.int i t)) : G v := by
  cases h with
  | int _ t => exact k t
@[elab_as_elim] theorem el_bytes {b : Array UInt8} (h : DatIn T v (.bytes b)) (k : ∀ t, G (.bytes b t)) : G v := by
  cases h with
  | bytes _ t => exact k t
@[elab_as_elim] theorem el_nil (h : DatAll T vs []) (k : H []) : H vs := by
  cases h with
  | nil => exact k
@[elab_as_elim] theorem el_cons (h : DatAll T vs (d :: ds)) (k : ∀ v r, DatIn T v d → DatAll T r ds → H (v :: r)) : H vs := by
  cases h with
  | cons h r => exact k _ _ h r
@[elab_as_elim] theorem el_pair {x y : Int} (h : DatIn T v (.tuple [.int x, .int y])) (k : ∀ a t u n, (a, ({ cls := .type "tuple", data := .seq [Value.int x t, Value.int y u].toArray n } : Obj)) ∈ T → G (.ref a)) : G v :=
  el_tuple h fun _ _ _ hm ha => el_cons (H := fun vs => (_, ({ cls := .type "tuple", data := .seq vs.toArray _ } : Obj)) ∈ T → G _) ha (fun _ _ h1 hr => el_cons (H := fun vs => (_, ({ cls := .type "tuple", data := .seq (_ :: vs).toArray _ } : Obj)) ∈ T → G _) hr fun _ _ h2 hr => el_nil (H := fun vs => (_, ({ cls := .type "tuple", data := .seq (_ :: _ :: vs).toArray _ } : Obj)) ∈ T → G _) hr (el_int (G := fun v => (_, ({ cls := .type "tuple", data := .seq [v, _].toArray _ } : Obj)) ∈ T → G _) h1 fun _ => el_int (G := fun v => (_, ({ cls := .type "tuple", data := .seq [_, v].toArray _ } : Obj)) ∈ T → G _) h2 fun _ hm => k _ _ _ _ hm)) hm
end
@[elab_as_elim] theorem el_prod {α β : Type} {G : α × β → Prop} (p : α × β) (k : ∀ x y, G (x, y)) : G p := k _ _
@[elab_as_elim] theorem el_lst {α : Type} {G : List α → Prop} (l : List α) (h : G []) (k : ∀ x r, G (x :: r)) : G l := by
  cases l with
  | nil => exact h
  | cons x r => exact k x r
theorem all_prod {α β : Type} {S : α × β → Prop} (h : ∀ x y, S (x, y)) : ∀ p, S p := fun p => h p.1 p.2
end Mine

namespace Mine
/-- the text's own prog, and the view of it: all its statements but the five that bind a name of the module's -/
noncomputable abbrev PW : Program := (OpenRow.toRowW (OpenLaw.row PySem.Challenge.rw_sj0108_01)).prog
noncomputable def keepOf {l : List Stmt} {a0 a1 a2 a3 a4 a5 a6 a7 a8 a9 a10 a11 a12 a13 a14 a15 a16 a17 a18 a19 a20 a21 a22 a23 a24 a25 : Stmt} (_ : l = [a0, a1, a2, a3, a4, a5, a6, a7, a8, a9, a10, a11, a12, a13, a14, a15, a16, a17, a18, a19, a20, a21, a22, a23, a24, a25]) : List Stmt := [a1, a2, a4, a5, a6, a8, a9, a10, a11, a12, a13, a15, a16, a17, a19, a20, a21, a22, a23, a24, a25]
noncomputable def view : Program := { PW with main := { PW.main with body := keepOf (l := PW.main.body) rfl } }
set_option maxRecDepth 100000 in
theorem said_ok : OpenLaw.wellSaid PySem.Challenge.rw_sj0108_01 = true := by
  rw [PySem.W.Fast.te9446332074065402090]
  kernel_rfl
local macro_rules | `(tactic| o_law) => `(tactic| (refine holds_law Mine.said_ok fun said => ?_))
/-- the opening is the library's: only the top itself is run; what is seen behind it is looked at in two parts -/
theorem left_boot {p q : Program} {loose : List Str} {Xt : Shared → Bool} {α : Type} {Yf : Shared → α} {Ya : World → α} {N : Nat} (e : opening p = plainProg p.main.scope.names) (hN : Nat.ble 600 N = true) (f : ∀ s, fenceModules? p s = some s)
    (h : ∀ (w : World) (os : OsState), (topFrom treeTable p w N ⟨boot_heap w.params, Array.mk [], boot_drawn, boot_toks, os⟩).map (fun s => openSeen q loose (importedModules p.main.body) Xt true s) = some (openGood q loose))
    (h' : ∀ (w : World) (os : OsState), (topFrom treeTable p w N ⟨boot_heap w.params, Array.mk [], boot_drawn, boot_toks, os⟩).map Yf = some (Ya w)) : LeftO p q loose Xt Yf Ya N := fun w => by
  obtain ⟨⟨hp, gs, d, k, os⟩, e1, e2⟩ := Option.map_eq_some_iff.mp (boot_open e hN f w)
  have e3 : hp = boot_heap w.params ∧ gs = Array.mk [] ∧ d = boot_drawn ∧ k = boot_toks := by simpa using e2
  obtain ⟨rfl, rfl, rfl, rfl⟩ := e3
  obtain ⟨s₁, r, a⟩ := Option.map_eq_some_iff.mp (h w os)
  have b := h' w os
  rw [r] at b
  unfold openEnds
  rw [e1]
  show (topFrom treeTable p w N _).map _ = _
  rw [r]
  exact congrArg some (Prod.ext a (Option.some.inj b))
set_option maxRecDepth 100000 in
theorem seen_ok : ∀ (w : World) (os : OsState), (topFrom treeTable (OpenLaw.row PySem.Challenge.rw_sj0108_01).prog w 3044 ⟨boot_heap w.params, Array.mk [], boot_drawn, boot_toks, os⟩).map (fun s => openSeen view [] (importedModules (OpenLaw.row PySem.Challenge.rw_sj0108_01).prog.main.body) (fun s => xlAt view [] s && recOk (RowW.records (OpenRow.toRowW (OpenLaw.row PySem.Challenge.rw_sj0108_01))) s) true s) = some (openGood view []) := by
  intro w os
  unfold topFrom
  rw [PySem.W.Fast.te14082659384304107361, PySem.W.Fast.te14364793385576792824, PySem.W.Fast.te4187177175401517315]
  kernel_rfl
set_option maxRecDepth 100000 in
noncomputable def headF (H : Hook) (hl : LeftO (OpenLaw.row PySem.Challenge.rw_sj0108_01).prog view [] (fun s => xlAt view [] s && recOk (RowW.records (OpenRow.toRowW (OpenLaw.row PySem.Challenge.rw_sj0108_01))) s) H.obs H.val 3044) :=
  fun hw hc => holds_open (r := OpenLaw.row PySem.Challenge.rw_sj0108_01) (q := view) (loose := []) (Xt := fun s => xlAt view [] s && recOk (RowW.records (OpenRow.toRowW (OpenLaw.row PySem.Challenge.rw_sj0108_01))) s) (XP := XL view []) (Yf := H.obs) (Ya := H.val) (YP := H.says) (N := 3044) hl H.of H.keeps (fun s e => xl_of s (Bool.and_eq_true_iff.mp e).1) XL.keeps (by rfl) (by rfl) (by rfl) (fun s e => recFacts_of (Bool.and_eq_true_iff.mp e).2) (by rfl) (by decide +kernel) (by decide +kernel) ⟨rfl, rfl, rfl, rfl, rfl, by decide +kernel⟩ hw hc
local macro_rules | `(tactic| o_head $H) => `(tactic| (refine Mine.headF $H (Mine.left_boot (by kernel_rfl) (by rfl) (fun s => by kernel_rfl) Mine.seen_ok ?hl) ?hw ?hc; case hl => (intro w os; unfold topFrom; rw [PySem.W.Fast.te14082659384304107361, PySem.W.Fast.te14364793385576792824]; kernel_rfl)))
set_option maxRecDepth 100000 in
set_option maxHeartbeats 8000000 in
open_top hd for PySem.Challenge.rw_sj0108_01
theorem top_off : True := by
  w_top off
  trivial
end Mine

namespace Mine
/-- the goal out of sight, so that no elimination writes it out -/
theorem hide {P : Prop} (h : ∀ G : Prop, (P → G) → G) : P := h P id
/-- entries named by their places -/
noncomputable def at1 {α : Type} : List α → Nat → List α
  | [], _ => []
  | x :: _, 0 => [x]
  | _ :: r, k + 1 => at1 r k
noncomputable def picks {α : Type} (l : List α) : List Nat → List α
  | [] => []
  | i :: r => at1 l i ++ picks l r
theorem at1_sub {α : Type} : ∀ {l : List α} {i : Nat}, ∀ p ∈ at1 l i, p ∈ l
  | [], _, _, h => nomatch h
  | _ :: _, 0, _, h => by rw [List.mem_singleton.mp h]; exact .head _
  | _ :: _, _ + 1, p, h => .tail _ (at1_sub p h)
theorem picks_sub {α : Type} {l : List α} : ∀ (ix : List Nat), ∀ p ∈ picks l ix, p ∈ l
  | [], _, h => nomatch h
  | _ :: r, p, h => (List.mem_append.mp h).elim (at1_sub p) (picks_sub r p)
/-- p stands among the picked of l, or in R -/
theorem sub_ix {α : Type} (l : List α) {R : List α} (ix : List Nat) : ∀ p ∈ picks l ix ++ R, p ∈ l ++ R := fun p h =>
  (List.mem_append.mp h).elim (fun h => List.mem_append.mpr (.inl (picks_sub ix p h))) fun h => List.mem_append.mpr (.inr h)
/-- lists one behind the other; p stands in the picked lists -/
noncomputable def fl {α : Type} : List (List α) → List α
  | [] => []
  | [l] => l
  | l :: r => l ++ fl r
theorem fl_mem {α : Type} {p : α} : ∀ {B : List (List α)}, p ∈ fl B ↔ ∃ l, l ∈ B ∧ p ∈ l
  | [] => by simp [fl]
  | [l] => by simp [fl]
  | l :: b :: r => by
    rw [show fl (l :: b :: r) = l ++ fl (b :: r) from rfl, List.mem_append, fl_mem]
    simp
theorem sub_bl {α : Type} (B : List (List α)) (ix : List Nat) : ∀ p ∈ fl (picks B ix), p ∈ fl B := fun _ hp =>
  let ⟨l, hl, h⟩ := fl_mem.mp hp
  fl_mem.mpr ⟨l, picks_sub ix l hl, h⟩
/-- room for one call more -/
theorem room {a k n r : Nat} (h : a + n < r) (hk : Nat.ble k n = true) : a + k < r := Nat.lt_of_le_of_lt (Nat.add_le_add_left (Nat.le_of_ble_eq_true hk) a) h
theorem room0 {a n r : Nat} (h : a + n < r) : a < r := Nat.lt_of_le_of_lt (Nat.le_add_right a n) h
/-! data -/
noncomputable def prD (p : Int × Int) : Dat := .tuple [.int p.1, .int p.2]
noncomputable def spD (xs : List (Int × Int)) : Dat := .list (xs.map prD)
noncomputable def pcD (p : Int × Array UInt8) : Dat := .tuple [.int p.1, .bytes p.2]
noncomputable def pcsD (xs : List (Int × Array UInt8)) : Dat := .list (xs.map pcD)

section
variable {prog : Program} {w : World} {A : Around} {E : Value → Shared → Prop} {s : Shared} {env : Env} {h₀ : Heap} {body : List Stmt} {Q : Flow → Shared → Prop}

theorem dat_pair {T : List (Addr × Obj)} {v : Value} {a b : Dat} (h : DatIn T v (.tuple [a, b])) : ∃ t v₁ v₂ n, v = .ref t ∧ (t, ({ cls := .type "tuple", data := .seq [v₁, v₂].toArray n } : Obj)) ∈ T ∧ DatIn T v₁ a ∧ DatIn T v₂ b := by
  refine hide fun G9 k9 => ?_
  cases h with
  | tuple hm hall =>
    cases hall with
    | cons h1 hr =>
      cases hr with
      | cons h2 hr2 =>
        cases hr2
        exact k9 ⟨_, _, _, _, rfl, hm, h1, h2⟩
theorem pair_at {α : Type} {T : List (Addr × Obj)} {vs : List Value} {dec : α → Dat × Dat} {xs : List α} {i : Nat} {v : Value} (hd : DatAll T vs (xs.map fun x => .tuple [(dec x).1, (dec x).2])) (hv : vs[i]? = some v) (hi : i < xs.length) :
    ∃ t v₁ v₂ n, v = .ref t ∧ (t, ({ cls := .type "tuple", data := .seq [v₁, v₂].toArray n } : Obj)) ∈ T ∧ DatIn T v₁ (dec xs[i]).1 ∧ DatIn T v₂ (dec xs[i]).2 := by
  obtain ⟨v', h', hD⟩ := hd.get (k := i) (by rw [List.length_map]; exact hi)
  rw [hv] at h'
  rw [List.getElem_map, ← Option.some.inj h'] at hD
  exact dat_pair hD
theorem dat_int {T : List (Addr × Obj)} {v : Value} {x : Int} (h : DatIn T v (.int x)) : ∃ t, v = .int x t := by
  cases h
  exact ⟨_, rfl⟩
theorem dat_bytes {T : List (Addr × Obj)} {v : Value} {x : Array UInt8} (h : DatIn T v (.bytes x)) : ∃ t, v = .bytes x t := by
  cases h
  exact ⟨_, rfl⟩
theorem at_arr {vs : List Value} {i : Nat} {v : Value} (h : vs.toArray[i]? = some v) : vs[i]? = some v := by simpa using h
noncomputable def LEnd (h₀ : Heap) (L : Addr) (J : (Str → Option Value) → List (Addr × Obj) → Prop) (I : Addr) (oI : Obj) (s₁ : Shared) (f : Flow) (s₂ : Shared) : Prop :=
  f = .next ∧ ∃ h' tk m' news' nx, s₂ = { s₁ with heap := h', toks := tk } ∧ Fr h₀ L h' m' ∧ News h₀ L h' news' ∧ (∀ p ∈ nx, p ∈ news') ∧ (I, oI) ∈ news' ∧ (∀ p ∈ nx, p.1 ≠ I) ∧ J m' nx
set_option maxHeartbeats 3200000 in
theorem pair_iter {x₁ x₂ : Str} {p₁ p₂ tp : Pos} {kk : Nat} {l : Addr} {vs : List Value} {nn : Nat} {m₀ : Str → Option Value} {news : List (Addr × Obj)} (T : List (Addr × Obj)) (ds : List (Dat × Dat)) (J : Nat → (Str → Option Value) → List (Addr × Obj) → Prop)
    (hh : A.handled = none) (hx₁ : env.kindOf x₁ = some .local) (hx₂ : env.kindOf x₂ = some .local) (hp : (env.scope.kind == .class || (env.scope.kind == .module && env.locals != env.globals)) = false)
    (hl : (l, listOf vs.toArray nn) ∈ T) (hd : DatAll T vs (ds.map fun d => .tuple [d.1, d.2])) (hTJ : ∀ i m nx, J i m nx → ∀ p ∈ T, p ∈ nx)
    (F : Fr h₀ env.locals s.heap m₀) (N : News h₀ env.locals s.heap news) (hj : J 0 m₀ news)
    (turn : ∀ i d₁ d₂ v₁ v₂ m₁ news₁ (s₁ : Shared) h tk I oI, ds[i]? = some (d₁, d₂) → DatIn T v₁ d₁ → DatIn T v₂ d₂ → (∀ p ∈ news₁, p.1 ≠ I) → J i m₁ news₁ →
      Fr h₀ env.locals h (fun z => if z = x₂ then some v₂ else if z = x₁ then some v₁ else m₁ z) → News h₀ env.locals h ((I, oI) :: news₁) →
      wpAny (model prog w) A (execs body env) (LEnd h₀ env.locals (J (i + 1)) I oI { s₁ with heap := h, toks := tk }) E { s₁ with heap := h, toks := tk })
    (done : ∀ m₁ news₁ h tk, J ds.length m₁ news₁ → Fr h₀ env.locals h m₁ → News h₀ env.locals h news₁ → Q .next { s with heap := h, toks := tk }) :
    wpAny (model prog w) A (pyIter (.ref l)) (fun it s₂ => LoopAtT prog w A h₀ env (.Tuple [.Name x₁ p₁, .Name x₂ p₂] kk tp) body Q E it s₂) E s := by
  have hT0 := hTJ _ _ _ hj
  have hln : (l, listOf vs.toArray nn) ∈ news := hT0 _ hl
  have hol : s.heap.get? l = some (listOf vs.toArray nn) := (N _ hln).1
  have hls : s.heap.IsList l vs.toArray := ⟨_, hol, rfl, nn, rfl⟩
  have hne : l ≠ s.heap.objs.size := Nat.ne_of_lt (Heap.lt_size hol)
  refine wpAny_pyIter_list hls ?_
  have W := Walks.list (prog := prog) (w := w) hh s.heap.objs.size l hne vs.toArray
  have hlen : vs.toArray.size = ds.length := by simp [hd.length]
  rw [hlen] at W
  refine ⟨_, _, _, ds.length, _, _, m₀, news, J, rfl, W, ?_, ?_, ?_, ⟨⟨_, Heap.get?_push_size _ rfl, rfl, rfl⟩, hls.at fun o e => Heap.get?_push_of_some _ e⟩, F.push _, (fun p hp => ⟨Heap.get?_push_of_some _ (N p hp).1, (N p hp).2⟩), (fun i s' v Q' st hQ' => letGo_listiter st.1 hQ'), hj, ?_, ?_⟩
  · intro hm
    rcases List.mem_cons.mp hm with e | hm
    · exact absurd F.ns.lt (e ▸ Nat.lt_irrefl _)
    · exact (N _ hln).2.1 ((List.mem_singleton.mp hm).symm)
  · intro b hb
    rw [List.mem_singleton.mp hb]
    exact next_is_new F
  · intro p hp hI
    exact absurd (Heap.lt_size (N p hp).1) ((List.mem_singleton.mp hI) ▸ Nat.lt_irrefl _)
  · intro i v m₁ news₁ s₁ own hin hP hJ hoff hown hget hfp hst F₁ N₁
    refine hide fun G9 k9 => ?_
    have hI0 : h₀.get? s.heap.objs.size = none := next_is_new F
    have hoI9 := hst.1
    obtain ⟨oI, hoI, _⟩ := hoI9
    have hIown : (s.heap.objs.size, oI) ∈ own := hfp _ (List.mem_cons.mpr (.inl rfl)) hI0 _ hoI
    have hT1 := hTJ _ _ _ hJ
    have hin' : i < ds.length := hin
    obtain ⟨t, v₁, v₂, n, ev, hm, h1, h2⟩ := pair_at (dec := id) hd (at_arr hP) hin'
    have hmt : (t, ({ cls := .type "tuple", data := .seq [v₁, v₂].toArray n } : Obj)) ∈ own ++ news₁ := List.mem_append.mpr (.inr (hT1 _ hm))
    have ht : s₁.heap.IsTuple t #[v₁, v₂] := ⟨_, (N₁ _ hmt).1, rfl, n, rfl⟩
    refine k9 ?_
    clear k9 hP
    rw [ev]
    refine kcp_assign hh ht hx₁ hx₂ hp F₁.ns fun h' tk hn' hk' => ?_
    refine hide fun G8 k8 => ?_
    have F₂ : Fr h₀ env.locals h' (fun z => if z = x₂ then some v₂ else if z = x₁ then some v₁ else m₁ z) :=
      ⟨hn', fun b o e => hk' b o (Nat.ne_of_lt (Nat.lt_of_lt_of_le (Heap.lt_size e) F₁.above)) (F₁.keep b o e), F₁.above⟩
    have N₂ : News h₀ env.locals h' (own ++ news₁) := fun p hp => ⟨hk' _ _ (N₁ p hp).2.1 (N₁ p hp).1, (N₁ p hp).2⟩
    have N₃ : News h₀ env.locals h' ((s.heap.objs.size, oI) :: news₁) := List.forall_mem_cons.mpr ⟨N₂ _ (List.mem_append.mpr (.inl hIown)), fun p hp => N₂ p (List.mem_append.mpr (.inr hp))⟩
    have key := turn i ds[i].1 ds[i].2 v₁ v₂ m₁ news₁ s₁ h' tk s.heap.objs.size oI (List.getElem?_eq_getElem hin') h1 h2 (fun p hp e => hoff p hp (by simp [e])) hJ F₂ N₃
    refine k8 (wpAny_mono key (fun f s₂ q => ?_) fun _ _ e => e)
    refine hide fun G7 k7 => ?_
    obtain ⟨ef, h₂, tk₂, m₂, news₂, nx, es, F₃, N₄, hn, hI, ha, hj₂⟩ := q
    refine k7 ⟨ef, h₂, tk₂, m₂, nx, es, F₃, fun p hp => ?_, fun p hp e => ha p hp (List.mem_singleton.mp e), hj₂⟩
    rcases List.mem_append.mp hp with hp | hp
    · have g1 := hget p hp
      rcases List.mem_cons.mp (hown p hp) with e | e
      · have e2 : p = (s.heap.objs.size, oI) := Prod.ext e (by rw [e, hoI] at g1; exact (Option.some.inj g1).symm)
        rw [e2]; exact N₄ _ hI
      · have e1 := List.mem_singleton.mp e
        have g2 := (N₁ _ (List.mem_append.mpr (.inr (hT1 _ hl)))).1
        have e2 : p = (l, listOf vs.toArray nn) := Prod.ext e1 (by rw [e1] at g1; rw [g1] at g2; exact Option.some.inj g2)
        rw [e2]; exact N₄ _ (hn _ (hTJ _ _ _ hj₂ _ hl))
    · exact N₄ _ (hn _ hp)
  · rintro h' tk m' news' F' N' _ hJ
    exact done m' news' h' tk hJ F' N'
end
end Mine
namespace Mine
/-- min(a, b), max(a, b) as the interpreter's own ifs -/
noncomputable abbrev pmin (a b : Int) : Int := if b < a then b else a
noncomputable abbrev pmax (a b : Int) : Int := if b > a then b else a
noncomputable def cutL (sp : List (Int × Int)) (lo hi : Int) : List (Int × Int) :=
  sp.flatMap fun q => (if q.1 < pmin q.2 lo then [(q.1, pmin q.2 lo)] else []) ++ (if pmax q.1 hi < q.2 then [(pmax q.1 hi, q.2)] else [])
/-- no entry of one part stands at an address of the other -/
noncomputable def Apart (R tl : List (Addr × Obj)) : Prop := ∀ q ∈ R, ∀ p ∈ tl, @Ne Nat q.1 p.1
theorem Apart.nil {R : List (Addr × Obj)} : Apart R [] := fun _ _ _ hp => (nomatch hp)
theorem Apart.ofLt {R tl : List (Addr × Obj)} (h : ∀ q ∈ R, ∀ p ∈ tl, q.1 < p.1) : Apart R tl := fun q hq p hp => Nat.ne_of_lt (h q hq p hp)
noncomputable def Bld (R T : List (Addr × Obj)) (fa : Addr) (ds : List Dat) (nx : List (Addr × Obj)) : Prop :=
  ∃ tl vs n, nx = (fa, W.listOf vs.toArray n) :: (tl ++ R) ∧ OwnOff (tl ++ R) [fa] ∧ Apart R tl ∧ DatAll (tl ++ T) vs ds
theorem allLt_mem {d : Addr} {l : List (Addr × Obj)} (h : AllLt d l) : ∀ p ∈ l, p.1 < d := by
  induction l with
  | nil => intro p hp; cases hp
  | cons q r ih =>
    intro p hp
    rcases List.mem_cons.mp hp with rfl | hp
    · exact h.1
    · exact ih h.2 p hp
section
variable {h₀ : Heap} {L : Addr} {J : (Str → Option Value) → List (Addr × Obj) → Prop} {I fa : Addr} {oI : Obj} {s₁ : Shared} {h' : Heap} {tk : Nat} {m' : Str → Option Value} {R T tl : List (Addr × Obj)} {vs : List Value} {k : Nat} {ds : List Dat}
theorem bld_end (adds : List (Addr × Obj)) (F : Fr h₀ L h' m') (N : News h₀ L h' (adds ++ ((I, oI) :: (fa, W.listOf vs.toArray k) :: (tl ++ R))))
    (hO : OwnOff (tl ++ R) [fa]) (hlt : Apart R tl) (hIf : fa ≠ I) (hI : ∀ p ∈ tl ++ R, p.1 ≠ I)
    (hA : ∀ p ∈ adds, I < p.1 ∧ fa < p.1 ∧ AllLt p.1 (tl ++ R)) (hD : DatAll (adds ++ (tl ++ T)) vs ds) (hJ : ∀ nx, Bld R T fa ds nx → J m' nx) :
    LEnd h₀ L J I oI s₁ .next { s₁ with heap := h', toks := tk } := by
  refine ⟨rfl, h', tk, m', _, (fa, W.listOf vs.toArray k) :: ((adds ++ tl) ++ R), rfl, F, N, ?_, ?_, ?_, hJ _ ⟨adds ++ tl, vs, k, rfl, ?_, ?_, ?_⟩⟩
  · intro p hp
    simp only [List.mem_cons, List.mem_append] at hp ⊢
    grind
  · simp
  · intro p hp
    simp only [List.mem_cons, List.mem_append] at hp
    rcases hp with rfl | (hp | hp) | hp
    · exact hIf
    · exact Ne.symm (Nat.ne_of_lt (hA p hp).1)
    · exact hI p (List.mem_append.mpr (.inl hp))
    · exact hI p (List.mem_append.mpr (.inr hp))
  · intro p hp b hb
    rw [List.mem_singleton.mp hb]
    simp only [List.mem_append] at hp
    rcases hp with (hp | hp) | hp
    · exact Ne.symm (Nat.ne_of_lt (hA p hp).2.1)
    · exact hO p (List.mem_append.mpr (.inl hp)) fa (.head _)
    · exact hO p (List.mem_append.mpr (.inr hp)) fa (.head _)
  · intro q hq p hp
    rcases List.mem_append.mp hp with hp | hp
    · exact Nat.ne_of_lt (allLt_mem (hA p hp).2.2 q (List.mem_append.mpr (.inr hq)))
    · exact hlt q hq p hp
  · rw [List.append_assoc]; exact hD
end
theorem two_upd {m₀ : Str → Option Value} {a b : Str} {v1 v2 u1 u2 : Option Value} : (fun z => if z = b then v2 else if z = a then v1 else (fun z => if z = b then u2 else if z = a then u1 else m₀ z) z) = fun z => if z = b then v2 else if z = a then v1 else m₀ z := by
  funext z
  by_cases h1 : z = b
  · simp [h1]
  · by_cases h2 : z = a
    · simp [h2]
    · simp [h1, h2]
theorem prIn {T : List (Addr × Obj)} {D : Addr} {x y : Int} {t u : Tok} {n : Nat} (h : (D, ({ cls := .type "tuple", data := .seq [Value.int x t, Value.int y u].toArray n } : Obj)) ∈ T) : DatIn T (.ref D) (prD (x, y)) :=
  .tuple h (.cons (.int _ _) (.cons (.int _ _) .nil))
theorem cutL_take {sp : List (Int × Int)} {i : Nat} {x y lo hi : Int} (h : sp[i]? = some (x, y)) :
    cutL (sp.take (i + 1)) lo hi = cutL (sp.take i) lo hi ++ ((if x < pmin y lo then [(x, pmin y lo)] else []) ++ (if pmax x hi < y then [(pmax x hi, y)] else [])) := by
  rw [List.take_add_one, h]
  simp [cutL]
theorem cutL_len (sp : List (Int × Int)) (lo hi : Int) : (cutL sp lo hi).length ≤ 2 * sp.length := by
  induction sp with
  | nil => simp [cutL]
  | cons q r ih =>
    have e : cutL (q :: r) lo hi = ((if q.1 < pmin q.2 lo then [(q.1, pmin q.2 lo)] else []) ++ (if pmax q.1 hi < q.2 then [(pmax q.1 hi, q.2)] else [])) ++ cutL r lo hi := rfl
    rw [e, List.length_append, List.length_cons, List.length_append]
    have h1 : (if q.1 < pmin q.2 lo then [(q.1, pmin q.2 lo)] else []).length ≤ 1 := by split <;> simp
    have h2 : (if pmax q.1 hi < q.2 then [(pmax q.1 hi, q.2)] else []).length ≤ 1 := by split <;> simp
    lia
/-- a mark that no line of the walk takes -/
noncomputable def Held (P : Prop) : Prop := P
theorem held {P : Prop} (h : Held P) : P := h
/-- the calls that the walk leaves to a contract -/
noncomputable def holdAt (n : Nat) : Bool := [41, 48, 53, 60, 67, 74, 81, 86, 93, 114, 121, 124, 149, 156, 163, 170, 177, 191, 198, 205, 210, 215, 220].contains n
theorem heldAt {prog : Program} {w : World} {A : Around} {n : Addr} {args : List Value} {Q : Value → Shared → Prop} {E : Value → Shared → Prop} {s : Shared} (_ : holdAt n = true) (h : Held (wpAny (model prog w) A (call (.ref n) args) Q E s)) : wpAny (model prog w) A (call (.ref n) args) Q E s := h
theorem heldOut {P : Prop} (h : P) : Held P := h
theorem isList_of {h₀ : Heap} {L l : Addr} {h : Heap} {R : List (Addr × Obj)} {vs : List Value} {n : Nat} (N : News h₀ L h R) (hm : (l, W.listOf vs.toArray n) ∈ R) : h.IsList l vs.toArray := ⟨_, (N _ hm).1, rfl, n, rfl⟩
theorem bld_has {R T : List (Addr × Obj)} {fa : Addr} {ds : Nat → List Dat} {P : (Str → Option Value) → Prop} (hTR : ∀ p ∈ T, p ∈ R) : ∀ i m nx, (Bld R T fa (ds i) nx ∧ P m) → ∀ p ∈ T, p ∈ nx := by
  rintro i m nx ⟨⟨tl, vs, n, rfl, _⟩, _⟩ p hp
  exact .tail _ (List.mem_append.mpr (.inr (hTR p hp)))
theorem bld_nil {R T : List (Addr × Obj)} {fa : Addr} (h : ∀ p ∈ R, p.1 < fa) : Bld R T fa [] ((fa, W.listOf #[] 0) :: R) :=
  ⟨[], [], 0, rfl, fun p hp b hb => by rw [List.mem_singleton.mp hb]; exact Nat.ne_of_lt (h p hp), (fun _ _ _ hp => (nomatch hp)), DatAll.nil⟩
theorem two_upd0 {m₀ : Str → Option Value} {a b : Str} (ha : m₀ a = none) (hb : m₀ b = none) : m₀ = fun z => if z = b then none else if z = a then none else m₀ z := by
  funext z
  by_cases h1 : z = b
  · simp [h1, hb]
  · by_cases h2 : z = a
    · simp [h2, ha]
    · simp [h1, h2]
/-! a loop that builds the list fa out of a list of pairs -/
noncomputable def BEnd (h₀ : Heap) (L : Addr) (R T : List (Addr × Obj)) (I : Addr) (oI : Obj) (fa : Addr) (tl : List (Addr × Obj)) (ds : List Dat) (P : (Str → Option Value) → Prop) (s₁ : Shared) (f : Flow) (s₂ : Shared) : Prop :=
  f = .next ∧ ∃ h' tk m' adds ws k, s₂ = { s₁ with heap := h', toks := tk } ∧ Fr h₀ L h' m' ∧ News h₀ L h' (adds ++ ((I, oI) :: (fa, W.listOf (List.toArray ws) k) :: (tl ++ R))) ∧
    (∀ p ∈ adds, I < p.1 ∧ fa < p.1 ∧ AllLt p.1 (tl ++ R)) ∧ DatAll (adds ++ (tl ++ T)) ws ds ∧ P m'
theorem bEnd {h₀ : Heap} {L : Addr} {R T : List (Addr × Obj)} {I : Addr} {oI : Obj} {fa : Addr} {tl : List (Addr × Obj)} {ds : List Dat} {P : (Str → Option Value) → Prop} {s₁ : Shared} {h' : Heap} {tk : Nat} {m' : Str → Option Value} {ws : List Value} {k : Nat}
    (adds : List (Addr × Obj)) (F : Fr h₀ L h' m') (N : News h₀ L h' (adds ++ ((I, oI) :: (fa, W.listOf (List.toArray ws) k) :: (tl ++ R)))) (hA : ∀ p ∈ adds, I < p.1 ∧ fa < p.1 ∧ AllLt p.1 (tl ++ R)) (hD : DatAll (adds ++ (tl ++ T)) ws ds) (hP : P m') :
    BEnd h₀ L R T I oI fa tl ds P s₁ .next { s₁ with heap := h', toks := tk } := ⟨rfl, h', tk, m', adds, ws, k, rfl, F, N, hA, hD, hP⟩
section
variable {prog : Program} {w : World} {A : Around} {E : Value → Shared → Prop} {s : Shared} {env : Env} {h₀ : Heap} {body : List Stmt} {Q : Flow → Shared → Prop}
theorem bld_pairs {σ α : Type} {x₁ x₂ : Str} {p₁ p₂ tp : Pos} {kk : Nat} {l fa : Addr} {vs ws₀ : List Value} {nn n₀ : Nat} {m₀ : Str → Option Value} {R T tl₀ : List (Addr × Obj)} (dec : α → Dat × Dat) (xs : List α) (step : σ → α → σ) (st₀ : σ) (out : σ → List Dat) (Fm : σ → (Str → Option Value) → Prop)
    (hh : A.handled = none) (hx₁ : env.kindOf x₁ = some .local) (hx₂ : env.kindOf x₂ = some .local) (hp : (env.scope.kind == .class || (env.scope.kind == .module && env.locals != env.globals)) = false)
    (hl : (l, listOf vs.toArray nn) ∈ T) (hd : DatAll T vs (xs.map fun x => .tuple [(dec x).1, (dec x).2])) (hTR : ∀ p ∈ T, p ∈ R)
    (F : Fr h₀ env.locals s.heap m₀) (N : News h₀ env.locals s.heap ((fa, W.listOf ws₀.toArray n₀) :: (tl₀ ++ R))) (hO : OwnOff (tl₀ ++ R) [fa]) (hlt : Apart R tl₀) (hD₀ : DatAll (tl₀ ++ T) ws₀ (out st₀)) (hF₀ : Fm st₀ m₀)
    (turn : ∀ pre a post v₁ v₂ m₁ tl ws k (s₁ : Shared) h tk I oI, xs = pre ++ a :: post → DatIn T v₁ (dec a).1 → DatIn T v₂ (dec a).2 → @Ne Nat I fa → OwnOff (tl ++ R) [fa] → DatAll (tl ++ T) ws (out (pre.foldl step st₀)) → Fm (pre.foldl step st₀) m₁ →
      Fr h₀ env.locals h (fun z => if z = x₂ then some v₂ else if z = x₁ then some v₁ else m₁ z) → News h₀ env.locals h ((I, oI) :: (fa, W.listOf (List.toArray ws) k) :: (tl ++ R)) →
      wpAny (model prog w) A (execs body env) (BEnd h₀ env.locals R T I oI fa tl (out (step (pre.foldl step st₀) a)) (Fm (step (pre.foldl step st₀) a)) { s₁ with heap := h, toks := tk }) E { s₁ with heap := h, toks := tk })
    (done : ∀ m₁ tl ws k h tk, DatAll (tl ++ T) ws (out (xs.foldl step st₀)) → Fm (xs.foldl step st₀) m₁ → OwnOff (tl ++ R) [fa] → Apart R tl → Fr h₀ env.locals h m₁ → News h₀ env.locals h ((fa, W.listOf (List.toArray ws) k) :: (tl ++ R)) → Q .next { s with heap := h, toks := tk }) :
    wpAny (model prog w) A (pyIter (.ref l)) (fun it s₂ => LoopAtT prog w A h₀ env (.Tuple [.Name x₁ p₁, .Name x₂ p₂] kk tp) body Q E it s₂) E s := by
  refine pair_iter T (xs.map dec) (fun i m₁ nx => Bld R T fa (out ((xs.take i).foldl step st₀)) nx ∧ Fm ((xs.take i).foldl step st₀) m₁) hh hx₁ hx₂ hp hl (by rw [List.map_map]; exact hd) ?_ F N ?_ ?_ ?_
  · rintro i m nx ⟨⟨tl, vs, n, rfl, _⟩, _⟩ p hp
    exact .tail _ (List.mem_append.mpr (.inr (hTR p hp)))
  · exact ⟨⟨tl₀, ws₀, n₀, rfl, hO, hlt, by simpa using hD₀⟩, by simpa using hF₀⟩
  · rintro i d₁ d₂ v₁ v₂ m₁ nx s₁ h tk I oI hi D1 D2 hI ⟨⟨tl, ws, k, rfl, hO, hlt, hD⟩, hFm⟩ F2 N2
    simp only [List.getElem?_map, Option.map_eq_some_iff] at hi
    obtain ⟨x, hx, he⟩ := hi
    have hs : xs.take (i + 1) = xs.take i ++ [x] := by rw [List.take_add_one, hx]; rfl
    have e : xs = xs.take i ++ x :: xs.drop (i + 1) := by
      have h9 := List.take_append_drop (i + 1) xs
      rw [hs, List.append_assoc] at h9
      exact h9.symm
    rw [hs, List.foldl_append]
    have hIf : fa ≠ I := hI _ (.head _)
    have hI2 : ∀ p ∈ tl ++ R, p.1 ≠ I := fun p hp => hI p (.tail _ hp)
    have e1 : d₁ = (dec x).1 := by rw [he]
    have e2 : d₂ = (dec x).2 := by rw [he]
    refine wpAny_mono (turn _ x _ v₁ v₂ m₁ tl ws k s₁ h tk I oI e (e1 ▸ D1) (e2 ▸ D2) (Ne.symm hIf) hO hD hFm F2 N2) (fun f s₂ q => ?_) fun _ _ e => e
    obtain ⟨rfl, h', tk', m', adds, ws', k', rfl, F3, N3, hA, hD', hP⟩ := q
    exact bld_end (J := fun m₁ nx => Bld R T fa (out (List.foldl step (List.foldl step st₀ (xs.take i)) [x])) nx ∧ Fm (List.foldl step (List.foldl step st₀ (xs.take i)) [x]) m₁) adds F3 N3 hO hlt hIf hI2 hA hD' fun nx hb => ⟨hb, hP⟩
  · rintro m₁ nx h tk ⟨⟨tl, ws, k, rfl, hO, hlt, hD⟩, hFm⟩ F2 N2
    rw [List.length_map, List.take_length] at hD hFm
    exact done m₁ tl ws k h tk hD hFm hO hlt F2 N2
end
/-- names that are known, ahead of a map that is not -/
noncomputable def kv (ps : List (Str × Value)) (u : Str → Option Value) : Str → Option Value := fun z => match List.lookup z ps with | some v => some v | none => u z
theorem kv_eq {ps : List (Str × Value)} {u : Str → Option Value} (h : ∀ p ∈ ps, u p.1 = some p.2) : kv ps u = u := by
  funext z
  unfold kv
  induction ps with
  | nil => rfl
  | cons p r ih =>
    obtain ⟨k, x⟩ := p
    rw [List.lookup_cons]
    by_cases e : z = k
    · subst e
      have : (z == z) = true := by simp
      rw [this]
      exact (h (z, x) (.head _)).symm
    · have : (z == k) = false := by simpa using e
      rw [this]
      exact ih fun q hq => h q (.tail _ hq)
theorem fr_kv {h₀ h : Heap} {L : Addr} {ps : List (Str × Value)} {u : Str → Option Value} {x₁ x₂ : Str} {v₁ v₂ : Value} (hu : ∀ p ∈ ps, u p.1 = some p.2) (F : Fr h₀ L h (fun z => if z = x₂ then some v₂ else if z = x₁ then some v₁ else u z)) :
    Fr h₀ L h (fun z => if z = x₂ then some v₂ else if z = x₁ then some v₁ else kv ps u z) := by rw [kv_eq hu]; exact F
theorem fr_kv0 {h₀ h : Heap} {L : Addr} {ps : List (Str × Value)} {u : Str → Option Value} (hu : ∀ p ∈ ps, u p.1 = some p.2) (F : Fr h₀ L h u) : Fr h₀ L h (kv ps u) := by rw [kv_eq hu]; exact F
section
variable {prog : Program} {w : World} {A : Around} {E : Value → Shared → Prop} {s : Shared} {h₀ : Heap} {L : Addr} {m : Str → Option Value} {R : List (Addr × Obj)}
theorem cat_led {l b : Addr} {vs ws : List Value} {n k : Nat} {Q : Value → Shared → Prop} (F : Fr h₀ L s.heap m) (N : News h₀ L s.heap R) (hl : (l, W.listOf vs.toArray n) ∈ R) (hb : (b, W.listOf ws.toArray k) ∈ R)
    (h : ∀ D h', Fr h₀ L h' m → News h₀ L h' ((D, W.listOf (vs ++ ws).toArray 0) :: R) → (∀ q ∈ R, q.1 < D) → Q (.ref D) { s with heap := h' }) (hsz : vs.length + ws.length ≤ sizeLine) :
    wpAny (model prog w) A (binaryOp .Add (.ref l) (.ref b)) Q E s := by
  refine add_arrays F N (isList_of N hl) (isList_of N hb) (fun h' F' N' => h _ h' F' ?_ fun q hq => Heap.lt_size (N q hq).1) (by simpa using hsz)
  simpa using N'
end
section
variable {prog : Program} {w : World} {A : Around} {E : Value → Shared → Prop} {s : Shared} {h₀ : Heap} {L : Addr} {m : Str → Option Value} {R : List (Addr × Obj)}
theorem len_led {l : Addr} {vs : List Value} {n : Nat} {Q : Value → Shared → Prop} (N : News h₀ L s.heap R) (hl : (l, W.listOf vs.toArray n) ∈ R) (hfit : vs.length ≤ 100000)
    (h : Q (.int (vs.length : Int) (s.toks + 1)) { s with toks := s.toks + 1 + 1 }) : wpAny (model prog w) A (call (.builtin "len") [.ref l]) Q E s := by
  have e : vs.toArray.size = vs.length := by simp
  exact len_list (isList_of N hl) (by rw [e]; lia) (by rw [e]; exact h)
theorem get_led {l : Addr} {vs : List Value} {n : Nat} {k : Int} {u : Tok} {v : Value} {Q : Value → Shared → Prop} (N : News h₀ L s.heap R) (hl : (l, W.listOf vs.toArray n) ∈ R) (h0 : 0 ≤ k) (hfit : k < 2 ^ 63) (hv : vs[k.toNat]? = some v)
    (h : Q v s) : wpAny (model prog w) A (getItem (.ref l) (.int k u)) Q E s := wpAny_getItem_list (isList_of N hl) h0 hfit (by simpa using hv) h
theorem item_led {value slice : PySem.Expr} {l : Addr} {vs : List Value} {n : Nat} {k : Int} {u : Tok} {v : Value} {Q : Value → Shared → Prop} (N : News h₀ L s.heap R) (hl : (l, W.listOf vs.toArray n) ∈ R) (h0 : 0 ≤ k) (hfit : k < 2 ^ 63) (hv : vs[k.toNat]? = some v)
    (h : Q v s) (hs : subscripted slice false (.ref l) (.int k u) = operate [.ref l, .int k u] (getItem (.ref l) (.int k u)) := by with_unfolding_all rfl) :
    wpAny (model prog w) A (subscriptTail value slice (.ref l) (.int k u)) Q E s :=
  tail_any (isList_of N hl).typeIs slot_list_getitem.lookup (get_led N hl h0 hfit hv h) hs
end
end Mine

namespace Mine
/-! a loop over pairs whose state is a part M of the ledger with fixed addresses, the frame, and data in a growing tail -/
noncomputable def MEnd (h₀ : Heap) (L : Addr) (R T : List (Addr × Obj)) (adr : List Addr) (I : Addr) (oI : Obj) (M tl : List (Addr × Obj)) (P : List (Addr × Obj) → List (Addr × Obj) → (Str → Option Value) → Prop) (s₁ : Shared) (f : Flow) (s₂ : Shared) : Prop :=
  f = .next ∧ ∃ h' tk m' tl2 M', s₂ = { s₁ with heap := h', toks := tk } ∧ Fr h₀ L h' m' ∧ News h₀ L h' (tl2 ++ ((I, oI) :: (M' ++ (tl ++ R)))) ∧ M'.map (·.1) = adr ∧
    Apart ((I, oI) :: (M ++ (tl ++ R))) tl2 ∧ P (tl2 ++ (tl ++ T)) M' m'
theorem mEnd {h₀ : Heap} {L : Addr} {R T : List (Addr × Obj)} {adr : List Addr} {I : Addr} {oI : Obj} {M tl : List (Addr × Obj)} {P : List (Addr × Obj) → List (Addr × Obj) → (Str → Option Value) → Prop} {s₁ : Shared} {h' : Heap} {tk : Nat} {m' : Str → Option Value}
    (tl2 M' : List (Addr × Obj)) (F : Fr h₀ L h' m') (N : News h₀ L h' (tl2 ++ ((I, oI) :: (M' ++ (tl ++ R))))) (hM : M'.map (·.1) = adr) (hf : Apart ((I, oI) :: (M ++ (tl ++ R))) tl2) (hP : P (tl2 ++ (tl ++ T)) M' m') :
    MEnd h₀ L R T adr I oI M tl P s₁ .next { s₁ with heap := h', toks := tk } := ⟨rfl, h', tk, m', tl2, M', rfl, F, N, hM, hf, hP⟩
section
variable {prog : Program} {w : World} {A : Around} {E : Value → Shared → Prop} {s : Shared} {env : Env} {h₀ : Heap} {body : List Stmt} {Q : Flow → Shared → Prop}
theorem mut_pairs {σ α : Type} {x₁ x₂ : Str} {p₁ p₂ tp : Pos} {kk : Nat} {l : Addr} {vs : List Value} {nn : Nat} {m₀ : Str → Option Value} {R T tl₀ M₀ : List (Addr × Obj)} (adr : List Addr) (dec : α → Dat × Dat) (xs : List α) (step : σ → α → σ) (st₀ : σ) (P : σ → List (Addr × Obj) → List (Addr × Obj) → (Str → Option Value) → Prop)
    (hh : A.handled = none) (hx₁ : env.kindOf x₁ = some .local) (hx₂ : env.kindOf x₂ = some .local) (hp : (env.scope.kind == .class || (env.scope.kind == .module && env.locals != env.globals)) = false)
    (hl : (l, listOf vs.toArray nn) ∈ tl₀ ++ T) (hd : DatAll (tl₀ ++ T) vs (xs.map fun x => .tuple [(dec x).1, (dec x).2])) (hTR : ∀ p ∈ T, p ∈ R)
    (F : Fr h₀ env.locals s.heap m₀) (N : News h₀ env.locals s.heap (M₀ ++ (tl₀ ++ R))) (hM : M₀.map (·.1) = adr) (hO : OwnOff (tl₀ ++ R) adr) (hlt : Apart R tl₀) (hP₀ : P st₀ (tl₀ ++ T) M₀ m₀)
    (turn : ∀ pre a post v₁ v₂ m₁ tl M (s₁ : Shared) h tk I oI, xs = pre ++ a :: post → DatIn (tl ++ T) v₁ (dec a).1 → DatIn (tl ++ T) v₂ (dec a).2 → (∀ p ∈ M ++ (tl ++ R), @Ne Nat p.1 I) → M.map (·.1) = adr → OwnOff (tl ++ R) adr → P (pre.foldl step st₀) (tl ++ T) M m₁ →
      Fr h₀ env.locals h (fun z => if z = x₂ then some v₂ else if z = x₁ then some v₁ else m₁ z) → News h₀ env.locals h ((I, oI) :: (M ++ (tl ++ R))) →
      wpAny (model prog w) A (execs body env) (MEnd h₀ env.locals R T adr I oI M tl (P (step (pre.foldl step st₀) a)) { s₁ with heap := h, toks := tk }) E { s₁ with heap := h, toks := tk })
    (done : ∀ m₁ tl M h tk, P (xs.foldl step st₀) (tl ++ T) M m₁ → M.map (·.1) = adr → OwnOff (tl ++ R) adr → Apart R tl → Fr h₀ env.locals h m₁ → News h₀ env.locals h (M ++ (tl ++ R)) → Q .next { s with heap := h, toks := tk }) :
    wpAny (model prog w) A (pyIter (.ref l)) (fun it s₂ => LoopAtT prog w A h₀ env (.Tuple [.Name x₁ p₁, .Name x₂ p₂] kk tp) body Q E it s₂) E s := by
  refine pair_iter (tl₀ ++ T) (xs.map dec) (fun i m₁ nx => ∃ tl M, nx = M ++ ((tl ++ tl₀) ++ R) ∧ M.map (·.1) = adr ∧ OwnOff ((tl ++ tl₀) ++ R) adr ∧ Apart R (tl ++ tl₀) ∧ P ((xs.take i).foldl step st₀) ((tl ++ tl₀) ++ T) M m₁) hh hx₁ hx₂ hp hl (by rw [List.map_map]; exact hd) ?_ F N ?_ ?_ ?_
  · rintro i m nx ⟨tl, M, rfl, _⟩ p hp
    refine List.mem_append.mpr (.inr ?_)
    rcases List.mem_append.mp hp with hp | hp
    · exact List.mem_append.mpr (.inl (List.mem_append.mpr (.inr hp)))
    · exact List.mem_append.mpr (.inr (hTR p hp))
  · exact ⟨[], M₀, rfl, hM, by simpa using hO, by simpa using hlt, by simpa using hP₀⟩
  · rintro i d₁ d₂ v₁ v₂ m₁ nx s₁ h tk I oI hi D1 D2 hI ⟨tl, M, rfl, hM', hO', hlt', hP'⟩ F2 N2
    simp only [List.getElem?_map, Option.map_eq_some_iff] at hi
    obtain ⟨x, hx, he⟩ := hi
    have hs : xs.take (i + 1) = xs.take i ++ [x] := by rw [List.take_add_one, hx]; rfl
    have e : xs = xs.take i ++ x :: xs.drop (i + 1) := by
      have h9 := List.take_append_drop (i + 1) xs
      rw [hs, List.append_assoc] at h9
      exact h9.symm
    rw [hs, List.foldl_append]
    have e1 : d₁ = (dec x).1 := by rw [he]
    have e2 : d₂ = (dec x).2 := by rw [he]
    have sub : ∀ p ∈ tl₀ ++ T, p ∈ (tl ++ tl₀) ++ T := fun p hp => by rw [List.append_assoc]; exact List.mem_append.mpr (.inr hp)
    refine wpAny_mono (turn _ x _ v₁ v₂ m₁ (tl ++ tl₀) M s₁ h tk I oI e (e1 ▸ D1.mono sub) (e2 ▸ D2.mono sub) hI hM' hO' hP' F2 N2) (fun f s₂ q => ?_) fun _ _ e => e
    obtain ⟨rfl, h', tk', m', tl2, M2, rfl, F3, N3, hM3, hf3, hP3⟩ := q
    have hIne : ∀ p ∈ tl2, p.1 ≠ I := fun p hp => Ne.symm (hf3 _ (.head _) p hp)
    refine ⟨rfl, h', tk', m', _, M2 ++ ((tl2 ++ tl ++ tl₀) ++ R), rfl, F3, N3, ?_, ?_, ?_, tl2 ++ tl, M2, rfl, hM3, ?_, ?_, ?_⟩
    · intro p hp
      simp only [List.mem_append, List.mem_cons] at hp ⊢
      rcases hp with h1 | ((h1 | h1) | h1) | h1
      · exact .inr (.inr (.inl h1))
      · exact .inl h1
      · exact .inr (.inr (.inr (.inl (.inl h1))))
      · exact .inr (.inr (.inr (.inl (.inr h1))))
      · exact .inr (.inr (.inr (.inr h1)))
    · simp
    · intro p hp
      rcases List.mem_append.mp hp with hp | hp
      · have h1 : p.1 ∈ adr := hM3 ▸ List.mem_map.mpr ⟨p, hp, rfl⟩
        rw [← hM'] at h1
        obtain ⟨q, hq, hqe⟩ := List.mem_map.mp h1
        rw [← hqe]
        exact hI q (List.mem_append.mpr (.inl hq))
      · rw [List.append_assoc, List.append_assoc] at hp
        rcases List.mem_append.mp hp with hp | hp
        · exact hIne p hp
        · exact hI p (List.mem_append.mpr (.inr (by rw [List.append_assoc]; exact hp)))
    · intro p hp b hb
      rw [List.append_assoc, List.append_assoc] at hp
      rcases List.mem_append.mp hp with hp | hp
      · rw [← hM'] at hb
        obtain ⟨q, hq, hqe⟩ := List.mem_map.mp hb
        rw [← hqe]
        exact Ne.symm (hf3 q (.tail _ (List.mem_append.mpr (.inl hq))) p hp)
      · exact hO' p (by rw [List.append_assoc]; exact hp) b hb
    · intro q hq p hp
      rw [List.append_assoc] at hp
      rcases List.mem_append.mp hp with hp | hp
      · exact hf3 q (.tail _ (List.mem_append.mpr (.inr (List.mem_append.mpr (.inr hq))))) p hp
      · exact hlt' q hq p hp
    · have e9 : ((tl2 ++ tl) ++ tl₀) ++ T = tl2 ++ ((tl ++ tl₀) ++ T) := by simp only [List.append_assoc]
      rw [e9]
      exact hP3
  · rintro m₁ nx h tk ⟨tl, M, rfl, hM', hO', hlt', hP'⟩ F2 N2
    rw [List.length_map, List.take_length] at hP'
    exact done m₁ (tl ++ tl₀) M h tk hP' hM' hO' hlt' F2 N2
end
section
variable {prog : Program} {w : World} {A : Around} {E : Value → Shared → Prop} {s : Shared} {env : Env} {h₀ : Heap}
theorem assign_pair {a b : Str} {pa pb tp : Pos} {kk n : Nat} {t : Addr} {x y : Value} {m : Str → Option Value} {R : List (Addr × Obj)} {Q : Unit → Shared → Prop} (hh : A.handled = none) (F : Fr h₀ env.locals s.heap m) (N : News h₀ env.locals s.heap R)
    (hm : (t, ({ cls := .type "tuple", data := .seq [x, y].toArray n } : Obj)) ∈ R) (ha : env.kindOf a = some .local) (hb : env.kindOf b = some .local) (hp : (env.scope.kind == .class || (env.scope.kind == .module && env.locals != env.globals)) = false)
    (h : ∀ (h' : Heap) (tk : Nat), Fr h₀ env.locals h' (fun z => if z = b then some y else if z = a then some x else m z) → News h₀ env.locals h' R → Q () { s with heap := h', toks := tk }) :
    wpAny (model prog w) A (assign (.Tuple [.Name a pa, .Name b pb] kk tp) env (.ref t)) Q E s := by
  refine kcp_assign hh ⟨_, (N _ hm).1, rfl, n, rfl⟩ ha hb hp F.ns fun h' tk hn' hk' => h h' tk ?_ ?_
  · exact ⟨hn', fun b o e => hk' b o (Nat.ne_of_lt (Nat.lt_of_lt_of_le (Heap.lt_size e) F.above)) (F.keep b o e), F.above⟩
  · exact fun p hp => ⟨hk' _ _ (N p hp).2.1 (N p hp).1, (N p hp).2⟩
end
section
variable {prog : Program} {w : World} {A : Around} {E : Value → Shared → Prop} {s : Shared} {value slice : PySem.Expr} {b : Array UInt8} {t : Tok} {h₀ : Heap} {L : Addr} {m : PySem.Str → Option Value} {news : List (Addr × Obj)} {l u : Value} {lo hi : Option Int} {Q : Value → Shared → Prop}
theorem slice_B (hF : Fr h₀ L s.heap m) (hN : News h₀ L s.heap news) (hl : IsPart l lo) (hu : IsPart u hi) (hz : b.size ≤ 100000)
    (h : ∀ h' t' k, Fr h₀ L h' m → News h₀ L h' news → Q (.bytes (KBy.picked b lo hi) t') { s with heap := h', toks := k })
    (hs : subscripted slice false (.bytes b t) (.ref s.heap.objs.size) = operate [.ref s.heap.objs.size, .bytes b t] (getItem (.bytes b t) (.ref s.heap.objs.size)) := by with_unfolding_all rfl)
    (ht : ∀ r, letTemporaryGo value (.bytes b t) r = pure () := by intro _; with_unfolding_all rfl) :
    wpAny (model prog w) A (subscriptTail value slice (.bytes b t) (.ref s.heap.objs.size)) Q E { s with heap := s.heap.push { cls := .type "slice", data := .fields #[l, u, .none] } } :=
  KBc.slice_K (ks := KBw.bInts b) hF hN rfl hl hu (by rw [KBw.ints_length]; lia) (fun h' t' k F' N' _ => h h' t' k F' N') hs ht
end
section
variable {h₀ h : Heap} {L : Addr} {R T tl tl2 M : List (Addr × Obj)} {adr : List Addr}
theorem news_mv (N : News h₀ L h (tl ++ (M ++ R))) : News h₀ L h (M ++ (tl ++ R)) := fun p hp => by
  rcases List.mem_append.mp hp with hp | hp
  · exact N p (List.mem_append.mpr (.inr (List.mem_append.mpr (.inl hp))))
  · rcases List.mem_append.mp hp with hp | hp
    · exact N p (List.mem_append.mpr (.inl hp))
    · exact N p (List.mem_append.mpr (.inr (List.mem_append.mpr (.inr hp))))
theorem off_mv (hM : M.map (·.1) = adr) (hA : Apart (M ++ R) tl) (hO : OwnOff R adr) : OwnOff (tl ++ R) adr := fun p hp b hb => by
  rcases List.mem_append.mp hp with hp | hp
  · rw [← hM] at hb
    obtain ⟨q, hq, rfl⟩ := List.mem_map.mp hb
    exact Ne.symm (hA q (List.mem_append.mpr (.inl hq)) p hp)
  · exact hO p hp b hb
theorem apart_mv (hA : Apart (M ++ R) tl) : Apart R tl := fun q hq p hp => hA q (List.mem_append.mpr (.inr hq)) p hp
theorem sub_mv (h : ∀ p ∈ T, p ∈ R) : ∀ p ∈ tl ++ T, p ∈ tl ++ R := fun p hp => (List.mem_append.mp hp).elim (fun q => List.mem_append.mpr (.inl q)) fun q => List.mem_append.mpr (.inr (h p q))
theorem apart_two (hA : Apart R tl) (hB : Apart (tl ++ R) tl2) : Apart R (tl2 ++ tl) := fun q hq p hp => by
  rcases List.mem_append.mp hp with hp | hp
  · exact hB q (List.mem_append.mpr (.inr hq)) p hp
  · exact hA q hq p hp
theorem apart_cons {p : Addr × Obj} (h : ∀ q ∈ R, @Ne Nat q.1 p.1) (hA : Apart R tl) : Apart R (p :: tl) := fun q hq r hr => by
  rcases List.mem_cons.mp hr with rfl | hr
  · exact h q hq
  · exact hA q hq r hr
end
/-- what was added stands off the part adr and off what was there -/
noncomputable def Ext (adr : List Addr) (R tl : List (Addr × Obj)) : Prop := OwnOff (tl ++ R) adr ∧ Apart R tl
theorem Ext.nil {adr : List Addr} {R : List (Addr × Obj)} (h : OwnOff R adr) : Ext adr R [] := ⟨h, Apart.nil⟩
theorem Ext.step {adr : List Addr} {R tl tl2 M : List (Addr × Obj)} (h : Ext adr R tl) (hM : M.map (·.1) = adr) (hA : Apart (M ++ (tl ++ R)) tl2) : Ext adr R (tl2 ++ tl) := by
  refine ⟨?_, apart_two h.2 (apart_mv hA)⟩
  rw [List.append_assoc]
  exact off_mv hM hA h.1
theorem Ext.off {adr : List Addr} {R tl : List (Addr × Obj)} {b : Addr} (h : Ext adr R tl) (hb : b ∈ adr) : OwnOff (tl ++ R) [b] := fun p hp c hc => by
  rw [List.mem_singleton.mp hc]
  exact h.1 p hp b hb
theorem mem_up {p : Addr × Obj} {tl tl2 R : List (Addr × Obj)} (h : p ∈ tl ++ R) : p ∈ (tl2 ++ tl) ++ R := by rw [List.append_assoc]; exact List.mem_append.mpr (.inr h)
theorem news_back {h₀ h : Heap} {L : Addr} {R tl M : List (Addr × Obj)} (N : News h₀ L h (M ++ (tl ++ R))) : News h₀ L h (tl ++ (M ++ R)) := fun p hp => by
  rcases List.mem_append.mp hp with hp | hp
  · exact N p (List.mem_append.mpr (.inr (List.mem_append.mpr (.inl hp))))
  · rcases List.mem_append.mp hp with hp | hp
    · exact N p (List.mem_append.mpr (.inl hp))
    · exact N p (List.mem_append.mpr (.inr (List.mem_append.mpr (.inr hp))))
theorem off_one {R tl M : List (Addr × Obj)} {b : Addr} {o : Obj} (hm : (b, o) ∈ M) (hA : Apart (M ++ R) tl) (hO : OwnOff R [b]) : OwnOff (tl ++ R) [b] := fun p hp c hc => by
  rcases List.mem_append.mp hp with hp | hp
  · rw [List.mem_singleton.mp hc]
    exact Ne.symm (hA (b, o) (List.mem_append.mpr (.inl hm)) p hp)
  · exact hO p hp c hc
theorem off_sub {R : List (Addr × Obj)} {adr : List Addr} {b : Addr} (hO : OwnOff R adr) (hb : b ∈ adr) : OwnOff R [b] := fun p hp c hc => by rw [List.mem_singleton.mp hc]; exact hO p hp b hb
end Mine

namespace Mine
open PyProof.Rows.LCg in
section
variable {prog : Program} {w : World} {A : Around} {s : Shared} {h₀ : Heap} {L : Addr} {m : Str → Option Value} {env : Env}
/-- what an element of a comprehension over pairs hands on -/
noncomputable def ElEnd (h₀ : Heap) (L : Addr) (m : Str → Option Value) (T : List (Addr × Obj)) (X Y : List (Addr × Obj)) (d : Dat) (s₁ : Shared) (y : Value) (s₂ : Shared) : Prop :=
  ∃ h' tk' new, s₂ = { s₁ with heap := h', toks := tk' } ∧ Fr h₀ L h' m ∧ News h₀ L h' (new ++ (X ++ Y)) ∧ Apart (X ++ Y) new ∧ DatIn (new ++ T) y d
theorem elEnd {X Y T : List (Addr × Obj)} {d : Dat} {s₁ : Shared} {y : Value} {h' : Heap} {tk' : Nat} (new : List (Addr × Obj)) (F : Fr h₀ L h' m) (N : News h₀ L h' (new ++ (X ++ Y))) (hA : Apart (X ++ Y) new) (hd : DatIn (new ++ T) y d) :
    ElEnd h₀ L m T X Y d s₁ y { s₁ with heap := h', toks := tk' } := ⟨h', tk', new, rfl, F, N, hA, hd⟩
theorem comp_pairs {α : Type} {elt : PySem.Expr} {x x₂ : Str} {scope : Scope} {cl : List (Str × Addr)} {R T : List (Addr × Obj)} {ax : Addr} {vs : List Value} {nn : Nat} {Fin : List Value → List (Addr × Obj) → Prop} (dec : α → Dat × Dat) (f : α → Dat) (xs : List α)
    (hl : (ax, listOf vs.toArray nn) ∈ T) (hd : DatAll T vs (xs.map fun x => .tuple [(dec x).1, (dec x).2])) (hTR : ∀ p ∈ T, p ∈ R)
    (turn : ∀ a v₁ v₂ ys adds I oI C oC D m₂ h tk (E' : Value → Shared → Prop), a ∈ xs → DatIn (adds ++ T) v₁ (dec a).1 → DatIn (adds ++ T) v₂ (dec a).2 → NsObj oC m₂ → m₂ x = some v₁ → m₂ x₂ = some v₂ → Fr h₀ L h m → News h₀ L h ((I, oI) :: (C, oC) :: (D, lst ys) :: (adds ++ R)) →
      wpAny (model prog w) A (eval elt (compEnvC scope cl C env)) (ElEnd h₀ L m (adds ++ T) [(I, oI), (C, oC), (D, lst ys)] (adds ++ R) (f a) { s with heap := h, toks := tk }) E' { s with heap := h, toks := tk })
    (hFin : ∀ ys adds, DatAll (adds ++ T) ys (xs.map f) → Apart R adds → Fin ys (adds ++ R)) :
    LCp.CompRestP prog w A h₀ L m env elt x x₂ scope cl s (SrcAt h₀ ax vs.toArray) (fun i v => vs.toArray[i]? = some v) Fin vs.toArray.size 0 [] R := by
  have all : ∀ k i ys adds, i + k = xs.length → DatAll (adds ++ T) ys ((xs.take i).map f) → Apart R adds →
      LCp.CompRestP prog w A h₀ L m env elt x x₂ scope cl s (SrcAt h₀ ax vs.toArray) (fun i v => vs.toArray[i]? = some v) Fin k i ys (adds ++ R) := by
    intro k
    induction k with
    | zero =>
      intro i ys adds hi hD hA
      have : xs.take i = xs := List.take_of_length_le (by lia)
      rw [this] at hD
      exact LCp.CompRestP.zero (hFin ys adds hD hA)
    | succ k ih =>
      intro i ys adds hi hD hA
      refine LCp.CompRestP.succ fun v hv => ?_
      refine hide fun G9 k9 => ?_
      have hi' : i < xs.length := hi ▸ Nat.lt_add_of_pos_right (Nat.succ_pos k)
      obtain ⟨t, v₁, v₂, n, ev, hm, h1, h2⟩ := pair_at hd (at_arr hv) hi'
      have sub : ∀ p ∈ T, p ∈ adds ++ T := fun p hp => List.mem_append.mpr (.inr hp)
      refine k9 ⟨t, _, v₁, v₂, n, ev, List.mem_append.mpr (.inr (hTR _ hm)), rfl, rfl, ?_⟩
      clear k9
      intro I oI C oC D m₂ h tk E' hC hx1 hx2 F' N' off ne
      refine wpAny_mono (turn xs[i] v₁ v₂ ys adds I oI C oC D m₂ h tk E' (List.getElem_mem hi') (h1.mono sub) (h2.mono sub) hC hx1 hx2 F' N') (fun y s₂ q => ?_) fun _ _ e => e
      refine hide fun G8 k8 => ?_
      obtain ⟨h', tk', new, es, F3, N3, hA3, hd3⟩ := q
      have off3 : Off3 I C D (new ++ (adds ++ R)) := Off3.of fun p hp => by
        rcases List.mem_append.mp hp with hp | hp
        · exact ⟨Ne.symm (hA3 (I, oI) (by simp) p hp), Ne.symm (hA3 (C, oC) (by simp) p hp), Ne.symm (hA3 (D, lst ys) (by simp) p hp)⟩
        · exact off.mem p hp
      refine k8 ?_
      rw [es]
      refine CompEnd.intro F3 N3 (new ++ (adds ++ R)) ?_ off3 (.inr ⟨_, List.mem_append.mpr (.inr (List.mem_append.mpr (.inr (hTR _ hl)))), rfl, nn, rfl⟩) ?_
      · exact sub_bl [new, [(I, oI), (C, oC), (D, lst ys)], adds, R] [1, 0, 2, 3]
      · have e9 : new ++ (adds ++ R) = (new ++ adds) ++ R := by simp only [List.append_assoc]
        rw [e9]
        refine ih (i + 1) (ys ++ [y]) (new ++ adds) (by lia) ?_ ?_
        · have hs : xs.take (i + 1) = xs.take i ++ [xs[i]] := by rw [List.take_add_one, List.getElem?_eq_getElem hi'] <;> rfl
          rw [hs, List.map_append, List.map_cons, List.map_nil]
          refine DatAll.append (hD.mono fun p hp => ?_) (DatAll.one ?_)
          · rw [List.append_assoc]; exact List.mem_append.mpr (.inr hp)
          · rw [List.append_assoc]; exact hd3
        · intro q hq p hp
          rcases List.mem_append.mp hp with hp | hp
          · exact hA3 q (List.mem_append.mpr (.inr (List.mem_append.mpr (.inr hq)))) p hp
          · exact hA q hq p hp
  have := all xs.length 0 [] [] (by lia) DatAll.nil Apart.nil
  have e : vs.toArray.size = xs.length := by simp [hd.length]
  rw [e]
  exact this
end
theorem Apart.one {X : List (Addr × Obj)} {d : Addr} {o : Obj} (h : AllLt d X) : Apart X [(d, o)] := fun q hq p hp => by
  rw [List.mem_singleton.mp hp]
  exact Nat.ne_of_lt (allLt_mem h q hq)
theorem off1_ne {D : Addr} {l : List (Addr × Obj)} (h : LCg.Off1 D l) : ∀ p ∈ l, @Ne Nat p.1 D := by
  induction l with
  | nil => intro p hp; cases hp
  | cons q r ih =>
    intro p hp
    rcases List.mem_cons.mp hp with rfl | hp
    · exact h.1
    · exact ih h.2 p hp
theorem apart_off {R adds : List (Addr × Obj)} {D : Addr} {o : Obj} (hA : Apart R adds) (h : LCg.Off1 D (adds ++ R)) : Apart R ((D, o) :: adds) := fun q hq p hp => by
  rcases List.mem_cons.mp hp with rfl | hp
  · exact off1_ne h q (List.mem_append.mpr (.inr hq))
  · exact hA q hq p hp
theorem ints_of {T : List (Addr × Obj)} : ∀ {vs : List Value} {ns : List Int}, DatAll T vs (ns.map Dat.int) → IntsAre vs ns
  | [], [], _ => .nil
  | _ :: _, _ :: _, h => by
    cases h with
    | cons h1 h2 =>
      cases h1
      exact .cons _ _ (ints_of h2)
  | [], _ :: _, h => by cases h
  | _ :: _, [], h => by cases h
theorem Ext.alloc {adr : List Addr} {R tl : List (Addr × Obj)} {d : Addr} {o : Obj} (h : Ext adr R tl) (l : AllLt d (adr.map (fun b => (b, (default : Obj))) ++ (tl ++ R))) : Ext adr R ([(d, o)] ++ tl) :=
  h.step (M := adr.map (fun b => (b, (default : Obj)))) (by rw [List.map_map]; exact List.map_id adr) (Apart.one l)
end Mine

namespace Mine
theorem prD_inj {p q : Int × Int} (h : prD p = prD q) : p = q := by
  obtain ⟨a, b⟩ := p
  obtain ⟨c, d⟩ := q
  simp only [prD, Dat.tuple.injEq, List.cons.injEq, Dat.int.injEq, and_true] at h
  rw [h.1, h.2]
theorem map_prD_inj : ∀ {xs ys : List (Int × Int)}, xs.map prD = ys.map prD → xs = ys
  | [], [], _ => rfl
  | [], _ :: _, h => by simp at h
  | _ :: _, [], h => by simp at h
  | x :: xs, y :: ys, h => by
    simp only [List.map_cons, List.cons.injEq] at h
    rw [prD_inj h.1, map_prD_inj h.2]
theorem prD_ok (xs : List (Int × Int)) : ∀ d ∈ xs.map prD, kqdOk 8 d = true := by
  intro d hd
  obtain ⟨x, _, rfl⟩ := List.mem_map.mp hd
  rfl
section
variable {prog : Program} {w : World} {A : Around} {E : Value → Shared → Prop} {s : Shared} {h₀ : Heap} {L : Addr} {R T T' : List (Addr × Obj)} {u v : Value} {xs ys : List (Int × Int)} {Q : Value → Shared → Prop}
open Classical in
theorem eq_spans (N : News h₀ L s.heap R) (ha : DatIn T u (spD xs)) (hb : DatIn T' v (spD ys)) (hT : ∀ p ∈ T, p ∈ R) (hT' : ∀ p ∈ T', p ∈ R) (hu : A.units + 64 < cLine) (h : ∀ b, (b = true ↔ xs = ys) → Q (.bool b) s) :
    wpAny (model prog w) A (compareOp .Eq u v) Q E s := by
  unfold spD at ha hb
  cases ha with
  | list hm1 hd1 =>
  cases hb with
  | list hm2 hd2 =>
  refine kqd_eq N (hT _ hm1) rfl rfl hd1 hT (hT' _ hm2) rfl rfl hd2 hT' (prD_ok xs) (prD_ok ys) hu (h _ ?_)
  rw [decide_eq_true_iff]
  exact ⟨map_prD_inj, fun e => by rw [e]⟩
open Classical in
theorem ne_spans (N : News h₀ L s.heap R) (ha : DatIn T u (spD xs)) (hb : DatIn T' v (spD ys)) (hT : ∀ p ∈ T, p ∈ R) (hT' : ∀ p ∈ T', p ∈ R) (hu : A.units + 64 < cLine) (h : ∀ b, (b = true ↔ xs ≠ ys) → Q (.bool b) s) :
    wpAny (model prog w) A (compareOp .NotEq u v) Q E s := by
  unfold spD at ha hb
  cases ha with
  | list hm1 hd1 =>
  cases hb with
  | list hm2 hd2 =>
  refine kqd_ne N (hT _ hm1) rfl rfl hd1 hT (hT' _ hm2) rfl rfl hd2 hT' (prD_ok xs) (prD_ok ys) hu (h _ ?_)
  rw [Bool.not_eq_true', decide_eq_false_iff_not]
  exact ⟨fun q e => q (by rw [e]), fun q e => q (map_prD_inj e)⟩
theorem ne_spans_no (N : News h₀ L s.heap R) (ha : DatIn T u (spD xs)) (hb : DatIn T' v (spD xs)) (hT : ∀ p ∈ T, p ∈ R) (hT' : ∀ p ∈ T', p ∈ R) (hu : A.units + 64 < cLine) (h : Q (.bool false) s) : wpAny (model prog w) A (compareOp .NotEq u v) Q E s :=
  ne_spans N ha hb hT hT' hu fun b hb => by
    cases b with
    | false => exact h
    | true => exact absurd rfl (hb.mp rfl)
end
end Mine

namespace Mine
open PySem.W
/-! sorting a list of tuples whose first items are ints, all but the last in order -/
noncomputable def kEval {α : Type} (c : Nat → Nat → Bool) : KasT α → α
  | .ret a => a
  | .ask i j k => kEval c (k (c i j))
noncomputable def kGood {α : Type} (n : Nat) (c : Nat → Nat → Bool) : KasT α → Bool
  | .ret _ => true
  | .ask i j k => (decide (i < n) && decide (j < n) && decide (i ≠ j)) && kGood n c (k (c i j))
theorem kas_eval {α : Type} {n : Nat} {c : Nat → Nat → Bool} {cmp : Nat → Nat → (Bool → Shared → Prop) → Shared → Prop} {Q : α → Shared → Prop} {s : Shared}
    (hc : ∀ i j (C : Bool → Shared → Prop), i < n → j < n → i ≠ j → C (c i j) s → cmp i j C s) : ∀ t : KasT α, kGood n c t = true → Q (kEval c t) s → t.kasWp cmp Q s
  | .ret _, _, hq => hq
  | .ask i j k, hg, hq => by
    simp only [kGood, Bool.and_eq_true, decide_eq_true_eq] at hg
    exact hc i j _ hg.1.1.1 hg.1.1.2 hg.1.2 (kas_eval hc (k (c i j)) hg.2 hq)
noncomputable def rk (n r i : Nat) : Nat := if i = n - 1 then r else if i < r then i else i + 1
noncomputable def cc (n r i j : Nat) : Bool := decide (rk n r i < rk n r j)
noncomputable def outAt (n r : Nat) : Array Nat := List.toArray (List.range r ++ ((n - 1) :: List.range' r (n - 1 - r)))
set_option maxRecDepth 100000 in
theorem sort_tab : ∀ n : Fin 10, 2 ≤ n.val → ∀ r : Fin n.val, kGood n.val (cc n.val r.val) (kas_sort n.val) = true ∧ kEval (cc n.val r.val) (kas_sort n.val) = outAt n.val r.val := by decide +kernel
/-- the value is a tuple of the ledger whose first item is the int -/
noncomputable def KeyAt (R : List (Addr × Obj)) (v : Value) (k : Int) : Prop := ∃ a xs n t b u, v = .ref a ∧ (a, ({ cls := .type "tuple", data := .seq xs n } : Obj)) ∈ R ∧ xs = #[.int k t, .bytes b u]
inductive KeysAt (R : List (Addr × Obj)) : List Value → List Int → Prop
  | nil : KeysAt R [] []
  | cons {v vs k ks} : KeyAt R v k → KeysAt R vs ks → KeysAt R (v :: vs) (k :: ks)
theorem KeysAt.length {R : List (Addr × Obj)} {vs : List Value} {ks : List Int} (h : KeysAt R vs ks) : vs.length = ks.length := by
  induction h with
  | nil => rfl
  | cons _ _ ih => rw [List.length_cons, List.length_cons, ih]
theorem KeysAt.get {R : List (Addr × Obj)} {vs : List Value} {ks : List Int} (h : KeysAt R vs ks) : ∀ {i : Nat} {k : Int}, ks[i]? = some k → ∃ v, vs[i]? = some v ∧ KeyAt R v k := by
  induction h with
  | nil => intro i k e; simp at e
  | cons hv _ ih =>
    intro i k e
    cases i with
    | zero => simp at e; subst e; exact ⟨_, rfl, hv⟩
    | succ i => simp at e; obtain ⟨v, hv, q⟩ := ih e; exact ⟨v, by simpa using hv, q⟩
theorem KeysAt.append {R : List (Addr × Obj)} {vs ws : List Value} {ks ls : List Int} (h : KeysAt R vs ks) (h2 : KeysAt R ws ls) : KeysAt R (vs ++ ws) (ks ++ ls) := by
  induction h with
  | nil => exact h2
  | cons hv _ ih => exact .cons hv ih
theorem KeysAt.mono {R R' : List (Addr × Obj)} {vs : List Value} {ks : List Int} (hs : ∀ p ∈ R, p ∈ R') (h : KeysAt R vs ks) : KeysAt R' vs ks := by
  induction h with
  | nil => exact .nil
  | cons hv _ ih =>
    obtain ⟨a, xs, n, t, b, u, e, hm, hx⟩ := hv
    exact .cons ⟨a, xs, n, t, b, u, e, hs _ hm, hx⟩ ih
theorem keys_tups {h₀ : Heap} {L : Addr} {h : Heap} {R : List (Addr × Obj)} (N : News h₀ L h R) {vs : List Value} {ks : List Int} (hk : KeysAt R vs ks) : ∃ fs, KatTups h vs fs ∧ fs.length = vs.length ∧ ∀ v ∈ fs, ∃ k t, v = Value.int k t := by
  induction hk with
  | nil => exact ⟨[], trivial, rfl, fun _ hv => nomatch hv⟩
  | cons hv _ ih =>
    obtain ⟨a, xs, n, t, b, u, rfl, hm, rfl⟩ := hv
    obtain ⟨fs, h1, h2, h3⟩ := ih
    refine ⟨_ :: fs, KatTups.cons (N _ hm).1 rfl rfl rfl h1, by rw [List.length_cons, List.length_cons, h2], fun v hv => ?_⟩
    rcases List.mem_cons.mp hv with rfl | hv
    · exact ⟨_, _, rfl⟩
    · exact h3 v hv
theorem lt_at {l : List Int} (h : l.Pairwise (· < ·)) {a b : Nat} {x y : Int} (hx : l[a]? = some x) (hy : l[b]? = some y) : x < y ↔ a < b := by
  obtain ⟨h1, rfl⟩ := List.getElem?_eq_some_iff.mp hx
  obtain ⟨h2, rfl⟩ := List.getElem?_eq_some_iff.mp hy
  have p := List.pairwise_iff_getElem.mp h
  rcases Nat.lt_trichotomy a b with q | q | q
  · exact ⟨fun _ => q, fun _ => p _ _ h1 h2 q⟩
  · subst q
    exact ⟨fun k => absurd k (Int.lt_irrefl _), fun k => absurd k (Nat.lt_irrefl _)⟩
  · exact ⟨fun k => absurd (p _ _ h2 h1 q) (Int.lt_asymm k), fun k => absurd k (Nat.lt_asymm q)⟩
theorem at_rk {ka kb : List Int} {z x : Int} {i : Nat} (hx : ((ka ++ kb) ++ [z])[i]? = some x) : (ka ++ z :: kb)[rk ((ka ++ kb) ++ [z]).length ka.length i]? = some x := by
  have e9 : ((ka ++ kb) ++ [z]).length - 1 = (ka ++ kb).length := by rw [List.length_append]; rfl
  have hlt := (List.getElem?_eq_some_iff.mp hx).1
  unfold rk
  rw [e9]
  by_cases hi : i = (ka ++ kb).length
  · rw [hi, List.getElem?_append_right (Nat.le_refl _), Nat.sub_self] at hx
    rw [if_pos hi, List.getElem?_append_right (Nat.le_refl _), Nat.sub_self]
    exact hx
  · rw [List.length_append] at hlt
    have hl2 : i < (ka ++ kb).length := Nat.lt_of_le_of_ne (Nat.le_of_lt_succ hlt) hi
    rw [List.getElem?_append_left hl2] at hx
    rw [if_neg hi]
    by_cases h1 : i < ka.length
    · rw [List.getElem?_append_left h1] at hx
      rw [if_pos h1, List.getElem?_append_left h1]
      exact hx
    · have h2 := Nat.not_lt.mp h1
      rw [List.getElem?_append_right h2] at hx
      rw [if_neg h1, List.getElem?_append_right (Nat.le_succ_of_le h2), Nat.succ_sub h2]
      exact hx
theorem rank_lt {ka kb : List Int} {z : Int} (hs : (ka ++ kb).Pairwise (· < ·)) (ha : ∀ k ∈ ka, k < z) (hb : ∀ k ∈ kb, z < k) {i j : Nat} {x y : Int} (hx : ((ka ++ kb) ++ [z])[i]? = some x) (hy : ((ka ++ kb) ++ [z])[j]? = some y) :
    decide (x < y) = cc ((ka ++ kb) ++ [z]).length ka.length i j := by
  obtain ⟨p1, p2, p3⟩ := List.pairwise_append.mp hs
  have p : (ka ++ z :: kb).Pairwise (· < ·) := List.pairwise_append.mpr ⟨p1, List.pairwise_cons.mpr ⟨hb, p2⟩, fun a h b k => (List.mem_cons.mp k).elim (fun e => e ▸ ha a h) (p3 a h b)⟩
  exact decide_eq_decide.mpr (lt_at p (at_rk hx) (at_rk hy))
theorem ne_at {ka kb : List Int} {z : Int} (hs : (ka ++ kb).Pairwise (· < ·)) (ha : ∀ k ∈ ka, k < z) (hb : ∀ k ∈ kb, z < k) {i j : Nat} (hij : i ≠ j) {x y : Int} (hx : ((ka ++ kb) ++ [z])[i]? = some x) (hy : ((ka ++ kb) ++ [z])[j]? = some y) : x ≠ y := by
  have p : ((ka ++ kb) ++ [z]).Pairwise (· ≠ ·) := List.pairwise_append.mpr ⟨hs.imp Int.ne_of_lt, List.pairwise_singleton _ _, fun a h b k => by
    rw [List.mem_singleton.mp k]
    exact (List.mem_append.mp h).elim (fun h => Int.ne_of_lt (ha a h)) fun h => Int.ne_of_gt (hb a h)⟩
  obtain ⟨h1, rfl⟩ := List.getElem?_eq_some_iff.mp hx
  obtain ⟨h2, rfl⟩ := List.getElem?_eq_some_iff.mp hy
  have q := List.pairwise_iff_getElem.mp p
  exact (Nat.lt_or_gt_of_ne hij).elim (q _ _ h1 h2) fun k => Ne.symm (q _ _ h2 h1 k)
section
variable {prog : Program} {w : World} {A : Around} {E : Value → Shared → Prop} {s : Shared} {h₀ : Heap} {L : Addr} {m : Str → Option Value} {R : List (Addr × Obj)}
theorem ask_keys {vs : List Value} {ks : List Int} {b : Bool} (hk : KeysAt R vs ks) (N : News h₀ L s.heap R) {i j : Nat} {x y : Int} {C : Bool → Shared → Prop} (hx : ks[i]? = some x) (hy : ks[j]? = some y) (hxy : x ≠ y) (hb : b = true) (hC : C (decide (x < y)) s) :
    kas_ask prog w A (tuples' b) vs i j C s := by
  obtain ⟨v, hv, a, xs, n, t, bb, u, rfl, hm, rfl⟩ := hk.get hx
  obtain ⟨v', hv', a', xs', n', t', bb', u', rfl, hm', rfl⟩ := hk.get hy
  unfold kas_ask
  rw [List.getD_eq_getElem?_getD, List.getD_eq_getElem?_getD, hv, hv']
  refine kat_lt (N _ hm).1 rfl (N _ hm').1 rfl ?_
  refine kat_cons (wpAny_eqBool_int ?_)
  have e : (x == y) = false := by simpa using hxy
  rw [e]
  subst hb
  exact kat_no (oneLt_int hC)
theorem outAt_map {va vb : List Value} {x : Value} : (outAt ((va ++ vb) ++ [x]).length va.length).toList.map (fun i => ((va ++ vb) ++ [x]).getD i Value.none) = va ++ x :: vb := by
  have hn : ((va ++ vb) ++ [x]).length - 1 = va.length + vb.length := by rw [List.length_append, List.length_append]; rfl
  have app : ∀ (l r : List Value), (List.range l.length).map (fun i => (l ++ r).getD i Value.none) = l := fun l r => by
    refine List.ext_getElem (by rw [List.length_map, List.length_range]) fun i h1 h2 => ?_
    rw [List.getElem_map, List.getElem_range, List.getD_eq_getElem?_getD, List.getElem?_append_left h2, List.getElem?_eq_getElem h2]; rfl
  unfold outAt
  rw [hn, Nat.add_sub_cancel_left, List.map_append, List.map_cons]
  refine congr (congrArg HAppend.hAppend ?_) (congr (congrArg List.cons ?_) ?_)
  · rw [List.append_assoc]; exact app _ _
  · rw [List.getD_eq_getElem?_getD, List.getElem?_append_right (by rw [List.length_append]; exact Nat.le_refl _), List.length_append, Nat.sub_self]; rfl
  · refine Eq.trans ?_ (app vb [x])
    rw [List.range'_eq_map_range, List.map_map]
    refine List.map_congr_left fun i _ => ?_
    show ((va ++ vb) ++ [x]).getD (va.length + i) _ = _
    rw [List.append_assoc, List.getD_eq_getElem?_getD, List.getElem?_append_right (Nat.le_add_right _ _), Nat.add_sub_cancel_left, ← List.getD_eq_getElem?_getD]
theorem sorted_many {l : Addr} {va vb : List Value} {x : Value} {ka kb : List Int} {z : Int} {Q : Value → Shared → Prop} (F : Fr h₀ L s.heap m) (N : News h₀ L s.heap R) (hl : s.heap.IsList l ((va ++ vb) ++ [x]).toArray)
    (hka : KeysAt R va ka) (hkb : KeysAt R vb kb) (hz : KeyAt R x z) (hs : (ka ++ kb).Pairwise (· < ·)) (ha : ∀ k ∈ ka, k < z) (hb : ∀ k ∈ kb, z < k) (h1 : 1 ≤ va.length + vb.length) (h9 : va.length + vb.length ≤ 8)
    (h : ∀ D c h', Fr h₀ L h' m → News h₀ L h' ((D, W.listOf (va ++ x :: vb).toArray c) :: R) → (∀ q ∈ R, q.1 < D) → Q (.ref D) { s with heap := h' }) :
    wpAny (model prog w) A (call (.builtin "sorted") [.ref l]) Q E s := by
  have hn : ((va ++ vb) ++ [x]).length = va.length + vb.length + 1 := by rw [List.length_append, List.length_append]; rfl
  have hk : KeysAt R ((va ++ vb) ++ [x]) ((ka ++ kb) ++ [z]) := (hka.append hkb).append (.cons hz .nil)
  have hla := hka.length
  have hlb := hkb.length
  have hkn : ((ka ++ kb) ++ [z]).length = va.length + vb.length + 1 := by rw [List.length_append, List.length_append, hla, hlb]; rfl
  refine kat_sorted F N hl (by lia) (by lia) fun D e1 h' F' N' hlt => ?_
  have N'' : News h₀ L h' R := fun p hp => N' p (.tail _ hp)
  obtain ⟨fs, t1, t2, t3⟩ := keys_tups N'' hk
  refine kat_kind (s := { s with heap := h' }) (T := .type "int") t1 (by lia) (fun v hv => ?_) rfl ?_
  · obtain ⟨k, t, rfl⟩ := t3 v hv
    exact Looks.of_pure rfl
  · have tab := sort_tab ⟨((va ++ vb) ++ [x]).length, by lia⟩ (by show 2 ≤ ((va ++ vb) ++ [x]).length; lia) ⟨va.length, by show va.length < ((va ++ vb) ++ [x]).length; lia⟩
    dsimp only at tab
    refine kas_eval (c := cc ((va ++ vb) ++ [x]).length va.length) (n := ((va ++ vb) ++ [x]).length) (fun i j C hi hj hij hC => ?_) _ tab.1 ?_
    · have hi' : i < ((ka ++ kb) ++ [z]).length := by lia
      have hj' : j < ((ka ++ kb) ++ [z]).length := by lia
      have ex : ((ka ++ kb) ++ [z])[i]? = some (((ka ++ kb) ++ [z])[i]) := List.getElem?_eq_getElem hi'
      have ey : ((ka ++ kb) ++ [z])[j]? = some (((ka ++ kb) ++ [z])[j]) := List.getElem?_eq_getElem hj'
      have r1 := rank_lt hs ha hb ex ey
      refine ask_keys hk N'' ex ey (ne_at hs ha hb hij ex ey) (by rfl) ?_
      rw [r1, hkn, ← hn, ← hla]
      exact hC
    · rw [tab.2]
      refine KasFin.intro F' N' (UpdF.head fun p hp => Nat.ne_of_lt (hlt p hp)) fun h2 c F2 N2 => ?_
      rw [outAt_map] at N2
      exact h D c h2 F2 N2 hlt
theorem one_list_sort {a : Addr} {x : Value} {n : Nat} {P : PySem.Fin → Shared → Prop} (F : Fr h₀ L s.heap m) (N : News h₀ L s.heap R) (ho : s.heap.get? a = some (seqObj "list" [x].toArray n)) (haL : a ≠ L) (ha0 : h₀.get? a = none) (hna : ∀ p ∈ R, p.1 ≠ a)
    (h : ∀ c h', Fr h₀ L h' m → News h₀ L h' ((a, seqObj "list" [x].toArray c) :: R) → P (.done (.ret .none)) { s with heap := h' }) :
    wpAny (model prog w) A (Builtin.«list.sort» ⟨[.ref a], []⟩) P E s := by
  rw [list_sort_plain]
  refine wpAny_bind (listItems_at ho rfl ?_)
  refine wpAny_bind (listUpdate_at ho rfl ?_ (by rw [List.size_toArray, sizeLine_eq, List.length_singleton]; decide) (Nat.zero_le _))
  obtain ⟨e1, ho1⟩ : ∃ e1, (s.heap.update a (Obj.mapSeq fun _ => (#[] : Array Value))).get? a = some (seqObj "list" #[] e1) := ⟨_, get?_update_seq ho fun _ => #[]⟩
  refine wpAny_bind (seqEpoch_at ho1 rfl ?_)
  refine wpAny_bind (wpAny_newTuple ?_ (by show 1 ≤ _; rw [sizeLine_eq]; decide))
  refine wpAny_bind (wpAny_newList ?_ (Nat.zero_le _))
  refine wpAny_holding ?_
  have s1 := Heap.SameBut.update s.heap a (Obj.mapSeq fun _ => (#[] : Array Value))
  have F3 : Fr h₀ L (((s.heap.update a (Obj.mapSeq fun _ => (#[] : Array Value))).push (seqObj "tuple" [x].toArray 0)).push (seqObj "list" #[] 0)) m := ((kas_fr F s1 haL ha0).push _).push _
  have N3 : News h₀ L (((s.heap.update a (Obj.mapSeq fun _ => (#[] : Array Value))).push (seqObj "tuple" [x].toArray 0)).push (seqObj "list" #[] 0)) ((a, seqObj "list" #[] e1) :: R) := fun p hp => by
    rcases List.mem_cons.mp hp with rfl | hp
    · exact ⟨Heap.get?_push_of_some _ (Heap.get?_push_of_some _ ho1), haL, ha0⟩
    · exact (kas_news N s1 hna).grown (fun b x e => Heap.get?_push_of_some _ (Heap.get?_push_of_some _ e)) p hp
  show wpAny (model prog w) A _ P E { s with heap := ((s.heap.update a (Obj.mapSeq fun _ => (#[] : Array Value))).push (seqObj "tuple" [x].toArray 0)).push (seqObj "list" #[] 0) }
  generalize ((s.heap.update a (Obj.mapSeq fun _ => (#[] : Array Value))).push (seqObj "tuple" [x].toArray 0)).push (seqObj "list" #[] 0) = H at F3 N3 ⊢
  have hH := (N3 _ (.head _)).1
  dsimp only
  have hout : Array.map (fun x => x.2) (arrOf ((), SortSt.mk' general' (([x] : List Value).toArray.zip [x].toArray) #[] 7 none).2) = [x].toArray := by
    have e : (([x] : List Value).toArray.zip [x].toArray) = #[(x, x)] := by simp
    rw [e]
    show Array.map (fun x : Value × Value => x.2) (#[(x, x)] : Array (Value × Value)) = #[x]
    simp
  have hn2 : ([x] : List Value).toArray.size < 2 := by simp
  rw [if_pos hn2, if_pos hn2]
  refine wpAny_bind (wpAny_pure ?_)
  refine wpAny_bind (wpAny_pure ?_)
  refine wpAny_bind (seqEpoch_at hH rfl ?_)
  refine wpAny_bind (listUpdate_at hH rfl ?_ (Nat.zero_le _) (by rw [hout]; show 1 ≤ _; rw [sizeLine_eq]; decide))
  rw [hout]
  have s2 := Heap.SameBut.update H a (Obj.mapSeq fun _ => ([x] : List Value).toArray)
  obtain ⟨c2, hc2⟩ : ∃ c2, (H.update a (Obj.mapSeq fun _ => ([x] : List Value).toArray)).get? a = some (seqObj "list" [x].toArray c2) := ⟨_, get?_update_seq hH fun _ => ([x] : List Value).toArray⟩
  simp only [bne_self_eq_false, Bool.false_eq_true, if_false]
  refine wpAny_pure (h c2 _ (kas_fr F3 s2 haL ha0) fun p hp => ?_)
  rcases List.mem_cons.mp hp with rfl | hp
  · exact ⟨hc2, haL, ha0⟩
  · exact kas_news (fun q hq => N3 q (.tail _ hq)) s2 hna p hp
theorem sorted_one {l : Addr} {x : Value} {Q : Value → Shared → Prop} (F : Fr h₀ L s.heap m) (N : News h₀ L s.heap R) (hl : s.heap.IsList l [x].toArray)
    (h : ∀ D c h', Fr h₀ L h' m → News h₀ L h' ((D, W.listOf [x].toArray c) :: R) → (∀ q ∈ R, q.1 < D) → Q (.ref D) { s with heap := h' }) :
    wpAny (model prog w) A (call (.builtin "sorted") [.ref l]) Q E s := by
  refine Calls.call_function_entry kind_sorted plain_sorted entry_sorted (args_sorted1 _) ?_
  unfold Builtin.«sorted»
  refine wpAny_bind (m := checkCount "sorted" 1 1 _) (wpAny_pure ?_)
  refine wpAny_bind (collect_list hl ?_ (by rw [sizeLine_eq]; simp))
  refine wpAny_bind (wpAny_newList ?_ (by rw [sizeLine_eq]; simp))
  dsimp only
  have up : ∀ b o, s.heap.get? b = some o → ((s.heap.push (seqObj "list" #[] 0)).update s.heap.objs.size (Obj.mapSeq (· ++ [x].toArray))).get? b = some o := fun b o q => by
    have hlt : b < s.heap.objs.size := Heap.lt_size q
    rw [Heap.get?_update_ne _ _ _ _ (Nat.ne_of_lt hlt), Heap.get?_push_ne _ _ _ (Nat.ne_of_lt hlt)]
    exact q
  have hsz : ((s.heap.push (seqObj "list" #[] 0)).update s.heap.objs.size (Obj.mapSeq (· ++ [x].toArray))).objs.size = s.heap.objs.size + 1 := by
    rw [Heap.size_update, size_push']
  show wpAny _ _ _ _ _ { s with heap := ((s.heap.push (seqObj "list" #[] 0)).update s.heap.objs.size (Obj.mapSeq (· ++ [x].toArray))).push (seqObj "list" [x].toArray 0) }
  rw [hsz]
  generalize hH : (s.heap.push (seqObj "list" #[] 0)).update s.heap.objs.size (Obj.mapSeq (· ++ [x].toArray)) = H at up hsz ⊢
  have hoL : (H.push (seqObj "list" [x].toArray 0)).get? (s.heap.objs.size + 1) = some (seqObj "list" [x].toArray 0) := by
    rw [← hsz]; exact Heap.get?_push_size _ rfl
  have keep : ∀ b o, s.heap.get? b = some o → (H.push (seqObj "list" [x].toArray 0)).get? b = some o := fun b o q => Heap.get?_push_of_some _ (up b o q)
  have hL : L < s.heap.objs.size := F.ns.lt
  refine wpAny_bind (wpAny_holding (wpAny_call_entry slot_list_sort ⟨_, hoL, rfl⟩ entry_list_sort ?body (args_list_sort _)))
  case body =>
    refine one_list_sort (s := { s with heap := H.push (seqObj "list" [x].toArray 0) }) (F.kept keep) (N.grown keep) hoL (Nat.ne_of_gt (Nat.lt_succ_of_lt hL)) (Heap.get?_none_of_le (Nat.le_trans F.above (Nat.le_succ_of_le (Nat.le_of_lt hL))))
      (fun p hp => Nat.ne_of_lt (Nat.lt_succ_of_lt (Heap.lt_size (N p hp).1))) fun c h' F' N' => ?_
    exact ⟨_, rfl, wpAny_pure ⟨_, rfl, h _ c h' F' N' fun q hq => Nat.lt_succ_of_lt (Heap.lt_size (N q hq).1)⟩⟩
end
section
variable {prog : Program} {w : World} {A : Around} {E : Value → Shared → Prop} {s : Shared}
theorem look_dunder_bytes : typeLookup (.type "bytes") "__bytes__" = pure (some (.builtin "bytes.__bytes__")) := by rw [typeLookup_type, builtinLookup_eq_fast]; kernel_rfl
theorem bytes_new_bytes {b : Array UInt8} {t : Tok} {Q : Value → Shared → Prop} (hQ : Q (.bytes b t) s) :
    codeAny (model prog w) A (.call (.builtin "bytes.__new__") ⟨[.type "bytes", .bytes b t], []⟩) (wants Q E) s := by
  refine codeAny_of_tree ?_
  show wpAny _ A.in1 (do checkBuiltinCall "bytes.__new__" ⟨[.type "bytes", .bytes b t], []⟩; again (.builtin "bytes.__new__" ⟨[.type "bytes", .bytes b t], []⟩)) _ _ s
  refine wpAny_bind (wpAny_of_eq (F.bm_newCall _) (wpAny_pure ⟨plainId_quiet F.bm_plain _, codeAny_builtin F.bm_entry ?_⟩))
  rw [Around.under_plainId F.bm_plain _]
  unfold Builtin.«bytes.__new__»
  refine wpAny_bind (wpAny_of_eq (a := true) rfl ?_)
  refine bm_if_false rfl ?_
  refine wpAny_bind (wpAny_of_eq F.bm_sub ?_)
  refine bm_if_false rfl ?_
  refine wpAny_bind (wpAny_of_eq (F.bm_bind _) ?_)
  refine wpAny_bind (wpAny_of_eq (a := ()) rfl ?_)
  refine wpAny_bind (wpAny_of_eq (a := ()) rfl ?_)
  refine bm_if_false rfl ?_
  refine wpAny_bind (wpAny_of_eq (PySem.W.KBy.special_eq look_dunder_bytes) ?_)
  dsimp only
  refine wpAny_bind (wpAny_rule ?_)
  refine wpAny_bind (wpAny_of_eq (a := Value.type "bytes") rfl ?_)
  refine bm_if_true (by decide) ?_
  refine wpAny_pure ?_
  exact hQ
theorem call_bytes_bytes {b : Array UInt8} {t : Tok} {Q : Value → Shared → Prop} (hQ : Q (.bytes b t) s) : wpAny (model prog w) A (call (.type "bytes") [.bytes b t]) Q E s := by
  refine callType_codes (Q₁ := fun obj s₁ => s₁.TypeIs obj "bytes" ∧ Q obj s₁) F.bm_called (F.bm_typeCall _) F.entry_object_init
    (bytes_new_bytes ⟨PySem.W.typeIs_bytes _ _ _, hQ⟩) fun obj s₁ h₁ => ?_
  exact ⟨h₁.1, F.args_object_init_2 obj _, object_init_meets F.bm_called.init.lookup F.bm_called.made (by decide) prog w A.in1 _ s₁ ⟨h₁.1, rfl, h₁.2⟩⟩
end
end Mine

local macro_rules | `(tactic| intro $x:ident) => `(tactic| (k_whole; (first | refine Mine.all_ek ?_ | refine Mine.all_eks ?_ | refine Mine.all_ekd ?_); generalize Mine.ek _ _ = $x))
local macro_rules | `(tactic| intro $x $y $z*) => `(tactic| (intro $x:term; intro $y $z*))
local macro_rules | `(tactic| intro _) => `(tactic| intro x9)
local macro_rules | `(tactic| intro) => `(tactic| skip)
local macro_rules | `(tactic| intro $a:ident $b:ident $z*) => `(tactic| (k_whole; refine Mine.all_ek2 ?_; generalize Mine.e2a _ = $a, Mine.e2b _ = $b; intro $z*))
local macro_rules | `(tactic| intro $a:ident $b:ident $c:ident $z*) => `(tactic| (k_whole; refine Mine.all_ek3 ?_; generalize Mine.e3a _ = $a, Mine.e3b _ = $b, Mine.e3c _ = $c; intro $z*))
local macro_rules | `(tactic| intro $a:ident $b:ident $c:ident $d:ident $z*) => `(tactic| (k_whole; refine Mine.all_ek4 ?_; generalize Mine.e4a _ = $a, Mine.e4b _ = $b, Mine.e4c _ = $c, Mine.e4d _ = $d; intro $z*))
local macro_rules | `(tactic| intro $a:ident $b:ident $c:ident $d:ident $e:ident $z*) => `(tactic| (k_whole; refine Mine.all_ek5 ?_; generalize Mine.e5a _ = $a, Mine.e5b _ = $b, Mine.e5c _ = $c, Mine.e5d _ = $d, Mine.e5e _ = $e; intro $z*))
local macro_rules | `(tactic| k_unfold) => `(tactic| with_reducible first | refine Mine.unwrap ?_ | ((fail_if_success show wpAny _ _ _ (Mine.wrap _) _ _); first | refine Mine.wrap1 ?_ | refine Mine.wrap2 ?_ | refine Mine.wrap3 ?_ | refine Mine.wrap4 ?_ | refine Mine.wrap5 ?_ | refine Mine.wrap6 ?_ | refine Mine.wrap7 ?_))
local macro_rules | `(tactic| k_fold) => `(tactic| skip)
local macro_rules | `(tactic| kst_mem) => `(tactic| first | (refine List.mem_append.mpr (.inl ?_); kst_mem) | fail)
local macro_rules | `(tactic| walk_at "mm") => `(tactic| first | k_mem | kst_mem | fail)
local macro_rules | `(tactic| kqd_all) => `(tactic| first | (refine DatAll.append ?_ ?_; kqd_all; kqd_all) | fail)
local macro_rules | `(tactic| kqd_all) => `(tactic| first | (refine' DatAll.mono ?s ?d; (case d => assumption); (case s => kqd_sub)) | fail)
local macro_rules | `(tactic| walk_at "mine hA0") => `(tactic| first | exact List.forall_mem_nil _ | (refine List.forall_mem_cons.mpr ⟨⟨by (try dsimp only); lia, by (try dsimp only); lia, by assumption⟩, ?_⟩; walk_at "mine hA0") | fail)
local macro_rules | `(tactic| walk_at "mine hA") => `(tactic| first | ((repeat (rename _ ∧ _ => hc; cases hc)); walk_at "mine hA0") | fail)
local macro_rules | `(tactic| walk_at "call ref") => `(tactic| ((with_reducible refine Mine.heldAt ?_ ?_); rfl))
local macro_rules | `(tactic| walk_at "sw") => `(tactic| (intro D' h' F' N' l1; (try k_lt l1); (try k_sweep)))
local macro_rules | `(tactic| walk_at "call type:list") => `(tactic| (k_here; (with_reducible show wpAny _ _ (call (Value.type _) [Value.ref _]) _ _ _); k_dflt (refine' list_copyK ?a ?b (Mine.isList_of ?c ?d) ?_ ?z; (case a => k_asm); (case b => k_asm); (case c => k_asm); (case d => walk_at "mm"); (case z => size_fits); k_whole); intro D' c' h' F' N' l1; (try k_lt l1); (try k_sweep)))
local macro_rules | `(tactic| walk_at "mine fr") => `(tactic| first | exact List.forall_mem_nil _ | (refine List.forall_mem_cons.mpr ⟨rfl, ?_⟩; walk_at "mine fr") | fail)
local macro_rules | `(tactic| walk_at "ln") => `(tactic| ((try simp only [PySem.sizeLine_eq, List.length_append, List.length_cons, List.length_nil]); lia))
local macro_rules | `(tactic| walk_at "binaryOp Add ref ref") => `(tactic| (k_here; (with_reducible show wpAny _ _ (binaryOp _ (Value.ref _) (Value.ref _)) _ _ _); k_dflt (refine' Mine.cat_led ?a ?b ?c ?d ?_ ?z; (case a => k_asm); (case b => k_asm); (case c => walk_at "mm"); (case d => walk_at "mm"); (case z => walk_at "ln"); k_whole); walk_at "sw"))
local macro_rules | `(tactic| walk_at "mine fresh0") => `(tactic| first | exact List.forall_mem_nil _ | (refine List.forall_mem_cons.mpr ⟨by exact Nat.ne_of_lt (Mine.allLt_mem (by assumption) _ (by kst_mem)), ?_⟩; walk_at "mine fresh0") | (refine List.forall_mem_append.mpr ⟨?_, ?_⟩ <;> walk_at "mine fresh0") | (intro p9 hp9; exact (by assumption : Mine.Apart _ _) _ (by assumption) p9 hp9) | fail)
local macro_rules | `(tactic| walk_at "mine fresh") => `(tactic| first | ((repeat (rename _ ∧ _ => hc; cases hc)); intro q9 hq9; walk_at "mine fresh0") | fail)
local macro_rules | `(tactic| walk_at "call builtin:len") => `(tactic| (k_here; (with_reducible show wpAny _ _ (call (Value.builtin "len") [Value.ref _]) _ _ _); k_dflt (refine' Mine.len_led ?a ?b ?c ?_; (case a => k_asm); (case b => walk_at "mm"); (case c => walk_at "ln"); k_whole)))
local macro_rules | `(tactic| walk_at "subscriptTail") => `(tactic| (k_here; (with_reducible show wpAny _ _ (subscriptTail _ _ (Value.ref _) (Value.int _ _)) _ _ _); (with_unfolding_all refine' Mine.item_led ?a ?b ?c ?d ?e ?_ ?f; (case a => k_asm); (case b => walk_at "mm"); (case c => lia); (case d => lia); (case e => first | rfl | assumption); (case f => with_unfolding_all rfl); k_whole)))
local macro_rules | `(tactic| walk_at "eval ListComp") => `(tactic| ((with_reducible show wpAny _ _ (eval (Expr.ListComp _ _ _ _) _) _ _ _); refine Mine.held ?_))
local macro_rules | `(tactic| walk_at "mr") => `(tactic| ((with_reducible refine' Mine.room ?a ?b); (case a => assumption); (case b => rfl)))
local macro_rules | `(tactic| walk_at "mine room") => `(tactic| ((try dsimp only [ktrTop, Around.deeper]); first | walk_at "mr" | (simp only [Nat.add_assoc, Nat.reduceAdd]; walk_at "mr") | lia))
local macro_rules | `(tactic| ktr_room) => `(tactic| ((try simp only [depth_under_make, depth_under_kw, depth_in1, depth_deeper, depth_caller]); (try dsimp only [ktrTop]); first | exact Mine.room0 (by assumption) | walk_at "mr" | fail))
local macro_rules | `(tactic| walk_at "subscriptTail") => `(tactic| (k_here; (with_reducible show wpAny _ _ (subscriptTail _ (Expr.Slice _ _ none _) (Value.bytes _ _) (Value.ref _)) _ _ _); (with_reducible rename Fr _ _ _ _ => F'); (with_reducible rename News _ _ _ _ => N'); (refine Mine.slice_B (s := ⟨_, _, _, _, _⟩) F' N' (by constructor) (by constructor) (by lia) ?_); intro h' t' k' F' N'; (try k_sweep)))
local macro_rules | `(tactic| walk_at "binaryOp Add bytes bytes") => `(tactic| (k_here; (with_reducible show wpAny _ _ (binaryOp Operator.Add (Value.bytes _ _) (Value.bytes _ _)) _ _ _); (refine KBy.add_bytes (by (try simp only [Array.size_append, List.size_toArray, List.length_nil]); lia) ?_); intro _ _))
local macro_rules | `(tactic| walk_at "call builtin:len") => `(tactic| (k_here; (with_reducible show wpAny _ _ (call (Value.builtin "len") [Value.bytes _ _]) _ _ _); (refine len_bytes (by (try simp only [Array.size_append]); lia) ?_)))
local macro_rules | `(tactic| kqd_in) => `(tactic| first | exact DatIn.bytes _ _ | fail)
local macro_rules | `(tactic| kqd_in) => `(tactic| first | (refine' DatIn.mono ?s ?d; (case d => assumption); (case s => kqd_sub)) | fail)
local macro_rules | `(tactic| walk_at "call type:bytes") => `(tactic| (k_here; (refine Mine.call_bytes_bytes ?_)))
local macro_rules | `(tactic| walk_at "mine nes") => `(tactic| first | exact List.forall_mem_nil _ | (refine List.forall_mem_cons.mpr ⟨by show @Ne Nat _ _; first | lia | assumption, ?_⟩; walk_at "mine nes") | fail)
local macro_rules | `(tactic| kst_mem) => `(tactic| first | exact (by assumption : ∀ p ∈ _, p ∈ _) _ (by assumption) | fail)
local macro_rules | `(tactic| walk_at "mine sub") => `(tactic| first | assumption | exact List.forall_mem_nil _ | (refine List.forall_mem_append.mpr ⟨?_, ?_⟩ <;> walk_at "mine sub") | (refine List.forall_mem_cons.mpr ⟨by walk_at "mm", ?_⟩; walk_at "mine sub") | (intro p9 hp9; kst_mem) | fail)
local macro_rules | `(tactic| walk_at "subscriptTail") => `(tactic| (k_here; (with_reducible show wpAny _ _ (subscriptTail _ _ (Value.ref _) (Value.int _ _)) _ _ _); k_dflt (refine' item_tupleT ?t ?a ?b ?c ?d ?_; (case t => exact News.isTup (by k_asm) (by kst_mem)); (case a => decide); (case b => decide); (case c => rfl); (case d => rfl); k_whole)))
local macro_rules | `(tactic| walk_at "compareOp Eq ref ref") => `(tactic| refine Mine.held ?_)
local macro_rules | `(tactic| walk_at "compareOp NotEq ref ref") => `(tactic| refine Mine.held ?_)
local macro_rules | `(tactic| walk_at "exec Raise some none") => `(tactic| refine Mine.held ?_)
local macro_rules | `(tactic| walk_at "assign Tuple") => `(tactic| ((with_reducible show wpAny _ _ (assign (Expr.Tuple _ _ _) _ (Value.ref _)) _ _ _); k_dflt (refine' unpackN_ ?F ?N (News.isTup ?n ?m) ?a ?b ?c ?_; (case F => k_asm); (case N => k_asm); (case n => k_asm); (case m => walk_at "mm"); (case a => rfl); (case b => rfl); (case c => rfl)); intro _ _ _))
local macro_rules | `(tactic| walk_at "an") => `(tactic| first | assumption | exact Ne.symm (by assumption) | exact Nat.ne_of_gt (by assumption) | exact Nat.ne_of_lt (by assumption) | fail)
local macro_rules | `(tactic| walk_at "mine upd2") => `(tactic| first | (refine' UpdF.head ?a; (case a => walk_at "mine hne2")) | (refine' UpdF.tail ?a ?b; (case a => walk_at "an"); (case b => walk_at "mine upd2")) | fail)
local macro_rules | `(tactic| walk_at "mine updn") => `(tactic| ((repeat (rename _ ∧ _ => hc; cases hc)); walk_at "mine upd2"))
local macro_rules | `(tactic| walk_at "setItem ref str") => `(tactic| (k_here; k_dflt (refine' kda_set (knd := PySem.strKind _ _) ?F ?N ?U ?d (strKind_is _ _ _ _) ?z ?_; (case F => k_asm); (case N => k_asm); (case U => first | walk_at "mine upd2" | walk_at "mine updn"); (case d => assumption); (case z => rw [sizeLine_eq]; exact Nat.le_of_ble_eq_true (by with_unfolding_all rfl))); intro h' o' F' N' hd'; (try dsimp only at N'); (try kob_lit)))
local macro_rules | `(tactic| walk_at "exec Assign cons ListComp") => `(tactic| ((with_reducible show wpAny _ _ (exec (Stmt.Assign [Expr.Name _ _] (Expr.ListComp _ _ _ _) _) _) _ _ _); refine Mine.held ?_))
local macro_rules | `(tactic| walk_at "mine item") => `(tactic| (k_here; (with_reducible show wpAny _ _ (subscriptTail _ _ (Value.ref _) (Value.int _ _)) _ _ _); (with_unfolding_all refine' Mine.item_led ?a ?b ?c ?d ?e ?_ ?f; (case a => k_asm); (case b => first | exact List.Mem.head _ | exact List.Mem.tail _ (List.Mem.head _)); (case c => lia); (case d => lia); (case e => first | rfl | assumption); (case f => with_unfolding_all rfl); k_whole)))
local macro_rules | `(tactic| walk_at "mine steps") => `(tactic| repeat' (first | (k_unfold; (try dsimp only)) | (k_end; wrow_close) | walk_at "mine item" | walk1 | (dsimp only; walk1) | (leave1; walk_say "STEP leave1"; try dsimp only) | fail))
local macro_rules | `(tactic| walk_at "storeName") => `(tactic| (k_here; k_dflt (refine' storeX_C ?F ?N ?c ?U ?d ?_ ?a ?b; (case a => rfl); (case b => rfl); (case F => k_asm); (case N => k_asm); (case c => rfl); (case U => walk_at "mine upd2"); (case d => k_asm); k_whole); intro h' o' F' N' d'; (try dsimp only at N'); (try k_sweep)))
namespace Mine
theorem off_hne {R : List (Addr × Obj)} {d : Addr} (h : OwnOff R [d]) : ∀ p ∈ R, p.1 ≠ d := fun p hp => h p hp d (.head _)
/-! the class QuicError, and its objects -/
noncomputable abbrev excBm : List Value := [.type "Exception", .type "BaseException", .type "object"]
noncomputable def quietHere : List Str := ["__setattr__", "__getattribute__", "__getattr__", "code", "frame_type", "text"]
noncomputable def objAt (K : Frag) (C : Addr) : Obj := (K.lookup C).getD default
noncomputable def clsAt (o : Obj) : ClassData := match o.data with
  | .cls cd => cd
  | _ => default
noncomputable def esAt (o : Obj) : Array DictEntry := match o.data with
  | .dict es _ => es
  | _ => #[]
noncomputable def slotAt (o : Obj) (i : Nat) : Option Value := (o.slots[i]?).getD none
theorem ns_val {h : Heap} {N : Addr} {mg : Str → Option Value} {o : Obj} (G : h.Ns N mg) (ho : h.get? N = some o) (n : Str) : mg n = nsFind (esAt o) n := by
  obtain ⟨o', es, ep, ho', hd, _, hf⟩ := G
  rw [Option.some.inj (ho.symm.trans ho'), ← hf n]
  unfold esAt
  rw [hd]
/-- the class of the law's own exception, as it lies -/
inductive ExcC (h : Heap) (C fI : Addr) : Prop
  | mk (nm q N bs sn sub ab col dd k0 k1 k2 k3 k5 mN) (hC : h.get? C = some (excClassObj nm q C N bs excBm true sn sub ab col dd k0 k1 k2 k3 k5 "Exception.__new__")) (hN : h.Ns N mN) (hi : mN "__init__" = some (.ref fI)) (hq : ∀ x ∈ quietHere, mN x = none) : ExcC h C fI
theorem ExcC.keeps {h h' : Heap} {C fI : Addr} (O : ExcC h C fI) (hk : ∀ b o, h.get? b = some o → h'.get? b = some o) : ExcC h' C fI := by
  cases O with
  | mk nm q N bs sn sub ab col dd k0 k1 k2 k3 k5 mN hC hN hi hq => exact .mk nm q N bs sn sub ab col dd k0 k1 k2 k3 k5 mN (hk _ _ hC) (hN.keeps hk) hi hq
theorem exc31 {w : World} {h : Heap} (X : (hd.heap_1 w.params).In h) : ExcC h 31 28 := by
  have ho := X 31 (objAt (hd.heap_1 w.params) 31) (by kernel_rfl)
  have hC : h.get? 31 = some (excClassObj (clsAt (objAt (hd.heap_1 w.params) 31)).name (clsAt (objAt (hd.heap_1 w.params) 31)).qualname 31 (clsAt (objAt (hd.heap_1 w.params) 31)).ns (clsAt (objAt (hd.heap_1 w.params) 31)).bases excBm true (clsAt (objAt (hd.heap_1 w.params) 31)).slotNames (clsAt (objAt (hd.heap_1 w.params) 31)).subclasses
      (clsAt (objAt (hd.heap_1 w.params) 31)).abstract (clsAt (objAt (hd.heap_1 w.params) 31)).collection (objAt (hd.heap_1 w.params) 31).dict (slotAt (objAt (hd.heap_1 w.params) 31) 0) (slotAt (objAt (hd.heap_1 w.params) 31) 1) (slotAt (objAt (hd.heap_1 w.params) 31) 2) (slotAt (objAt (hd.heap_1 w.params) 31) 3) (slotAt (objAt (hd.heap_1 w.params) 31) 5) "Exception.__new__") :=
    ho.trans (congrArg some (by kernel_rfl))
  have hN := X (clsAt (objAt (hd.heap_1 w.params) 31)).ns (objAt (hd.heap_1 w.params) (clsAt (objAt (hd.heap_1 w.params) 31)).ns) (by kernel_rfl)
  have G : h.Ns (clsAt (objAt (hd.heap_1 w.params) 31)).ns (h.nsMap (clsAt (objAt (hd.heap_1 w.params) 31)).ns) := .of_isNs (isNs_of_in X (by kernel_rfl))
  have hq : (quietHere.all fun x => (nsFind (esAt (objAt (hd.heap_1 w.params) (clsAt (objAt (hd.heap_1 w.params) 31)).ns)) x).isNone) = true := by kernel_rfl
  exact .mk _ _ _ _ _ _ _ _ _ _ _ _ _ _ _ hC G ((ns_val G hN _).trans (by kernel_rfl)) fun x hx => (ns_val G hN x).trans (Option.isNone_iff_eq_none.mp (List.all_eq_true.mp hq x hx))
end Mine

local macro_rules | `(tactic| walk_at "mine hne2") => `(tactic| first | exact List.forall_mem_nil _ | (refine List.forall_mem_cons.mpr ⟨by walk_at "an", ?_⟩; walk_at "mine hne2") | (refine' Mine.off_hne ?a; (case a => assumption)) | fail)
namespace Mine
section
open Builtin Builtin.ObjectAttr
variable {prog : Program} {w : World} {A : Around} {E : Value → Shared → Prop} {h : Heap} {g : Array GenState} {d : Drawn} {t : Nat} {os : OsState}
variable {nm q : Str} {C N x : Addr} {bs : List Value} {sn : List Str} {sub : List Value} {ab : Bool} {col : Option Bool} {dd : Option Addr} {k0 k1 k2 k3 k5 : Option Value} {newId B sa owner : String} {bm : List Value} {mN : Str → Option Value} {name : Str} {v : Value} {o : Obj}
theorem store_new_entry {tk : Tok} {Q : Fin → Shared → Prop} (SF : StoreFacts B bm sa owner) (hC : h.get? C = some (excClassObj nm q C N bs bm true sn sub ab col dd k0 k1 k2 k3 k5 newId)) (hn : h.Ns N mN) (hna : mN name = none)
    (hB : typeLookup (.type B) name = pure none) (hx : h.get? x = some o) (hc : o.cls = .ref C) (hdn : o.dict = none) (hnc : ∀ c, o.data ≠ .cls c)
    (hq : ∀ h' tk' d', h.get? d' = none → d' ≠ x → h'.get? x = some { o with dict := some d' } → h'.Ns1 d' (fun y => if y = name then some v else none) → (∀ b ob, b ≠ x → h.get? b = some ob → h'.get? b = some ob) → Q (.done (.ret .none)) ⟨h', g, d, tk', os⟩) :
    wpAny (model prog w) A (Builtin.«object.__setattr__» ⟨[.ref x, .str name tk, v], []⟩) Q E ⟨h, g, d, t, os⟩ := by
  have hpass := SF.passes (.ref x)
  have hmro := SF.mro
  unfold Builtin.«object.__setattr__»
  repeat (first | rw [refuse_eq] | (rw [refuseLoop_ref, hpass]) | (with_reducible refine wpAny_loadPart_at hx ?_; rw [hc]) | with_reducible refine wpAny_mroOf_exc hC ?_ | (with_reducible refine wpAny_typeLookup_exc hC hn hmro hB ?_; rw [hna]) | wp_step)
  rw [hdn, if_neg (by simp [typeHasDict])]
  split
  · rename_i hcd
    cases hcd
  split
  · rename_i c hcd
    exact absurd hcd (hnc c)
  have hxs : x ≠ h.objs.size := Nat.ne_of_lt (Heap.lt_size hx)
  have hx₁ : (h.push { cls := .type "dict", data := .dict #[] }).get? x = some o := Heap.get?_push_of_some _ hx
  refine wpAny_bind (wpAny_alloc' ?_)
  refine wpAny_bind (wpAny_update' hx₁ ?_)
  refine wpAny_pure ?_
  have hof : ({ cls := o.cls, dict := some h.objs.size, data := o.data, slots := o.slots } : Obj).isFreed = false := by
    have hfr := (Heap.get?_some_iff.mp hx).2
    obtain ⟨oc, od, odt, osl⟩ := o
    cases odt <;> first | rfl | exact hfr
  have hxu := Heap.get?_update_self (fun o => { cls := o.cls, dict := some h.objs.size, data := o.data, slots := o.slots }) hx₁ hof
  have hgd : ((h.push { cls := .type "dict", data := .dict #[] }).update x (fun o => { cls := o.cls, dict := some h.objs.size, data := o.data, slots := o.slots })).get? h.objs.size = some { cls := .type "dict", data := .dict #[] } :=
    (Heap.get?_update_ne _ _ _ _ hxs.symm).trans (Heap.get?_push_at rfl rfl)
  have hoth : ∀ b ob, b ≠ x → h.get? b = some ob → ((h.push { cls := .type "dict", data := .dict #[] }).update x (fun o => { cls := o.cls, dict := some h.objs.size, data := o.data, slots := o.slots })).get? b = some ob :=
    fun b ob hb e => (Heap.get?_update_ne _ _ _ _ hb).trans (Heap.get?_push_of_some _ e)
  have hnd : ((h.push { cls := .type "dict", data := .dict #[] }).update x (fun o => { cls := o.cls, dict := some h.objs.size, data := o.data, slots := o.slots })).Ns h.objs.size (fun _ => none) := ⟨_, #[], _, hgd, rfl, fun e he => absurd he (by simp), fun _ => rfl⟩
  show wpAny _ _ (storeInDict h.objs.size (.str name _) name v) _ _ _
  unfold storeInDict newKeyGuard
  refine wpAny_bind (wpAny_pure (wpAny_bind (wpAny_nsSet1 (Heap.Ns1.of_empty hnd) fun h' hn' hs => ?_)))
  obtain ⟨oD, esD, epD, hoD, hdD, hcD⟩ := hn'.count (Within.cons name v Within.nil)
  refine wpAny_bind (wpAny_lookBehind hoD (by rw [hdD]; exact pastItsLine_dict (Nat.le_trans hcD (by rw [List.length_cons, List.length_nil, sizeLine_eq]; lia))) ?_)
  wp_walk
  exact hq h' _ h.objs.size (Heap.get?_none_of_le (Nat.le_refl _)) hxs.symm ((hs.2 x hxs).trans hxu) hn' fun b ob hb e => (hs.2 b (Nat.ne_of_lt (Heap.lt_size e))).trans (hoth b ob hb e)
end
section
open Builtin Builtin.ObjectAttr
variable {prog : Program} {w : World} {A : Around} {E : Value → Shared → Prop} {h : Heap} {g : Array GenState} {d : Drawn} {t : Nat} {os : OsState}
variable {nm q : Str} {C N x : Addr} {bs : List Value} {sn : List Str} {sub : List Value} {ab : Bool} {col : Option Bool} {dd : Option Addr} {k0 k1 k2 k3 k5 : Option Value} {newId B sa owner : String} {bm : List Value} {mN : Str → Option Value} {name : Str} {v : Value} {o : Obj}
theorem store_new_call {tk : Tok} {R : Result → Shared → Prop} (SF : StoreFacts B bm sa owner) (hC : h.get? C = some (excClassObj nm q C N bs bm true sn sub ab col dd k0 k1 k2 k3 k5 newId)) (hn : h.Ns N mN) (hna : mN name = none)
    (hB : typeLookup (.type B) name = pure none) (hx : h.get? x = some o) (hc : o.cls = .ref C) (hdn : o.dict = none) (hnc : ∀ c, o.data ≠ .cls c)
    (hq : ∀ h' tk' d', h.get? d' = none → d' ≠ x → h'.get? x = some { o with dict := some d' } → h'.Ns1 d' (fun y => if y = name then some v else none) → (∀ b ob, b ≠ x → h.get? b = some ob → h'.get? b = some ob) → R (.ok (.ret .none)) ⟨h', g, d, tk', os⟩) :
    codeAny (model prog w) A (.call (.builtin sa) ⟨[.ref x, .str name tk, v], []⟩) R ⟨h, g, d, t, os⟩ :=
  codeAny_call_builtin SF.slot.plain SF.entry (wpAny_check_sa SF hC hx hc (store_new_entry SF hC hn hna hB hx hc hdn hnc hq))
/-- the first attribute of an exception that has no dict as yet -/
theorem store_new_attr {Q : Unit → Shared → Prop} (SF : StoreFacts B bm sa owner) (hC : h.get? C = some (excClassObj nm q C N bs bm true sn sub ab col dd k0 k1 k2 k3 k5 newId)) (hn : h.Ns N mN) (hns : mN "__setattr__" = none) (hna : mN name = none)
    (hB : typeLookup (.type B) name = pure none) (hx : h.get? x = some o) (hc : o.cls = .ref C) (hdn : o.dict = none) (hnc : ∀ c, o.data ≠ .cls c)
    (hq : ∀ h' tk' d', h.get? d' = none → d' ≠ x → h'.get? x = some { o with dict := some d' } → h'.Ns1 d' (fun y => if y = name then some v else none) → (∀ b ob, b ≠ x → h.get? b = some ob → h'.get? b = some ob) → Q () ⟨h', g, d, tk', os⟩) :
    wpAny (model prog w) A (setAttr (.ref x) name v) Q E ⟨h, g, d, t, os⟩ := by
  have f3 := SF.slot.bind (.ref x)
  unfold setAttr callSpecial? specialOf
  repeat (any_goals (first | assumption | (with_reducible refine wpAny_loadPart_at hx ?_; rw [hc]) | (with_reducible refine wpAny_typeLookup_exc hC hn SF.mro SF.slot.lookup ?_; rw [hns]) | wp_step))
  refine store_new_call SF hC hn hna hB hx hc hdn hnc fun h' tk' d' x1 x2 x3 x4 x5 => ?_
  repeat (any_goals (first | with_reducible assumption | wp_step))
  exact hq h' tk' d' x1 x2 x3 x4 x5
end
theorem store_new {prog : Program} {w : World} {A : Around} {E : Value → Shared → Prop} {s : Shared} {C x fI : Addr} {name : Str} {v : Value} {o : Obj} {Q : Unit → Shared → Prop} (O : ExcC s.heap C fI) (hna : name ∈ quietHere)
    (hB : typeLookup (.type "Exception") name = pure none) (hx : s.heap.get? x = some o) (hc : o.cls = .ref C) (hdn : o.dict = none) (hnc : ∀ c, o.data ≠ .cls c)
    (hq : ∀ h' tk' d, s.heap.get? d = none → d ≠ x → h'.get? x = some { o with dict := some d } → h'.Ns1 d (fun y => if y = name then some v else none) → (∀ b ob, b ≠ x → s.heap.get? b = some ob → h'.get? b = some ob) → Q () { s with heap := h', toks := tk' }) :
    wpAny (model prog w) A (setAttr (.ref x) name v) Q E s :=
  by cases O with
  | mk _ _ _ _ _ _ _ _ _ _ _ _ _ _ _ hC hn _ hqu => exact store_new_attr (h := s.heap) PySem.F.store_Exception hC hn (hqu _ (.head _)) (hqu _ hna) hB hx hc hdn hnc hq
set_option maxHeartbeats 1000000 in
/-- Exception.__init__(self, ..): the args are put anew -/
theorem init_exc {prog : Program} {w : World} {A : Around} {E : Value → Shared → Prop} {s : Shared} {C e fI : Addr} {rest : List Value} {o : Obj} {vs : Array Value} {Q : Value → Shared → Prop} (O : ExcC s.heap C fI)
    (he : s.heap.get? e = some o) (hc : o.cls = .ref C) (hd : o.data = .fields vs) (h0 : vs[0]? = some (.ref t0)) (hl : rest.length ≤ sizeLine)
    (hq : ∀ h' t, h'.get? e = some { o with data := .fields (vs.setIfInBounds 0 (.ref t)) } → (∀ b ob, b ≠ e → s.heap.get? b = some ob → h'.get? b = some ob) → Q .none { s with heap := h' }) :
    wpAny (model prog w) A (call (.builtin "Exception.__init__") (.ref e :: rest)) Q E s := by
  obtain ⟨nm, q, N, bs, sn, sub, ab, col, dd, k0, k1, k2, k3, k5, mN, hC, hn, hi, hqu⟩ := O
  obtain ⟨h, g, d, t, os⟩ := s
  dsimp only at *
  have FB := PySem.F.excBase_Exception
  refine wpAny_call (codeAny_call_builtin FB.init.plain FB.initEntry (wpAny_check_init_subU FB .base hC he hc ?_))
  have he₁ := Heap.get?_push_of_some { cls := .type "tuple", data := .seq rest.toArray } he
  have hsz := (Array.getElem?_eq_some_iff.mp h0).1
  unfold Builtin.«BaseException.__init__» Builtin.BaseException.bexcPut
  repeat (any_goals (first | assumption | with_reducible refine wpAny_newTuple ?_ hl | with_reducible refine wpAny_field he₁ hd h0 ?_ | with_reducible refine wpAny_setField he₁ hd hsz ?_ | with_reducible refine wpAny_letGo ?_ | wp_step))
  exact hq _ h.objs.size (by rw [Heap.get?_update_self _ he₁ (Obj.isFreed_of_fields (Obj.data_mapFields hd _))]; obtain ⟨oc, od, odt, osl⟩ := o; cases hd; rfl) fun b ob hb e => (Heap.get?_update_other _ _ (Ne.symm hb)).trans (Heap.get?_push_of_some _ e)
end Mine

namespace Mine
section
open Builtin
variable {prog : Program} {w : World} {A : Around} {E : Value → Shared → Prop} {h : Heap} {g : Array GenState} {d : Drawn} {t : Nat} {os : OsState}
variable {nm q : Str} {C N x dx : Addr} {bs : List Value} {sn : List Str} {sub : List Value} {ab : Bool} {col : Option Bool} {dd : Option Addr} {k0 k1 k2 k3 k5 : Option Value} {newId B : String} {bm : List Value} {mN mA : Str → Option Value} {name : Str} {v : Value} {o : Obj}
theorem load_exc_entry {tk : Tok} {Q : Fin → Shared → Prop} (FB : ExcAttrBase B bm) (hC : h.get? C = some (excClassObj nm q C N bs bm true sn sub ab col dd k0 k1 k2 k3 k5 newId)) (hn : h.Ns N mN) (hna : mN name = none)
    (hB : typeLookup (.type B) name = pure none) (hx : h.get? x = some o) (hc : o.cls = .ref C) (hdx : o.dict = some dx) (hnc : ∀ c, o.data ≠ .cls c) (hns : h.Ns dx mA) (hv : mA name = some v)
    (hq : Q (.done (.ret v)) ⟨h, g, d, t, os⟩) :
    wpAny (model prog w) A (Builtin.«object.__getattribute__» ⟨[.ref x, .str name tk], []⟩) Q E ⟨h, g, d, t, os⟩ := by
  have hmro := FB.mro
  unfold Builtin.«object.__getattribute__»
  repeat (first | (with_reducible refine wpAny_loadPart_at hx ?_; rw [hc]) | (with_reducible refine wpAny_typeLookup_exc hC hn hmro hB ?_; rw [hna]) | wp_step)
  split
  · rename_i c hcd
    exact absurd hcd (hnc c)
  unfold instanceDict
  repeat (first | (with_reducible refine wpAny_loadPart_at hx ?_; rw [hc]) | with_reducible refine wpAny_loadPart_at hC ?_ | wp_step)
  rw [hdx]
  repeat (first | (with_reducible refine wpAny_nsGet hns ?_; rw [hv]) | wp_step)
  exact hq
theorem load_exc_call {tk : Tok} {R : Result → Shared → Prop} (FB : ExcAttrBase B bm) (hC : h.get? C = some (excClassObj nm q C N bs bm true sn sub ab col dd k0 k1 k2 k3 k5 newId)) (hn : h.Ns N mN) (hna : mN name = none)
    (hB : typeLookup (.type B) name = pure none) (hx : h.get? x = some o) (hc : o.cls = .ref C) (hdx : o.dict = some dx) (hnc : ∀ c, o.data ≠ .cls c) (hns : h.Ns dx mA) (hv : mA name = some v)
    (hq : R (.ok (.ret v)) ⟨h, g, d, t, os⟩) :
    codeAny (model prog w) A (.call (.builtin "BaseException.__getattribute__") ⟨[.ref x, .str name tk], []⟩) R ⟨h, g, d, t, os⟩ :=
  codeAny_call_builtin FB.ga.plain F.entry_bexc_ga (wpAny_check_ga_own FB hC .base hx hc (load_exc_entry FB hC hn hna hB hx hc hdx hnc hns hv hq))
set_option maxHeartbeats 1000000 in
theorem load_exc_attr {expr : Bool} {Q : Value → Shared → Prop} (FB : ExcAttrBase B bm) (hC : h.get? C = some (excClassObj nm q C N bs bm true sn sub ab col dd k0 k1 k2 k3 k5 newId)) (hn : h.Ns N mN) (hna : mN name = none)
    (hg0 : mN "__getattribute__" = none) (hg1 : mN "__getattr__" = none)
    (hB : typeLookup (.type B) name = pure none) (hx : h.get? x = some o) (hc : o.cls = .ref C) (hdx : o.dict = some dx) (hnc : ∀ c, o.data ≠ .cls c) (hns : h.Ns dx mA) (hv : mA name = some v)
    (hh : handedOut v = pure v) (hq : Q v ⟨h, g, d, t + 1, os⟩) :
    wpAny (model prog w) A (getAttr (.ref x) name expr) Q E ⟨h, g, d, t, os⟩ := by
  have f3 := FB.ga.bind (.ref x)
  have hx0 : (expr && onTheHeap (Value.builtin "BaseException.__getattribute__")) = false := by cases expr <;> rfl
  have hx2 : (Value.builtin "BaseException.__getattribute__" == Value.builtin "object.__getattribute__") = false := by decide +kernel
  have hx1 : (onTheHeap (Value.ref C) && Value.builtin "BaseException.__getattribute__" == Value.builtin "object.__getattribute__") = false := by rw [hx2]; rfl
  unfold getAttr getAttrBy
  repeat (any_goals (first | with_reducible assumption | (with_reducible refine wpAny_loadPart_at hx ?_; rw [hc]) | (with_reducible refine wpAny_typeLookup_exc hC hn FB.mro FB.ga.lookup ?_; rw [hg0]) | (with_reducible refine wpAny_typeLookup_exc hC hn FB.mro FB.noGetattr ?_; rw [hg1]) | wp_step))
  refine load_exc_call FB hC hn hna hB hx hc hdx hnc hns hv ?_
  show wpAny _ _ (handedOut v) _ _ _
  rw [hh]
  exact wpAny_pure hq
end
end Mine

namespace Mine
/-! the rules as the walk wants them: a frame, a ledger -/
noncomputable def DictIs (o : Obj) (m : Str → Option Value) : Prop := ∃ es ep, o.data = .dict es ep ∧ StrKeys es ∧ UniqKeys es ∧ ∀ name, nsFind es name = m name
theorem DictIs.ns1 {h : Heap} {d : Addr} {o : Obj} {m : Str → Option Value} (D : DictIs o m) (e : h.get? d = some o) : h.Ns1 d m := let ⟨es, ep, r⟩ := D; ⟨o, es, ep, e, r⟩
theorem lk_code : typeLookup (.type "Exception") (Str.ofString "code") = pure none := by rw [typeLookup_type, builtinLookup_eq_fast]; kernel_rfl
theorem lk_frame_type : typeLookup (.type "Exception") (Str.ofString "frame_type") = pure none := by rw [typeLookup_type, builtinLookup_eq_fast]; kernel_rfl
theorem lk_text : typeLookup (.type "Exception") (Str.ofString "text") = pure none := by rw [typeLookup_type, builtinLookup_eq_fast]; kernel_rfl
section
variable {prog : Program} {w : World} {A : Around} {E : Value → Shared → Prop} {s : Shared} {h₀ : Heap} {L e d t0 : Addr} {m mA : Str → Option Value} {R : List (Addr × Obj)} {o od : Obj} {name : Str} {v : Value} {rest : List Value} {vs : Array Value} {ns : List Str}
theorem fr_off {h : Heap} (F : Fr h₀ L s.heap m) (hL : @Ne Nat L e) (hn : h₀.get? e = none) (k : ∀ b ob, b ≠ e → s.heap.get? b = some ob → h.get? b = some ob) : Fr h₀ L h m :=
  ⟨let ⟨o, es, ep, q, r⟩ := F.ns; ⟨o, es, ep, k _ _ hL q, r⟩, fun b o q => k _ _ (fun z => by rw [z, hn] at q; cases q) (F.keep b o q), F.above⟩
theorem k_init_exc {Q : Value → Shared → Prop} (F : Fr h₀ L s.heap m) (X : (hd.heap_1 w.params).In h₀) (N : News h₀ L s.heap ((e, o) :: R)) (hRe : ∀ p ∈ R, @Ne Nat p.1 e) (hc : o.cls = .ref 31) (hd' : o.data = .fields vs) (h0 : vs[0]? = some (.ref t0)) (hl : rest.length ≤ sizeLine)
    (hq : ∀ h' t, Fr h₀ L h' m → News h₀ L h' ((e, { o with data := .fields (vs.setIfInBounds 0 (.ref t)) }) :: R) → Q .none { s with heap := h' }) :
    wpAny (model prog w) A (call (.builtin "Exception.__init__") (.ref e :: rest)) Q E s := by
  have he := N _ (.head _)
  refine init_exc ((exc31 X).keeps F.keep) he.1 hc hd' h0 hl fun h' t x1 x2 => hq h' t (fr_off F (Ne.symm he.2.1) he.2.2 x2) ?_
  intro p hp
  rcases List.mem_cons.mp hp with rfl | hp
  · exact ⟨x1, he.2⟩
  · exact ⟨x2 _ _ (hRe p hp) (N p (.tail _ hp)).1, (N p (.tail _ hp)).2⟩
theorem k_store_new {Q : Unit → Shared → Prop} (F : Fr h₀ L s.heap m) (X : (hd.heap_1 w.params).In h₀) (N : News h₀ L s.heap ((e, o) :: R)) (hRe : ∀ p ∈ R, @Ne Nat p.1 e) (hna : name ∈ quietHere)
    (hB : typeLookup (.type "Exception") name = pure none) (hc : o.cls = .ref 31) (hdn : o.dict = none) (hd' : o.data = .fields vs)
    (hq : ∀ h' tk' d od, Fr h₀ L h' m → News h₀ L h' ((e, { o with dict := some d }) :: (d, od) :: R) → DictIs od (fun y => if y = name then some v else none) → @Ne Nat d e → (∀ p ∈ R, @Ne Nat p.1 d) → Q () { s with heap := h', toks := tk' }) :
    wpAny (model prog w) A (setAttr (.ref e) name v) Q E s := by
  have he := N _ (.head _)
  refine store_new ((exc31 X).keeps F.keep) hna hB he.1 hc hdn (fun c q => by rw [hd'] at q; cases q) fun h' tk' d x1 x2 x3 x4 x5 => ?_
  obtain ⟨od, es, ep, hod, r⟩ := x4
  refine hq h' tk' d od (fr_off F (Ne.symm he.2.1) he.2.2 x5) ?_ ⟨es, ep, r⟩ x2 fun p hp q => ?_
  · intro p hp
    rcases List.mem_cons.mp hp with rfl | hp
    · exact ⟨x3, he.2⟩
    rcases List.mem_cons.mp hp with rfl | hp
    · refine ⟨hod, fun q => ?_, ?_⟩
      · obtain ⟨oL, _, _, hL, _⟩ := F.ns
        rw [← show d = L from q, x1] at hL
        cases hL
      · cases hq : h₀.get? d with
        | none => rfl
        | some o' =>
          have h2 := F.keep _ _ hq
          rw [x1] at h2
          cases h2
    · exact ⟨x5 _ _ (hRe p hp) (N p (.tail _ hp)).1, (N p (.tail _ hp)).2⟩
  · have h2 := (N p (.tail _ hp)).1
    rw [show p.1 = d from q, x1] at h2
    cases h2
theorem k_store_more {Q : Unit → Shared → Prop} (F : Fr h₀ L s.heap m) (X : (hd.heap_1 w.params).In h₀) (N : News h₀ L s.heap ((e, o) :: (d, od) :: R)) (hRe : ∀ p ∈ R, @Ne Nat p.1 e) (hRd : ∀ p ∈ R, @Ne Nat p.1 d) (hde : @Ne Nat d e) (hna : name ∈ quietHere)
    (hB : typeLookup (.type "Exception") name = pure none) (hc : o.cls = .ref 31) (hdd : o.dict = some d) (hd' : o.data = .fields vs) (D : DictIs od mA)
    (hq : ∀ h' tk' od', Fr h₀ L h' m → News h₀ L h' ((e, o) :: (d, od') :: R) → DictIs od' (fun y => if y = name then some v else mA y) → Q () { s with heap := h', toks := tk' })
    (hw : Within mA ns) (hsz : ns.length ≤ sizeLine) :
    wpAny (model prog w) A (setAttr (.ref e) name v) Q E s := by
  have he := N _ (.head _)
  have hdm := N _ (.tail _ (.head _))
  obtain ⟨nm, q, N0, bs, sn, sub, ab, col, dd, k0, k1, k2, k3, k5, mN, hC, hn, hi, hqu⟩ := (exc31 X).keeps F.keep
  have I : s.heap.Inst e 31 mA := ⟨o, he.1, hc, (fun c q => by rw [hd'] at q; cases q), .inr ⟨d, hdd, hde, D.ns1 hdm.1⟩⟩
  have hxC : e ≠ 31 := fun q => by
    obtain ⟨_, _, _, _, _, _, _, _, _, _, _, _, _, _, _, h3, _, _, _⟩ := exc31 X
    have h4 := he.2.2
    rw [show (e, o).1 = 31 from q, h3] at h4
    cases h4
  refine store_attr (h := s.heap) PySem.F.store_Exception hC hn (hqu _ (.head _)) (hqu _ hna) hB hxC I (fun h' tk' I' x2 x3 => ?_) hw hsz
  obtain ⟨o₁, y1, y2, y3, y4, y5⟩ := x3 _ he.1
  have ho : o₁ = o := by
    have := y5 d hdd
    obtain ⟨c1, c2, c3, c4⟩ := o
    obtain ⟨e1, e2, e3, e4⟩ := o₁
    dsimp only at y2 y3 y4 this hdd
    subst y2 y3 y4 hdd this
    rfl
  subst ho
  obtain ⟨o', z1, z2, z3, z4⟩ := I'
  have hoo : o' = o₁ := Option.some.inj (z1.symm.trans y1)
  subst hoo
  rcases z4 with ⟨z4, _⟩ | ⟨d', z4, z5, z6⟩
  · rw [hdd] at z4; cases z4
  have hd1 : d' = d := Option.some.inj (z4.symm.trans hdd)
  subst hd1
  obtain ⟨od', es, ep, hod, r⟩ := z6
  have kk : ∀ b ob, b ≠ e → b ≠ d' → s.heap.get? b = some ob → h'.get? b = some ob := fun b ob hb hb2 q => x2 b ob hb (fun o₀ dx q1 q2 => by
    rw [he.1] at q1
    obtain rfl := Option.some.inj q1
    rw [hdd] at q2
    rw [← Option.some.inj q2]
    exact hb2) q
  refine hq h' tk' od' ⟨let ⟨oL, es, ep, q, r⟩ := F.ns; ⟨oL, es, ep, kk _ _ (Ne.symm he.2.1) (Ne.symm hdm.2.1) q, r⟩, fun b ob q => kk _ _ (fun z => by rw [z, he.2.2] at q; cases q) (fun z => by rw [z, hdm.2.2] at q; cases q) (F.keep b ob q), F.above⟩ ?_ ⟨es, ep, r⟩
  intro p hp
  rcases List.mem_cons.mp hp with rfl | hp
  · exact ⟨y1, he.2⟩
  rcases List.mem_cons.mp hp with rfl | hp
  · exact ⟨hod, hdm.2⟩
  · exact ⟨kk _ _ (hRe p hp) (hRd p hp) (N p (.tail _ (.tail _ hp))).1, (N p (.tail _ (.tail _ hp))).2⟩
theorem k_load_exc {expr : Bool} {Q : Value → Shared → Prop} (F : Fr h₀ L s.heap m) (X : (hd.heap_1 w.params).In h₀) (he : s.heap.get? e = some o) (hd1 : s.heap.get? d = some od) (hna : name ∈ quietHere)
    (hB : typeLookup (.type "Exception") name = pure none) (hc : o.cls = .ref 31) (hdd : o.dict = some d) (hd' : o.data = .fields vs) (D : DictIs od mA) (hv : mA name = some v) (hh : handedOut v = pure v)
    (hq : Q v { s with toks := s.toks + 1 }) : wpAny (model prog w) A (getAttr (.ref e) name expr) Q E s :=
  by cases (exc31 X).keeps F.keep with
  | mk _ _ _ _ _ _ _ _ _ _ _ _ _ _ _ hC hn _ hqu => exact load_exc_attr (h := s.heap) PySem.F.attrBase_Exception hC hn (hqu _ hna) (hqu _ (.tail _ (.head _))) (hqu _ (.tail _ (.tail _ (.head _)))) hB he hc hdd (fun c q => by rw [hd'] at q; cases q) (D.ns1 hd1).ns hv hh hq
end
end Mine

namespace Mine
noncomputable abbrev excObj (t : Addr) : Obj := { cls := .ref 31, data := .fields #[.ref t, .none, .none, .none, .bool false, .none] }
section
variable {w : World} {p : Program} {loose : List Str} {mean : ExcName → Option Value} {mg mb : Str → Option Value} {dp un : Nat} {gd : Option (List Code)} {cn : Str} {cs : Scope} {a : Addr} {ccd : Value} {cl : List (Str × Addr)} {outer : List Env} {A₀ : Around} {base h₀ : Heap} {L : Addr} {m : Str → Option Value} {R T : List (Addr × Obj)} {s : Shared} {v : Value} {Q E : Value → Shared → Prop}
theorem make_exc {vals : List Value} (F : Fr h₀ L s.heap m) (X : (hd.heap_1 w.params).In h₀) (N : News h₀ L s.heap R) (hfi : ∃ o, h₀.get? 28 = some o ∧ o.cls = .type "function") (hl : vals.length ≤ sizeLine) {A : Around}
  (h : ∀ h' e t, Fr h₀ L h' m → News h₀ L h' ((e, excObj t) :: R) → (∀ p ∈ R, @Ne Nat p.1 e) →
    wpAny (model P0 w) (A.under (.builtin "type.__call__" ⟨.ref 31 :: vals, []⟩)) (call (.ref 28) (.ref e :: vals)) (fun r s' => r = .none ∧ Q (.ref e) s') E { s with heap := h' }) :
  wpAny (model P0 w) A (call (.ref 31) vals) Q E s := by
  obtain ⟨nm, q, N0, bs, sn, sub, ab, col, dd, k0, k1, k2, k3, k5, mN, hC, hN, hi, hq⟩ := (exc31 X).keeps F.keep
  obtain ⟨hh, g, d, t, os⟩ := s
  obtain ⟨of, hof, hfc⟩ := hfi
  refine wpAny_call_exc_init (hrest := hl) PySem.F.excBase_Exception hC hN hi (F.keep _ _ hof) hfc fun h' e hm => ?_
  obtain ⟨t, he, htn, ht⟩ := hm.there
  have hL : ∃ oL, hh.get? L = some oL := let ⟨oL, _, _, e, _⟩ := F.ns; ⟨oL, e⟩
  obtain ⟨oL, hL⟩ := hL
  have hnew : h₀.get? e = none := by
    cases hq : h₀.get? e with
    | none => rfl
    | some o' =>
      have h2 : hh.get? e = some o' := F.keep _ _ hq
      rw [show hh.get? e = none from hm.new] at h2
      cases h2
  have hnw : hh.get? e = none := hm.new
  refine h h' e t (F.after hm.keeps) (fun p hp => ?_) (fun p hp q => ?_)
  · rcases List.mem_cons.mp hp with rfl | hp
    · exact ⟨he, fun q => (by have h2 := hnw; rw [show e = L from q, hL] at h2; cases h2), hnew⟩
    · exact ⟨hm.keeps _ _ (N p hp).1, (N p hp).2⟩
  · have h2 : hh.get? p.1 = some p.2 := (N p hp).1
    rw [show p.1 = e from q, hnw] at h2
    cases h2
set_option maxRecDepth 100000 in
set_option maxHeartbeats 8000000 in
theorem exc_init_c {e t : Addr} {vals : List Value}
  (B : Below A₀ base outer h₀) (F : Fr h₀ L s.heap m) (X : (hd.heap_1 w.params).In h₀) (N : News h₀ L s.heap ((e, excObj t) :: R)) (Tp : Top p loose mean mg mb h₀) (hk : cs.kind = .function)
  (hRe : ∀ p ∈ R, @Ne Nat p.1 e) (hdp : dp + 3 < recursionLimit) (hun : un + 300 < cLine)
  (ret : ∀ h' tk' t' d od mA, Fr h₀ L h' m → News h₀ L h' ((e, { excObj t' with dict := some d }) :: (d, od) :: R) → (∀ p ∈ (d, od) :: R, @Ne Nat p.1 e) → DictIs od mA → mA (Str.ofString "code") = some (.int 13 t1) → Q .none { s with heap := h', toks := tk' }) :
  wpAny (model P0 w) ((ktrTop dp un gd cn cs L a ccd cl outer).under (.builtin "type.__call__" ⟨.ref 31 :: vals, []⟩)) (call (.ref 28) [.ref e, .int 13 t1, .int 6 t2, .str (Str.ofString "too many octets wait") t3]) Q E s := by
  refine wpAny_call ?_
  k_dflt ktr_enter
  generalize s.toks + List.length _ = tk9
  rename Fr _ _ _ _ => F1
  have F2 : Fr _ _ _ (fun y => List.lookup y [(Str.ofString "text", Value.str (Str.ofString "too many octets wait") t3), (Str.ofString "frame_type", Value.int 6 t2), (Str.ofString "code", Value.int 13 t1), (Str.ofString "self", Value.ref e)]) := F1
  clear F1
  k_steps
  refine' method_type ?F ?X ?ht ?hs ?e ?hh ?_
  case F => k_asm
  case X => k_asm
  case ht => kernel_rfl
  case hs => kernel_rfl
  case e => exact (by kernel_rfl : findCls [] (.type "Exception") (.type "type") (Str.ofString "__init__") = some (.val (.builtin "Exception.__init__")))
  case hh => rfl
  k_steps
  rename Fr _ _ _ _ => F3
  rename News _ _ _ _ => N3
  refine' k_init_exc ?F ?X N3 hRe rfl rfl rfl (by size_fits) ?_
  case F => k_asm
  case X => k_asm
  intro h5 t5 F5 N5
  clear F3 N3
  k_steps
  refine' k_store_new ?F ?X N5 hRe (.tail _ (.tail _ (.tail _ (.head _)))) lk_code rfl rfl rfl ?_
  case F => k_asm
  case X => k_asm
  intro h6 tk6 d od6 F6 N6 D6 hde hRd
  clear F5 N5
  k_steps
  refine' k_store_more ?F ?X N6 hRe hRd hde (.tail _ (.tail _ (.tail _ (.tail _ (.head _))))) lk_frame_type rfl rfl rfl D6 ?_ ?w ?z
  case F => k_asm
  case X => k_asm
  case w => within_ways
  case z => size_fits
  intro h7 tk7 od7 F7 N7 D7
  clear F6 N6
  k_steps
  refine' k_store_more ?F ?X N7 hRe hRd hde (.tail _ (.tail _ (.tail _ (.tail _ (.tail _ (.head _)))))) lk_text rfl rfl rfl D7 ?_ ?w ?z
  case F => k_asm
  case X => k_asm
  case w => within_ways
  case z => size_fits
  intro h8 tk8 od8 F8 N8 D8
  clear F7 N7
  k_steps
  rename Fr _ _ _ _ => kF
  rename News _ _ _ _ => kN
  exact ret _ _ _ _ _ _ kF kN (List.forall_mem_cons.mpr ⟨hde, hRe⟩) D8 (by rw [if_neg (by decide), if_neg (by decide), if_pos rfl])
noncomputable def isFun28 (K : Frag) : Bool := match K.lookup 28 with
  | some o => o.cls == .type "function"
  | none => false
theorem fun28 {w : World} {h : Heap} (X : (hd.heap_1 w.params).In h) : ∃ o, h.get? 28 = some o ∧ o.cls = .type "function" := by
  have e : isFun28 (hd.heap_1 w.params) = true := by kernel_rfl
  unfold isFun28 at e
  split at e
  · rename_i o ho
    exact ⟨o, X _ _ ho, beq_iff_eq.mp e⟩
  · cases e
theorem make_quic
  (B : Below A₀ base outer h₀) (F : Fr h₀ L s.heap m) (X : (hd.heap_1 w.params).In h₀) (N : News h₀ L s.heap R) (Tp : Top p loose mean mg mb h₀) (hk : cs.kind = .function)
  (hdp : dp + 3 < recursionLimit) (hun : un + 300 < cLine)
  (ret : ∀ h' tk' e t' d od mA, Fr h₀ L h' m → News h₀ L h' ((e, { excObj t' with dict := some d }) :: (d, od) :: R) → (∀ p ∈ (d, od) :: R, @Ne Nat p.1 e) → DictIs od mA → mA (Str.ofString "code") = some (.int 13 t1) → Q (.ref e) { s with heap := h', toks := tk' }) :
  wpAny (model P0 w) (ktrTop dp un gd cn cs L a ccd cl outer) (call (.ref 31) [.int 13 t1, .int 6 t2, .str (Str.ofString "too many octets wait") t3]) Q E s :=
  make_exc F X N (fun28 X) (by size_fits) fun h' e t F1 N1 hRe =>
    exc_init_c (s := { s with heap := h' }) B F1 X N1 Tp hk hRe hdp hun fun h2 tk2 t' d od mA F2 N2 hn D2 hc => ⟨rfl, ret h2 tk2 e t' d od mA F2 N2 hn D2 hc⟩
end
end Mine

namespace Mine
/-! an exception with a dict in flight: its class and its dict are kept -/
/-- the exception e with its traceback, whose entry says fl -/
noncomputable def Tr (h B : Heap) (e d : Addr) (fl : Value) : Prop :=
  ∃ oe vs T oT ts, h.get? e = some oe ∧ (oe.cls = .ref 31 ∧ oe.dict = some d) ∧ oe.data = .fields vs ∧ vs[1]? = some (.ref T) ∧ (B.get? T = none ∧ T ≠ e) ∧ h.get? T = some oT ∧ oT.data = .fields ts ∧ ts[3]? = some fl
section
variable {M : Model} {A : Around} {E : Value → Shared → Prop} {s : Shared} {B : Heap} {env : Env} {outer : List Env} {L e d : Addr} {oe : Obj} {vs : Array Value} {Q : Unit → Shared → Prop}
theorem dict_map (o : Obj) (f : Array Value → Array Value) : (Obj.mapFields f o).dict = o.dict := by
  unfold Obj.mapFields
  split <;> rfl
/-- what stays of a heap when a record was changed -/
theorem up_other {h : Heap} {a : Addr} {o : Obj} {vs : Array Value} (ho : h.get? a = some o) (hd : o.data = .fields vs) (f : Array Value → Array Value) : h.UpToSlots (h.update a (Obj.mapFields f)) := fun b ob hb hn =>
  ⟨ob.slots, by
    rw [Heap.get?_update_other _ _ (fun q : a = b => by rw [q, hb] at ho; cases ho; exact hn vs hd)]
    exact hb⟩
theorem frames_up {h h' : Heap} {l : List Env} (hl : h.FunFrames B l) (u : h.UpToSlots h') : h'.FunFrames B l := hl.of_keeps fun b o hb hn => let ⟨_, hs⟩ := u b o hb hn; ⟨_, hs, rfl⟩
theorem x_entry {head : Value} {had : Bool} (hfr : A.frames = some (env :: outer)) (hl : s.heap.FunFrames B (env :: outer)) (hf : env.frame = some L) (he : s.heap.get? e = some oe) (hcd : oe.cls = .ref 31 ∧ oe.dict = some d) (hd : oe.data = .fields vs) (hsz : 1 < vs.size)
    (hkb : B.StaysIn s.heap) (hen : B.get? e = none) (h : ∀ h', B.StaysIn h' → h'.FunFrames B (env :: outer) → Tr h' B e d (rawInt L) → s.heap.UpToSlots h' → Q () { s with heap := h' }) :
    wpAny M A (do let a ← frameOf env; let pl ← entryPlaceOf L had; let b ← EntryCells.newEntry head a .none (rawInt L) .none pl; setField (.ref e) 1 b) Q E s := by
  have hef : e ∉ (env :: outer).filterMap (·.frame) := fun hm => by
    obtain ⟨_, o, ho, hnf⟩ := hl.mem hm
    rw [he] at ho
    cases ho
    exact hnf vs hd
  refine wpAny_bind (wpAny_frameOf_fun hfr hl hf fun h₁ k₁ => ?_)
  refine wpAny_bind (wpAny_entryPlaceOf fun pl hpl => ?_)
  have he₁ : h₁.get? e = some oe := (k₁.2.1 e hef).trans he
  have kb₁ : B.StaysIn h₁ := fun b o q => (k₁.2.1 b fun hm => by rw [(hl.mem hm).1] at q; cases q).trans (hkb b o q)
  unfold EntryCells.newEntry newFields
  refine wpAny_bind (wpAny_newObj_type ?_ (hpl.sizeOk5 _ _ _ _ _))
  have he₂ := Heap.get?_push_of_some { cls := .type "traceback", dict := none, data := .fields ([head, .ref L, .none, rawInt L, .none] ++ (if pl.isEmpty then List.replicate 6 Value.none else pl)).toArray } he₁
  have hT₂ := Heap.get?_push_size h₁ (o := { cls := .type "traceback", dict := none, data := .fields ([head, .ref L, .none, rawInt L, .none] ++ (if pl.isEmpty then List.replicate 6 Value.none else pl)).toArray }) rfl
  have hTe : h₁.objs.size ≠ e := Nat.ne_of_gt (Heap.lt_size he₁)
  have hd₃ := Obj.data_mapFields hd (·.setIfInBounds 1 (Value.ref h₁.objs.size))
  have he₃ := Heap.get?_update_self (Obj.mapFields (·.setIfInBounds 1 (Value.ref h₁.objs.size))) he₂ (Obj.isFreed_of_fields hd₃)
  have hT₃ := (Heap.get?_update_other _ (Obj.mapFields (·.setIfInBounds 1 (Value.ref h₁.objs.size))) (Ne.symm hTe)).trans hT₂
  have up₁ : s.heap.UpToSlots h₁ := fun b o q _ => k₁.2.2 b o q
  refine wpAny_setField he₂ hd hsz (h _ (fun b o q => ?_) (frames_up hl ?_) ⟨_, _, _, _, _, he₃, ⟨(Obj.cls_mapFields _ _).trans hcd.1, (dict_map _ _).trans hcd.2⟩, hd₃, by simp [hsz], ⟨kb₁.fresh, hTe⟩, hT₃, rfl, ?_⟩ ?_)
  · rw [Heap.get?_update_other _ _ (fun z : e = b => by rw [← z, hen] at q; cases q)]
    exact Heap.get?_push_of_some _ (kb₁ b o q)
  · exact up₁.trans ((Heap.UpToSlots.of_keeps fun b o q => Heap.get?_push_of_some _ q).trans (up_other he₂ hd _))
  · rcases hpl with rfl | ⟨_, _, _, _, _, _, _, rfl⟩ <;> simp
  · exact up₁.trans ((Heap.UpToSlots.of_keeps fun b o q => Heap.get?_push_of_some _ q).trans (up_other he₂ hd _))
theorem x_land {l : List Env} {fl : Value} (hkb : B.StaysIn s.heap) (hl : s.heap.FunFrames B l) (t : Tr s.heap B e d fl) (h : ∀ h', B.StaysIn h' → h'.FunFrames B l → Tr h' B e d .none → s.heap.UpToSlots h' → Q () { s with heap := h' }) :
    wpAny M A (setFlight (.ref e) none) Q E s := by
  obtain ⟨oe, vs, T, oT, ts, he, hcd, hd, h1, ⟨hnT, hTe⟩, hT, hdT, h3⟩ := t
  have hs3 := (Array.getElem?_eq_some_iff.mp h3).1
  have up := up_other hT hdT (·.setIfInBounds 3 Value.none)
  unfold setFlight
  refine wpAny_bind (wpAny_field he hd h1 ?_)
  rw [if_pos (show (Value.ref T != Value.none) = true from by simp)]
  refine wpAny_setField hT hdT hs3 (h _ (fun b o q => ?_) (frames_up hl up) ⟨oe, vs, T, _, _, ?_, hcd, hd, h1, ⟨hnT, hTe⟩, Heap.get?_update_self _ hT (Obj.isFreed_of_fields (Obj.data_mapFields hdT _)), Obj.data_mapFields hdT _, by simp [hs3]⟩ up)
  · exact (Heap.get?_update_other _ _ (fun z : T = b => by rw [← z, hnT] at q; cases q)).trans (hkb b o q)
  · exact (Heap.get?_update_other _ _ hTe).trans he
theorem x_note_first (hfr : A.frames = some (env :: outer)) (hl : s.heap.FunFrames B (env :: outer)) (hf : env.frame = some L) (he : s.heap.get? e = some oe) (hcd : oe.cls = .ref 31 ∧ oe.dict = some d) (hd : oe.data = .fields vs) (h1 : vs[1]? = some .none)
    (hkb : B.StaysIn s.heap) (hen : B.get? e = none) (h : ∀ h', B.StaysIn h' → h'.FunFrames B (env :: outer) → Tr h' B e d (rawInt L) → s.heap.UpToSlots h' → Q () { s with heap := h' }) :
    wpAny M A (noteFrame (.ref e) env) Q E s := by
  unfold noteFrame
  simp only [hf]
  refine wpAny_bind (wpAny_field he hd h1 ?_)
  rw [if_neg (by decide)]
  exact x_entry hfr hl hf he hcd hd (Array.getElem?_eq_some_iff.mp h1).1 hkb hen h
theorem x_note_next (hfr : A.frames = some (env :: outer)) (hl : s.heap.FunFrames B (env :: outer)) (hf : env.frame = some L) (t : Tr s.heap B e d .none)
    (hkb : B.StaysIn s.heap) (hen : B.get? e = none) (h : ∀ h', B.StaysIn h' → h'.FunFrames B (env :: outer) → Tr h' B e d (rawInt L) → s.heap.UpToSlots h' → Q () { s with heap := h' }) :
    wpAny M A (noteFrame (.ref e) env) Q E s := by
  obtain ⟨oe, vs, T, oT, ts, he, hcd, hd, h1, ⟨hnT, hTe⟩, hT, hdT, h3⟩ := t
  unfold noteFrame
  simp only [hf]
  refine wpAny_bind (wpAny_field he hd h1 ?_)
  rw [if_pos (show (Value.ref T != Value.none) = true from by simp)]
  refine wpAny_bind (wpAny_field hT hdT h3 ?_)
  rw [if_neg (show ¬ ((Value.none == rawInt L) = true) from by simp [rawInt])]
  have up := up_other hT hdT (·.setIfInBounds 3 Value.none)
  refine wpAny_bind (wpAny_setField hT hdT (Array.getElem?_eq_some_iff.mp h3).1 ?_)
  exact x_entry hfr (frames_up hl up) hf ((Heap.get?_update_other _ _ hTe).trans he) hcd hd (Array.getElem?_eq_some_iff.mp h1).1
    (fun b o q => (Heap.get?_update_other _ _ (fun z : T = b => by rw [← z, hnT] at q; cases q)).trans (hkb b o q)) hen fun h' x1 x2 x3 x4 => h h' x1 x2 x3 (up.trans x4)
end
/-- the exception in flight, over the frames l; G is the ground that the caller's frames stand on -/
noncomputable def RaisedX (base G : Heap) (l : List Env) (e d : Addr) (news : List (Addr × Obj)) (h : Heap) : Prop :=
  ∃ B, base.StaysIn B ∧ (∀ b o, G.get? b = some o → b ∉ l.filterMap (·.frame) → B.get? b = some o) ∧ (∀ q ∈ news, B.get? q.1 = some q.2 ∧ G.get? q.1 = none ∧ base.get? q.1 = none) ∧ B.StaysIn h ∧ B.get? e = none ∧ h.FunFrames B l ∧ Tr h B e d .none
section
variable {M : Model} {A : Around} {E : Value → Shared → Prop} {s' : Shared} {base g : Heap} {outer : List Env} {L a e d : Addr} {oe : Obj} {vs : Array Value} {m : Str → Option Value} {name : Str} {scope : Scope} {cd : Value} {Q : Unit → Shared → Prop} {news : List (Addr × Obj)}
theorem x_leave (K : Below A base outer g) (F : Fr g L s'.heap m) (N : News g L s'.heap ((e, oe) :: news)) (hne : ∀ q ∈ news, @Ne Nat q.1 e) (hcd : oe.cls = .ref 31 ∧ oe.dict = some d) (hd : oe.data = .fields vs) (h1 : vs[1]? = some .none)
    (hQ : ∀ h', RaisedX base g outer e d news h' → g.UpToSlots h' → Q () { s' with heap := h' }) (hk : scope.kind = .function := by rfl) :
    wpAny M (A.deeper (envOf name scope L a cd)) (leaving (envOf name scope L a cd) (.ref e)) Q E s' := by
  have K' := K.push (name := name) (a := a) (cd := cd) F hk
  have he := N _ (.head _)
  have hb0 : base.get? e = none := fresh_of_stays K.stays he.2.2
  have hef : e ∉ (envOf name scope L a cd :: outer).filterMap (·.frame) := fun hm => by
    obtain ⟨_, o, ho, hnf⟩ := K'.frames.mem hm
    rw [he.1] at ho
    cases ho
    exact hnf vs hd
  generalize hfs : e :: (envOf name scope L a cd :: outer).filterMap (·.frame) = fs
  have mfs : ∀ b, b ∈ fs → b = e ∨ b ∈ (envOf name scope L a cd :: outer).filterMap (·.frame) := fun b hb => List.mem_cons.mp (hfs ▸ hb)
  have st : base.StaysIn (hideAll s'.heap fs) := fun b o q => hideAll_get _ (K'.stays b o q) fun hm => by
    rcases mfs b hm with z | z
    · rw [z, hb0] at q; cases q
    · rw [(K'.frames.mem z).1] at q; cases q
  have sg : ∀ b o, g.get? b = some o → b ∉ outer.filterMap (·.frame) → (hideAll s'.heap fs).get? b = some o := fun b o q nm => hideAll_get _ (F.keep b o q) fun hm => by
    rcases mfs b hm with z | z
    · rw [z, he.2.2] at q; cases q
    · rcases kts_mem z with z | z
      · rw [z, kts_self F] at q; cases q
      · exact nm z
  have hl : ∀ q ∈ news, (hideAll s'.heap fs).get? q.1 = some q.2 ∧ g.get? q.1 = none ∧ base.get? q.1 = none := fun q hq => by
    have nq := N q (.tail _ hq)
    refine ⟨hideAll_get _ nq.1 fun hm => ?_, nq.2.2, fresh_of_stays K.stays nq.2.2⟩
    rcases mfs _ hm with z | z
    · exact hne q hq z
    · rcases kts_mem z with z | z
      · exact nq.2.1 z
      · obtain ⟨_, o, ho, _⟩ := K.frames.mem z
        rw [nq.2.2] at ho; cases ho
  have hin : ∀ env ∈ (envOf name scope L a cd :: outer), ∀ b, env.frame = some b → b ∈ fs := fun env he b hb => hfs ▸ List.mem_cons_of_mem _ (List.mem_filterMap.mpr ⟨env, he, hb⟩)
  have hnone : (hideAll s'.heap fs).get? e = none := hideAll_none _ (hfs ▸ List.mem_cons_self ..)
  unfold leaving
  refine wpAny_bind (x_note_first K'.stack (funFrames_hide K'.frames hin) rfl he.1 hcd hd h1 (fun b o q => of_hideAll _ q) hnone fun h₁ y1 y2 y3 y4 => ?_)
  refine x_land (s := { s' with heap := h₁ }) y1 y2 y3 fun h₂ z1 z2 z3 z4 => ?_
  obtain ⟨_, _, z2⟩ := z2
  exact hQ h₂ ⟨_, st, sg, hl, z1, hnone, z2, z3⟩ (((Heap.UpToSlots.of_keeps F.keep).trans y4).trans z4)
end
end Mine

namespace Mine
section
variable {prog : Program} {w : World} {A : Around} {E : Value → Shared → Prop} {s : Shared} {env : Env}
theorem raise_stmt_inst {x : Sem Value} {Q : Flow → Shared → Prop} (hh : A.handled = none)
    (h : wpAny (model prog w) A x (fun v s₁ => ∃ a o vs C fI, v = .ref a ∧ s₁.heap.get? a = some o ∧ o.cls = .ref C ∧ ExcC s₁.heap C fI ∧ o.data = .fields vs ∧ vs[1]? = some .none ∧ E (.ref a) s₁) E s) :
    wpAny (model prog w) A (raiseStmt env (some x) none) Q E s := by
  unfold raiseStmt
  refine wpAny_bind (wpAny_mono h (fun v s₁ h₁ => ?_) fun _ _ x => x)
  obtain ⟨a, o, vs, C, fI, rfl, ha, hc, ⟨nm, q, N, bs, sn, sub, ab, col, dd, k0, k1, k2, k3, k5, mN, hC, _, _, _⟩, hd, h1, hE⟩ := h₁
  obtain ⟨hp, g, d, tk, os⟩ := s₁
  obtain ⟨oc, od, odt, osl⟩ := o
  dsimp only at hc hd ha hC hE
  subst hc hd
  have hcB : (Value.ref C :: excBm).contains (.type "BaseException") = true := by simp
  repeat (first | with_reducible refine wpAny_loadPart_at ha ?_ | with_reducible refine wpAny_loadPart_at hC ?_ | (with_reducible refine wpAny_isSubtype_exc hC ?_; rw [hcB]) | wp_step)
  rw [h1]
  refine wpAny_pure ?_
  rw [if_neg (by decide)]
  exact wpAny_pure (wpAny_raiseNew_none hh hE)
theorem Raise_inst {e : Expr} {pos : Pos} {Q : Flow → Shared → Prop} (hh : A.handled = none)
    (h : wpAny (model prog w) A (eval e env) (fun v s₁ => ∃ a o vs C fI, v = .ref a ∧ s₁.heap.get? a = some o ∧ o.cls = .ref C ∧ ExcC s₁.heap C fI ∧ o.data = .fields vs ∧ vs[1]? = some .none ∧ E (.ref a) s₁) E s) :
    wpAny (model prog w) A (exec (.Raise (some e) none pos) env) Q E s := by
  show wpAny (model prog w) A (do standAt pos; raiseStmt env (some (do let v ← eval e env; standAt pos; pure v)) none) Q E s
  exact wpAny_bind (wpAny_standAt (raise_stmt_inst hh (wpAny_bind (wpAny_mono h (fun v s₁ h₁ => wpAny_bind (wpAny_standAt (wpAny_pure h₁))) fun _ _ x => x))))
end
section
variable {prog : Program} {w : World} {A₀ : Around} {E : Value → Shared → Prop} {s' : Shared} {base g G : Heap} {outer : List Env} {L a e d : Addr} {m : Str → Option Value} {name : Str} {scope : Scope} {cd : Value}
  {n : Str} {b₀ : Stmt} {suite : List Stmt} {pos np : Pos} {rest : List ExceptHandler} {Q : Flow → Shared → Prop} {news : List (Addr × Obj)}
  {p : Program} {loose : List Str} {mean : ExcName → Option Value} {mg mb : Str → Option Value} {x : Str}
theorem x_caught (R : RaisedX base G (envOf name scope L a cd :: outer) e d news s'.heap) (F : Fr g L G m) (K : Below A₀ base outer g) (hsm : G.UpToSlots s'.heap) (XB : (hd.heap_1 w.params).In base) (TB : Top p loose mean mg mb base)
    (D : KtsDicts (outer.filterMap (·.frame)) g) (ex : nsIn (hd.heap_1 w.params) mainGlobals x = some (some (.ref 31)))
    (k : ∀ h' g' oe ws tk, KtsTurn (outer.filterMap (·.frame)) g g' → Fr g' L h' (fun y => if y = n then some (.ref e) else m y) → News g' L h' ((e, oe) :: news) → oe.cls = .ref 31 → oe.dict = some d → oe.data = .fields ws → Below A₀ base outer g' → (hd.heap_1 w.params).In g' → Top p loose mean mg mb g' → KtsDicts (outer.filterMap (·.frame)) g' →
      wpAny (model prog w) ((A₀.deeper (envOf name scope L a cd)).mark (some (.ref e))) (execs (b₀ :: suite) (envOf name scope L a cd))
        (fun f s₄ => wpAny (model prog w) (A₀.deeper (envOf name scope L a cd)) (do bindName (envOf name scope L a cd) n .none; unbindBehindTheSuite (envOf name scope L a cd) n pos) (fun _ s₅ => Q f s₅) E s₄)
        (AsSuiteRaised (model prog w) ((A₀.deeper (envOf name scope L a cd)).mark (some (.ref e))) (envOf name scope L a cd) n pos (notedBy (model prog w) ((A₀.deeper (envOf name scope L a cd)).mark (some (.ref e))) (envOf name scope L a cd) (cameBackBy (model prog w) (A₀.deeper (envOf name scope L a cd)) (envOf name scope L a cd) E)))
        { s' with heap := h', toks := tk })
    (hk : scope.kind = .function := by rfl) (hlo : (envOf name scope L a cd).kindOf n = some .local := by rfl) (hx : (envOf name scope L a cd).kindOf x = some .globalImplicit := by rfl) (hd' : (x == ("__debug__" : Str)) = false := by decide) :
    wpAny (model prog w) (A₀.deeper (envOf name scope L a cd)) (noteFrame (.ref e) (envOf name scope L a cd))
      (fun _ s₂ => wpAny (model prog w) (A₀.deeper (envOf name scope L a cd)) (setFlight (.ref e) none) (fun _ s₃ =>
        wpAny (model prog w) (A₀.deeper (envOf name scope L a cd)) (handleBy (.ref e) (envOf name scope L a cd) (.ExceptHandler (some (.Name x np)) (some n) (b₀ :: suite) pos :: rest)) Q E s₃) E s₂) E s' := by
  obtain ⟨B, hB, hBG, hl, hkb, hen, hfr, htr⟩ := R
  have hL : B.get? L = none := by
    obtain ⟨_, ⟨L', _, hf, hn', _⟩, _⟩ := hfr
    obtain rfl : L = L' := Option.some.inj hf
    exact hn'
  refine x_note_next (Around.frames_deeper K.stack) hfr rfl htr hkb hen fun h₄ a1 a2 a3 a4 => ?_
  refine x_land (s := { s' with heap := h₄ }) a1 a2 a3 fun h₅ b1 b2 b3 b4 => ?_
  obtain ⟨g₅, T₅, F₅, K₅⟩ := kts_ground K F hBG b1 (hsm.trans (a4.trans b4))
  have X₅ : (hd.heap_1 w.params).In g₅ := XB.keeps K₅.stays
  have P₅ : TopRead p loose mg mb g₅ := topRead_of (TB.keeps K₅.stays)
  obtain ⟨nm, q', N, bs, sn, sub, ab, col, dd, k0, k1, k2, k3, k5, mN, hC, _, _, _⟩ := (exc31 X₅).keeps F₅.keep
  obtain ⟨ob, _, _, _, _, hob, hobc, _⟩ := id b3
  refine wpAny_handleBy_cons (codeAny_handlers_test (name_K F₅ X₅ P₅ ex ?_ hk hx hd')) (by intro q; cases q)
  refine wpAny_excMatches_sub_self (h := h₅) hC hob hobc.1 (by simp) (codeAny_handlers_suite_as ?_)
  refine x_land (s := { s' with heap := h₅ }) b1 b2 b3 fun h₆ c1 c2 c3 c4 => ?_
  have up₆ := hsm.trans ((a4.trans b4).trans c4)
  obtain ⟨g₆, T₆, F₆, K₆⟩ := kts_ground K F hBG c1 up₆
  obtain ⟨oe, ws, _, _, _, hoe, hoec, hoed, _⟩ := c3
  have ne₆ : g₆.get? e = none := T₆.none_ _ (kts_fresh F hBG hen fun o ho m => by
    obtain ⟨_, o', ho', hd9⟩ := K.frames.mem m
    rw [ho] at ho'
    cases ho'
    obtain ⟨sl, hs⟩ := up₆ _ _ (F.keep _ _ ho) hd9
    rw [hoe] at hs
    cases hs
    exact hd9 _ hoed)
  have N₆ := News.more F₆ News.nil hoe (fun es n q => by rw [hoed] at q; cases q) ne₆
  have Nl : News g₆ L h₆ news := fun q hq => ⟨c1 _ _ (hl q hq).1, (fun z => by have := (hl q hq).1; rw [z, hL] at this; cases this), T₆.none_ _ (kts_none F.keep (hl q hq).2.1)⟩
  refine stN F₆ (news := _ ++ news) (fun q hq => (List.mem_append.mp hq).elim (N₆ q) (Nl q)) (fun h₇ F₇ N₇ => ?_) hk hlo
  exact k h₇ g₆ oe ws _ T₆ F₇ (fun q hq => N₇ q hq) hoec.1 hoec.2 hoed K₆ (XB.keeps K₆.stays) (TB.keeps K₆.stays) (D.turn T₆)
end
end Mine

namespace Mine
noncomputable abbrev P0 : Program := PySem.Challenge.rw_sj0108_01.row.prog
section
variable {w : World} {p : Program} {loose : List Str} {mean : ExcName → Option Value} {mg mb : Str → Option Value} {dp un : Nat} {gd : Option (List Code)} {cn : Str} {cs : Scope} {a : Addr} {ccd : Value} {cl : List (Str × Addr)} {outer : List Env} {A₀ : Around} {base h₀ : Heap} {L : Addr} {m : Str → Option Value} {R T : List (Addr × Obj)} {s : Shared} {v : Value} {Q E : Value → Shared → Prop}
end
namespace cut_span_c_k
noncomputable def St (w : World) (p : Program) (loose : List Str) (mean : ExcName → Option Value) (mg : Str → Option Value) (mb : Str → Option Value) (dp : Nat) (un : Nat) (gd : Option (List Code)) (cn : Str) (cs : Scope) (a : Addr) (ccd : Value) (cl : List (Str × Addr)) (outer : List Env) (A₀ : Around) (base : Heap) (h₀ : Heap) (L : Addr) (m : Str → Option Value) (R : List (Addr × Obj)) (T : List (Addr × Obj)) (s : Shared) (Q : Value → Shared → Prop) (E : Value → Shared → Prop) (sp : List (Int × Int)) (t : Tok) (u : Tok) (v : Value) (lo : Int) (hi : Int) : Prop := ∀ (B : Below A₀ base outer h₀) (F : Fr h₀ L s.heap m) (X : (hd.heap_1 w.params).In h₀) (N : News h₀ L s.heap R) (Tp : Top p loose mean mg mb h₀) (hk : cs.kind = .function) (hTR : ∀ p ∈ T, p ∈ R) (hv : DatIn T v (spD sp)) (hsp : sp.length ≤ 1000) (hlh : lo < hi) (hdp : dp + 1 < recursionLimit) (hun : un + 100 < cLine) (ret : ∀ r tl h' tk', Fr h₀ L h' m → News h₀ L h' (tl ++ R) → Apart R tl → DatIn (tl ++ T) r (spD (cutL sp lo hi)) → Q r { s with heap := h', toks := tk' }),
  wpAny (model P0 w) (ktrTop dp un gd cn cs L a ccd cl outer) (call (.ref 67) [v, .int lo t, .int hi u]) Q E s
noncomputable def S (c : CxF) : Prop := ∀ (v : Value) (lo : Int) (hi : Int), St (cx_w (c).1) (cx_p (c).1) (cx_loose (c).1) (cx_mean (c).1) (cx_mg (c).1) (cx_mb (c).1) (cx_dp (c).1) (cx_un (c).1) (cx_gd (c).1) (cx_cn (c).1) (cx_cs (c).1) (cx_a (c).1) (cx_ccd (c).1) (cx_cl (c).1) (cx_outer (c).1) (cx_A₀ (c).1) (cx_base (c).1) (cx_h₀ (c).1) (cx_L (c).1) (cx_m (c).1) (cx_R (c).1) (cx_T (c).1) (cx_s (c).1) (cx_Q (c).1) (cx_E (c).1) (cx_sps c 0) (cx_tok c 0) (cx_tok c 1) v lo hi
noncomputable def kx9 : CxF := @Classical.epsilon (CxF) ne_cxf fun c => ¬ S c
set_option maxRecDepth 100000 in
set_option maxHeartbeats 8000000 in
theorem walk : S kx9 := by
  show ∀ (v : Value) (lo : Int) (hi : Int), St (cx_w (kx9).1) (cx_p (kx9).1) (cx_loose (kx9).1) (cx_mean (kx9).1) (cx_mg (kx9).1) (cx_mb (kx9).1) (cx_dp (kx9).1) (cx_un (kx9).1) (cx_gd (kx9).1) (cx_cn (kx9).1) (cx_cs (kx9).1) (cx_a (kx9).1) (cx_ccd (kx9).1) (cx_cl (kx9).1) (cx_outer (kx9).1) (cx_A₀ (kx9).1) (cx_base (kx9).1) (cx_h₀ (kx9).1) (cx_L (kx9).1) (cx_m (kx9).1) (cx_R (kx9).1) (cx_T (kx9).1) (cx_s (kx9).1) (cx_Q (kx9).1) (cx_E (kx9).1) (cx_sps kx9 0) (cx_tok kx9 0) (cx_tok kx9 1) v lo hi
  generalize (cx_w (kx9).1) = w, (cx_p (kx9).1) = p, (cx_loose (kx9).1) = loose, (cx_mean (kx9).1) = mean, (cx_mg (kx9).1) = mg, (cx_mb (kx9).1) = mb, (cx_dp (kx9).1) = dp, (cx_un (kx9).1) = un, (cx_gd (kx9).1) = gd, (cx_cn (kx9).1) = cn, (cx_cs (kx9).1) = cs, (cx_a (kx9).1) = a, (cx_ccd (kx9).1) = ccd, (cx_cl (kx9).1) = cl, (cx_outer (kx9).1) = outer, (cx_A₀ (kx9).1) = A₀, (cx_base (kx9).1) = base, (cx_h₀ (kx9).1) = h₀, (cx_L (kx9).1) = L, (cx_m (kx9).1) = m, (cx_R (kx9).1) = R, (cx_T (kx9).1) = T, (cx_s (kx9).1) = s, (cx_Q (kx9).1) = Q, (cx_E (kx9).1) = E, (cx_sps kx9 0) = sp, (cx_tok kx9 0) = t, (cx_tok kx9 1) = u
  intro v lo hi
  delta St
  intro B F X N Tp hk hTR hv hsp hlh hdp hun ret
  refine el_list hv ?_
  clear hv
  intro va vs n hmem hall
  refine wpAny_call ?_
  k_dflt ktr_enter
  rename Fr _ _ _ _ => F1
  have F2 : Fr _ _ _ (fun y => List.lookup y [(Str.ofString "high", Value.int hi u), (Str.ofString "low", Value.int lo t), (Str.ofString "spans", Value.ref _)]) := F1
  clear F1
  k_steps
  rename Fr _ _ _ _ => F1
  rename News _ _ _ _ => N1
  rename_i g L1 h1 FG B1 X1 T1 fa h2 hfa h3
  have hall2 : DatAll T vs ((sp.map fun q => (Dat.int q.1, Dat.int q.2)).map fun d => Dat.tuple [d.1, d.2]) := by rw [List.map_map]; exact hall
  refine For_invTF F1 ?_ (by intro _; rfl)
  k_steps
  refine pair_iter T (sp.map fun q => (Dat.int q.1, Dat.int q.2)) (fun i m₁ nx => Bld R T fa ((cutL (sp.take i) lo hi).map prD) nx ∧ ∃ u1 u2, m₁ = fun z => if z = Str.ofString "other" then u2 else if z = Str.ofString "one" then u1 else
    (if z = Str.ofString "found" then some (Value.ref fa) else List.lookup z [(Str.ofString "high", Value.int hi u), (Str.ofString "low", Value.int lo t), (Str.ofString "spans", Value.ref va)])) rfl rfl rfl rfl hmem hall2 ?_ F1 N1 ?_ ?_ ?_
  · exact bld_has hTR
  · exact ⟨bld_nil hfa, none, none, two_upd0 rfl rfl⟩
  · intro i d₁ d₂ v₁ v₂ m₁ nx s₁ h tk I oI hi D1 D2 hI ⟨hb, hu⟩ F2 N2
    unfold Bld at hb
    (refine Exists.elim hb ?_; clear hb; intro tl hb; refine Exists.elim hb ?_; clear hb; intro ws hb; refine Exists.elim hb ?_; clear hb; intro k hb)
    (refine Exists.elim hu ?_; clear hu; intro u1 hu; refine Exists.elim hu ?_; clear hu; intro u2 hu)
    obtain ⟨rfl, hO, hlt, hD⟩ := hb
    subst hu
    simp only [List.getElem?_map, Option.map_eq_some_iff] at hi
    (refine Exists.elim hi ?_; clear hi; intro q9 hi)
    revert hi
    refine el_prod q9 ?_
    intro x y ⟨hxy, he⟩
    simp only [Prod.mk.injEq] at he
    obtain ⟨rfl, rfl⟩ := he
    revert F2
    refine el_int D1 ?_
    refine el_int D2 ?_
    clear D1 D2
    intro t8 t9 F2
    clear F1 N1
    have hIf : @Ne Nat fa I := hI _ (.head _)
    have hI2 : ∀ p ∈ tl ++ R, p.1 ≠ I := fun p hp => hI p (.tail _ hp)
    have hws : ws.length ≤ 4000 := by
      have := hD.length
      have h2 := cutL_len (sp.take i) lo hi
      simp only [List.length_map, List.length_take] at this h2
      lia
    clear hI
    k_steps
    all_goals (
      rename Fr _ _ _ _ => F3
      rename News _ _ _ _ => N3
      (try simp only [List.push_toArray] at N3)
      (first
        | refine' bld_end (T := T) (ds := (cutL (sp.take (i + 1)) lo hi).map prD) [] F3 N3 hO hlt hIf hI2 ?_ ?_ (fun nx hb => ⟨hb, _, _, two_upd⟩)
        | refine' bld_end (T := T) (ds := (cutL (sp.take (i + 1)) lo hi).map prD) [_] F3 N3 hO hlt hIf hI2 ?_ ?_ (fun nx hb => ⟨hb, _, _, two_upd⟩)
        | refine' bld_end (T := T) (ds := (cutL (sp.take (i + 1)) lo hi).map prD) [_, _] F3 N3 hO hlt hIf hI2 ?_ ?_ (fun nx hb => ⟨hb, _, _, two_upd⟩)
        | fail "bld_end"))
    all_goals (first
      | walk_at "mine hA"
      | (rw [cutL_take hxy]
         first | rw [if_pos (show x < pmin y lo by assumption)] | rw [if_neg (show ¬ x < pmin y lo by assumption)]
         first | rw [if_pos (show pmax x hi < y by assumption)] | rw [if_neg (show ¬ pmax x hi < y by assumption)]
         simp only [List.map_append, List.map_cons, List.map_nil, List.nil_append, List.append_nil, ← List.append_assoc]
         kqd_all)
      | fail "end")
  · intro m₁ nx h tk ⟨hb, e2⟩ F2 N2
    unfold Bld at hb
    (refine Exists.elim hb ?_; clear hb; intro tl hb; refine Exists.elim hb ?_; clear hb; intro ws hb; refine Exists.elim hb ?_; clear hb; intro k hb)
    (refine Exists.elim e2 ?_; clear e2; intro u1 e2; refine Exists.elim e2 ?_; clear e2; intro u2 e2)
    obtain ⟨e1, hO, hlt, hD⟩ := hb
    subst e1 e2
    clear F1 N1
    rw [List.length_map, List.take_length] at hD
    k_steps
    rename Fr _ _ _ _ => kF
    rename News _ _ _ _ => kN
    refine ret _ ((fa, W.listOf ws.toArray k) :: tl) _ _ kF kN ?_ (DatIn.list (.head _) (by kqd_all))
    intro q hq p hp
    rcases List.mem_cons.mp hp with rfl | hp
    · exact Nat.ne_of_lt (hfa q hq)
    · exact hlt q hq p hp
end cut_span_c_k
section
variable {w : World} {p : Program} {loose : List Str} {mean : ExcName → Option Value} {mg mb : Str → Option Value} {dp un : Nat} {gd : Option (List Code)} {cn : Str} {cs : Scope} {a : Addr} {ccd : Value} {cl : List (Str × Addr)} {outer : List Env} {A₀ : Around} {base h₀ : Heap} {L : Addr} {m : Str → Option Value} {R T : List (Addr × Obj)} {s : Shared} {v : Value} {Q E : Value → Shared → Prop}
theorem cut_span_c {sp : List (Int × Int)} {lo hi : Int} {t u : Tok} :
  cut_span_c_k.St w p loose mean mg mb dp un gd cn cs a ccd cl outer A₀ base h₀ L m R T s Q E sp t u v lo hi := all_eps (S := cut_span_c_k.S) cut_span_c_k.walk ((w, p, loose, mean, mg, mb, dp, un, gd, cn, cs, a, ccd, cl, outer, A₀, base, h₀, L, m, R, T, s, (cx_v cx0), Q, E), fn [t, u] default, fn [] default, fn [] default, fn [] default, fn [sp] [], fn [] #[], fn [] []) v lo hi
end
end Mine

namespace Mine
section
variable {w : World} {p : Program} {loose : List Str} {mean : ExcName → Option Value} {mg mb : Str → Option Value} {dp un : Nat} {gd : Option (List Code)} {cn : Str} {cs : Scope} {a : Addr} {ccd : Value} {cl : List (Str × Addr)} {outer : List Env} {A₀ : Around} {base h₀ : Heap} {L : Addr} {m : Str → Option Value} {R T : List (Addr × Obj)} {s : Shared} {v : Value} {Q E : Value → Shared → Prop}
/-! add_span -/
structure AddSt where
  found : List (Int × Int)
  put : Bool
  lo : Int
  hi : Int
  deriving Inhabited
noncomputable def addStep (st : AddSt) (q : Int × Int) : AddSt :=
  if q.2 < st.lo then { st with found := st.found ++ [(q.1, q.2)] }
  else if st.hi < q.1 then (if st.put then { st with found := st.found ++ [(q.1, q.2)] } else { st with found := (st.found ++ [(st.lo, st.hi)]) ++ [(q.1, q.2)], put := true })
  else { st with lo := pmin st.lo q.1, hi := pmax st.hi q.2 }
@[elab_as_elim] theorem el_st {G : AddSt → Prop} (st : AddSt) (k : ∀ fd pt lo hi, G ⟨fd, pt, lo, hi⟩) : G st := k _ _ _ _
theorem addStep_1 {fd pt lo hi x y} (h : y < lo) : addStep ⟨fd, pt, lo, hi⟩ (x, y) = ⟨fd ++ [(x, y)], pt, lo, hi⟩ := by simp only [addStep, if_pos h]
theorem addStep_2 {fd lo hi x y} (h : ¬ y < lo) (h2 : hi < x) : addStep ⟨fd, true, lo, hi⟩ (x, y) = ⟨fd ++ [(x, y)], true, lo, hi⟩ := by simp only [addStep, if_neg h, if_pos h2, if_true]
theorem addStep_3 {fd lo hi x y} (h : ¬ y < lo) (h2 : hi < x) : addStep ⟨fd, false, lo, hi⟩ (x, y) = ⟨(fd ++ [(lo, hi)]) ++ [(x, y)], true, lo, hi⟩ := by simp only [addStep, if_neg h, if_pos h2]; rfl
theorem addStep_4 {fd pt lo hi x y} (h : ¬ y < lo) (h2 : ¬ hi < x) : addStep ⟨fd, pt, lo, hi⟩ (x, y) = ⟨fd, pt, pmin lo x, pmax hi y⟩ := by simp only [addStep, if_neg h, if_neg h2]
noncomputable def addL (sp : List (Int × Int)) (lo hi : Int) : List (Int × Int) :=
  if lo ≥ hi then sp else
    let st := sp.foldl addStep ⟨[], false, lo, hi⟩
    if st.put then st.found else st.found ++ [(st.lo, st.hi)]
theorem add_len (sp : List (Int × Int)) : ∀ st : AddSt, (sp.foldl addStep st).found.length ≤ st.found.length + 2 * sp.length := by
  induction sp with
  | nil => intro st; simp
  | cons q r ih =>
    intro st
    rw [List.foldl_cons, List.length_cons]
    have h := ih (addStep st q)
    have h2 : (addStep st q).found.length ≤ st.found.length + 2 := by
      unfold addStep
      split
      · simp
      · split
        · split <;> simp
        · simp
    lia
end
namespace add_span_c_k
noncomputable def St (w : World) (p : Program) (loose : List Str) (mean : ExcName → Option Value) (mg : Str → Option Value) (mb : Str → Option Value) (dp : Nat) (un : Nat) (gd : Option (List Code)) (cn : Str) (cs : Scope) (a : Addr) (ccd : Value) (cl : List (Str × Addr)) (outer : List Env) (A₀ : Around) (base : Heap) (h₀ : Heap) (L : Addr) (m : Str → Option Value) (R : List (Addr × Obj)) (T : List (Addr × Obj)) (s : Shared) (Q : Value → Shared → Prop) (E : Value → Shared → Prop) (sp : List (Int × Int)) (t : Tok) (u : Tok) (v : Value) (lo : Int) (hi : Int) : Prop := ∀ (B : Below A₀ base outer h₀) (F : Fr h₀ L s.heap m) (X : (hd.heap_1 w.params).In h₀) (N : News h₀ L s.heap R) (Tp : Top p loose mean mg mb h₀) (hk : cs.kind = .function) (hTR : ∀ p ∈ T, p ∈ R) (hv : DatIn T v (spD sp)) (hsp : sp.length ≤ 1000) (hdp : dp + 1 < recursionLimit) (hun : un + 100 < cLine) (ret : ∀ r tl h' tk', Fr h₀ L h' m → News h₀ L h' (tl ++ R) → Apart R tl → DatIn (tl ++ T) r (spD (addL sp lo hi)) → Q r { s with heap := h', toks := tk' }),
  wpAny (model P0 w) (ktrTop dp un gd cn cs L a ccd cl outer) (call (.ref 60) [v, .int lo t, .int hi u]) Q E s
noncomputable def S (c : CxF) : Prop := ∀ (v : Value) (lo : Int) (hi : Int), St (cx_w (c).1) (cx_p (c).1) (cx_loose (c).1) (cx_mean (c).1) (cx_mg (c).1) (cx_mb (c).1) (cx_dp (c).1) (cx_un (c).1) (cx_gd (c).1) (cx_cn (c).1) (cx_cs (c).1) (cx_a (c).1) (cx_ccd (c).1) (cx_cl (c).1) (cx_outer (c).1) (cx_A₀ (c).1) (cx_base (c).1) (cx_h₀ (c).1) (cx_L (c).1) (cx_m (c).1) (cx_R (c).1) (cx_T (c).1) (cx_s (c).1) (cx_Q (c).1) (cx_E (c).1) (cx_sps c 0) (cx_tok c 0) (cx_tok c 1) v lo hi
noncomputable def kx9 : CxF := @Classical.epsilon (CxF) ne_cxf fun c => ¬ S c
set_option maxRecDepth 100000 in
set_option maxHeartbeats 8000000 in
theorem walk : S kx9 := by
  show ∀ (v : Value) (lo : Int) (hi : Int), St (cx_w (kx9).1) (cx_p (kx9).1) (cx_loose (kx9).1) (cx_mean (kx9).1) (cx_mg (kx9).1) (cx_mb (kx9).1) (cx_dp (kx9).1) (cx_un (kx9).1) (cx_gd (kx9).1) (cx_cn (kx9).1) (cx_cs (kx9).1) (cx_a (kx9).1) (cx_ccd (kx9).1) (cx_cl (kx9).1) (cx_outer (kx9).1) (cx_A₀ (kx9).1) (cx_base (kx9).1) (cx_h₀ (kx9).1) (cx_L (kx9).1) (cx_m (kx9).1) (cx_R (kx9).1) (cx_T (kx9).1) (cx_s (kx9).1) (cx_Q (kx9).1) (cx_E (kx9).1) (cx_sps kx9 0) (cx_tok kx9 0) (cx_tok kx9 1) v lo hi
  generalize (cx_w (kx9).1) = w, (cx_p (kx9).1) = p, (cx_loose (kx9).1) = loose, (cx_mean (kx9).1) = mean, (cx_mg (kx9).1) = mg, (cx_mb (kx9).1) = mb, (cx_dp (kx9).1) = dp, (cx_un (kx9).1) = un, (cx_gd (kx9).1) = gd, (cx_cn (kx9).1) = cn, (cx_cs (kx9).1) = cs, (cx_a (kx9).1) = a, (cx_ccd (kx9).1) = ccd, (cx_cl (kx9).1) = cl, (cx_outer (kx9).1) = outer, (cx_A₀ (kx9).1) = A₀, (cx_base (kx9).1) = base, (cx_h₀ (kx9).1) = h₀, (cx_L (kx9).1) = L, (cx_m (kx9).1) = m, (cx_R (kx9).1) = R, (cx_T (kx9).1) = T, (cx_s (kx9).1) = s, (cx_Q (kx9).1) = Q, (cx_E (kx9).1) = E, (cx_sps kx9 0) = sp, (cx_tok kx9 0) = t, (cx_tok kx9 1) = u
  intro v lo hi
  delta St
  intro B F X N Tp hk hTR hv hsp hdp hun ret
  refine el_list hv ?_
  clear hv
  intro va vs n hmem hall
  have hvl : vs.length ≤ 1000 := by rw [hall.length, List.length_map]; exact hsp
  have hmemR := hTR _ hmem
  refine wpAny_call ?_
  k_dflt ktr_enter
  rename Fr _ _ _ _ => F1
  have F2 : Fr _ _ _ (fun y => List.lookup y [(Str.ofString "high", Value.int hi u), (Str.ofString "low", Value.int lo t), (Str.ofString "spans", Value.ref _)]) := F1
  clear F1
  k_steps
  · rename Fr _ _ _ _ => kF
    rename News _ _ _ _ => kN
    refine ret _ [_] _ _ kF kN ?_ (DatIn.list (.head _) ?_)
    · intro q hq p hp
      rw [List.mem_singleton.mp hp]
      rename ∀ p ∈ R, p.1 < _ => hlt3
      exact Nat.ne_of_lt (hlt3 q hq)
    · unfold addL
      rw [if_pos (by assumption)]
      kqd_all
  · rename Fr _ _ _ _ => F1
    rename News _ _ _ _ => N1
    rename_i g L1 h1 FG B1 X1 T1 hnge tk0 fa h2 hfa DD h3 hlt3 h4 h5 h6
    have N2 : News g L1 h6 ((fa, W.listOf ([] : List Value).toArray 0) :: (([] : List (Addr × Obj)) ++ R)) := fun p hp => N1 p (.tail _ hp)
    clear N1
    refine For_invTF F1 ?_ (by intro _; rfl)
    k_steps
    refine bld_pairs (fun q : Int × Int => (Dat.int q.1, Dat.int q.2)) sp addStep ⟨[], false, lo, hi⟩ (fun st => st.found.map prD)
      (fun st m => ∃ t1 t2, ∀ p ∈ [(Str.ofString "spans", Value.ref va), (Str.ofString "found", Value.ref fa), (Str.ofString "low", Value.int st.lo t1), (Str.ofString "high", Value.int st.hi t2), (Str.ofString "is_put", Value.bool st.put)], m p.1 = some p.2)
      rfl rfl rfl rfl hmem hall hTR F1 N2 (fun p hp b hb => by rw [List.mem_singleton.mp hb]; exact Nat.ne_of_lt (hfa p hp)) Apart.nil DatAll.nil ⟨t, u, ?_⟩ ?_ ?_
    · walk_at "mine fr"
    · intro pre
      refine all_prod ?_
      intro x y post v₁ v₂ m₁ tl ws k s₁ h tk I oI hx D1 D2
      refine el_int D1 ?_
      refine el_int D2 ?_
      clear D1 D2
      intro t8 t9 hIf hO hD hps F3 N3
      clear F1 N2
      (refine Exists.elim hps ?_; clear hps; intro t1 hps; refine Exists.elim hps ?_; clear hps; intro t2 hps)
      have hws : ws.length ≤ 4000 := by
        have h1 := hD.length
        have h2 := add_len pre ⟨[], false, lo, hi⟩
        have h3 : pre.length ≤ sp.length := by rw [hx, List.length_append]; lia
        simp only [List.length_map, List.length_nil] at h1 h2
        lia
      generalize pre.foldl addStep ⟨[], false, lo, hi⟩ = st at hD hps ⊢
      revert hD hps
      refine el_st st ?_
      intro fd pt lo' hi' hD hps
      dsimp only at hD hps
      replace F3 := fr_kv hps F3
      cases pt
      all_goals k_steps
      all_goals (
        rename Fr _ _ _ _ => F4
        rename News _ _ _ _ => N4
        (try simp only [List.push_toArray] at N4)
        (first
          | rw [addStep_1 (by assumption)]
          | rw [addStep_2 (by assumption) (by assumption)]
          | rw [addStep_3 (by assumption) (by assumption)]
          | rw [addStep_4 (by assumption) (by assumption)]
          | fail "addStep")
        dsimp only
        (first
          | refine' bEnd [] F4 N4 ?hA ?hD ⟨_, _, by walk_at "mine fr"⟩
          | refine' bEnd [_] F4 N4 ?hA ?hD ⟨_, _, by walk_at "mine fr"⟩
          | refine' bEnd [_, _] F4 N4 ?hA ?hD ⟨_, _, by walk_at "mine fr"⟩
          | fail "bEnd")
        case hA => walk_at "mine hA"
        case hD => ((try simp only [List.map_append, List.map_cons, List.map_nil]); kqd_all))
    · intro m₁ tl ws k h tk hD hps hO hlt F3 N3
      (refine Exists.elim hps ?_; clear hps; intro t1 hps; refine Exists.elim hps ?_; clear hps; intro t2 hps)
      have hws : ws.length ≤ 4000 := by
        have h1 := hD.length
        have h2 := add_len sp ⟨[], false, lo, hi⟩
        simp only [List.length_map, List.length_nil] at h1 h2
        lia
      have he : addL sp lo hi = if (sp.foldl addStep ⟨[], false, lo, hi⟩).put then (sp.foldl addStep ⟨[], false, lo, hi⟩).found else (sp.foldl addStep ⟨[], false, lo, hi⟩).found ++ [((sp.foldl addStep ⟨[], false, lo, hi⟩).lo, (sp.foldl addStep ⟨[], false, lo, hi⟩).hi)] := by
        unfold addL
        rw [if_neg (by assumption)]
      generalize sp.foldl addStep ⟨[], false, lo, hi⟩ = st at hD hps he ⊢
      revert hD hps he
      refine el_st st ?_
      intro fd pt lo' hi' hD hps he
      dsimp only at hD hps he
      replace F3 := fr_kv0 hps F3
      clear F1 N2
      cases pt
      all_goals k_steps
      all_goals (
        rename Fr _ _ _ _ => kF
        rename News _ _ _ _ => kN)
      · rw [if_neg (by decide)] at he
        have hfa' := allLt_of hfa
        refine ret _ (_ :: _ :: _ :: (fa, W.listOf ws.toArray k) :: tl) _ _ kF kN (by walk_at "mine fresh") (DatIn.list (.head _) (by rw [he, List.map_append, List.map_cons, List.map_nil]; kqd_all))
      · rw [if_pos rfl] at he
        have hfa' := allLt_of hfa
        refine ret _ ((fa, W.listOf ws.toArray k) :: tl) _ _ kF kN (by walk_at "mine fresh") (DatIn.list (.head _) (by rw [he]; kqd_all))
end add_span_c_k
section
variable {w : World} {p : Program} {loose : List Str} {mean : ExcName → Option Value} {mg mb : Str → Option Value} {dp un : Nat} {gd : Option (List Code)} {cn : Str} {cs : Scope} {a : Addr} {ccd : Value} {cl : List (Str × Addr)} {outer : List Env} {A₀ : Around} {base h₀ : Heap} {L : Addr} {m : Str → Option Value} {R T : List (Addr × Obj)} {s : Shared} {v : Value} {Q E : Value → Shared → Prop}
theorem add_span_c {sp : List (Int × Int)} {lo hi : Int} {t u : Tok} :
  add_span_c_k.St w p loose mean mg mb dp un gd cn cs a ccd cl outer A₀ base h₀ L m R T s Q E sp t u v lo hi := all_eps (S := add_span_c_k.S) add_span_c_k.walk ((w, p, loose, mean, mg, mb, dp, un, gd, cn, cs, a, ccd, cl, outer, A₀, base, h₀, L, m, R, T, s, (cx_v cx0), Q, E), fn [t, u] default, fn [] default, fn [] default, fn [] default, fn [sp] [], fn [] #[], fn [] []) v lo hi
end
end Mine

namespace Mine
section
variable {w : World} {p : Program} {loose : List Str} {mean : ExcName → Option Value} {mg mb : Str → Option Value} {dp un : Nat} {gd : Option (List Code)} {cn : Str} {cs : Scope} {a : Addr} {ccd : Value} {cl : List (Str × Addr)} {outer : List Env} {A₀ : Around} {base h₀ : Heap} {L : Addr} {m : Str → Option Value} {R T : List (Addr × Obj)} {s : Shared} {v : Value} {Q E : Value → Shared → Prop}
noncomputable def firstL (sp : List (Int × Int)) (most : Int) : Option (Int × Int) := match sp with
  | [] => none
  | q :: _ => some (q.1, pmin q.2 (q.1 + most))
noncomputable def OptIn (T : List (Addr × Obj)) (r : Value) : Option (Int × Int) → Prop
  | none => r = .none
  | some q => DatIn T r (prD q)
end
namespace first_span_c_k
noncomputable def St (w : World) (p : Program) (loose : List Str) (mean : ExcName → Option Value) (mg : Str → Option Value) (mb : Str → Option Value) (dp : Nat) (un : Nat) (gd : Option (List Code)) (cn : Str) (cs : Scope) (a : Addr) (ccd : Value) (cl : List (Str × Addr)) (outer : List Env) (A₀ : Around) (base : Heap) (h₀ : Heap) (L : Addr) (m : Str → Option Value) (R : List (Addr × Obj)) (T : List (Addr × Obj)) (s : Shared) (Q : Value → Shared → Prop) (E : Value → Shared → Prop) (t : Tok) (v : Value) (sp : List (Int × Int)) (most : Int) : Prop := ∀ (B : Below A₀ base outer h₀) (F : Fr h₀ L s.heap m) (X : (hd.heap_1 w.params).In h₀) (N : News h₀ L s.heap R) (Tp : Top p loose mean mg mb h₀) (hk : cs.kind = .function) (hTR : ∀ p ∈ T, p ∈ R) (hv : DatIn T v (spD sp)) (hsp : sp.length ≤ 1000) (hmo : 0 < most) (hdp : dp + 1 < recursionLimit) (hun : un + 100 < cLine) (ret : ∀ r tl h' tk', Fr h₀ L h' m → News h₀ L h' (tl ++ R) → Apart R tl → OptIn (tl ++ T) r (firstL sp most) → Q r { s with heap := h', toks := tk' }),
  wpAny (model P0 w) (ktrTop dp un gd cn cs L a ccd cl outer) (call (.ref 81) [v, .int most t]) Q E s
noncomputable def S (c : CxF) : Prop := ∀ (v : Value) (sp : List (Int × Int)) (most : Int), St (cx_w (c).1) (cx_p (c).1) (cx_loose (c).1) (cx_mean (c).1) (cx_mg (c).1) (cx_mb (c).1) (cx_dp (c).1) (cx_un (c).1) (cx_gd (c).1) (cx_cn (c).1) (cx_cs (c).1) (cx_a (c).1) (cx_ccd (c).1) (cx_cl (c).1) (cx_outer (c).1) (cx_A₀ (c).1) (cx_base (c).1) (cx_h₀ (c).1) (cx_L (c).1) (cx_m (c).1) (cx_R (c).1) (cx_T (c).1) (cx_s (c).1) (cx_Q (c).1) (cx_E (c).1) (cx_tok c 0) v sp most
noncomputable def kx9 : CxF := @Classical.epsilon (CxF) ne_cxf fun c => ¬ S c
set_option maxRecDepth 100000 in
set_option maxHeartbeats 8000000 in
theorem walk : S kx9 := by
  show ∀ (v : Value) (sp : List (Int × Int)) (most : Int), St (cx_w (kx9).1) (cx_p (kx9).1) (cx_loose (kx9).1) (cx_mean (kx9).1) (cx_mg (kx9).1) (cx_mb (kx9).1) (cx_dp (kx9).1) (cx_un (kx9).1) (cx_gd (kx9).1) (cx_cn (kx9).1) (cx_cs (kx9).1) (cx_a (kx9).1) (cx_ccd (kx9).1) (cx_cl (kx9).1) (cx_outer (kx9).1) (cx_A₀ (kx9).1) (cx_base (kx9).1) (cx_h₀ (kx9).1) (cx_L (kx9).1) (cx_m (kx9).1) (cx_R (kx9).1) (cx_T (kx9).1) (cx_s (kx9).1) (cx_Q (kx9).1) (cx_E (kx9).1) (cx_tok kx9 0) v sp most
  generalize (cx_w (kx9).1) = w, (cx_p (kx9).1) = p, (cx_loose (kx9).1) = loose, (cx_mean (kx9).1) = mean, (cx_mg (kx9).1) = mg, (cx_mb (kx9).1) = mb, (cx_dp (kx9).1) = dp, (cx_un (kx9).1) = un, (cx_gd (kx9).1) = gd, (cx_cn (kx9).1) = cn, (cx_cs (kx9).1) = cs, (cx_a (kx9).1) = a, (cx_ccd (kx9).1) = ccd, (cx_cl (kx9).1) = cl, (cx_outer (kx9).1) = outer, (cx_A₀ (kx9).1) = A₀, (cx_base (kx9).1) = base, (cx_h₀ (kx9).1) = h₀, (cx_L (kx9).1) = L, (cx_m (kx9).1) = m, (cx_R (kx9).1) = R, (cx_T (kx9).1) = T, (cx_s (kx9).1) = s, (cx_Q (kx9).1) = Q, (cx_E (kx9).1) = E, (cx_tok kx9 0) = t
  intro v sp most
  delta St
  intro B F X N Tp hk hTR hv hsp hmo hdp hun ret
  refine el_list hv ?_
  clear hv
  intro va vs n hmem hall
  have hvl : vs.length ≤ 1000 := by rw [hall.length, List.length_map]; exact hsp
  have hmemR := hTR _ hmem
  refine wpAny_call ?_
  k_dflt ktr_enter
  rename Fr _ _ _ _ => F1
  have F2 : Fr _ _ _ (fun y => List.lookup y [(Str.ofString "most", Value.int most t), (Str.ofString "spans", Value.ref _)]) := F1
  clear F1
  revert hall hsp hvl ret
  refine el_lst sp ?_ ?_
  · intro hsp ret hall hvl
    revert hmem hmemR
    refine el_nil hall ?_
    clear hall
    intro hmem hmemR
    k_steps
    rename Fr _ _ _ _ => kF
    rename News _ _ _ _ => kN
    exact ret _ [] _ _ kF kN Apart.nil rfl
  · refine all_prod ?_
    intro x y sp8 hsp ret hall hvl
    rw [List.map_cons] at hall
    revert hmem hmemR hvl
    refine el_cons hall ?_
    clear hall
    intro w1 ws hw1 hr
    refine el_pair hw1 ?_
    clear hw1
    intro pa p1 p2 pn hmt hmem hmemR hvl
    have hmtR := hTR _ hmt
    simp only [List.length_cons] at hvl
    k_steps
    · exfalso
      rename (_ = (0 : Int)) => hz
      simp only [List.length_cons] at hz
      lia
    · rename Fr _ _ _ _ => kF
      rename News _ _ _ _ => kN
      rename ∀ p ∈ R, p.1 < _ => hlt
      have hlt' := allLt_of hlt
      exact ret _ [_] _ _ kF kN (by walk_at "mine fresh") (prIn (.head _))
end first_span_c_k
section
variable {w : World} {p : Program} {loose : List Str} {mean : ExcName → Option Value} {mg mb : Str → Option Value} {dp un : Nat} {gd : Option (List Code)} {cn : Str} {cs : Scope} {a : Addr} {ccd : Value} {cl : List (Str × Addr)} {outer : List Env} {A₀ : Around} {base h₀ : Heap} {L : Addr} {m : Str → Option Value} {R T : List (Addr × Obj)} {s : Shared} {v : Value} {Q E : Value → Shared → Prop}
theorem first_span_c {sp : List (Int × Int)} {most : Int} {t : Tok} :
  first_span_c_k.St w p loose mean mg mb dp un gd cn cs a ccd cl outer A₀ base h₀ L m R T s Q E t v sp most := all_eps (S := first_span_c_k.S) first_span_c_k.walk ((w, p, loose, mean, mg, mb, dp, un, gd, cn, cs, a, ccd, cl, outer, A₀, base, h₀, L, m, R, T, s, (cx_v cx0), Q, E), fn [t] default, fn [] default, fn [] default, fn [] default, fn [] [], fn [] #[], fn [] []) v sp most
end
end Mine

namespace Mine
section
variable {w : World} {p : Program} {loose : List Str} {mean : ExcName → Option Value} {mg mb : Str → Option Value} {dp un : Nat} {gd : Option (List Code)} {cn : Str} {cs : Scope} {a : Addr} {ccd : Value} {cl : List (Str × Addr)} {outer : List Env} {A₀ : Around} {base h₀ : Heap} {L : Addr} {m : Str → Option Value} {R T : List (Addr × Obj)} {s : Shared} {v : Value} {Q E : Value → Shared → Prop}
noncomputable def withoutL (sp others : List (Int × Int)) : List (Int × Int) := others.foldl (fun f q => cutL f q.1 q.2) sp
end
namespace without_spans_c_k
noncomputable def St (w : World) (p : Program) (loose : List Str) (mean : ExcName → Option Value) (mg : Str → Option Value) (mb : Str → Option Value) (dp : Nat) (un : Nat) (gd : Option (List Code)) (cn : Str) (cs : Scope) (a : Addr) (ccd : Value) (cl : List (Str × Addr)) (outer : List Env) (A₀ : Around) (base : Heap) (h₀ : Heap) (L : Addr) (m : Str → Option Value) (R : List (Addr × Obj)) (T : List (Addr × Obj)) (s : Shared) (Q : Value → Shared → Prop) (E : Value → Shared → Prop) (sp : List (Int × Int)) (ot : List (Int × Int)) (v : Value) (v₂ : Value) : Prop := ∀ (B : Below A₀ base outer h₀) (F : Fr h₀ L s.heap m) (X : (hd.heap_1 w.params).In h₀) (N : News h₀ L s.heap R) (Tp : Top p loose mean mg mb h₀) (hk : cs.kind = .function) (hTR : ∀ p ∈ T, p ∈ R) (hv : DatIn T v (spD sp)) (hv2 : DatIn T v₂ (spD ot)) (hsp : ∀ i, (withoutL sp (ot.take i)).length ≤ 1000) (hot : ∀ q ∈ ot, q.1 < q.2) (hdp : dp + 2 < recursionLimit) (hun : un + 200 < cLine) (ret : ∀ r tl h' tk', Fr h₀ L h' m → News h₀ L h' (tl ++ R) → Apart R tl → DatIn (tl ++ T) r (spD (withoutL sp ot)) → Q r { s with heap := h', toks := tk' }),
  wpAny (model P0 w) (ktrTop dp un gd cn cs L a ccd cl outer) (call (.ref 93) [v, v₂]) Q E s
noncomputable def S (c : CxF) : Prop := ∀ (v : Value) (v₂ : Value), St (cx_w (c).1) (cx_p (c).1) (cx_loose (c).1) (cx_mean (c).1) (cx_mg (c).1) (cx_mb (c).1) (cx_dp (c).1) (cx_un (c).1) (cx_gd (c).1) (cx_cn (c).1) (cx_cs (c).1) (cx_a (c).1) (cx_ccd (c).1) (cx_cl (c).1) (cx_outer (c).1) (cx_A₀ (c).1) (cx_base (c).1) (cx_h₀ (c).1) (cx_L (c).1) (cx_m (c).1) (cx_R (c).1) (cx_T (c).1) (cx_s (c).1) (cx_Q (c).1) (cx_E (c).1) (cx_sps c 0) (cx_sps c 1) v v₂
noncomputable def kx9 : CxF := @Classical.epsilon (CxF) ne_cxf fun c => ¬ S c
set_option maxRecDepth 100000 in
set_option maxHeartbeats 8000000 in
theorem walk : S kx9 := by
  show ∀ (v : Value) (v₂ : Value), St (cx_w (kx9).1) (cx_p (kx9).1) (cx_loose (kx9).1) (cx_mean (kx9).1) (cx_mg (kx9).1) (cx_mb (kx9).1) (cx_dp (kx9).1) (cx_un (kx9).1) (cx_gd (kx9).1) (cx_cn (kx9).1) (cx_cs (kx9).1) (cx_a (kx9).1) (cx_ccd (kx9).1) (cx_cl (kx9).1) (cx_outer (kx9).1) (cx_A₀ (kx9).1) (cx_base (kx9).1) (cx_h₀ (kx9).1) (cx_L (kx9).1) (cx_m (kx9).1) (cx_R (kx9).1) (cx_T (kx9).1) (cx_s (kx9).1) (cx_Q (kx9).1) (cx_E (kx9).1) (cx_sps kx9 0) (cx_sps kx9 1) v v₂
  generalize (cx_w (kx9).1) = w, (cx_p (kx9).1) = p, (cx_loose (kx9).1) = loose, (cx_mean (kx9).1) = mean, (cx_mg (kx9).1) = mg, (cx_mb (kx9).1) = mb, (cx_dp (kx9).1) = dp, (cx_un (kx9).1) = un, (cx_gd (kx9).1) = gd, (cx_cn (kx9).1) = cn, (cx_cs (kx9).1) = cs, (cx_a (kx9).1) = a, (cx_ccd (kx9).1) = ccd, (cx_cl (kx9).1) = cl, (cx_outer (kx9).1) = outer, (cx_A₀ (kx9).1) = A₀, (cx_base (kx9).1) = base, (cx_h₀ (kx9).1) = h₀, (cx_L (kx9).1) = L, (cx_m (kx9).1) = m, (cx_R (kx9).1) = R, (cx_T (kx9).1) = T, (cx_s (kx9).1) = s, (cx_Q (kx9).1) = Q, (cx_E (kx9).1) = E, (cx_sps kx9 0) = sp, (cx_sps kx9 1) = ot
  intro v v₂
  delta St
  intro B F X N Tp hk hTR hv hv2 hsp hot hdp hun ret
  refine el_list hv ?_
  clear hv
  intro va vs n hmem hall
  refine el_list hv2 ?_
  clear hv2
  intro vo ws k hmem2 hall2
  have hvl : vs.length ≤ 1000 := by rw [hall.length, List.length_map]; exact hsp 0
  have hmemR := hTR _ hmem
  have hmemR2 := hTR _ hmem2
  refine wpAny_call ?_
  k_dflt ktr_enter
  rename Fr _ _ _ _ => F1
  have F2 : Fr _ _ _ (fun y => List.lookup y [(Str.ofString "others", Value.ref _), (Str.ofString "spans", Value.ref _)]) := F1
  clear F1
  k_steps
  rename Fr _ _ _ _ => F1
  rename News _ _ _ _ => N1
  refine For_invTF F1 ?_ (by intro _; rfl)
  k_steps
  rename_i g L1 h1 FG B1 X1 T1 fa kc h2 hfa h3
  have N2 : News g L1 h3 (([] : List (Addr × Obj)) ++ ([(fa, W.listOf vs.toArray kc)] ++ R)) := N1
  clear N1
  refine mut_pairs [] (fun q : Int × Int => (Dat.int q.1, Dat.int q.2)) ot (fun f q => cutL f q.1 q.2) sp
    (fun st TT M m => M = [] ∧ ∃ v', DatIn TT v' (spD st) ∧ ∀ p ∈ [(Str.ofString "found", v')], m p.1 = some p.2)
    rfl rfl rfl rfl (List.mem_append.mpr (.inr hmem2)) (hall2.mono ?_) hTR F1 N2 rfl (fun _ _ _ hb => (nomatch hb)) ?_ ⟨rfl, Value.ref fa, DatIn.list (List.mem_append.mpr (.inl (.head _))) (hall.mono ?_), by walk_at "mine fr"⟩ ?_ ?_
  · kqd_sub
  · intro q hq p hp
    rw [List.mem_singleton.mp hp]
    exact Nat.ne_of_lt (hfa q hq)
  · kqd_sub
  · intro pre
    refine all_prod ?_
    intro x y post v₁ v₂ m₁ tl M s₁ h tk I oI hx D1 D2
    dsimp only at D1 D2
    refine el_int D1 ?_
    refine el_int D2 ?_
    clear D1 D2
    intro t8 t9 hI hM hO ⟨e9, hv9⟩ F3 N3
    subst e9
    (refine Exists.elim hv9 ?_; clear hv9; intro v' hv9)
    obtain ⟨hv', hps⟩ := hv9
    clear F1 N2
    replace F3 := fr_kv hps F3
    rw [List.nil_append] at N3
    have hpre : ot.take pre.length = pre := by rw [hx]; simp
    have hle := hsp pre.length
    rw [hpre] at hle
    have hlt := hot (x, y) (by rw [hx]; simp)
    k_steps
    unfold Held
    k_dflt (refine' cut_span_c (T := tl ++ T) ?B ?F ?X ?N ?Tp rfl ?hT hv' hle hlt ?hd ?hu ?_)
    case B => k_asm
    case F => k_asm
    case X => k_asm
    case N => k_asm
    case Tp => k_asm
    case hT => (intro p hp; refine .tail _ ?_; rcases List.mem_append.mp hp with hp | hp; exact List.mem_append.mpr (.inl hp); exact List.mem_append.mpr (.inr (hTR p hp)))
    case hd => walk_at "mine room"
    case hu => walk_at "mine room"
    intro r tl2 h' tk' kF kN hf hr
    k_steps
    rename Fr _ _ _ _ => F4
    rename News _ _ _ _ => N4
    refine mEnd tl2 [] F4 N4 rfl hf ⟨rfl, r, hr, ?_⟩

    walk_at "mine fr"
  · intro m₁ tl M h tk ⟨e9, hv9⟩ hM hO hlt F3 N3
    subst e9
    (refine Exists.elim hv9 ?_; clear hv9; intro v' hv9)
    obtain ⟨hv', hps⟩ := hv9
    replace F3 := fr_kv0 hps F3
    clear F1 N2
    k_steps
    rename Fr _ _ _ _ => kF
    rename News _ _ _ _ => kN
    exact ret _ tl _ _ kF kN hlt hv'
end without_spans_c_k
section
variable {w : World} {p : Program} {loose : List Str} {mean : ExcName → Option Value} {mg mb : Str → Option Value} {dp un : Nat} {gd : Option (List Code)} {cn : Str} {cs : Scope} {a : Addr} {ccd : Value} {cl : List (Str × Addr)} {outer : List Env} {A₀ : Around} {base h₀ : Heap} {L : Addr} {m : Str → Option Value} {R T : List (Addr × Obj)} {s : Shared} {v : Value} {Q E : Value → Shared → Prop}
theorem without_spans_c {sp ot : List (Int × Int)} {v₂ : Value} :
  without_spans_c_k.St w p loose mean mg mb dp un gd cn cs a ccd cl outer A₀ base h₀ L m R T s Q E sp ot v v₂ := all_eps (S := without_spans_c_k.S) without_spans_c_k.walk ((w, p, loose, mean, mg, mb, dp, un, gd, cn, cs, a, ccd, cl, outer, A₀, base, h₀, L, m, R, T, s, (cx_v cx0), Q, E), fn [] default, fn [] default, fn [] default, fn [] default, fn [sp, ot] [], fn [] #[], fn [] []) v v₂
end
end Mine

namespace Mine
section
variable {w : World} {p : Program} {loose : List Str} {mean : ExcName → Option Value} {mg mb : Str → Option Value} {dp un : Nat} {gd : Option (List Code)} {cn : Str} {cs : Scope} {a : Addr} {ccd : Value} {cl : List (Str × Addr)} {outer : List Env} {A₀ : Around} {base h₀ : Heap} {L : Addr} {m : Str → Option Value} {R T : List (Addr × Obj)} {s : Shared} {v : Value} {Q E : Value → Shared → Prop}
noncomputable def coveredL (ps : List (Int × Array UInt8)) : List (Int × Int) := ps.map fun q => (q.1, q.1 + (q.2.size : Int))
noncomputable def countL (sp : List (Int × Int)) : Int := (sp.map fun q => q.2 - q.1).sum
end
namespace covered_c_k
noncomputable def St (w : World) (p : Program) (loose : List Str) (mean : ExcName → Option Value) (mg : Str → Option Value) (mb : Str → Option Value) (dp : Nat) (un : Nat) (gd : Option (List Code)) (cn : Str) (cs : Scope) (a : Addr) (ccd : Value) (cl : List (Str × Addr)) (outer : List Env) (A₀ : Around) (base : Heap) (h₀ : Heap) (L : Addr) (m : Str → Option Value) (R : List (Addr × Obj)) (T : List (Addr × Obj)) (s : Shared) (Q : Value → Shared → Prop) (E : Value → Shared → Prop) (ps : List (Int × Array UInt8)) (v : Value) : Prop := ∀ (B : Below A₀ base outer h₀) (F : Fr h₀ L s.heap m) (X : (hd.heap_1 w.params).In h₀) (N : News h₀ L s.heap R) (Tp : Top p loose mean mg mb h₀) (hk : cs.kind = .function) (hTR : ∀ p ∈ T, p ∈ R) (hv : DatIn T v (pcsD ps)) (hsp : ps.length ≤ 1000) (hsz : ∀ q ∈ ps, q.2.size ≤ 1000) (hdp : dp + 2 < recursionLimit) (hun : un + 100 < cLine) (ret : ∀ r tl h' tk', Fr h₀ L h' m → News h₀ L h' (tl ++ R) → Apart R tl → DatIn (tl ++ T) r (spD (coveredL ps)) → Q r { s with heap := h', toks := tk' }),
  wpAny (model P0 w) (ktrTop dp un gd cn cs L a ccd cl outer) (call (.ref 53) [v]) Q E s
noncomputable def S (c : CxF) : Prop := ∀ (v : Value), St (cx_w (c).1) (cx_p (c).1) (cx_loose (c).1) (cx_mean (c).1) (cx_mg (c).1) (cx_mb (c).1) (cx_dp (c).1) (cx_un (c).1) (cx_gd (c).1) (cx_cn (c).1) (cx_cs (c).1) (cx_a (c).1) (cx_ccd (c).1) (cx_cl (c).1) (cx_outer (c).1) (cx_A₀ (c).1) (cx_base (c).1) (cx_h₀ (c).1) (cx_L (c).1) (cx_m (c).1) (cx_R (c).1) (cx_T (c).1) (cx_s (c).1) (cx_Q (c).1) (cx_E (c).1) (cx_pcs c 0) v
noncomputable def kx9 : CxF := @Classical.epsilon (CxF) ne_cxf fun c => ¬ S c
set_option maxRecDepth 100000 in
set_option maxHeartbeats 8000000 in
theorem walk : S kx9 := by
  show ∀ (v : Value), St (cx_w (kx9).1) (cx_p (kx9).1) (cx_loose (kx9).1) (cx_mean (kx9).1) (cx_mg (kx9).1) (cx_mb (kx9).1) (cx_dp (kx9).1) (cx_un (kx9).1) (cx_gd (kx9).1) (cx_cn (kx9).1) (cx_cs (kx9).1) (cx_a (kx9).1) (cx_ccd (kx9).1) (cx_cl (kx9).1) (cx_outer (kx9).1) (cx_A₀ (kx9).1) (cx_base (kx9).1) (cx_h₀ (kx9).1) (cx_L (kx9).1) (cx_m (kx9).1) (cx_R (kx9).1) (cx_T (kx9).1) (cx_s (kx9).1) (cx_Q (kx9).1) (cx_E (kx9).1) (cx_pcs kx9 0) v
  generalize (cx_w (kx9).1) = w, (cx_p (kx9).1) = p, (cx_loose (kx9).1) = loose, (cx_mean (kx9).1) = mean, (cx_mg (kx9).1) = mg, (cx_mb (kx9).1) = mb, (cx_dp (kx9).1) = dp, (cx_un (kx9).1) = un, (cx_gd (kx9).1) = gd, (cx_cn (kx9).1) = cn, (cx_cs (kx9).1) = cs, (cx_a (kx9).1) = a, (cx_ccd (kx9).1) = ccd, (cx_cl (kx9).1) = cl, (cx_outer (kx9).1) = outer, (cx_A₀ (kx9).1) = A₀, (cx_base (kx9).1) = base, (cx_h₀ (kx9).1) = h₀, (cx_L (kx9).1) = L, (cx_m (kx9).1) = m, (cx_R (kx9).1) = R, (cx_T (kx9).1) = T, (cx_s (kx9).1) = s, (cx_Q (kx9).1) = Q, (cx_E (kx9).1) = E, (cx_pcs kx9 0) = ps
  intro v
  delta St
  intro B F X N Tp hk hTR hv hsp hsz hdp hun ret
  refine el_list hv ?_
  clear hv
  intro va vs n hmem hall
  have hvl : vs.length ≤ 1000 := by rw [hall.length, List.length_map]; exact hsp
  have hmemR := hTR _ hmem
  refine wpAny_call ?_
  k_dflt ktr_enter
  rename Fr _ _ _ _ => F1
  have F2 : Fr _ _ _ (fun y => List.lookup y [(Str.ofString "pieces", Value.ref _)]) := F1
  clear F1
  k_steps
  unfold Held
  k_dflt (refine LCp.ListComp_P (F₀ := by k_asm) (by with_unfolding_all rfl) (by decide) (by rfl) (by decide) (by rfl) (by rfl) (by decide) ?_)
  k_steps
  refine LCp.SrcLP.ledger rfl (by k_asm) (by k_asm) hmemR (by simp only [PySem.sizeLine_eq, List.size_toArray]; lia) ?_
  intro g
  refine comp_pairs (fun q : Int × Array UInt8 => (Dat.int q.1, Dat.bytes q.2)) (fun q => prD (q.1, q.1 + (q.2.size : Int))) ps hmem hall hTR ?_ ?_
  · refine all_prod ?_
    intro x y v₁ v₂ ys adds I oI C oC D m₂ h tk E' ha D1 D2
    dsimp only at D1 D2
    refine el_int D1 ?_
    refine el_bytes D2 ?_
    clear D1 D2
    intro t8 t9 hC hx hx2 F3 N3
    have hy := hsz _ ha
    dsimp only at hy
    k_steps
    rename Fr _ _ _ _ => F4
    rename News _ _ _ _ => N4
    exact elEnd [_] F4 N4 (Apart.one (by assumption)) (prIn (.head _))
  · intro ys adds hD hA D h tk F4 N4 hO1
    k_steps
    rename Fr _ _ _ _ => kF
    rename News _ _ _ _ => kN
    refine ret _ ((D, LCg.lst ys) :: adds) _ _ kF kN (apart_off hA hO1) (DatIn.list (.head _) ?_)
    unfold coveredL
    rw [List.map_map]
    exact DatAll.mono (fun p hp => .tail _ hp) hD
end covered_c_k
section
variable {w : World} {p : Program} {loose : List Str} {mean : ExcName → Option Value} {mg mb : Str → Option Value} {dp un : Nat} {gd : Option (List Code)} {cn : Str} {cs : Scope} {a : Addr} {ccd : Value} {cl : List (Str × Addr)} {outer : List Env} {A₀ : Around} {base h₀ : Heap} {L : Addr} {m : Str → Option Value} {R T : List (Addr × Obj)} {s : Shared} {v : Value} {Q E : Value → Shared → Prop}
theorem covered_c {ps : List (Int × Array UInt8)} :
  covered_c_k.St w p loose mean mg mb dp un gd cn cs a ccd cl outer A₀ base h₀ L m R T s Q E ps v := all_eps (S := covered_c_k.S) covered_c_k.walk ((w, p, loose, mean, mg, mb, dp, un, gd, cn, cs, a, ccd, cl, outer, A₀, base, h₀, L, m, R, T, s, (cx_v cx0), Q, E), fn [] default, fn [] default, fn [] default, fn [] default, fn [] [], fn [] #[], fn [ps] []) v
end
namespace span_count_c_k
noncomputable def St (w : World) (p : Program) (loose : List Str) (mean : ExcName → Option Value) (mg : Str → Option Value) (mb : Str → Option Value) (dp : Nat) (un : Nat) (gd : Option (List Code)) (cn : Str) (cs : Scope) (a : Addr) (ccd : Value) (cl : List (Str × Addr)) (outer : List Env) (A₀ : Around) (base : Heap) (h₀ : Heap) (L : Addr) (m : Str → Option Value) (R : List (Addr × Obj)) (T : List (Addr × Obj)) (s : Shared) (Q : Value → Shared → Prop) (E : Value → Shared → Prop) (sp : List (Int × Int)) (v : Value) : Prop := ∀ (B : Below A₀ base outer h₀) (F : Fr h₀ L s.heap m) (X : (hd.heap_1 w.params).In h₀) (N : News h₀ L s.heap R) (Tp : Top p loose mean mg mb h₀) (hk : cs.kind = .function) (hTR : ∀ p ∈ T, p ∈ R) (hv : DatIn T v (spD sp)) (hsp : sp.length ≤ 1000) (hdp : dp + 2 < recursionLimit) (hun : un + 100 < cLine) (ret : ∀ tl h' tk' t', Fr h₀ L h' m → News h₀ L h' (tl ++ R) → Apart R tl → Q (.int (countL sp) t') { s with heap := h', toks := tk' }),
  wpAny (model P0 w) (ktrTop dp un gd cn cs L a ccd cl outer) (call (.ref 86) [v]) Q E s
noncomputable def S (c : CxF) : Prop := ∀ (v : Value), St (cx_w (c).1) (cx_p (c).1) (cx_loose (c).1) (cx_mean (c).1) (cx_mg (c).1) (cx_mb (c).1) (cx_dp (c).1) (cx_un (c).1) (cx_gd (c).1) (cx_cn (c).1) (cx_cs (c).1) (cx_a (c).1) (cx_ccd (c).1) (cx_cl (c).1) (cx_outer (c).1) (cx_A₀ (c).1) (cx_base (c).1) (cx_h₀ (c).1) (cx_L (c).1) (cx_m (c).1) (cx_R (c).1) (cx_T (c).1) (cx_s (c).1) (cx_Q (c).1) (cx_E (c).1) (cx_sps c 0) v
noncomputable def kx9 : CxF := @Classical.epsilon (CxF) ne_cxf fun c => ¬ S c
set_option maxRecDepth 100000 in
set_option maxHeartbeats 8000000 in
theorem walk : S kx9 := by
  show ∀ (v : Value), St (cx_w (kx9).1) (cx_p (kx9).1) (cx_loose (kx9).1) (cx_mean (kx9).1) (cx_mg (kx9).1) (cx_mb (kx9).1) (cx_dp (kx9).1) (cx_un (kx9).1) (cx_gd (kx9).1) (cx_cn (kx9).1) (cx_cs (kx9).1) (cx_a (kx9).1) (cx_ccd (kx9).1) (cx_cl (kx9).1) (cx_outer (kx9).1) (cx_A₀ (kx9).1) (cx_base (kx9).1) (cx_h₀ (kx9).1) (cx_L (kx9).1) (cx_m (kx9).1) (cx_R (kx9).1) (cx_T (kx9).1) (cx_s (kx9).1) (cx_Q (kx9).1) (cx_E (kx9).1) (cx_sps kx9 0) v
  generalize (cx_w (kx9).1) = w, (cx_p (kx9).1) = p, (cx_loose (kx9).1) = loose, (cx_mean (kx9).1) = mean, (cx_mg (kx9).1) = mg, (cx_mb (kx9).1) = mb, (cx_dp (kx9).1) = dp, (cx_un (kx9).1) = un, (cx_gd (kx9).1) = gd, (cx_cn (kx9).1) = cn, (cx_cs (kx9).1) = cs, (cx_a (kx9).1) = a, (cx_ccd (kx9).1) = ccd, (cx_cl (kx9).1) = cl, (cx_outer (kx9).1) = outer, (cx_A₀ (kx9).1) = A₀, (cx_base (kx9).1) = base, (cx_h₀ (kx9).1) = h₀, (cx_L (kx9).1) = L, (cx_m (kx9).1) = m, (cx_R (kx9).1) = R, (cx_T (kx9).1) = T, (cx_s (kx9).1) = s, (cx_Q (kx9).1) = Q, (cx_E (kx9).1) = E, (cx_sps kx9 0) = sp
  intro v
  delta St
  intro B F X N Tp hk hTR hv hsp hdp hun ret
  refine el_list hv ?_
  clear hv
  intro va vs n hmem hall
  have hvl : vs.length ≤ 1000 := by rw [hall.length, List.length_map]; exact hsp
  have hmemR := hTR _ hmem
  refine wpAny_call ?_
  k_dflt ktr_enter
  rename Fr _ _ _ _ => F1
  have F2 : Fr _ _ _ (fun y => List.lookup y [(Str.ofString "spans", Value.ref _)]) := F1
  clear F1
  k_steps
  unfold Held
  k_dflt (refine LCp.ListComp_P (F₀ := by k_asm) (by with_unfolding_all rfl) (by decide) (by rfl) (by decide) (by rfl) (by rfl) (by decide) ?_)
  k_steps
  refine LCp.SrcLP.ledger rfl (by k_asm) (by k_asm) hmemR (by simp only [PySem.sizeLine_eq, List.size_toArray]; lia) ?_
  intro g
  refine comp_pairs (fun q : Int × Int => (Dat.int q.1, Dat.int q.2)) (fun q => Dat.int (q.2 - q.1)) sp hmem hall hTR ?_ ?_
  · refine all_prod ?_
    intro x y v₁ v₂ ys adds I oI C oC D m₂ h tk E' ha D1 D2
    dsimp only at D1 D2
    refine el_int D1 ?_
    refine el_int D2 ?_
    clear D1 D2
    intro t8 t9 hC hx hx2 F3 N3
    k_steps
    exact elEnd [] F3 N3 Apart.nil (DatIn.int _ _)
  · intro ys adds hD hA D h tk F4 N4 hO1
    have hI : IntsAre ys (sp.map fun q => q.2 - q.1) := ints_of (T := adds ++ T) (by rw [List.map_map]; exact hD)
    k_steps
    rename Fr _ _ _ _ => kF
    rename News _ _ _ _ => kN
    exact ret ((D, LCg.lst ys) :: adds) _ _ _ kF kN (apart_off hA hO1)
end span_count_c_k
section
variable {w : World} {p : Program} {loose : List Str} {mean : ExcName → Option Value} {mg mb : Str → Option Value} {dp un : Nat} {gd : Option (List Code)} {cn : Str} {cs : Scope} {a : Addr} {ccd : Value} {cl : List (Str × Addr)} {outer : List Env} {A₀ : Around} {base h₀ : Heap} {L : Addr} {m : Str → Option Value} {R T : List (Addr × Obj)} {s : Shared} {v : Value} {Q E : Value → Shared → Prop}
theorem span_count_c {sp : List (Int × Int)} :
  span_count_c_k.St w p loose mean mg mb dp un gd cn cs a ccd cl outer A₀ base h₀ L m R T s Q E sp v := all_eps (S := span_count_c_k.S) span_count_c_k.walk ((w, p, loose, mean, mg, mb, dp, un, gd, cn, cs, a, ccd, cl, outer, A₀, base, h₀, L, m, R, T, s, (cx_v cx0), Q, E), fn [] default, fn [] default, fn [] default, fn [] default, fn [sp] [], fn [] #[], fn [] []) v
end
end Mine

namespace Mine
section
variable {w : World} {p : Program} {loose : List Str} {mean : ExcName → Option Value} {mg mb : Str → Option Value} {dp un : Nat} {gd : Option (List Code)} {cn : Str} {cs : Scope} {a : Addr} {ccd : Value} {cl : List (Str × Addr)} {outer : List Env} {A₀ : Around} {base h₀ : Heap} {L : Addr} {m : Str → Option Value} {R T : List (Addr × Obj)} {s : Shared} {v : Value} {Q E : Value → Shared → Prop}
end
namespace has_span_c_k
noncomputable def St (w : World) (p : Program) (loose : List Str) (mean : ExcName → Option Value) (mg : Str → Option Value) (mb : Str → Option Value) (dp : Nat) (un : Nat) (gd : Option (List Code)) (cn : Str) (cs : Scope) (a : Addr) (ccd : Value) (cl : List (Str × Addr)) (outer : List Env) (A₀ : Around) (base : Heap) (h₀ : Heap) (L : Addr) (m : Str → Option Value) (R : List (Addr × Obj)) (T : List (Addr × Obj)) (s : Shared) (Q : Value → Shared → Prop) (E : Value → Shared → Prop) (t : Tok) (u : Tok) (v : Value) (x : Int) (y : Int) (lo : Int) (hi : Int) : Prop := ∀ (B : Below A₀ base outer h₀) (F : Fr h₀ L s.heap m) (X : (hd.heap_1 w.params).In h₀) (N : News h₀ L s.heap R) (Tp : Top p loose mean mg mb h₀) (hk : cs.kind = .function) (hTR : ∀ p ∈ T, p ∈ R) (hv : DatIn T v (spD [(x, y)])) (hlh : lo < hi) (hx : x ≤ lo) (hy : hi ≤ y) (hdp : dp + 2 < recursionLimit) (hun : un + 100 < cLine) (ret : ∀ h' tk', Fr h₀ L h' m → News h₀ L h' R → Q (.bool true) { s with heap := h', toks := tk' }),
  wpAny (model P0 w) (ktrTop dp un gd cn cs L a ccd cl outer) (call (.ref 74) [v, .int lo t, .int hi u]) Q E s
noncomputable def S (c : CxF) : Prop := ∀ (v : Value) (x : Int) (y : Int) (lo : Int) (hi : Int), St (cx_w (c).1) (cx_p (c).1) (cx_loose (c).1) (cx_mean (c).1) (cx_mg (c).1) (cx_mb (c).1) (cx_dp (c).1) (cx_un (c).1) (cx_gd (c).1) (cx_cn (c).1) (cx_cs (c).1) (cx_a (c).1) (cx_ccd (c).1) (cx_cl (c).1) (cx_outer (c).1) (cx_A₀ (c).1) (cx_base (c).1) (cx_h₀ (c).1) (cx_L (c).1) (cx_m (c).1) (cx_R (c).1) (cx_T (c).1) (cx_s (c).1) (cx_Q (c).1) (cx_E (c).1) (cx_tok c 0) (cx_tok c 1) v x y lo hi
noncomputable def kx9 : CxF := @Classical.epsilon (CxF) ne_cxf fun c => ¬ S c
set_option maxRecDepth 100000 in
set_option maxHeartbeats 8000000 in
theorem walk : S kx9 := by
  show ∀ (v : Value) (x : Int) (y : Int) (lo : Int) (hi : Int), St (cx_w (kx9).1) (cx_p (kx9).1) (cx_loose (kx9).1) (cx_mean (kx9).1) (cx_mg (kx9).1) (cx_mb (kx9).1) (cx_dp (kx9).1) (cx_un (kx9).1) (cx_gd (kx9).1) (cx_cn (kx9).1) (cx_cs (kx9).1) (cx_a (kx9).1) (cx_ccd (kx9).1) (cx_cl (kx9).1) (cx_outer (kx9).1) (cx_A₀ (kx9).1) (cx_base (kx9).1) (cx_h₀ (kx9).1) (cx_L (kx9).1) (cx_m (kx9).1) (cx_R (kx9).1) (cx_T (kx9).1) (cx_s (kx9).1) (cx_Q (kx9).1) (cx_E (kx9).1) (cx_tok kx9 0) (cx_tok kx9 1) v x y lo hi
  generalize (cx_w (kx9).1) = w, (cx_p (kx9).1) = p, (cx_loose (kx9).1) = loose, (cx_mean (kx9).1) = mean, (cx_mg (kx9).1) = mg, (cx_mb (kx9).1) = mb, (cx_dp (kx9).1) = dp, (cx_un (kx9).1) = un, (cx_gd (kx9).1) = gd, (cx_cn (kx9).1) = cn, (cx_cs (kx9).1) = cs, (cx_a (kx9).1) = a, (cx_ccd (kx9).1) = ccd, (cx_cl (kx9).1) = cl, (cx_outer (kx9).1) = outer, (cx_A₀ (kx9).1) = A₀, (cx_base (kx9).1) = base, (cx_h₀ (kx9).1) = h₀, (cx_L (kx9).1) = L, (cx_m (kx9).1) = m, (cx_R (kx9).1) = R, (cx_T (kx9).1) = T, (cx_s (kx9).1) = s, (cx_Q (kx9).1) = Q, (cx_E (kx9).1) = E, (cx_tok kx9 0) = t, (cx_tok kx9 1) = u
  intro v x y lo hi
  delta St
  intro B F X N Tp hk hTR hv hlh hx hy hdp hun ret
  refine el_list hv ?_
  clear hv
  intro la vs n hmem hall
  have hmemR := hTR _ hmem
  revert hmem hmemR
  refine el_cons hall ?_
  clear hall
  intro va r hva hr
  refine el_nil hr ?_
  clear hr
  refine el_pair hva ?_
  clear hva
  intro pa p1 p2 pn hmt hmem hmemR
  have hmtR := hTR _ hmt
  refine wpAny_call ?_
  k_dflt ktr_enter
  rename Fr _ _ _ _ => F1
  have F2 : Fr _ _ _ (fun y => List.lookup y [(Str.ofString "high", Value.int hi u), (Str.ofString "low", Value.int lo t), (Str.ofString "spans", Value.ref _)]) := F1
  clear F1
  k_steps
  rename Fr _ _ _ _ => F1
  rename News _ _ _ _ => N1
  refine For_unrF F1 ?_ (by intro _; rfl)
  k_steps
  k_dflt (refine' Iter_list_unr ?k0 ?k1 ?k2 ?k3 ?k4 ?_)
  case k0 => rfl
  case k2 => exact F1
  case k3 => exact N1
  case k1 => exact isList_of N1 hmemR
  case k4 => exact (N1 _ hmemR).2.1
  refine Unr.succ ?_
  intro v h₁ tk₁ own hv hown F3 N3
  have hv' : v = _ := (Option.some.inj hv).symm
  subst hv'
  clear F1 N1 hv
  k_dflt (refine' assign_pair ?k0 ?k1 ?k2 ?k3 ?k4 ?k5 ?k6 ?_)
  case k0 => rfl
  case k1 => exact F3
  case k2 => exact N3
  case k3 => exact List.mem_append.mpr (.inr hmtR)
  case k4 => rfl
  case k5 => rfl
  case k6 => rfl
  intro h' tk' F4 N4
  clear F3 N3
  k_steps
  rename Fr _ _ _ _ => kF
  rename News _ _ _ _ => kN
  exact ret _ _ kF fun p hp => kN p (List.mem_append.mpr (.inr hp))
end has_span_c_k
section
variable {w : World} {p : Program} {loose : List Str} {mean : ExcName → Option Value} {mg mb : Str → Option Value} {dp un : Nat} {gd : Option (List Code)} {cn : Str} {cs : Scope} {a : Addr} {ccd : Value} {cl : List (Str × Addr)} {outer : List Env} {A₀ : Around} {base h₀ : Heap} {L : Addr} {m : Str → Option Value} {R T : List (Addr × Obj)} {s : Shared} {v : Value} {Q E : Value → Shared → Prop}
theorem has_span_c {x y lo hi : Int} {t u : Tok} :
  has_span_c_k.St w p loose mean mg mb dp un gd cn cs a ccd cl outer A₀ base h₀ L m R T s Q E t u v x y lo hi := all_eps (S := has_span_c_k.S) has_span_c_k.walk ((w, p, loose, mean, mg, mb, dp, un, gd, cn, cs, a, ccd, cl, outer, A₀, base, h₀, L, m, R, T, s, (cx_v cx0), Q, E), fn [t, u] default, fn [] default, fn [] default, fn [] default, fn [] [], fn [] #[], fn [] []) v x y lo hi
end
end Mine

namespace Mine
/-! taken_from -/
noncomputable def takeStep (at0 : Int) (st : Array UInt8 × List (Int × Array UInt8)) (q : Int × Array UInt8) : Array UInt8 × List (Int × Array UInt8) :=
  if q.1 ≤ at0 ∧ at0 < q.1 + (q.2.size : Int) then (KBy.picked q.2 (some (at0 - q.1)) none, st.2)
  else if q.1 > at0 then (st.1, st.2 ++ [q]) else st
theorem takeStep_1 {at0 : Int} {fd lf} {x : Int} {y : Array UInt8} (h : x ≤ at0) (h2 : at0 < x + (y.size : Int)) : takeStep at0 (fd, lf) (x, y) = (KBy.picked y (some (at0 - x)) none, lf) := by simp only [takeStep, if_pos (And.intro h h2)]
theorem takeStep_2 {at0 : Int} {fd lf} {x : Int} {y : Array UInt8} (h : ¬ (x ≤ at0 ∧ at0 < x + (y.size : Int))) (h2 : x > at0) : takeStep at0 (fd, lf) (x, y) = (fd, lf ++ [(x, y)]) := by simp only [takeStep, if_neg h, if_pos h2]
theorem takeStep_3 {at0 : Int} {fd lf} {x : Int} {y : Array UInt8} (h : ¬ (x ≤ at0 ∧ at0 < x + (y.size : Int))) (h2 : ¬ x > at0) : takeStep at0 (fd, lf) (x, y) = (fd, lf) := by simp only [takeStep, if_neg h, if_neg h2]
noncomputable def takeL (ps : List (Int × Array UInt8)) (at0 : Int) : Array UInt8 × List (Int × Array UInt8) := ps.foldl (takeStep at0) (#[], [])
theorem take_len (at0 : Int) (ps : List (Int × Array UInt8)) : ∀ st, (ps.foldl (takeStep at0) st).2.length ≤ st.2.length + ps.length := by
  induction ps with
  | nil => intro st; simp
  | cons q r ih =>
    intro st
    rw [List.foldl_cons, List.length_cons]
    have h := ih (takeStep at0 st q)
    have h2 : (takeStep at0 st q).2.length ≤ st.2.length + 1 := by
      unfold takeStep
      split
      · simp
      · split <;> simp
    lia
theorem pcIn {T : List (Addr × Obj)} {D : Addr} {x : Int} {y : Array UInt8} {t u : Tok} {n : Nat} (h : (D, ({ cls := .type "tuple", data := .seq [Value.int x t, Value.bytes y u].toArray n } : Obj)) ∈ T) : DatIn T (.ref D) (pcD (x, y)) :=
  .tuple h (.cons (.int _ _) (.cons (.bytes _ _) .nil))
section
variable {w : World} {p : Program} {loose : List Str} {mean : ExcName → Option Value} {mg mb : Str → Option Value} {dp un : Nat} {gd : Option (List Code)} {cn : Str} {cs : Scope} {a : Addr} {ccd : Value} {cl : List (Str × Addr)} {outer : List Env} {A₀ : Around} {base h₀ : Heap} {L : Addr} {m : Str → Option Value} {R T : List (Addr × Obj)} {s : Shared} {v : Value} {Q E : Value → Shared → Prop}
end
namespace taken_from_c_k
noncomputable def St (w : World) (p : Program) (loose : List Str) (mean : ExcName → Option Value) (mg : Str → Option Value) (mb : Str → Option Value) (dp : Nat) (un : Nat) (gd : Option (List Code)) (cn : Str) (cs : Scope) (a : Addr) (ccd : Value) (cl : List (Str × Addr)) (outer : List Env) (A₀ : Around) (base : Heap) (h₀ : Heap) (L : Addr) (m : Str → Option Value) (R : List (Addr × Obj)) (T : List (Addr × Obj)) (s : Shared) (Q : Value → Shared → Prop) (E : Value → Shared → Prop) (ps : List (Int × Array UInt8)) (t : Tok) (v : Value) (at0 : Int) : Prop := ∀ (B : Below A₀ base outer h₀) (F : Fr h₀ L s.heap m) (X : (hd.heap_1 w.params).In h₀) (N : News h₀ L s.heap R) (Tp : Top p loose mean mg mb h₀) (hk : cs.kind = .function) (hTR : ∀ p ∈ T, p ∈ R) (hv : DatIn T v (pcsD ps)) (hsp : ps.length ≤ 1000) (hsz : ∀ q ∈ ps, q.2.size ≤ 1000) (hdp : dp + 2 < recursionLimit) (hun : un + 100 < cLine) (ret : ∀ D vl tf n tl h' tk', Fr h₀ L h' m → News h₀ L h' (tl ++ R) → Apart R tl → (D, ({ cls := .type "tuple", data := .seq [Value.bytes (takeL ps at0).1 tf, vl].toArray n } : Obj)) ∈ tl → DatIn (tl ++ T) vl (pcsD (takeL ps at0).2) → Q (.ref D) { s with heap := h', toks := tk' }),
  wpAny (model P0 w) (ktrTop dp un gd cn cs L a ccd cl outer) (call (.ref 48) [v, .int at0 t]) Q E s
noncomputable def S (c : CxF) : Prop := ∀ (v : Value) (at0 : Int), St (cx_w (c).1) (cx_p (c).1) (cx_loose (c).1) (cx_mean (c).1) (cx_mg (c).1) (cx_mb (c).1) (cx_dp (c).1) (cx_un (c).1) (cx_gd (c).1) (cx_cn (c).1) (cx_cs (c).1) (cx_a (c).1) (cx_ccd (c).1) (cx_cl (c).1) (cx_outer (c).1) (cx_A₀ (c).1) (cx_base (c).1) (cx_h₀ (c).1) (cx_L (c).1) (cx_m (c).1) (cx_R (c).1) (cx_T (c).1) (cx_s (c).1) (cx_Q (c).1) (cx_E (c).1) (cx_pcs c 0) (cx_tok c 0) v at0
noncomputable def kx9 : CxF := @Classical.epsilon (CxF) ne_cxf fun c => ¬ S c
set_option maxRecDepth 100000 in
set_option maxHeartbeats 8000000 in
theorem walk : S kx9 := by
  show ∀ (v : Value) (at0 : Int), St (cx_w (kx9).1) (cx_p (kx9).1) (cx_loose (kx9).1) (cx_mean (kx9).1) (cx_mg (kx9).1) (cx_mb (kx9).1) (cx_dp (kx9).1) (cx_un (kx9).1) (cx_gd (kx9).1) (cx_cn (kx9).1) (cx_cs (kx9).1) (cx_a (kx9).1) (cx_ccd (kx9).1) (cx_cl (kx9).1) (cx_outer (kx9).1) (cx_A₀ (kx9).1) (cx_base (kx9).1) (cx_h₀ (kx9).1) (cx_L (kx9).1) (cx_m (kx9).1) (cx_R (kx9).1) (cx_T (kx9).1) (cx_s (kx9).1) (cx_Q (kx9).1) (cx_E (kx9).1) (cx_pcs kx9 0) (cx_tok kx9 0) v at0
  generalize (cx_w (kx9).1) = w, (cx_p (kx9).1) = p, (cx_loose (kx9).1) = loose, (cx_mean (kx9).1) = mean, (cx_mg (kx9).1) = mg, (cx_mb (kx9).1) = mb, (cx_dp (kx9).1) = dp, (cx_un (kx9).1) = un, (cx_gd (kx9).1) = gd, (cx_cn (kx9).1) = cn, (cx_cs (kx9).1) = cs, (cx_a (kx9).1) = a, (cx_ccd (kx9).1) = ccd, (cx_cl (kx9).1) = cl, (cx_outer (kx9).1) = outer, (cx_A₀ (kx9).1) = A₀, (cx_base (kx9).1) = base, (cx_h₀ (kx9).1) = h₀, (cx_L (kx9).1) = L, (cx_m (kx9).1) = m, (cx_R (kx9).1) = R, (cx_T (kx9).1) = T, (cx_s (kx9).1) = s, (cx_Q (kx9).1) = Q, (cx_E (kx9).1) = E, (cx_pcs kx9 0) = ps, (cx_tok kx9 0) = t
  intro v at0
  delta St
  intro B F X N Tp hk hTR hv hsp hsz hdp hun ret
  refine el_list hv ?_
  clear hv
  intro va vs n hmem hall
  have hvl : vs.length ≤ 1000 := by rw [hall.length, List.length_map]; exact hsp
  have hmemR := hTR _ hmem
  refine wpAny_call ?_
  k_dflt ktr_enter
  generalize s.toks + List.length _ = tk9
  rename Fr _ _ _ _ => F1
  have F2 : Fr _ _ _ (fun y => List.lookup y [(Str.ofString "at", Value.int at0 t), (Str.ofString "pieces", Value.ref _)]) := F1
  clear F1
  k_steps
  rename Fr _ _ _ _ => F1
  rename News _ _ _ _ => N1
  rename_i g L1 h1 FG B1 X1 T1 fa h2 hfa DD h3 hlt3 h4 h5 h6
  have N2 : News g L1 h6 ((fa, W.listOf ([] : List Value).toArray 0) :: (([] : List (Addr × Obj)) ++ R)) := fun p hp => N1 p (.tail _ hp)
  clear N1
  refine For_invTF F1 ?_ (by intro _; rfl)
  k_steps
  refine bld_pairs (fun q : Int × Array UInt8 => (Dat.int q.1, Dat.bytes q.2)) ps (takeStep at0) (#[], []) (fun st => st.2.map pcD)
    (fun st m => ∃ t1, ∀ p ∈ [(Str.ofString "at", Value.int at0 t), (Str.ofString "left", Value.ref fa), (Str.ofString "found", Value.bytes st.1 t1)], m p.1 = some p.2)
    rfl rfl rfl rfl hmem hall hTR F1 N2 (fun p hp b hb => by rw [List.mem_singleton.mp hb]; exact Nat.ne_of_lt (hfa p hp)) Apart.nil DatAll.nil ⟨_, by walk_at "mine fr"⟩ ?_ ?_
  · intro pre
    refine all_prod ?_
    intro x y post v₁ v₂ m₁ tl ws k s₁ h tk I oI hx D1 D2
    dsimp only at D1 D2
    refine el_int D1 ?_
    refine el_bytes D2 ?_
    clear D1 D2
    intro t8 t9 hIf hO hD hps F3 N3
    have hy := hsz (x, y) (by rw [hx]; simp)
    dsimp only at hy
    (refine Exists.elim hps ?_; clear hps; intro t1 hps)
    clear F1 N2
    have hws : ws.length ≤ 4000 := by
      have h1 := hD.length
      have h2 := take_len at0 pre (#[], [])
      have h3 : pre.length ≤ ps.length := by rw [hx, List.length_append]; lia
      simp only [List.length_map, List.length_nil] at h1 h2
      lia
    generalize pre.foldl (takeStep at0) (#[], []) = st at hD hps ⊢
    revert hD hps
    refine el_prod st ?_
    intro fd lf hD hps
    dsimp only at hD hps
    replace F3 := fr_kv hps F3
    k_steps
    all_goals (
      rename Fr _ _ _ _ => F4
      rename News _ _ _ _ => N4
      (try simp only [List.push_toArray] at N4)
      (first
        | rw [takeStep_1 (by assumption) (by assumption)]
        | rw [takeStep_2 (by lia) (by lia)]
        | rw [takeStep_3 (by lia) (by lia)]
        | fail "takeStep")
      dsimp only
      (first
        | refine' bEnd [] F4 N4 ?hA ?hD ⟨_, by walk_at "mine fr"⟩
        | refine' bEnd [_] F4 N4 ?hA ?hD ⟨_, by walk_at "mine fr"⟩
        | fail "bEnd")
      case hA => walk_at "mine hA"
      case hD => ((try simp only [List.map_append, List.map_cons, List.map_nil]); kqd_all))
  · intro m₁ tl ws k h tk hD hps hO hlt F3 N3
    (refine Exists.elim hps ?_; clear hps; intro t1 hps)
    replace F3 := fr_kv0 hps F3
    clear F1 N2
    k_steps
    rename Fr _ _ _ _ => kF
    rename News _ _ _ _ => kN
    have hfa' := allLt_of hfa
    exact ret _ (Value.ref fa) t1 _ (_ :: (fa, W.listOf ws.toArray k) :: tl) _ _ kF kN (by walk_at "mine fresh") (.head _) (DatIn.list (.tail _ (.head _)) (by kqd_all))
end taken_from_c_k
section
variable {w : World} {p : Program} {loose : List Str} {mean : ExcName → Option Value} {mg mb : Str → Option Value} {dp un : Nat} {gd : Option (List Code)} {cn : Str} {cs : Scope} {a : Addr} {ccd : Value} {cl : List (Str × Addr)} {outer : List Env} {A₀ : Around} {base h₀ : Heap} {L : Addr} {m : Str → Option Value} {R T : List (Addr × Obj)} {s : Shared} {v : Value} {Q E : Value → Shared → Prop}
theorem taken_from_c {ps : List (Int × Array UInt8)} {at0 : Int} {t : Tok} :
  taken_from_c_k.St w p loose mean mg mb dp un gd cn cs a ccd cl outer A₀ base h₀ L m R T s Q E ps t v at0 := all_eps (S := taken_from_c_k.S) taken_from_c_k.walk ((w, p, loose, mean, mg, mb, dp, un, gd, cn, cs, a, ccd, cl, outer, A₀, base, h₀, L, m, R, T, s, (cx_v cx0), Q, E), fn [t] default, fn [] default, fn [] default, fn [] default, fn [] [], fn [] #[], fn [ps] []) v at0
end
end Mine

namespace Mine
/-! add_piece -/
structure PcSt where
  found : List (Int × Array UInt8)
  beg : Int
  joined : Array UInt8
  deriving Inhabited
noncomputable def pieceStep (st : PcSt) (q : Int × Array UInt8) : PcSt :=
  if q.1 + (q.2.size : Int) < st.beg ∨ st.beg + (st.joined.size : Int) < q.1 then { st with found := st.found ++ [q] }
  else { st with beg := pmin st.beg q.1, joined := (KBy.picked st.joined none (some (pmax 0 (q.1 - st.beg))) ++ q.2) ++ KBy.picked st.joined (some (q.1 + (q.2.size : Int) - st.beg)) none }
@[elab_as_elim] theorem el_pcst {G : PcSt → Prop} (st : PcSt) (k : ∀ fd b j, G ⟨fd, b, j⟩) : G st := k _ _ _
theorem pieceStep_1 {fd b j x y} (h : x + (Array.size y : Int) < b) : pieceStep ⟨fd, b, j⟩ (x, y) = ⟨fd ++ [(x, y)], b, j⟩ := by simp only [pieceStep, if_pos (Or.inl h)]
theorem pieceStep_2 {fd b j x y} (h : b + (Array.size j : Int) < x) : pieceStep ⟨fd, b, j⟩ (x, y) = ⟨fd ++ [(x, y)], b, j⟩ := by simp only [pieceStep, if_pos (Or.inr h)]
theorem pieceStep_3 {fd b j x y} (h : ¬ x + (Array.size y : Int) < b) (h2 : ¬ b + (Array.size j : Int) < x) : pieceStep ⟨fd, b, j⟩ (x, y) = ⟨fd, pmin b x, (KBy.picked j none (some (pmax 0 (x - b))) ++ y) ++ KBy.picked j (some (x + (y.size : Int) - b)) none⟩ := by
  simp only [pieceStep, if_neg (show ¬ (x + (Array.size y : Int) < b ∨ b + (Array.size j : Int) < x) from fun q => q.elim h h2)]
theorem piece_len (ps : List (Int × Array UInt8)) : ∀ st, (ps.foldl pieceStep st).found.length ≤ st.found.length + ps.length := by
  induction ps with
  | nil => intro st; simp
  | cons q r ih =>
    intro st
    rw [List.foldl_cons, List.length_cons]
    have h := ih (pieceStep st q)
    have h2 : (pieceStep st q).found.length ≤ st.found.length + 1 := by
      unfold pieceStep
      split <;> simp
    lia
theorem picked_le (b : Array UInt8) (lo hi : Option Int) : (KBy.picked b lo hi).size ≤ b.size := KBc.size_picked_le b lo hi
theorem datAll_split {T : List (Addr × Obj)} : ∀ {ds es : List Dat} {vs : List Value}, DatAll T vs (ds ++ es) → ∃ va vb, vs = va ++ vb ∧ DatAll T va ds ∧ DatAll T vb es
  | [], _, vs, h => ⟨[], vs, rfl, .nil, h⟩
  | _ :: _, _, _, h => by
    cases h with
    | cons h1 h2 =>
      obtain ⟨va, vb, rfl, ha, hb⟩ := datAll_split h2
      exact ⟨_ :: va, vb, rfl, .cons h1 ha, hb⟩
theorem keys_of {T : List (Addr × Obj)} : ∀ {ps : List (Int × Array UInt8)} {vs : List Value}, DatAll T vs (ps.map pcD) → KeysAt T vs (ps.map (·.1))
  | [], _, h => by cases h; exact .nil
  | (x, y) :: ps, _, h => by
    cases h with
    | cons h1 h2 =>
      refine .cons ?_ (keys_of h2)
      cases h1 with
      | tuple hm hall =>
        cases hall with
        | cons ha hb =>
          cases hb with
          | cons hb hc =>
            cases hc
            cases ha
            cases hb
            exact ⟨_, _, _, _, _, _, rfl, hm, rfl⟩
section
variable {w : World} {p : Program} {loose : List Str} {mean : ExcName → Option Value} {mg mb : Str → Option Value} {dp un : Nat} {gd : Option (List Code)} {cn : Str} {cs : Scope} {a : Addr} {ccd : Value} {cl : List (Str × Addr)} {outer : List Env} {A₀ : Around} {base h₀ : Heap} {L : Addr} {m : Str → Option Value} {R T : List (Addr × Obj)} {s : Shared} {v : Value} {Q E : Value → Shared → Prop}
end
namespace add_piece_c_k
noncomputable def St (w : World) (p : Program) (loose : List Str) (mean : ExcName → Option Value) (mg : Str → Option Value) (mb : Str → Option Value) (dp : Nat) (un : Nat) (gd : Option (List Code)) (cn : Str) (cs : Scope) (a : Addr) (ccd : Value) (cl : List (Str × Addr)) (outer : List Env) (A₀ : Around) (base : Heap) (h₀ : Heap) (L : Addr) (m : Str → Option Value) (R : List (Addr × Obj)) (T : List (Addr × Obj)) (s : Shared) (Q : Value → Shared → Prop) (E : Value → Shared → Prop) (ps : List (Int × Array UInt8)) (dt : Array UInt8) (j : Array UInt8) (t : Tok) (u : Tok) (v : Value) (fa : List (Int × Array UInt8)) (fb : List (Int × Array UInt8)) (off : Int) (b : Int) : Prop := ∀ (B : Below A₀ base outer h₀) (F : Fr h₀ L s.heap m) (X : (hd.heap_1 w.params).In h₀) (N : News h₀ L s.heap R) (Tp : Top p loose mean mg mb h₀) (hk : cs.kind = .function) (hTR : ∀ p ∈ T, p ∈ R) (hv : DatIn T v (pcsD ps)) (hsp : ps.length ≤ 1000) (hsz : ∀ q ∈ ps, q.2.size ≤ 1000) (hdt : 0 < dt.size) (hj : ∀ i, ((ps.take i).foldl pieceStep ⟨[], off, dt⟩).joined.size ≤ 1000) (hfin : ps.foldl pieceStep ⟨[], off, dt⟩ = ⟨fa ++ fb, b, j⟩) (hpw : ((fa ++ fb).map (·.1)).Pairwise (· < ·)) (hfa : ∀ q ∈ fa, q.1 < b) (hfb : ∀ q ∈ fb, b < q.1) (h8 : (fa ++ fb).length ≤ 8) (hdp : dp + 2 < recursionLimit) (hun : un + 100 < cLine) (ret : ∀ r tl h' tk', Fr h₀ L h' m → News h₀ L h' (tl ++ R) → Apart R tl → DatIn (tl ++ T) r (pcsD (fa ++ (b, j) :: fb)) → Q r { s with heap := h', toks := tk' }),
  wpAny (model P0 w) (ktrTop dp un gd cn cs L a ccd cl outer) (call (.ref 41) [v, .int off t, .bytes dt u]) Q E s
noncomputable def S (c : CxF) : Prop := ∀ (v : Value) (fa : List (Int × Array UInt8)) (fb : List (Int × Array UInt8)) (off : Int) (b : Int), St (cx_w (c).1) (cx_p (c).1) (cx_loose (c).1) (cx_mean (c).1) (cx_mg (c).1) (cx_mb (c).1) (cx_dp (c).1) (cx_un (c).1) (cx_gd (c).1) (cx_cn (c).1) (cx_cs (c).1) (cx_a (c).1) (cx_ccd (c).1) (cx_cl (c).1) (cx_outer (c).1) (cx_A₀ (c).1) (cx_base (c).1) (cx_h₀ (c).1) (cx_L (c).1) (cx_m (c).1) (cx_R (c).1) (cx_T (c).1) (cx_s (c).1) (cx_Q (c).1) (cx_E (c).1) (cx_pcs c 0) (cx_byt c 0) (cx_byt c 1) (cx_tok c 0) (cx_tok c 1) v fa fb off b
noncomputable def kx9 : CxF := @Classical.epsilon (CxF) ne_cxf fun c => ¬ S c
set_option maxRecDepth 100000 in
set_option maxHeartbeats 8000000 in
theorem walk : S kx9 := by
  show ∀ (v : Value) (fa : List (Int × Array UInt8)) (fb : List (Int × Array UInt8)) (off : Int) (b : Int), St (cx_w (kx9).1) (cx_p (kx9).1) (cx_loose (kx9).1) (cx_mean (kx9).1) (cx_mg (kx9).1) (cx_mb (kx9).1) (cx_dp (kx9).1) (cx_un (kx9).1) (cx_gd (kx9).1) (cx_cn (kx9).1) (cx_cs (kx9).1) (cx_a (kx9).1) (cx_ccd (kx9).1) (cx_cl (kx9).1) (cx_outer (kx9).1) (cx_A₀ (kx9).1) (cx_base (kx9).1) (cx_h₀ (kx9).1) (cx_L (kx9).1) (cx_m (kx9).1) (cx_R (kx9).1) (cx_T (kx9).1) (cx_s (kx9).1) (cx_Q (kx9).1) (cx_E (kx9).1) (cx_pcs kx9 0) (cx_byt kx9 0) (cx_byt kx9 1) (cx_tok kx9 0) (cx_tok kx9 1) v fa fb off b
  generalize (cx_w (kx9).1) = w, (cx_p (kx9).1) = p, (cx_loose (kx9).1) = loose, (cx_mean (kx9).1) = mean, (cx_mg (kx9).1) = mg, (cx_mb (kx9).1) = mb, (cx_dp (kx9).1) = dp, (cx_un (kx9).1) = un, (cx_gd (kx9).1) = gd, (cx_cn (kx9).1) = cn, (cx_cs (kx9).1) = cs, (cx_a (kx9).1) = a, (cx_ccd (kx9).1) = ccd, (cx_cl (kx9).1) = cl, (cx_outer (kx9).1) = outer, (cx_A₀ (kx9).1) = A₀, (cx_base (kx9).1) = base, (cx_h₀ (kx9).1) = h₀, (cx_L (kx9).1) = L, (cx_m (kx9).1) = m, (cx_R (kx9).1) = R, (cx_T (kx9).1) = T, (cx_s (kx9).1) = s, (cx_Q (kx9).1) = Q, (cx_E (kx9).1) = E, (cx_pcs kx9 0) = ps, (cx_byt kx9 0) = dt, (cx_byt kx9 1) = j, (cx_tok kx9 0) = t, (cx_tok kx9 1) = u
  intro v fa fb off b
  delta St
  intro B F X N Tp hk hTR hv hsp hsz hdt hj hfin hpw hfa hfb h8 hdp hun ret
  refine el_list hv ?_
  clear hv
  intro va vs n hmem hall
  have hvl : vs.length ≤ 1000 := by rw [hall.length, List.length_map]; exact hsp
  have hmemR := hTR _ hmem
  have hj0 := hj 0
  dsimp only [List.take_zero, List.foldl_nil] at hj0
  refine wpAny_call ?_
  k_dflt ktr_enter
  generalize s.toks + List.length _ = tk9
  rename Fr _ _ _ _ => F1
  have F2 : Fr _ _ _ (fun y => List.lookup y [(Str.ofString "data", Value.bytes dt u), (Str.ofString "offset", Value.int off t), (Str.ofString "pieces", Value.ref _)]) := F1
  clear F1
  k_steps
  all_goals (try (exfalso; lia))
  rename Fr _ _ _ _ => F1
  rename News _ _ _ _ => N1
  rename_i g L1 h1 FG B1 X1 T1 tk0 fl h2 hfl DD h3 hlt3 h4 h5 h6 h7
  have N2 : News g L1 h7 ((fl, W.listOf ([] : List Value).toArray 0) :: (([] : List (Addr × Obj)) ++ R)) := fun p hp => N1 p (.tail _ hp)
  clear N1
  refine For_invTF F1 ?_ (by intro _; rfl)
  k_steps
  refine bld_pairs (fun q : Int × Array UInt8 => (Dat.int q.1, Dat.bytes q.2)) ps pieceStep ⟨[], off, dt⟩ (fun st => st.found.map pcD)
    (fun st m => ∃ t1 t2, ∀ p ∈ [(Str.ofString "found", Value.ref fl), (Str.ofString "begin", Value.int st.beg t1), (Str.ofString "joined", Value.bytes st.joined t2)], m p.1 = some p.2)
    rfl rfl rfl rfl hmem hall hTR F1 N2 (fun p hp b hb => by rw [List.mem_singleton.mp hb]; exact Nat.ne_of_lt (hfl p hp)) Apart.nil DatAll.nil ⟨_, _, by walk_at "mine fr"⟩ ?_ ?_
  · intro pre
    refine all_prod ?_
    intro x y post v₁ v₂ m₁ tl ws k s₁ h tk I oI hx D1 D2
    dsimp only at D1 D2
    refine el_int D1 ?_
    refine el_bytes D2 ?_
    clear D1 D2
    intro t8 t9 hIf hO hD hps F3 N3
    (refine Exists.elim hps ?_; clear hps; intro t1 hps; refine Exists.elim hps ?_; clear hps; intro t2 hps)
    have hy := hsz (x, y) (by rw [hx]; simp)
    dsimp only at hy
    have hjp := hj pre.length
    rw [show ps.take pre.length = pre by rw [hx]; simp] at hjp
    clear F1 N2
    have hws : ws.length ≤ 4000 := by
      have h1 := hD.length
      have h2 := piece_len pre ⟨[], off, dt⟩
      have h3 : pre.length ≤ ps.length := by rw [hx, List.length_append]; lia
      simp only [List.length_map, List.length_nil] at h1 h2
      lia
    generalize pre.foldl pieceStep ⟨[], off, dt⟩ = st at hD hps hjp ⊢
    revert hD hps hjp
    refine el_pcst st ?_
    intro fd bb jj hD hps hjp
    dsimp only at hD hps hjp
    have hs1 := picked_le jj none (some (if x - bb > 0 then x - bb else 0))
    have hs2 := picked_le jj (some (x + (y.size : Int) - bb)) none
    replace F3 := fr_kv hps F3
    k_steps
    all_goals (
      rename Fr _ _ _ _ => F4
      rename News _ _ _ _ => N4
      (try simp only [List.push_toArray] at N4)
      (first
        | rw [pieceStep_1 (by assumption)]
        | rw [pieceStep_2 (by assumption)]
        | rw [pieceStep_3 (by assumption) (by assumption)]
        | fail "pieceStep")
      dsimp only
      (first
        | refine' bEnd [_] F4 N4 ?hA ?hD ⟨_, _, by walk_at "mine fr"⟩
        | refine' bEnd [_, _] F4 N4 ?hA ?hD ⟨_, _, by walk_at "mine fr"⟩
        | fail "bEnd")
      case hA => walk_at "mine hA"
      case hD => ((try simp only [List.map_append, List.map_cons, List.map_nil]); kqd_all))
  · intro m₁ tl ws k h tk hD hps hO hlt F3 N3
    (refine Exists.elim hps ?_; clear hps; intro t1 hps; refine Exists.elim hps ?_; clear hps; intro t2 hps)
    have hws : ws.length ≤ 8 := by
      have h1 := hD.length
      rw [hfin] at h1
      simp only [List.length_map] at h1
      lia
    rw [hfin] at hD hps
    dsimp only at hD hps
    replace F3 := fr_kv0 hps F3
    clear F1 N2
    k_steps
    rename Fr _ _ _ _ => F4
    rename News _ _ _ _ => N4
    rw [List.map_append] at hD
    have hS := datAll_split hD
    (refine Exists.elim hS ?_; clear hS; intro wa hS; refine Exists.elim hS ?_; clear hS; intro wb hS)
    obtain ⟨rfl, hDa, hDb⟩ := hS
    have sub : ∀ p ∈ tl ++ T, p ∈ tl ++ R := fun p hp => (List.mem_append.mp hp).elim (fun h => List.mem_append.mpr (.inl h)) fun h => List.mem_append.mpr (.inr (hTR p h))
    have hla := hDa.length
    have hlb := hDb.length
    simp only [List.length_map] at hla hlb
    rw [List.length_append] at h8
    have hfl' := allLt_of hfl
    by_cases h0 : fa.length + fb.length = 0
    · have e1 : wa = [] := List.length_eq_zero_iff.mp (by lia)
      have e2 : wb = [] := List.length_eq_zero_iff.mp (by lia)
      have e3 : fa = [] := List.length_eq_zero_iff.mp (by lia)
      have e4 : fb = [] := List.length_eq_zero_iff.mp (by lia)
      subst e1 e2 e3 e4
      k_dflt (refine' sorted_one ?k1 ?k2 ?k3 ?_)
      case k1 => exact F4
      case k2 => exact N4
      case k3 => exact isList_of N4 (.head _)
      intro D c h5 F5 N5 l5
      k_lt l5
      k_steps
      rename Fr _ _ _ _ => kF
      rename News _ _ _ _ => kN
      exact ret _ (_ :: _ :: _ :: _ :: (fl, W.listOf ([] : List Value).toArray k) :: tl) _ _ kF kN (by walk_at "mine fresh") (DatIn.list (.head _) (DatAll.one (pcIn (by k_mem))))
    · k_dflt (refine' sorted_many (va := wa) (vb := wb) (ka := fa.map (·.1)) (kb := fb.map (·.1)) (z := b) ?k1 ?k2 ?k3 ?k4 ?k5 ?k6 ?k7 ?k8 ?k9 ?k10 ?k11 ?_)
      case k1 => exact F4
      case k2 => exact N4
      case k3 => exact isList_of N4 (.head _)
      case k4 => exact (keys_of hDa).mono fun p hp => .tail _ (.tail _ (.tail _ (.tail _ (sub p hp))))
      case k5 => exact (keys_of hDb).mono fun p hp => .tail _ (.tail _ (.tail _ (.tail _ (sub p hp))))
      case k6 => exact ⟨_, _, _, _, _, _, rfl, by k_mem, rfl⟩
      case k7 => rw [← List.map_append]; exact hpw
      case k8 => (intro k hk; obtain ⟨q, hq, rfl⟩ := List.mem_map.mp hk; exact hfa q hq)
      case k9 => (intro k hk; obtain ⟨q, hq, rfl⟩ := List.mem_map.mp hk; exact hfb q hq)
      case k10 => lia
      case k11 => lia
      intro D c h5 F5 N5 l5
      k_lt l5
      k_steps
      rename Fr _ _ _ _ => kF
      rename News _ _ _ _ => kN
      refine ret _ (_ :: _ :: _ :: _ :: (fl, W.listOf (wa ++ wb).toArray k) :: tl) _ _ kF kN (by walk_at "mine fresh") (DatIn.list (.head _) ?_)
      rw [List.map_append, List.map_cons]
      exact DatAll.append (hDa.mono (by kqd_sub)) (DatAll.cons (pcIn (by k_mem)) (hDb.mono (by kqd_sub)))
end add_piece_c_k
section
variable {w : World} {p : Program} {loose : List Str} {mean : ExcName → Option Value} {mg mb : Str → Option Value} {dp un : Nat} {gd : Option (List Code)} {cn : Str} {cs : Scope} {a : Addr} {ccd : Value} {cl : List (Str × Addr)} {outer : List Env} {A₀ : Around} {base h₀ : Heap} {L : Addr} {m : Str → Option Value} {R T : List (Addr × Obj)} {s : Shared} {v : Value} {Q E : Value → Shared → Prop}
theorem add_piece_c {ps fa fb : List (Int × Array UInt8)} {off b : Int} {dt j : Array UInt8} {t u : Tok} :
  add_piece_c_k.St w p loose mean mg mb dp un gd cn cs a ccd cl outer A₀ base h₀ L m R T s Q E ps dt j t u v fa fb off b := all_eps (S := add_piece_c_k.S) add_piece_c_k.walk ((w, p, loose, mean, mg, mb, dp, un, gd, cn, cs, a, ccd, cl, outer, A₀, base, h₀, L, m, R, T, s, (cx_v cx0), Q, E), fn [t, u] default, fn [] default, fn [] default, fn [] default, fn [] [], fn [dt, j] #[], fn [ps] []) v fa fb off b
end
end Mine

namespace Mine
theorem fmod_lo0 {x m : Int} (h : 0 < m) : 0 ≤ x.fmod m := by rw [Int.fmod_eq_emod_of_nonneg _ (by lia)]; exact Int.emod_nonneg _ (by lia)
theorem fmod_hi0 {x m : Int} (h : 0 < m) : x.fmod m < m := by rw [Int.fmod_eq_emod_of_nonneg _ (by lia)]; exact Int.emod_lt_of_pos _ h
section
variable {w : World} {p : Program} {loose : List Str} {mean : ExcName → Option Value} {mg mb : Str → Option Value} {dp un : Nat} {gd : Option (List Code)} {cn : Str} {cs : Scope} {a : Addr} {ccd : Value} {cl : List (Str × Addr)} {outer : List Env} {A₀ : Around} {base h₀ : Heap} {L : Addr} {m : Str → Option Value} {R T : List (Addr × Obj)} {s : Shared} {v : Value} {Q E : Value → Shared → Prop}
end
namespace drawn_c_k
noncomputable def St (w : World) (p : Program) (loose : List Str) (mean : ExcName → Option Value) (mg : Str → Option Value) (mb : Str → Option Value) (dp : Nat) (un : Nat) (gd : Option (List Code)) (cn : Str) (cs : Scope) (a : Addr) (ccd : Value) (cl : List (Str × Addr)) (outer : List Env) (A₀ : Around) (base : Heap) (h₀ : Heap) (L : Addr) (m : Str → Option Value) (R : List (Addr × Obj)) (s : Shared) (Q : Value → Shared → Prop) (E : Value → Shared → Prop) (ab : Addr) (a0 : Addr) (vs : List Value) (ns : List Int) (t : Tok) (u : Tok) (k : Int) (many : Int) (n : Nat) (n0 : Nat) : Prop := ∀ (B : Below A₀ base outer h₀) (F : Fr h₀ L s.heap m) (X : (hd.heap_1 w.params).In h₀) (N : News h₀ L s.heap ((ab, W.listOf [Value.ref a0, Value.int k t].toArray n) :: R)) (Tp : Top p loose mean mg mb h₀) (hk : cs.kind = .function) (h0 : (a0, W.listOf vs.toArray n0) ∈ R) (hi : IntsAre vs ns) (hns : ns.length ≤ 1000) (hO : ∀ p ∈ R, @Ne Nat p.1 ab) (hk0 : 0 ≤ k) (hk1 : k ≤ 1000) (hm0 : 0 < many) (hm1 : many ≤ 1000) (hdp : dp + 2 < recursionLimit) (hun : un + 100 < cLine) (ret : ∀ r h' tk' t' t'' n', 0 ≤ r → r < many → Fr h₀ L h' m → News h₀ L h' ((ab, W.listOf [Value.ref a0, Value.int (k + 1) t'].toArray n') :: R) → Q (.int r t'') { s with heap := h', toks := tk' }),
  wpAny (model P0 w) (ktrTop dp un gd cn cs L a ccd cl outer) (call (.ref 191) [.ref ab, .int many u]) Q E s
noncomputable def S (c : CxF × (((List Value) × (List Int)))) : Prop := ∀ (k : Int) (many : Int) (n : Nat) (n0 : Nat), St (cx_w (c.1).1) (cx_p (c.1).1) (cx_loose (c.1).1) (cx_mean (c.1).1) (cx_mg (c.1).1) (cx_mb (c.1).1) (cx_dp (c.1).1) (cx_un (c.1).1) (cx_gd (c.1).1) (cx_cn (c.1).1) (cx_cs (c.1).1) (cx_a (c.1).1) (cx_ccd (c.1).1) (cx_cl (c.1).1) (cx_outer (c.1).1) (cx_A₀ (c.1).1) (cx_base (c.1).1) (cx_h₀ (c.1).1) (cx_L (c.1).1) (cx_m (c.1).1) (cx_R (c.1).1) (cx_s (c.1).1) (cx_Q (c.1).1) (cx_E (c.1).1) (cx_adr c.1 0) (cx_adr c.1 1) (c.2.1) (c.2.2) (cx_tok c.1 0) (cx_tok c.1 1) k many n n0
noncomputable def kx9 : CxF × (((List Value) × (List Int))) := @Classical.epsilon (CxF × (((List Value) × (List Int)))) (ne_cxf.elim fun b => ⟨(b, (default, default))⟩) fun c => ¬ S c
set_option maxRecDepth 100000 in
set_option maxHeartbeats 8000000 in
theorem walk : S kx9 := by
  show ∀ (k : Int) (many : Int) (n : Nat) (n0 : Nat), St (cx_w (kx9.1).1) (cx_p (kx9.1).1) (cx_loose (kx9.1).1) (cx_mean (kx9.1).1) (cx_mg (kx9.1).1) (cx_mb (kx9.1).1) (cx_dp (kx9.1).1) (cx_un (kx9.1).1) (cx_gd (kx9.1).1) (cx_cn (kx9.1).1) (cx_cs (kx9.1).1) (cx_a (kx9.1).1) (cx_ccd (kx9.1).1) (cx_cl (kx9.1).1) (cx_outer (kx9.1).1) (cx_A₀ (kx9.1).1) (cx_base (kx9.1).1) (cx_h₀ (kx9.1).1) (cx_L (kx9.1).1) (cx_m (kx9.1).1) (cx_R (kx9.1).1) (cx_s (kx9.1).1) (cx_Q (kx9.1).1) (cx_E (kx9.1).1) (cx_adr kx9.1 0) (cx_adr kx9.1 1) (kx9.2.1) (kx9.2.2) (cx_tok kx9.1 0) (cx_tok kx9.1 1) k many n n0
  generalize (cx_w (kx9.1).1) = w, (cx_p (kx9.1).1) = p, (cx_loose (kx9.1).1) = loose, (cx_mean (kx9.1).1) = mean, (cx_mg (kx9.1).1) = mg, (cx_mb (kx9.1).1) = mb, (cx_dp (kx9.1).1) = dp, (cx_un (kx9.1).1) = un, (cx_gd (kx9.1).1) = gd, (cx_cn (kx9.1).1) = cn, (cx_cs (kx9.1).1) = cs, (cx_a (kx9.1).1) = a, (cx_ccd (kx9.1).1) = ccd, (cx_cl (kx9.1).1) = cl, (cx_outer (kx9.1).1) = outer, (cx_A₀ (kx9.1).1) = A₀, (cx_base (kx9.1).1) = base, (cx_h₀ (kx9.1).1) = h₀, (cx_L (kx9.1).1) = L, (cx_m (kx9.1).1) = m, (cx_R (kx9.1).1) = R, (cx_s (kx9.1).1) = s, (cx_Q (kx9.1).1) = Q, (cx_E (kx9.1).1) = E, (cx_adr kx9.1 0) = ab, (cx_adr kx9.1 1) = a0, (kx9.2.1) = vs, (kx9.2.2) = ns, (cx_tok kx9.1 0) = t, (cx_tok kx9.1 1) = u
  intro k many n n0
  delta St
  intro B F X N Tp hk h0 hi hns hO hk0 hk1 hm0 hm1 hdp hun ret
  have hvl : vs.length ≤ 1000 := by rw [hi.length]; exact hns
  have hOO : OwnOff R [ab] := fun p hp b hb => by rw [List.mem_singleton.mp hb]; exact hO p hp
  refine wpAny_call ?_
  k_dflt ktr_enter
  generalize s.toks + List.length _ = tk9
  rename Fr _ _ _ _ => F1
  have F2 : Fr _ _ _ (fun y => List.lookup y [(Str.ofString "many", Value.int many u), (Str.ofString "box", Value.ref ab)]) := F1
  clear F1
  by_cases hle : k + 1 ≤ (vs.length : Int)
  · have hkn : k.toNat < ns.length := by rw [← hi.length]; lia
    have hvx := hi.get k.toNat ns[k.toNat] (List.getElem?_eq_getElem hkn)
    (refine Exists.elim hvx ?_; clear hvx; intro tx hvx)
    have hvx' : vs[(k + 1 - 1).toNat]? = some (.int ns[k.toNat] tx) := by rw [show k + 1 - 1 = k by lia]; exact hvx
    generalize ns[k.toNat] = x at hvx'
    k_steps
    rename Fr _ _ _ _ => kF
    rename News _ _ _ _ => kN
    exact ret _ _ _ _ _ _ (fmod_lo0 hm0) (fmod_hi0 hm0) kF kN
  · k_steps
    rename Fr _ _ _ _ => kF
    rename News _ _ _ _ => kN
    exact ret _ _ _ _ _ _ (fmod_lo0 hm0) (fmod_hi0 hm0) kF kN
end drawn_c_k
section
variable {w : World} {p : Program} {loose : List Str} {mean : ExcName → Option Value} {mg mb : Str → Option Value} {dp un : Nat} {gd : Option (List Code)} {cn : Str} {cs : Scope} {a : Addr} {ccd : Value} {cl : List (Str × Addr)} {outer : List Env} {A₀ : Around} {base h₀ : Heap} {L : Addr} {m : Str → Option Value} {R T : List (Addr × Obj)} {s : Shared} {v : Value} {Q E : Value → Shared → Prop}
theorem drawn_c {ab a0 : Addr} {vs : List Value} {ns : List Int} {k many : Int} {n n0 : Nat} {t u : Tok} :
  drawn_c_k.St w p loose mean mg mb dp un gd cn cs a ccd cl outer A₀ base h₀ L m R s Q E ab a0 vs ns t u k many n n0 := all_eps (S := drawn_c_k.S) drawn_c_k.walk (((w, p, loose, mean, mg, mb, dp, un, gd, cn, cs, a, ccd, cl, outer, A₀, base, h₀, L, m, R, (cx_T cx0), s, (cx_v cx0), Q, E), fn [t, u] default, fn [ab, a0] default, fn [] default, fn [] default, fn [] [], fn [] #[], fn [] []), (vs, ns)) k many n n0
end
end Mine

namespace Mine
/-- the fields of a CryptoOut, of a CryptoIn -/
noncomputable abbrev outD (w : World) (t1 t2 t3 : Tok) (data due acked : Value) : Obj :=
  dictOf [⟨PyData.keyHash w.params (Str.ofString "data"), Value.str (Str.ofString "data") t1, data⟩, ⟨PyData.keyHash w.params (Str.ofString "due"), Value.str (Str.ofString "due") t2, due⟩, ⟨PyData.keyHash w.params (Str.ofString "acked"), Value.str (Str.ofString "acked") t3, acked⟩] 3
noncomputable abbrev inD (w : World) (t1 t2 t3 : Tok) (limit told waiting : Value) : Obj :=
  dictOf [⟨PyData.keyHash w.params (Str.ofString "limit"), Value.str (Str.ofString "limit") t1, limit⟩, ⟨PyData.keyHash w.params (Str.ofString "told"), Value.str (Str.ofString "told") t2, told⟩, ⟨PyData.keyHash w.params (Str.ofString "waiting"), Value.str (Str.ofString "waiting") t3, waiting⟩] 3
section
variable {w : World} {p : Program} {loose : List Str} {mean : ExcName → Option Value} {mg mb : Str → Option Value} {dp un : Nat} {gd : Option (List Code)} {cn : Str} {cs : Scope} {a : Addr} {ccd : Value} {cl : List (Str × Addr)} {outer : List Env} {A₀ : Around} {base h₀ : Heap} {L : Addr} {m : Str → Option Value} {R T : List (Addr × Obj)} {s : Shared} {v : Value} {Q E : Value → Shared → Prop}
end
namespace next_chunk_c_k
noncomputable def St (w : World) (p : Program) (loose : List Str) (mean : ExcName → Option Value) (mg : Str → Option Value) (mb : Str → Option Value) (dp : Nat) (un : Nat) (gd : Option (List Code)) (cn : Str) (cs : Scope) (a : Addr) (ccd : Value) (cl : List (Str × Addr)) (outer : List Env) (A₀ : Around) (base : Heap) (h₀ : Heap) (L : Addr) (m : Str → Option Value) (R : List (Addr × Obj)) (T : List (Addr × Obj)) (s : Shared) (Q : Value → Shared → Prop) (E : Value → Shared → Prop) (x : Addr) (dx : Addr) (t1 : Tok) (t2 : Tok) (t3 : Tok) (td : Tok) (data : Array UInt8) (vdue : Value) (vack : Value) (t : Tok) (due : List (Int × Int)) (most : Int) : Prop := ∀ (B : Below A₀ base outer h₀) (F : Fr h₀ L s.heap m) (X : (hd.heap_1 w.params).In h₀) (N : News h₀ L s.heap ((x, instObj 180 dx) :: (dx, outD w t1 t2 t3 (.bytes data td) vdue vack) :: R)) (Tp : Top p loose mean mg mb h₀) (hk : cs.kind = .function) (hTR : ∀ p ∈ T, p ∈ R) (hxd : @Ne Nat x dx) (hO : OwnOff R [x, dx]) (hv : DatIn T vdue (spD due)) (hsp : due.length ≤ 1000) (hpos : ∀ q ∈ due, q.1 < q.2) (hdz : data.size ≤ 1000) (hmo : 0 < most) (hdp : dp + 3 < recursionLimit) (hun : un + 300 < cLine) (ret0 : due = [] → ∀ h' tk', Fr h₀ L h' m → News h₀ L h' ((x, instObj 180 dx) :: (dx, outD w t1 t2 t3 (.bytes data td) vdue vack) :: R) → Q .none { s with heap := h', toks := tk' }) (ret1 : ∀ lo hi rest, due = (lo, hi) :: rest → ∀ r tl vdue' h' tk', Fr h₀ L h' m → News h₀ L h' ((x, instObj 180 dx) :: (dx, outD w t1 t2 t3 (.bytes data td) vdue' vack) :: (tl ++ R)) → Ext [x, dx] R tl →
    DatIn (tl ++ T) vdue' (spD (cutL due lo (pmin hi (lo + most)))) → DatIn (tl ++ T) r (pcD (lo, KBy.picked data (some lo) (some (pmin hi (lo + most))))) → Q r { s with heap := h', toks := tk' }),
  wpAny (model P0 w) (ktrTop dp un gd cn cs L a ccd cl outer) (call (.ref 156) [.ref x, .int most t]) Q E s
noncomputable def S (c : CxF) : Prop := ∀ (due : List (Int × Int)) (most : Int), St (cx_w (c).1) (cx_p (c).1) (cx_loose (c).1) (cx_mean (c).1) (cx_mg (c).1) (cx_mb (c).1) (cx_dp (c).1) (cx_un (c).1) (cx_gd (c).1) (cx_cn (c).1) (cx_cs (c).1) (cx_a (c).1) (cx_ccd (c).1) (cx_cl (c).1) (cx_outer (c).1) (cx_A₀ (c).1) (cx_base (c).1) (cx_h₀ (c).1) (cx_L (c).1) (cx_m (c).1) (cx_R (c).1) (cx_T (c).1) (cx_s (c).1) (cx_Q (c).1) (cx_E (c).1) (cx_adr c 0) (cx_adr c 1) (cx_tok c 0) (cx_tok c 1) (cx_tok c 2) (cx_tok c 3) (cx_byt c 0) (cx_val c 0) (cx_val c 1) (cx_tok c 4) due most
noncomputable def kx9 : CxF := @Classical.epsilon (CxF) ne_cxf fun c => ¬ S c
set_option maxRecDepth 100000 in
set_option maxHeartbeats 8000000 in
theorem walk : S kx9 := by
  show ∀ (due : List (Int × Int)) (most : Int), St (cx_w (kx9).1) (cx_p (kx9).1) (cx_loose (kx9).1) (cx_mean (kx9).1) (cx_mg (kx9).1) (cx_mb (kx9).1) (cx_dp (kx9).1) (cx_un (kx9).1) (cx_gd (kx9).1) (cx_cn (kx9).1) (cx_cs (kx9).1) (cx_a (kx9).1) (cx_ccd (kx9).1) (cx_cl (kx9).1) (cx_outer (kx9).1) (cx_A₀ (kx9).1) (cx_base (kx9).1) (cx_h₀ (kx9).1) (cx_L (kx9).1) (cx_m (kx9).1) (cx_R (kx9).1) (cx_T (kx9).1) (cx_s (kx9).1) (cx_Q (kx9).1) (cx_E (kx9).1) (cx_adr kx9 0) (cx_adr kx9 1) (cx_tok kx9 0) (cx_tok kx9 1) (cx_tok kx9 2) (cx_tok kx9 3) (cx_byt kx9 0) (cx_val kx9 0) (cx_val kx9 1) (cx_tok kx9 4) due most
  generalize (cx_w (kx9).1) = w, (cx_p (kx9).1) = p, (cx_loose (kx9).1) = loose, (cx_mean (kx9).1) = mean, (cx_mg (kx9).1) = mg, (cx_mb (kx9).1) = mb, (cx_dp (kx9).1) = dp, (cx_un (kx9).1) = un, (cx_gd (kx9).1) = gd, (cx_cn (kx9).1) = cn, (cx_cs (kx9).1) = cs, (cx_a (kx9).1) = a, (cx_ccd (kx9).1) = ccd, (cx_cl (kx9).1) = cl, (cx_outer (kx9).1) = outer, (cx_A₀ (kx9).1) = A₀, (cx_base (kx9).1) = base, (cx_h₀ (kx9).1) = h₀, (cx_L (kx9).1) = L, (cx_m (kx9).1) = m, (cx_R (kx9).1) = R, (cx_T (kx9).1) = T, (cx_s (kx9).1) = s, (cx_Q (kx9).1) = Q, (cx_E (kx9).1) = E, (cx_adr kx9 0) = x, (cx_adr kx9 1) = dx, (cx_tok kx9 0) = t1, (cx_tok kx9 1) = t2, (cx_tok kx9 2) = t3, (cx_tok kx9 3) = td, (cx_byt kx9 0) = data, (cx_val kx9 0) = vdue, (cx_val kx9 1) = vack, (cx_tok kx9 4) = t
  intro due most
  delta St
  intro B F X N Tp hk hTR hxd hO hv hsp hpos hdz hmo hdp hun ret0 ret1
  refine wpAny_call ?_
  k_dflt ktr_enter
  generalize s.toks + List.length _ = tk9
  rename Fr _ _ _ _ => F1
  have F2 : Fr _ _ _ (fun y => List.lookup y [(Str.ofString "most", Value.int most t), (Str.ofString "self", Value.ref x)]) := F1
  clear F1
  k_steps
  (unfold Mine.Held; k_dflt (refine' Mine.first_span_c ?B ?F ?X ?N ?Tp rfl ?hT ?hv ?hs ?hm ?hd ?hu ?_); (case B => k_asm); (case F => k_asm); (case X => k_asm); (case N => k_asm); (case Tp => k_asm); (case hv => assumption); (case hT => walk_at "mine sub"); (case hs => first | assumption | lia); (case hm => lia); (case hd => walk_at "mine room"); (case hu => walk_at "mine room"))
  intro r tl h' tk' kF kN hA hr
  have hE1 := (Ext.nil hO).step (M := [_, _]) (tl := []) rfl hA
  rw [List.append_nil] at hE1
  replace kN := news_mv (M := [_, _]) (R := R) kN
  have hT1 := sub_mv (tl := tl) hTR
  dsimp only [List.cons_append, List.nil_append] at kN
  revert hv hsp hpos ret0 ret1 hr
  refine el_lst due ?_ ?_
  · intro hv hsp hpos ret0 ret1 hr
    have hr' : r = Value.none := hr
    subst hr'
    k_steps
    rename Fr _ _ _ _ => kF
    rename News _ _ _ _ => kN
    refine ret0 rfl _ _ kF fun p hp => kN p ?_
    rcases List.mem_cons.mp hp with rfl | hp
    · exact .head _
    · rcases List.mem_cons.mp hp with rfl | hp
      · exact .tail _ (.head _)
      · exact .tail _ (.tail _ (List.mem_append.mpr (.inr hp)))
  · refine all_prod ?_
    intro lo hi due hv hsp hpos ret0 ret1 hr
    have hlh := hpos _ (.head _)
    dsimp only at hlh
    have hr' : DatIn (tl ++ T) r (prD (lo, pmin hi (lo + most))) := hr
    have hv1 : DatIn (tl ++ T) vdue (spD ((lo, hi) :: due)) := hv.mono fun p hp => List.mem_append.mpr (.inr hp)
    clear hr
    refine el_pair hr' ?_
    clear hr'
    intro pa p1 p2 pn hmt
    have hmtR := hT1 _ hmt
    have hlm : lo < pmin hi (lo + most) := by unfold pmin; split <;> lia
    dsimp only at hmtR
    generalize hE : pmin hi (lo + most) = e at *
    generalize hR1 : tl ++ R = R1 at *
    generalize hTT1 : tl ++ T = T1 at *
    k_steps
    (unfold Mine.Held; k_dflt (refine' Mine.cut_span_c ?B ?F ?X ?N ?Tp rfl ?hT ?hv ?hs ?hm ?hd ?hu ?_); (case B => k_asm); (case F => k_asm); (case X => k_asm); (case N => k_asm); (case Tp => k_asm); (case hv => assumption); (case hT => walk_at "mine sub"); (case hs => first | assumption | lia); (case hm => first | assumption | lia); (case hd => walk_at "mine room"); (case hu => walk_at "mine room"))
    intro r2 tl2 h2 tk2 kF kN hA2 hr2
    subst hR1 hTT1
    have hE2 := hE1.step (M := [_, _]) rfl hA2
    replace kN := news_mv (M := [_, _]) (R := tl ++ R) kN
    dsimp only [List.cons_append, List.nil_append] at kN
    rw [← List.append_assoc] at kN hr2
    have hmtR2 := mem_up (tl2 := tl2) hmtR
    have hx1 := hE2.off (b := x) (.head _)
    have hx2 := hE2.off (b := dx) (.tail _ (.head _))
    clear hmt hmtR
    generalize hR2 : (tl2 ++ tl) ++ R = R2 at hx1 hx2 hmtR2 kN
    k_steps
    rename Fr _ _ _ _ => kF
    rename News _ _ _ _ => kN
    subst hR2 hE
    replace kN := news_mv (M := [_, _]) (tl := [_]) (R := (tl2 ++ tl) ++ R) kN
    rename (_ ∧ _ ∧ AllLt _ _) => l1
    refine ret1 lo hi due rfl _ (_ :: (tl2 ++ tl)) r2 _ _ kF kN (hE2.alloc l1) ?_ (pcIn (.head _))
    exact hr2.mono fun p hp => .tail _ hp
end next_chunk_c_k
section
variable {w : World} {p : Program} {loose : List Str} {mean : ExcName → Option Value} {mg mb : Str → Option Value} {dp un : Nat} {gd : Option (List Code)} {cn : Str} {cs : Scope} {a : Addr} {ccd : Value} {cl : List (Str × Addr)} {outer : List Env} {A₀ : Around} {base h₀ : Heap} {L : Addr} {m : Str → Option Value} {R T : List (Addr × Obj)} {s : Shared} {v : Value} {Q E : Value → Shared → Prop}
theorem next_chunk_c {x dx : Addr} {t1 t2 t3 td : Tok} {data : Array UInt8} {vdue vack : Value} {due : List (Int × Int)} {most : Int} {t : Tok} :
  next_chunk_c_k.St w p loose mean mg mb dp un gd cn cs a ccd cl outer A₀ base h₀ L m R T s Q E x dx t1 t2 t3 td data vdue vack t due most := all_eps (S := next_chunk_c_k.S) next_chunk_c_k.walk ((w, p, loose, mean, mg, mb, dp, un, gd, cn, cs, a, ccd, cl, outer, A₀, base, h₀, L, m, R, T, s, (cx_v cx0), Q, E), fn [t1, t2, t3, td, t] default, fn [x, dx] default, fn [vdue, vack] default, fn [] default, fn [] [], fn [data] #[], fn [] []) due most
end
end Mine

namespace Mine
section
variable {w : World} {p : Program} {loose : List Str} {mean : ExcName → Option Value} {mg mb : Str → Option Value} {dp un : Nat} {gd : Option (List Code)} {cn : Str} {cs : Scope} {a : Addr} {ccd : Value} {cl : List (Str × Addr)} {outer : List Env} {A₀ : Around} {base h₀ : Heap} {L : Addr} {m : Str → Option Value} {R T : List (Addr × Obj)} {s : Shared} {v : Value} {Q E : Value → Shared → Prop}
end
namespace put_c_k
noncomputable def St (w : World) (p : Program) (loose : List Str) (mean : ExcName → Option Value) (mg : Str → Option Value) (mb : Str → Option Value) (dp : Nat) (un : Nat) (gd : Option (List Code)) (cn : Str) (cs : Scope) (a : Addr) (ccd : Value) (cl : List (Str × Addr)) (outer : List Env) (A₀ : Around) (base : Heap) (h₀ : Heap) (L : Addr) (m : Str → Option Value) (R : List (Addr × Obj)) (T : List (Addr × Obj)) (s : Shared) (Q : Value → Shared → Prop) (E : Value → Shared → Prop) (x : Addr) (dx : Addr) (t1 : Tok) (t2 : Tok) (t3 : Tok) (td : Tok) (tm : Tok) (data : Array UInt8) (more : Array UInt8) (vdue : Value) (vack : Value) (due : List (Int × Int)) : Prop := ∀ (B : Below A₀ base outer h₀) (F : Fr h₀ L s.heap m) (X : (hd.heap_1 w.params).In h₀) (N : News h₀ L s.heap ((x, instObj 180 dx) :: (dx, outD w t1 t2 t3 (.bytes data td) vdue vack) :: R)) (Tp : Top p loose mean mg mb h₀) (hk : cs.kind = .function) (hTR : ∀ p ∈ T, p ∈ R) (hxd : @Ne Nat x dx) (hO : OwnOff R [x, dx]) (hv : DatIn T vdue (spD due)) (hsp : due.length ≤ 1000) (hdz : data.size ≤ 1000) (hmz : more.size ≤ 1000) (hdp : dp + 3 < recursionLimit) (hun : un + 300 < cLine) (ret : ∀ tl vdue' td' h' tk', Fr h₀ L h' m → News h₀ L h' ((x, instObj 180 dx) :: (dx, outD w t1 t2 t3 (.bytes (data ++ more) td') vdue' vack) :: (tl ++ R)) → Ext [x, dx] R tl →
    DatIn (tl ++ T) vdue' (spD (addL due (data.size : Int) ((data.size : Int) + (more.size : Int)))) → Q .none { s with heap := h', toks := tk' }),
  wpAny (model P0 w) (ktrTop dp un gd cn cs L a ccd cl outer) (call (.ref 149) [.ref x, .bytes more tm]) Q E s
noncomputable def S (c : CxF) : Prop := St (cx_w (c).1) (cx_p (c).1) (cx_loose (c).1) (cx_mean (c).1) (cx_mg (c).1) (cx_mb (c).1) (cx_dp (c).1) (cx_un (c).1) (cx_gd (c).1) (cx_cn (c).1) (cx_cs (c).1) (cx_a (c).1) (cx_ccd (c).1) (cx_cl (c).1) (cx_outer (c).1) (cx_A₀ (c).1) (cx_base (c).1) (cx_h₀ (c).1) (cx_L (c).1) (cx_m (c).1) (cx_R (c).1) (cx_T (c).1) (cx_s (c).1) (cx_Q (c).1) (cx_E (c).1) (cx_adr c 0) (cx_adr c 1) (cx_tok c 0) (cx_tok c 1) (cx_tok c 2) (cx_tok c 3) (cx_tok c 4) (cx_byt c 0) (cx_byt c 1) (cx_val c 0) (cx_val c 1) (cx_sps c 0)
noncomputable def kx9 : CxF := @Classical.epsilon (CxF) ne_cxf fun c => ¬ S c
set_option maxRecDepth 100000 in
set_option maxHeartbeats 8000000 in
theorem walk : S kx9 := by
  show St (cx_w (kx9).1) (cx_p (kx9).1) (cx_loose (kx9).1) (cx_mean (kx9).1) (cx_mg (kx9).1) (cx_mb (kx9).1) (cx_dp (kx9).1) (cx_un (kx9).1) (cx_gd (kx9).1) (cx_cn (kx9).1) (cx_cs (kx9).1) (cx_a (kx9).1) (cx_ccd (kx9).1) (cx_cl (kx9).1) (cx_outer (kx9).1) (cx_A₀ (kx9).1) (cx_base (kx9).1) (cx_h₀ (kx9).1) (cx_L (kx9).1) (cx_m (kx9).1) (cx_R (kx9).1) (cx_T (kx9).1) (cx_s (kx9).1) (cx_Q (kx9).1) (cx_E (kx9).1) (cx_adr kx9 0) (cx_adr kx9 1) (cx_tok kx9 0) (cx_tok kx9 1) (cx_tok kx9 2) (cx_tok kx9 3) (cx_tok kx9 4) (cx_byt kx9 0) (cx_byt kx9 1) (cx_val kx9 0) (cx_val kx9 1) (cx_sps kx9 0)
  generalize (cx_w (kx9).1) = w, (cx_p (kx9).1) = p, (cx_loose (kx9).1) = loose, (cx_mean (kx9).1) = mean, (cx_mg (kx9).1) = mg, (cx_mb (kx9).1) = mb, (cx_dp (kx9).1) = dp, (cx_un (kx9).1) = un, (cx_gd (kx9).1) = gd, (cx_cn (kx9).1) = cn, (cx_cs (kx9).1) = cs, (cx_a (kx9).1) = a, (cx_ccd (kx9).1) = ccd, (cx_cl (kx9).1) = cl, (cx_outer (kx9).1) = outer, (cx_A₀ (kx9).1) = A₀, (cx_base (kx9).1) = base, (cx_h₀ (kx9).1) = h₀, (cx_L (kx9).1) = L, (cx_m (kx9).1) = m, (cx_R (kx9).1) = R, (cx_T (kx9).1) = T, (cx_s (kx9).1) = s, (cx_Q (kx9).1) = Q, (cx_E (kx9).1) = E, (cx_adr kx9 0) = x, (cx_adr kx9 1) = dx, (cx_tok kx9 0) = t1, (cx_tok kx9 1) = t2, (cx_tok kx9 2) = t3, (cx_tok kx9 3) = td, (cx_tok kx9 4) = tm, (cx_byt kx9 0) = data, (cx_byt kx9 1) = more, (cx_val kx9 0) = vdue, (cx_val kx9 1) = vack, (cx_sps kx9 0) = due
  delta St
  intro B F X N Tp hk hTR hxd hO hv hsp hdz hmz hdp hun ret
  refine wpAny_call ?_
  k_dflt ktr_enter
  generalize s.toks + List.length _ = tk9
  rename Fr _ _ _ _ => F1
  have F2 : Fr _ _ _ (fun y => List.lookup y [(Str.ofString "data", Value.bytes more tm), (Str.ofString "self", Value.ref x)]) := F1
  clear F1
  k_steps
  (unfold Mine.Held; k_dflt (refine' Mine.add_span_c ?B ?F ?X ?N ?Tp rfl ?hT ?hv ?hs ?hd ?hu ?_); (case B => k_asm); (case F => k_asm); (case X => k_asm); (case N => k_asm); (case Tp => k_asm); (case hv => assumption); (case hT => walk_at "mine sub"); (case hs => first | assumption | lia); (case hd => walk_at "mine room"); (case hu => walk_at "mine room"))
  intro r tl h' tk' kF kN hA hr
  have hE1 := (Ext.nil hO).step (M := [_, _]) (tl := []) rfl hA
  rw [List.append_nil] at hE1
  replace kN := news_mv (M := [_, _]) (R := R) kN
  dsimp only [List.cons_append, List.nil_append] at kN
  have hx1 := hE1.off (b := x) (.head _)
  have hx2 := hE1.off (b := dx) (.tail _ (.head _))
  generalize hR1 : tl ++ R = R1 at hx1 hx2 kN
  k_steps
  rename Fr _ _ _ _ => kF
  rename News _ _ _ _ => kN
  subst hR1
  exact ret tl r _ _ _ kF kN hE1 hr
end put_c_k
section
variable {w : World} {p : Program} {loose : List Str} {mean : ExcName → Option Value} {mg mb : Str → Option Value} {dp un : Nat} {gd : Option (List Code)} {cn : Str} {cs : Scope} {a : Addr} {ccd : Value} {cl : List (Str × Addr)} {outer : List Env} {A₀ : Around} {base h₀ : Heap} {L : Addr} {m : Str → Option Value} {R T : List (Addr × Obj)} {s : Shared} {v : Value} {Q E : Value → Shared → Prop}
theorem put_c {x dx : Addr} {t1 t2 t3 td tm : Tok} {data more : Array UInt8} {vdue vack : Value} {due : List (Int × Int)} :
  put_c_k.St w p loose mean mg mb dp un gd cn cs a ccd cl outer A₀ base h₀ L m R T s Q E x dx t1 t2 t3 td tm data more vdue vack due := all_eps (S := put_c_k.S) put_c_k.walk ((w, p, loose, mean, mg, mb, dp, un, gd, cn, cs, a, ccd, cl, outer, A₀, base, h₀, L, m, R, T, s, (cx_v cx0), Q, E), fn [t1, t2, t3, td, tm] default, fn [x, dx] default, fn [vdue, vack] default, fn [] default, fn [due] [], fn [data, more] #[], fn [] [])
end
namespace on_acked_c_k
noncomputable def St (w : World) (p : Program) (loose : List Str) (mean : ExcName → Option Value) (mg : Str → Option Value) (mb : Str → Option Value) (dp : Nat) (un : Nat) (gd : Option (List Code)) (cn : Str) (cs : Scope) (a : Addr) (ccd : Value) (cl : List (Str × Addr)) (outer : List Env) (A₀ : Around) (base : Heap) (h₀ : Heap) (L : Addr) (m : Str → Option Value) (R : List (Addr × Obj)) (T : List (Addr × Obj)) (s : Shared) (Q : Value → Shared → Prop) (E : Value → Shared → Prop) (x : Addr) (dx : Addr) (t1 : Tok) (t2 : Tok) (t3 : Tok) (td : Tok) (to : Tok) (tz : Tok) (data : Array UInt8) (vdue : Value) (vack : Value) (due : List (Int × Int)) (ack : List (Int × Int)) (off : Int) (sz : Int) : Prop := ∀ (B : Below A₀ base outer h₀) (F : Fr h₀ L s.heap m) (X : (hd.heap_1 w.params).In h₀) (N : News h₀ L s.heap ((x, instObj 180 dx) :: (dx, outD w t1 t2 t3 (.bytes data td) vdue vack) :: R)) (Tp : Top p loose mean mg mb h₀) (hk : cs.kind = .function) (hTR : ∀ p ∈ T, p ∈ R) (hxd : @Ne Nat x dx) (hO : OwnOff R [x, dx]) (hv : DatIn T vdue (spD due)) (hva : DatIn T vack (spD ack)) (hsp : due.length ≤ 1000) (hsa : ack.length ≤ 1000) (hsz : 0 < sz) (hdp : dp + 3 < recursionLimit) (hun : un + 300 < cLine) (ret : ∀ tl vdue' vack' h' tk', Fr h₀ L h' m → News h₀ L h' ((x, instObj 180 dx) :: (dx, outD w t1 t2 t3 (.bytes data td) vdue' vack') :: (tl ++ R)) → Ext [x, dx] R tl →
    DatIn (tl ++ T) vdue' (spD (cutL due off (off + sz))) → DatIn (tl ++ T) vack' (spD (addL ack off (off + sz))) → Q .none { s with heap := h', toks := tk' }),
  wpAny (model P0 w) (ktrTop dp un gd cn cs L a ccd cl outer) (call (.ref 170) [.ref x, .int off to, .int sz tz]) Q E s
noncomputable def S (c : CxF) : Prop := ∀ (off : Int) (sz : Int), St (cx_w (c).1) (cx_p (c).1) (cx_loose (c).1) (cx_mean (c).1) (cx_mg (c).1) (cx_mb (c).1) (cx_dp (c).1) (cx_un (c).1) (cx_gd (c).1) (cx_cn (c).1) (cx_cs (c).1) (cx_a (c).1) (cx_ccd (c).1) (cx_cl (c).1) (cx_outer (c).1) (cx_A₀ (c).1) (cx_base (c).1) (cx_h₀ (c).1) (cx_L (c).1) (cx_m (c).1) (cx_R (c).1) (cx_T (c).1) (cx_s (c).1) (cx_Q (c).1) (cx_E (c).1) (cx_adr c 0) (cx_adr c 1) (cx_tok c 0) (cx_tok c 1) (cx_tok c 2) (cx_tok c 3) (cx_tok c 4) (cx_tok c 5) (cx_byt c 0) (cx_val c 0) (cx_val c 1) (cx_sps c 0) (cx_sps c 1) off sz
noncomputable def kx9 : CxF := @Classical.epsilon (CxF) ne_cxf fun c => ¬ S c
set_option maxRecDepth 100000 in
set_option maxHeartbeats 8000000 in
theorem walk : S kx9 := by
  show ∀ (off : Int) (sz : Int), St (cx_w (kx9).1) (cx_p (kx9).1) (cx_loose (kx9).1) (cx_mean (kx9).1) (cx_mg (kx9).1) (cx_mb (kx9).1) (cx_dp (kx9).1) (cx_un (kx9).1) (cx_gd (kx9).1) (cx_cn (kx9).1) (cx_cs (kx9).1) (cx_a (kx9).1) (cx_ccd (kx9).1) (cx_cl (kx9).1) (cx_outer (kx9).1) (cx_A₀ (kx9).1) (cx_base (kx9).1) (cx_h₀ (kx9).1) (cx_L (kx9).1) (cx_m (kx9).1) (cx_R (kx9).1) (cx_T (kx9).1) (cx_s (kx9).1) (cx_Q (kx9).1) (cx_E (kx9).1) (cx_adr kx9 0) (cx_adr kx9 1) (cx_tok kx9 0) (cx_tok kx9 1) (cx_tok kx9 2) (cx_tok kx9 3) (cx_tok kx9 4) (cx_tok kx9 5) (cx_byt kx9 0) (cx_val kx9 0) (cx_val kx9 1) (cx_sps kx9 0) (cx_sps kx9 1) off sz
  generalize (cx_w (kx9).1) = w, (cx_p (kx9).1) = p, (cx_loose (kx9).1) = loose, (cx_mean (kx9).1) = mean, (cx_mg (kx9).1) = mg, (cx_mb (kx9).1) = mb, (cx_dp (kx9).1) = dp, (cx_un (kx9).1) = un, (cx_gd (kx9).1) = gd, (cx_cn (kx9).1) = cn, (cx_cs (kx9).1) = cs, (cx_a (kx9).1) = a, (cx_ccd (kx9).1) = ccd, (cx_cl (kx9).1) = cl, (cx_outer (kx9).1) = outer, (cx_A₀ (kx9).1) = A₀, (cx_base (kx9).1) = base, (cx_h₀ (kx9).1) = h₀, (cx_L (kx9).1) = L, (cx_m (kx9).1) = m, (cx_R (kx9).1) = R, (cx_T (kx9).1) = T, (cx_s (kx9).1) = s, (cx_Q (kx9).1) = Q, (cx_E (kx9).1) = E, (cx_adr kx9 0) = x, (cx_adr kx9 1) = dx, (cx_tok kx9 0) = t1, (cx_tok kx9 1) = t2, (cx_tok kx9 2) = t3, (cx_tok kx9 3) = td, (cx_tok kx9 4) = to, (cx_tok kx9 5) = tz, (cx_byt kx9 0) = data, (cx_val kx9 0) = vdue, (cx_val kx9 1) = vack, (cx_sps kx9 0) = due, (cx_sps kx9 1) = ack
  intro off sz
  delta St
  intro B F X N Tp hk hTR hxd hO hv hva hsp hsa hsz hdp hun ret
  refine wpAny_call ?_
  k_dflt ktr_enter
  generalize s.toks + List.length _ = tk9
  rename Fr _ _ _ _ => F1
  have F2 : Fr _ _ _ (fun y => List.lookup y [(Str.ofString "size", Value.int sz tz), (Str.ofString "offset", Value.int off to), (Str.ofString "self", Value.ref x)]) := F1
  clear F1
  k_steps
  (unfold Mine.Held; k_dflt (refine' Mine.add_span_c ?B ?F ?X ?N ?Tp rfl ?hT ?hv ?hs ?hd ?hu ?_); (case B => k_asm); (case F => k_asm); (case X => k_asm); (case N => k_asm); (case Tp => k_asm); (case hv => assumption); (case hT => walk_at "mine sub"); (case hs => first | assumption | lia); (case hd => walk_at "mine room"); (case hu => walk_at "mine room"))
  intro r tl h' tk' kF kN hA hr
  have hE1 := (Ext.nil hO).step (M := [_, _]) (tl := []) rfl hA
  rw [List.append_nil] at hE1
  replace kN := news_mv (M := [_, _]) (R := R) kN
  have hT1 := sub_mv (tl := tl) hTR
  dsimp only [List.cons_append, List.nil_append] at kN
  have hx1 := hE1.off (b := x) (.head _)
  have hx2 := hE1.off (b := dx) (.tail _ (.head _))
  have hv1 : DatIn (tl ++ T) vdue (spD due) := hv.mono fun p hp => List.mem_append.mpr (.inr hp)
  generalize hR1 : tl ++ R = R1 at hx1 hx2 kN hT1
  clear hTR
  k_steps
  (unfold Mine.Held; k_dflt (refine' Mine.cut_span_c ?B ?F ?X ?N ?Tp rfl ?hT ?hv ?hs ?hm ?hd ?hu ?_); (case B => k_asm); (case F => k_asm); (case X => k_asm); (case N => k_asm); (case Tp => k_asm); (case hv => assumption); (case hT => walk_at "mine sub"); (case hs => first | assumption | lia); (case hm => first | assumption | lia); (case hd => walk_at "mine room"); (case hu => walk_at "mine room"))
  intro r2 tl2 h2 tk2 kF kN hA2 hr2
  subst hR1
  have hE2 := hE1.step (M := [_, _]) rfl hA2
  replace kN := news_mv (M := [_, _]) (R := tl ++ R) kN
  dsimp only [List.cons_append, List.nil_append] at kN
  rw [← List.append_assoc] at kN hr2
  clear hx1 hx2
  have hx1 := hE2.off (b := x) (.head _)
  have hx2 := hE2.off (b := dx) (.tail _ (.head _))
  generalize hR2 : (tl2 ++ tl) ++ R = R2 at hx1 hx2 kN
  k_steps
  rename Fr _ _ _ _ => kF
  rename News _ _ _ _ => kN
  subst hR2
  exact ret (tl2 ++ tl) r2 r _ _ kF kN hE2 hr2 (hr.mono fun p hp => by rw [List.append_assoc]; exact List.mem_append.mpr (.inr hp))
end on_acked_c_k
section
variable {w : World} {p : Program} {loose : List Str} {mean : ExcName → Option Value} {mg mb : Str → Option Value} {dp un : Nat} {gd : Option (List Code)} {cn : Str} {cs : Scope} {a : Addr} {ccd : Value} {cl : List (Str × Addr)} {outer : List Env} {A₀ : Around} {base h₀ : Heap} {L : Addr} {m : Str → Option Value} {R T : List (Addr × Obj)} {s : Shared} {v : Value} {Q E : Value → Shared → Prop}
theorem on_acked_c {x dx : Addr} {t1 t2 t3 td to tz : Tok} {data : Array UInt8} {vdue vack : Value} {due ack : List (Int × Int)} {off sz : Int} :
  on_acked_c_k.St w p loose mean mg mb dp un gd cn cs a ccd cl outer A₀ base h₀ L m R T s Q E x dx t1 t2 t3 td to tz data vdue vack due ack off sz := all_eps (S := on_acked_c_k.S) on_acked_c_k.walk ((w, p, loose, mean, mg, mb, dp, un, gd, cn, cs, a, ccd, cl, outer, A₀, base, h₀, L, m, R, T, s, (cx_v cx0), Q, E), fn [t1, t2, t3, td, to, tz] default, fn [x, dx] default, fn [vdue, vack] default, fn [] default, fn [due, ack] [], fn [data] #[], fn [] []) off sz
end
end Mine

namespace Mine
noncomputable def lostL (due lst : List (Int × Int)) : List (Int × Int) := lst.foldl (fun d q => addL d q.1 q.2) due
section
variable {w : World} {p : Program} {loose : List Str} {mean : ExcName → Option Value} {mg mb : Str → Option Value} {dp un : Nat} {gd : Option (List Code)} {cn : Str} {cs : Scope} {a : Addr} {ccd : Value} {cl : List (Str × Addr)} {outer : List Env} {A₀ : Around} {base h₀ : Heap} {L : Addr} {m : Str → Option Value} {R T : List (Addr × Obj)} {s : Shared} {v : Value} {Q E : Value → Shared → Prop}
end
namespace on_lost_c_k
noncomputable def St (w : World) (p : Program) (loose : List Str) (mean : ExcName → Option Value) (mg : Str → Option Value) (mb : Str → Option Value) (dp : Nat) (un : Nat) (gd : Option (List Code)) (cn : Str) (cs : Scope) (a : Addr) (ccd : Value) (cl : List (Str × Addr)) (outer : List Env) (A₀ : Around) (base : Heap) (h₀ : Heap) (L : Addr) (m : Str → Option Value) (R : List (Addr × Obj)) (T : List (Addr × Obj)) (s : Shared) (Q : Value → Shared → Prop) (E : Value → Shared → Prop) (x : Addr) (dx : Addr) (t1 : Tok) (t2 : Tok) (t3 : Tok) (td : Tok) (to : Tok) (tz : Tok) (data : Array UInt8) (vdue : Value) (vack : Value) (due : List (Int × Int)) (ack : List (Int × Int)) (off : Int) (sz : Int) : Prop := ∀ (B : Below A₀ base outer h₀) (F : Fr h₀ L s.heap m) (X : (hd.heap_1 w.params).In h₀) (N : News h₀ L s.heap ((x, instObj 180 dx) :: (dx, outD w t1 t2 t3 (.bytes data td) vdue vack) :: R)) (Tp : Top p loose mean mg mb h₀) (hk : cs.kind = .function) (hTR : ∀ p ∈ T, p ∈ R) (hxd : @Ne Nat x dx) (hO : OwnOff R [x, dx]) (hv : DatIn T vdue (spD due)) (hva : DatIn T vack (spD ack)) (hack : ∀ q ∈ ack, q.1 < q.2) (hw : ∀ i, (withoutL [(off, off + sz)] (ack.take i)).length ≤ 1000) (hl : ∀ i, (lostL due ((withoutL [(off, off + sz)] ack).take i)).length ≤ 1000) (hdp : dp + 4 < recursionLimit) (hun : un + 400 < cLine) (ret : ∀ tl vdue' h' tk', Fr h₀ L h' m → News h₀ L h' ((x, instObj 180 dx) :: (dx, outD w t1 t2 t3 (.bytes data td) vdue' vack) :: (tl ++ R)) → Ext [x, dx] R tl →
    DatIn (tl ++ T) vdue' (spD (lostL due (withoutL [(off, off + sz)] ack))) → Q .none { s with heap := h', toks := tk' }),
  wpAny (model P0 w) (ktrTop dp un gd cn cs L a ccd cl outer) (call (.ref 163) [.ref x, .int off to, .int sz tz]) Q E s
noncomputable def S (c : CxF) : Prop := ∀ (off : Int) (sz : Int), St (cx_w (c).1) (cx_p (c).1) (cx_loose (c).1) (cx_mean (c).1) (cx_mg (c).1) (cx_mb (c).1) (cx_dp (c).1) (cx_un (c).1) (cx_gd (c).1) (cx_cn (c).1) (cx_cs (c).1) (cx_a (c).1) (cx_ccd (c).1) (cx_cl (c).1) (cx_outer (c).1) (cx_A₀ (c).1) (cx_base (c).1) (cx_h₀ (c).1) (cx_L (c).1) (cx_m (c).1) (cx_R (c).1) (cx_T (c).1) (cx_s (c).1) (cx_Q (c).1) (cx_E (c).1) (cx_adr c 0) (cx_adr c 1) (cx_tok c 0) (cx_tok c 1) (cx_tok c 2) (cx_tok c 3) (cx_tok c 4) (cx_tok c 5) (cx_byt c 0) (cx_val c 0) (cx_val c 1) (cx_sps c 0) (cx_sps c 1) off sz
noncomputable def kx9 : CxF := @Classical.epsilon (CxF) ne_cxf fun c => ¬ S c
set_option maxRecDepth 100000 in
set_option maxHeartbeats 8000000 in
theorem walk : S kx9 := by
  show ∀ (off : Int) (sz : Int), St (cx_w (kx9).1) (cx_p (kx9).1) (cx_loose (kx9).1) (cx_mean (kx9).1) (cx_mg (kx9).1) (cx_mb (kx9).1) (cx_dp (kx9).1) (cx_un (kx9).1) (cx_gd (kx9).1) (cx_cn (kx9).1) (cx_cs (kx9).1) (cx_a (kx9).1) (cx_ccd (kx9).1) (cx_cl (kx9).1) (cx_outer (kx9).1) (cx_A₀ (kx9).1) (cx_base (kx9).1) (cx_h₀ (kx9).1) (cx_L (kx9).1) (cx_m (kx9).1) (cx_R (kx9).1) (cx_T (kx9).1) (cx_s (kx9).1) (cx_Q (kx9).1) (cx_E (kx9).1) (cx_adr kx9 0) (cx_adr kx9 1) (cx_tok kx9 0) (cx_tok kx9 1) (cx_tok kx9 2) (cx_tok kx9 3) (cx_tok kx9 4) (cx_tok kx9 5) (cx_byt kx9 0) (cx_val kx9 0) (cx_val kx9 1) (cx_sps kx9 0) (cx_sps kx9 1) off sz
  generalize (cx_w (kx9).1) = w, (cx_p (kx9).1) = p, (cx_loose (kx9).1) = loose, (cx_mean (kx9).1) = mean, (cx_mg (kx9).1) = mg, (cx_mb (kx9).1) = mb, (cx_dp (kx9).1) = dp, (cx_un (kx9).1) = un, (cx_gd (kx9).1) = gd, (cx_cn (kx9).1) = cn, (cx_cs (kx9).1) = cs, (cx_a (kx9).1) = a, (cx_ccd (kx9).1) = ccd, (cx_cl (kx9).1) = cl, (cx_outer (kx9).1) = outer, (cx_A₀ (kx9).1) = A₀, (cx_base (kx9).1) = base, (cx_h₀ (kx9).1) = h₀, (cx_L (kx9).1) = L, (cx_m (kx9).1) = m, (cx_R (kx9).1) = R, (cx_T (kx9).1) = T, (cx_s (kx9).1) = s, (cx_Q (kx9).1) = Q, (cx_E (kx9).1) = E, (cx_adr kx9 0) = x, (cx_adr kx9 1) = dx, (cx_tok kx9 0) = t1, (cx_tok kx9 1) = t2, (cx_tok kx9 2) = t3, (cx_tok kx9 3) = td, (cx_tok kx9 4) = to, (cx_tok kx9 5) = tz, (cx_byt kx9 0) = data, (cx_val kx9 0) = vdue, (cx_val kx9 1) = vack, (cx_sps kx9 0) = due, (cx_sps kx9 1) = ack
  intro off sz
  delta St
  intro B F X N Tp hk hTR hxd hO hv hva hack hw hl hdp hun ret
  refine wpAny_call ?_
  k_dflt ktr_enter
  generalize s.toks + List.length _ = tk9
  rename Fr _ _ _ _ => F1
  have F2 : Fr _ _ _ (fun y => List.lookup y [(Str.ofString "size", Value.int sz tz), (Str.ofString "offset", Value.int off to), (Str.ofString "self", Value.ref x)]) := F1
  clear F1
  k_steps
  refine For_invTF F2 ?_ (by intro _; rfl)
  k_steps
  rename Fr _ _ _ _ => F1
  rename News _ _ _ _ => N1
  rename_i g L1 h1 FG B1 X1 T1 D h2 l1 lD h3 l2
  have hE1 : Ext [x, dx] R [(lD, W.listOf [Value.ref D].toArray 0), (D, { cls := .type "tuple", data := .seq #[Value.int off to, Value.int (off + sz) tk9] })] :=
    ((Ext.nil hO).alloc l1).alloc ⟨l2.2.1, l2.2.2.1, l2.1, l2.2.2.2⟩
  have N2 := news_mv (M := [_, _]) (tl := [_, _]) (R := R) N1
  have hT1 := sub_mv (tl := [(lD, W.listOf [Value.ref D].toArray 0), (D, { cls := .type "tuple", data := .seq #[Value.int off to, Value.int (off + sz) tk9] })]) hTR
  have hd1 : DatIn ([(lD, W.listOf [Value.ref D].toArray 0), (D, { cls := .type "tuple", data := .seq #[Value.int off to, Value.int (off + sz) tk9] })] ++ T) (Value.ref lD) (spD [(off, off + sz)]) :=
    DatIn.list (.head _) (DatAll.one (prIn (.tail _ (.head _))))
  have hva1 : DatIn ([(lD, W.listOf [Value.ref D].toArray 0), (D, { cls := .type "tuple", data := .seq #[Value.int off to, Value.int (off + sz) tk9] })] ++ T) vack (spD ack) := hva.mono fun p hp => List.mem_append.mpr (.inr hp)
  have hv1 : DatIn ([(lD, W.listOf [Value.ref D].toArray 0), (D, { cls := .type "tuple", data := .seq #[Value.int off to, Value.int (off + sz) tk9] })] ++ T) vdue (spD due) := hv.mono fun p hp => List.mem_append.mpr (.inr hp)
  generalize hA9 : [(lD, W.listOf [Value.ref D].toArray 0), (D, ({ cls := .type "tuple", data := .seq #[Value.int off to, Value.int (off + sz) tk9] } : Obj))] = A9 at hE1 hT1 hd1 hva1 hv1
  replace N2 : News g L1 h3 ((x, instObj 180 dx) :: (dx, outD w t1 t2 t3 (.bytes data td) vdue vack) :: (A9 ++ R)) := hA9 ▸ N2
  clear N1
  (unfold Mine.Held; k_dflt (refine' Mine.without_spans_c ?B ?F ?X ?N ?Tp rfl ?hT ?hv ?hv2 ?hs ?hm ?hd ?hu ?_); (case B => k_asm); (case F => k_asm); (case X => k_asm); (case N => k_asm); (case Tp => k_asm); (case hd => walk_at "mine room"); (case hu => walk_at "mine room"))
  case hT => exact fun p hp => .tail _ (.tail _ (hT1 p hp))
  case hv => exact hd1
  case hv2 => exact hva1
  case hs => exact hw
  case hm => exact hack
  intro r tl h4 tk4 kF kN hA hr
  have hE2 := hE1.step (M := [_, _]) rfl hA
  replace kN := news_mv (M := [_, _]) (R := A9 ++ R) kN
  dsimp only [List.cons_append, List.nil_append] at kN
  rw [← List.append_assoc] at kN hr
  unfold spD at hr
  cases hr with
  | list hm hall =>
  rename_i la vs nn
  k_steps
  refine mut_pairs (M₀ := [(x, instObj 180 dx), (dx, outD w t1 t2 t3 (.bytes data td) vdue vack)]) (tl₀ := tl ++ A9) [x, dx] (fun q : Int × Int => (Dat.int q.1, Dat.int q.2)) (withoutL [(off, off + sz)] ack) (fun d q => addL d q.1 q.2) due
    (fun st TT M m => ∃ vd, M = [(x, instObj 180 dx), (dx, outD w t1 t2 t3 (.bytes data td) vd vack)] ∧ DatIn TT vd (spD st) ∧ ∀ p ∈ [(Str.ofString "self", Value.ref x)], m p.1 = some p.2)
    rfl rfl rfl rfl hm (by rw [show (fun q : Int × Int => Dat.tuple [(Dat.int q.1, Dat.int q.2).1, (Dat.int q.1, Dat.int q.2).2]) = prD from rfl]; exact hall) hTR kF kN rfl hE2.1 hE2.2 ⟨vdue, rfl, hv1.mono (fun p hp => by rw [List.append_assoc]; exact List.mem_append.mpr (.inr hp)), by walk_at "mine fr"⟩ ?_ ?_
  · rintro pre a post v₁ v₂ m₁ tl' M (s₁ : Shared) h tk I oI hx D1 D2 hI hM hO' ⟨vd, rfl, hvd, hps⟩ F3 N3
    obtain ⟨lo, hi⟩ := a
    dsimp only at D1 D2
    cases D1
    cases D2
    clear kN F1 N2 l1 l2 kF
    replace F3 := fr_kv hps F3
    dsimp only [List.cons_append, List.nil_append] at N3
    have hlp := hl pre.length
    rw [show (withoutL [(off, off + sz)] ack).take pre.length = pre by rw [hx]; simp] at hlp
    have hIx : @Ne Nat x I := hI (x, _) (.head _)
    have hId : @Ne Nat dx I := hI (dx, _) (.tail _ (.head _))
    have hT2 := sub_mv (tl := tl') hTR
    k_steps
    unfold Held
    k_dflt (refine' add_span_c (T := tl' ++ T) ?B ?F ?X ?N ?Tp rfl ?hT hvd hlp ?hd ?hu ?_)
    case B => k_asm
    case F => k_asm
    case X => k_asm
    case N => k_asm
    case Tp => k_asm
    case hT => exact fun p hp => .tail _ (.tail _ (.tail _ (hT2 p hp)))
    case hd => walk_at "mine room"
    case hu => walk_at "mine room"
    intro r tl2 h5 tk5 kF kN hA2 hr2
    have hdx2 := off_one (M := [(I, oI), (x, instObj 180 dx), (dx, outD w t1 t2 t3 (.bytes data td) vd vack)]) (.tail _ (.tail _ (.head _))) hA2 (off_sub hO' (b := dx) (.tail _ (.head _)))
    replace kN := news_mv (M := [_, _, _]) (R := tl' ++ R) kN
    dsimp only [List.cons_append, List.nil_append] at kN
    generalize hR5 : tl2 ++ (tl' ++ R) = R5 at hdx2 kN
    k_steps
    rename Fr _ _ _ _ => F4
    rename News _ _ _ _ => N4
    subst hR5
    replace N4 := news_back (M := [_, _, _]) (tl := tl2) (R := tl' ++ R) N4
    exact mEnd tl2 [(x, instObj 180 dx), (dx, outD w t1 t2 t3 (.bytes data td) r vack)] F4 N4 rfl hA2 ⟨r, rfl, hr2, by walk_at "mine fr"⟩
  · rintro m₁ tl' M h tk ⟨vd, rfl, hvd, hps⟩ hM hO' hlt F3 N3
    replace F3 := fr_kv0 hps F3
    clear kN F1 N2 l1 l2 kF
    k_steps
    rename Fr _ _ _ _ => kF
    rename News _ _ _ _ => kN
    exact ret tl' vd _ _ kF kN ⟨hO', hlt⟩ hvd
end on_lost_c_k
section
variable {w : World} {p : Program} {loose : List Str} {mean : ExcName → Option Value} {mg mb : Str → Option Value} {dp un : Nat} {gd : Option (List Code)} {cn : Str} {cs : Scope} {a : Addr} {ccd : Value} {cl : List (Str × Addr)} {outer : List Env} {A₀ : Around} {base h₀ : Heap} {L : Addr} {m : Str → Option Value} {R T : List (Addr × Obj)} {s : Shared} {v : Value} {Q E : Value → Shared → Prop}
theorem on_lost_c {x dx : Addr} {t1 t2 t3 td to tz : Tok} {data : Array UInt8} {vdue vack : Value} {due ack : List (Int × Int)} {off sz : Int} :
  on_lost_c_k.St w p loose mean mg mb dp un gd cn cs a ccd cl outer A₀ base h₀ L m R T s Q E x dx t1 t2 t3 td to tz data vdue vack due ack off sz := all_eps (S := on_lost_c_k.S) on_lost_c_k.walk ((w, p, loose, mean, mg, mb, dp, un, gd, cn, cs, a, ccd, cl, outer, A₀, base, h₀, L, m, R, T, s, (cx_v cx0), Q, E), fn [t1, t2, t3, td, to, tz] default, fn [x, dx] default, fn [vdue, vack] default, fn [] default, fn [due, ack] [], fn [data] #[], fn [] []) off sz
end
end Mine

namespace Mine
section
variable {w : World} {p : Program} {loose : List Str} {mean : ExcName → Option Value} {mg mb : Str → Option Value} {dp un : Nat} {gd : Option (List Code)} {cn : Str} {cs : Scope} {a : Addr} {ccd : Value} {cl : List (Str × Addr)} {outer : List Env} {A₀ : Around} {base h₀ : Heap} {L : Addr} {m : Str → Option Value} {R T : List (Addr × Obj)} {s : Shared} {v : Value} {Q E : Value → Shared → Prop}
theorem one_span {lD D : Addr} {x y : Int} {t u : Tok} {n k : Nat} {R : List (Addr × Obj)} : DatIn ((lD, listOf #[Value.ref D] n) :: (D, ({ cls := .type "tuple", data := .seq #[Value.int x t, Value.int y u] k } : Obj)) :: R) (.ref lD) (spD [(x, y)]) :=
  DatIn.list (vs := [Value.ref D]) (.head _) (DatAll.one (prIn (.tail _ (.head _))))
end
namespace is_done_c_k
noncomputable def St (w : World) (p : Program) (loose : List Str) (mean : ExcName → Option Value) (mg : Str → Option Value) (mb : Str → Option Value) (dp : Nat) (un : Nat) (gd : Option (List Code)) (cn : Str) (cs : Scope) (a : Addr) (ccd : Value) (cl : List (Str × Addr)) (outer : List Env) (A₀ : Around) (base : Heap) (h₀ : Heap) (L : Addr) (m : Str → Option Value) (R : List (Addr × Obj)) (T : List (Addr × Obj)) (s : Shared) (Q : Value → Shared → Prop) (E : Value → Shared → Prop) (x : Addr) (dx : Addr) (t1 : Tok) (t2 : Tok) (t3 : Tok) (td : Tok) (data : Array UInt8) (vdue : Value) (vack : Value) : Prop := ∀ (B : Below A₀ base outer h₀) (F : Fr h₀ L s.heap m) (X : (hd.heap_1 w.params).In h₀) (N : News h₀ L s.heap ((x, instObj 180 dx) :: (dx, outD w t1 t2 t3 (.bytes data td) vdue vack) :: R)) (Tp : Top p loose mean mg mb h₀) (hk : cs.kind = .function) (hTR : ∀ p ∈ T, p ∈ R) (hxd : @Ne Nat x dx) (hO : OwnOff R [x, dx]) (hva : DatIn T vack (spD [(0, (data.size : Int))])) (hd0 : 0 < data.size) (hd1 : data.size ≤ 1000) (hdp : dp + 3 < recursionLimit) (hun : un + 300 < cLine) (ret : ∀ tl h' tk', Fr h₀ L h' m → News h₀ L h' ((x, instObj 180 dx) :: (dx, outD w t1 t2 t3 (.bytes data td) vdue vack) :: (tl ++ R)) → Ext [x, dx] R tl → Q (.bool true) { s with heap := h', toks := tk' }),
  wpAny (model P0 w) (ktrTop dp un gd cn cs L a ccd cl outer) (call (.ref 177) [.ref x]) Q E s
noncomputable def S (c : CxF) : Prop := ∀ (vack : Value), St (cx_w (c).1) (cx_p (c).1) (cx_loose (c).1) (cx_mean (c).1) (cx_mg (c).1) (cx_mb (c).1) (cx_dp (c).1) (cx_un (c).1) (cx_gd (c).1) (cx_cn (c).1) (cx_cs (c).1) (cx_a (c).1) (cx_ccd (c).1) (cx_cl (c).1) (cx_outer (c).1) (cx_A₀ (c).1) (cx_base (c).1) (cx_h₀ (c).1) (cx_L (c).1) (cx_m (c).1) (cx_R (c).1) (cx_T (c).1) (cx_s (c).1) (cx_Q (c).1) (cx_E (c).1) (cx_adr c 0) (cx_adr c 1) (cx_tok c 0) (cx_tok c 1) (cx_tok c 2) (cx_tok c 3) (cx_byt c 0) (cx_val c 0) vack
noncomputable def kx9 : CxF := @Classical.epsilon (CxF) ne_cxf fun c => ¬ S c
set_option maxRecDepth 100000 in
set_option maxHeartbeats 8000000 in
theorem walk : S kx9 := by
  show ∀ (vack : Value), St (cx_w (kx9).1) (cx_p (kx9).1) (cx_loose (kx9).1) (cx_mean (kx9).1) (cx_mg (kx9).1) (cx_mb (kx9).1) (cx_dp (kx9).1) (cx_un (kx9).1) (cx_gd (kx9).1) (cx_cn (kx9).1) (cx_cs (kx9).1) (cx_a (kx9).1) (cx_ccd (kx9).1) (cx_cl (kx9).1) (cx_outer (kx9).1) (cx_A₀ (kx9).1) (cx_base (kx9).1) (cx_h₀ (kx9).1) (cx_L (kx9).1) (cx_m (kx9).1) (cx_R (kx9).1) (cx_T (kx9).1) (cx_s (kx9).1) (cx_Q (kx9).1) (cx_E (kx9).1) (cx_adr kx9 0) (cx_adr kx9 1) (cx_tok kx9 0) (cx_tok kx9 1) (cx_tok kx9 2) (cx_tok kx9 3) (cx_byt kx9 0) (cx_val kx9 0) vack
  generalize (cx_w (kx9).1) = w, (cx_p (kx9).1) = p, (cx_loose (kx9).1) = loose, (cx_mean (kx9).1) = mean, (cx_mg (kx9).1) = mg, (cx_mb (kx9).1) = mb, (cx_dp (kx9).1) = dp, (cx_un (kx9).1) = un, (cx_gd (kx9).1) = gd, (cx_cn (kx9).1) = cn, (cx_cs (kx9).1) = cs, (cx_a (kx9).1) = a, (cx_ccd (kx9).1) = ccd, (cx_cl (kx9).1) = cl, (cx_outer (kx9).1) = outer, (cx_A₀ (kx9).1) = A₀, (cx_base (kx9).1) = base, (cx_h₀ (kx9).1) = h₀, (cx_L (kx9).1) = L, (cx_m (kx9).1) = m, (cx_R (kx9).1) = R, (cx_T (kx9).1) = T, (cx_s (kx9).1) = s, (cx_Q (kx9).1) = Q, (cx_E (kx9).1) = E, (cx_adr kx9 0) = x, (cx_adr kx9 1) = dx, (cx_tok kx9 0) = t1, (cx_tok kx9 1) = t2, (cx_tok kx9 2) = t3, (cx_tok kx9 3) = td, (cx_byt kx9 0) = data, (cx_val kx9 0) = vdue
  intro vack
  delta St
  intro B F X N Tp hk hTR hxd hO hva hd0 hd1 hdp hun ret
  revert N ret
  refine el_listk hva ?_
  clear hva
  intro la hva N ret
  refine wpAny_call ?_
  k_dflt ktr_enter
  generalize s.toks + List.length _ = tk9
  rename Fr _ _ _ _ => F1
  have F2 : Fr _ _ _ (fun y => List.lookup y [(Str.ofString "self", Value.ref x)]) := F1
  clear F1
  k_steps
  all_goals (try (exfalso; lia))
  rename News _ _ _ _ => N1
  rename_i g L1 h1 FG B1 X1 T1 D h2 l1 lD h3 F1 l2
  unfold Held
  k_dflt (refine' eq_spans N1 hva one_span ?hT ?hT' ?hu ?_)
  case hT => exact fun p hp => .tail _ (.tail _ (.tail _ (.tail _ (hTR p hp))))
  case hT' => walk_at "mine sub"
  case hu => walk_at "mine room"
  intro b hb
  have hb' : b = true := hb.mpr rfl
  subst hb'
  k_steps
  rename Fr _ _ _ _ => kF
  rename News _ _ _ _ => kN
  exact ret [_, _] _ _ kF (news_mv (M := [_, _]) (tl := [_, _]) (R := R) kN) (((Ext.nil hO).alloc l1).alloc ⟨l2.2.1, l2.2.2.1, l2.1, l2.2.2.2⟩)
end is_done_c_k
section
variable {w : World} {p : Program} {loose : List Str} {mean : ExcName → Option Value} {mg mb : Str → Option Value} {dp un : Nat} {gd : Option (List Code)} {cn : Str} {cs : Scope} {a : Addr} {ccd : Value} {cl : List (Str × Addr)} {outer : List Env} {A₀ : Around} {base h₀ : Heap} {L : Addr} {m : Str → Option Value} {R T : List (Addr × Obj)} {s : Shared} {v : Value} {Q E : Value → Shared → Prop}
theorem is_done_c {x dx : Addr} {t1 t2 t3 td : Tok} {data : Array UInt8} {vdue vack : Value} :
  is_done_c_k.St w p loose mean mg mb dp un gd cn cs a ccd cl outer A₀ base h₀ L m R T s Q E x dx t1 t2 t3 td data vdue vack := all_eps (S := is_done_c_k.S) is_done_c_k.walk ((w, p, loose, mean, mg, mb, dp, un, gd, cn, cs, a, ccd, cl, outer, A₀, base, h₀, L, m, R, T, s, (cx_v cx0), Q, E), fn [t1, t2, t3, td] default, fn [x, dx] default, fn [vdue] default, fn [] default, fn [] [], fn [data] #[], fn [] []) vack
end
namespace has_waiting_c_k
noncomputable def St (w : World) (p : Program) (loose : List Str) (mean : ExcName → Option Value) (mg : Str → Option Value) (mb : Str → Option Value) (dp : Nat) (un : Nat) (gd : Option (List Code)) (cn : Str) (cs : Scope) (a : Addr) (ccd : Value) (cl : List (Str × Addr)) (outer : List Env) (A₀ : Around) (base : Heap) (h₀ : Heap) (L : Addr) (m : Str → Option Value) (R : List (Addr × Obj)) (T : List (Addr × Obj)) (s : Shared) (Q : Value → Shared → Prop) (E : Value → Shared → Prop) (x : Addr) (dx : Addr) (t1 : Tok) (t2 : Tok) (t3 : Tok) (vl : Value) (vt : Value) (vw : Value) : Prop := ∀ (B : Below A₀ base outer h₀) (F : Fr h₀ L s.heap m) (X : (hd.heap_1 w.params).In h₀) (N : News h₀ L s.heap ((x, instObj 124 dx) :: (dx, inD w t1 t2 t3 vl vt vw) :: R)) (Tp : Top p loose mean mg mb h₀) (hk : cs.kind = .function) (hTR : ∀ p ∈ T, p ∈ R) (hw : DatIn T vw (pcsD [])) (hdp : dp + 3 < recursionLimit) (hun : un + 300 < cLine) (ret : ∀ h' tk', Fr h₀ L h' m → News h₀ L h' ((x, instObj 124 dx) :: (dx, inD w t1 t2 t3 vl vt vw) :: R) → Q (.bool false) { s with heap := h', toks := tk' }),
  wpAny (model P0 w) (ktrTop dp un gd cn cs L a ccd cl outer) (call (.ref 121) [.ref x]) Q E s
noncomputable def S (c : CxF) : Prop := ∀ (vw : Value), St (cx_w (c).1) (cx_p (c).1) (cx_loose (c).1) (cx_mean (c).1) (cx_mg (c).1) (cx_mb (c).1) (cx_dp (c).1) (cx_un (c).1) (cx_gd (c).1) (cx_cn (c).1) (cx_cs (c).1) (cx_a (c).1) (cx_ccd (c).1) (cx_cl (c).1) (cx_outer (c).1) (cx_A₀ (c).1) (cx_base (c).1) (cx_h₀ (c).1) (cx_L (c).1) (cx_m (c).1) (cx_R (c).1) (cx_T (c).1) (cx_s (c).1) (cx_Q (c).1) (cx_E (c).1) (cx_adr c 0) (cx_adr c 1) (cx_tok c 0) (cx_tok c 1) (cx_tok c 2) (cx_val c 0) (cx_val c 1) vw
noncomputable def kx9 : CxF := @Classical.epsilon (CxF) ne_cxf fun c => ¬ S c
set_option maxRecDepth 100000 in
set_option maxHeartbeats 8000000 in
theorem walk : S kx9 := by
  show ∀ (vw : Value), St (cx_w (kx9).1) (cx_p (kx9).1) (cx_loose (kx9).1) (cx_mean (kx9).1) (cx_mg (kx9).1) (cx_mb (kx9).1) (cx_dp (kx9).1) (cx_un (kx9).1) (cx_gd (kx9).1) (cx_cn (kx9).1) (cx_cs (kx9).1) (cx_a (kx9).1) (cx_ccd (kx9).1) (cx_cl (kx9).1) (cx_outer (kx9).1) (cx_A₀ (kx9).1) (cx_base (kx9).1) (cx_h₀ (kx9).1) (cx_L (kx9).1) (cx_m (kx9).1) (cx_R (kx9).1) (cx_T (kx9).1) (cx_s (kx9).1) (cx_Q (kx9).1) (cx_E (kx9).1) (cx_adr kx9 0) (cx_adr kx9 1) (cx_tok kx9 0) (cx_tok kx9 1) (cx_tok kx9 2) (cx_val kx9 0) (cx_val kx9 1) vw
  generalize (cx_w (kx9).1) = w, (cx_p (kx9).1) = p, (cx_loose (kx9).1) = loose, (cx_mean (kx9).1) = mean, (cx_mg (kx9).1) = mg, (cx_mb (kx9).1) = mb, (cx_dp (kx9).1) = dp, (cx_un (kx9).1) = un, (cx_gd (kx9).1) = gd, (cx_cn (kx9).1) = cn, (cx_cs (kx9).1) = cs, (cx_a (kx9).1) = a, (cx_ccd (kx9).1) = ccd, (cx_cl (kx9).1) = cl, (cx_outer (kx9).1) = outer, (cx_A₀ (kx9).1) = A₀, (cx_base (kx9).1) = base, (cx_h₀ (kx9).1) = h₀, (cx_L (kx9).1) = L, (cx_m (kx9).1) = m, (cx_R (kx9).1) = R, (cx_T (kx9).1) = T, (cx_s (kx9).1) = s, (cx_Q (kx9).1) = Q, (cx_E (kx9).1) = E, (cx_adr kx9 0) = x, (cx_adr kx9 1) = dx, (cx_tok kx9 0) = t1, (cx_tok kx9 1) = t2, (cx_tok kx9 2) = t3, (cx_val kx9 0) = vl, (cx_val kx9 1) = vt
  intro vw
  delta St
  intro B F X N Tp hk hTR hw hdp hun ret
  revert N ret
  refine el_list hw ?_
  clear hw
  intro la vs n hm hall N ret
  have hmR := hTR _ hm
  revert hm hmR N ret
  refine el_nil hall ?_
  clear hall
  intro hm N ret hmR
  refine wpAny_call ?_
  k_dflt ktr_enter
  generalize s.toks + List.length _ = tk9
  rename Fr _ _ _ _ => F1
  have F2 : Fr _ _ _ (fun y => List.lookup y [(Str.ofString "self", Value.ref x)]) := F1
  clear F1
  k_steps
  rename Fr _ _ _ _ => kF
  rename News _ _ _ _ => kN
  exact ret _ _ kF kN
end has_waiting_c_k
section
variable {w : World} {p : Program} {loose : List Str} {mean : ExcName → Option Value} {mg mb : Str → Option Value} {dp un : Nat} {gd : Option (List Code)} {cn : Str} {cs : Scope} {a : Addr} {ccd : Value} {cl : List (Str × Addr)} {outer : List Env} {A₀ : Around} {base h₀ : Heap} {L : Addr} {m : Str → Option Value} {R T : List (Addr × Obj)} {s : Shared} {v : Value} {Q E : Value → Shared → Prop}
theorem has_waiting_c {x dx : Addr} {t1 t2 t3 : Tok} {vl vt vw : Value} :
  has_waiting_c_k.St w p loose mean mg mb dp un gd cn cs a ccd cl outer A₀ base h₀ L m R T s Q E x dx t1 t2 t3 vl vt vw := all_eps (S := has_waiting_c_k.S) has_waiting_c_k.walk ((w, p, loose, mean, mg, mb, dp, un, gd, cn, cs, a, ccd, cl, outer, A₀, base, h₀, L, m, R, T, s, (cx_v cx0), Q, E), fn [t1, t2, t3] default, fn [x, dx] default, fn [vl, vt] default, fn [] default, fn [] [], fn [] #[], fn [] []) vw
end
end Mine

namespace Mine
/-- what CryptoIn.arrived puts to the pieces -/
noncomputable def arrOff (told off : Int) : Int := if off < told then told else off
noncomputable def arrDt (told off : Int) (dt : Array UInt8) : Array UInt8 := if off < told then KBy.picked dt (some (told - off)) none else dt
theorem in_pack {h₀ h : Heap} {L x dx D : Addr} {ox odx oD : Obj} {R : List (Addr × Obj)} (hO : OwnOff R [x, dx]) (N : News h₀ L h ((D, oD) :: (x, ox) :: (dx, odx) :: R)) (l : AllLt D ((x, ox) :: (dx, odx) :: R)) :
    ∃ A9, Ext [x, dx] R A9 ∧ News h₀ L h ((x, ox) :: (dx, odx) :: (A9 ++ R)) :=
  ⟨[(D, oD)], (Ext.nil hO).alloc ⟨l.1, l.2.1, l.2.2⟩, news_mv (M := [_, _]) (tl := [_]) (R := R) N⟩
section
variable {w : World} {p : Program} {loose : List Str} {mean : ExcName → Option Value} {mg mb : Str → Option Value} {dp un : Nat} {gd : Option (List Code)} {cn : Str} {cs : Scope} {a : Addr} {ccd : Value} {cl : List (Str × Addr)} {outer : List Env} {A₀ : Around} {base h₀ : Heap} {L : Addr} {m : Str → Option Value} {R T : List (Addr × Obj)} {s : Shared} {v : Value} {Q E : Value → Shared → Prop}
end
namespace arrived_c_k
noncomputable def St (w : World) (p : Program) (loose : List Str) (mean : ExcName → Option Value) (mg : Str → Option Value) (mb : Str → Option Value) (dp : Nat) (un : Nat) (gd : Option (List Code)) (cn : Str) (cs : Scope) (a : Addr) (ccd : Value) (cl : List (Str × Addr)) (outer : List Env) (A₀ : Around) (base : Heap) (h₀ : Heap) (L : Addr) (m : Str → Option Value) (R : List (Addr × Obj)) (T : List (Addr × Obj)) (s : Shared) (Q : Value → Shared → Prop) (E : Value → Shared → Prop) (x : Addr) (dx : Addr) (t1 : Tok) (t2 : Tok) (t3 : Tok) (tl1 : Tok) (tt1 : Tok) (to : Tok) (tz : Tok) (vw : Value) (ps : List (Int × Array UInt8)) (fa : List (Int × Array UInt8)) (fb : List (Int × Array UInt8)) (dt : Array UInt8) (j : Array UInt8) (limit : Int) (told : Int) (off : Int) (b : Int) : Prop := ∀ (B : Below A₀ base outer h₀) (F : Fr h₀ L s.heap m) (X : (hd.heap_1 w.params).In h₀) (N : News h₀ L s.heap ((x, instObj 124 dx) :: (dx, inD w t1 t2 t3 (.int limit tl1) (.int told tt1) vw) :: R)) (Tp : Top p loose mean mg mb h₀) (hk : cs.kind = .function) (hTR : ∀ p ∈ T, p ∈ R) (hxd : @Ne Nat x dx) (hO : OwnOff R [x, dx]) (hw : DatIn T vw (pcsD ps)) (hdt : dt.size ≤ 1000) (hdp : dp + 7 < recursionLimit) (hun : un + 700 < cLine) (hps : ps.length ≤ 1000) (hsz : ∀ q ∈ ps, q.2.size ≤ 1000) (hyp : off + (dt.size : Int) ≤ told + limit → told < off + (dt.size : Int) → 0 < (arrDt told off dt).size ∧ (∀ i, ((ps.take i).foldl pieceStep ⟨[], arrOff told off, arrDt told off dt⟩).joined.size ≤ 1000) ∧
    ps.foldl pieceStep ⟨[], arrOff told off, arrDt told off dt⟩ = ⟨fa ++ fb, b, j⟩ ∧ ((fa ++ fb).map (·.1)).Pairwise (· < ·) ∧ (∀ q ∈ fa, q.1 < b) ∧ (∀ q ∈ fb, b < q.1) ∧ (fa ++ fb).length ≤ 8 ∧ (∀ q ∈ fa ++ (b, j) :: fb, q.2.size ≤ 1000) ∧ (takeL (fa ++ (b, j) :: fb) told).1.size ≤ 1000) (retE : told + limit < off + (dt.size : Int) → ∀ G e d od mA tc h' tk', Fr h₀ L G m → RaisedX base G (envX cn cs L a ccd cl :: outer) e d ((d, od) :: (x, instObj 124 dx) :: (dx, inD w t1 t2 t3 (.int limit tl1) (.int told tt1) vw) :: R) h' → G.UpToSlots h' → DictIs od mA → mA (Str.ofString "code") = some (.int 13 tc) → E (.ref e) { s with heap := h', toks := tk' }) (ret0 : off + (dt.size : Int) ≤ told + limit → off + (dt.size : Int) ≤ told → ∀ tr h' tk', Fr h₀ L h' m → News h₀ L h' ((x, instObj 124 dx) :: (dx, inD w t1 t2 t3 (.int limit tl1) (.int told tt1) vw) :: R) → Q (.bytes #[] tr) { s with heap := h', toks := tk' }) (ret : off + (dt.size : Int) ≤ told + limit → told < off + (dt.size : Int) → ∀ tl tr tt' vw' h' tk', Fr h₀ L h' m → News h₀ L h' ((x, instObj 124 dx) :: (dx, inD w t1 t2 t3 (.int limit tl1) (.int (told + ((takeL (fa ++ (b, j) :: fb) told).1.size : Int)) tt') vw') :: (tl ++ R)) → Ext [x, dx] R tl →
    DatIn (tl ++ T) vw' (pcsD (takeL (fa ++ (b, j) :: fb) told).2) → Q (.bytes (takeL (fa ++ (b, j) :: fb) told).1 tr) { s with heap := h', toks := tk' }),
  wpAny (model P0 w) (ktrTop dp un gd cn cs L a ccd cl outer) (call (.ref 114) [.ref x, .int off to, .bytes dt tz]) Q E s
noncomputable def S (c : CxF) : Prop := ∀ (limit : Int) (told : Int) (off : Int) (b : Int), St (cx_w (c).1) (cx_p (c).1) (cx_loose (c).1) (cx_mean (c).1) (cx_mg (c).1) (cx_mb (c).1) (cx_dp (c).1) (cx_un (c).1) (cx_gd (c).1) (cx_cn (c).1) (cx_cs (c).1) (cx_a (c).1) (cx_ccd (c).1) (cx_cl (c).1) (cx_outer (c).1) (cx_A₀ (c).1) (cx_base (c).1) (cx_h₀ (c).1) (cx_L (c).1) (cx_m (c).1) (cx_R (c).1) (cx_T (c).1) (cx_s (c).1) (cx_Q (c).1) (cx_E (c).1) (cx_adr c 0) (cx_adr c 1) (cx_tok c 0) (cx_tok c 1) (cx_tok c 2) (cx_tok c 3) (cx_tok c 4) (cx_tok c 5) (cx_tok c 6) (cx_val c 0) (cx_pcs c 0) (cx_pcs c 1) (cx_pcs c 2) (cx_byt c 0) (cx_byt c 1) limit told off b
noncomputable def kx9 : CxF := @Classical.epsilon (CxF) ne_cxf fun c => ¬ S c
set_option maxRecDepth 100000 in
set_option maxHeartbeats 8000000 in
theorem walk : S kx9 := by
  show ∀ (limit : Int) (told : Int) (off : Int) (b : Int), St (cx_w (kx9).1) (cx_p (kx9).1) (cx_loose (kx9).1) (cx_mean (kx9).1) (cx_mg (kx9).1) (cx_mb (kx9).1) (cx_dp (kx9).1) (cx_un (kx9).1) (cx_gd (kx9).1) (cx_cn (kx9).1) (cx_cs (kx9).1) (cx_a (kx9).1) (cx_ccd (kx9).1) (cx_cl (kx9).1) (cx_outer (kx9).1) (cx_A₀ (kx9).1) (cx_base (kx9).1) (cx_h₀ (kx9).1) (cx_L (kx9).1) (cx_m (kx9).1) (cx_R (kx9).1) (cx_T (kx9).1) (cx_s (kx9).1) (cx_Q (kx9).1) (cx_E (kx9).1) (cx_adr kx9 0) (cx_adr kx9 1) (cx_tok kx9 0) (cx_tok kx9 1) (cx_tok kx9 2) (cx_tok kx9 3) (cx_tok kx9 4) (cx_tok kx9 5) (cx_tok kx9 6) (cx_val kx9 0) (cx_pcs kx9 0) (cx_pcs kx9 1) (cx_pcs kx9 2) (cx_byt kx9 0) (cx_byt kx9 1) limit told off b
  generalize (cx_w (kx9).1) = w, (cx_p (kx9).1) = p, (cx_loose (kx9).1) = loose, (cx_mean (kx9).1) = mean, (cx_mg (kx9).1) = mg, (cx_mb (kx9).1) = mb, (cx_dp (kx9).1) = dp, (cx_un (kx9).1) = un, (cx_gd (kx9).1) = gd, (cx_cn (kx9).1) = cn, (cx_cs (kx9).1) = cs, (cx_a (kx9).1) = a, (cx_ccd (kx9).1) = ccd, (cx_cl (kx9).1) = cl, (cx_outer (kx9).1) = outer, (cx_A₀ (kx9).1) = A₀, (cx_base (kx9).1) = base, (cx_h₀ (kx9).1) = h₀, (cx_L (kx9).1) = L, (cx_m (kx9).1) = m, (cx_R (kx9).1) = R, (cx_T (kx9).1) = T, (cx_s (kx9).1) = s, (cx_Q (kx9).1) = Q, (cx_E (kx9).1) = E, (cx_adr kx9 0) = x, (cx_adr kx9 1) = dx, (cx_tok kx9 0) = t1, (cx_tok kx9 1) = t2, (cx_tok kx9 2) = t3, (cx_tok kx9 3) = tl1, (cx_tok kx9 4) = tt1, (cx_tok kx9 5) = to, (cx_tok kx9 6) = tz, (cx_val kx9 0) = vw, (cx_pcs kx9 0) = ps, (cx_pcs kx9 1) = fa, (cx_pcs kx9 2) = fb, (cx_byt kx9 0) = dt, (cx_byt kx9 1) = j
  intro limit told off b
  delta St
  intro B F X N Tp hk hTR hxd hO hw hdt hdp hun hps hsz hyp retE ret0 ret
  refine wpAny_call ?_
  k_dflt ktr_enter
  generalize s.toks + List.length _ = tk9
  rename Fr _ _ _ _ => F1
  have F2 : Fr _ _ _ (fun y => List.lookup y [(Str.ofString "data", Value.bytes dt tz), (Str.ofString "offset", Value.int off to), (Str.ofString "self", Value.ref x)]) := F1
  clear F1
  k_steps
  · unfold Held
    refine Raise_inst rfl ?_
    k_steps
    rename News _ _ _ _ => N1
    k_dflt (refine' make_quic ?B ?F ?X N1 ?Tp rfl ?hd ?hu ?_)
    case B => k_asm
    case F => k_asm
    case X => k_asm
    case Tp => k_asm
    case hd => walk_at "mine room"
    case hu => walk_at "mine room"
    intro h2 tk2 e t' d od mA F4 N4 hne D4 hc
    rename Below _ _ (_ :: outer) _ => B1
    rename Fr h₀ L _ m => FG
    refine ⟨e, _, _, 31, 28, rfl, (N4 _ (.head _)).1, rfl, ?_, rfl, rfl, ?_⟩
    · exact (exc31 (by k_asm)).keeps F4.keep
    show wpAny _ _ (leaving _ _) _ _ _
    refine x_leave B1 F4 N4 hne ⟨rfl, rfl⟩ rfl rfl ?_
    intro h5 RX up
    exact retE (by lia) _ e d od mA _ _ _ FG RX up D4 hc
  · rename Fr _ _ _ _ => kF
    rename News _ _ _ _ => kN
    exact ret0 (by lia) (by lia) _ _ _ kF kN
  · rename (off < told) => hlt
    have hy := hyp (by lia) (by lia)
    simp only [arrOff, arrDt, if_pos hlt] at hy
    obtain ⟨hy1, hy2, hy3, hy4, hy5, hy6, hy7, hy8, hy9⟩ := hy
    rename News _ _ _ _ => N1
    rename (_ ∧ _ ∧ AllLt _ _) => l1
    have hp9 := in_pack hO N1 l1
    (refine Exists.elim hp9 ?_; clear hp9; intro A9 hp9)
    obtain ⟨hE1, N2⟩ := hp9
    clear N1 l1

    have hT1 := sub_mv (tl := A9) hTR
    have hw1 : DatIn (A9 ++ T) vw (pcsD ps) := hw.mono fun p hp => List.mem_append.mpr (.inr hp)
    unfold Held
    k_dflt (refine' add_piece_c ?B ?F ?X N2 ?Tp rfl ?hT hw1 hps hsz hy1 hy2 hy3 hy4 hy5 hy6 hy7 ?hd ?hu ?_)
    case B => k_asm
    case F => k_asm
    case X => k_asm
    case Tp => k_asm
    case hT => exact fun p hp => .tail _ (.tail _ (hT1 p hp))
    case hd => walk_at "mine room"
    case hu => walk_at "mine room"
    intro r tl h2 tk2 kF kN hA hr
    have hE2 := hE1.step (M := [_, _]) rfl hA
    replace kN := news_mv (M := [_, _]) (R := A9 ++ R) kN
    dsimp only [List.cons_append, List.nil_append] at kN
    rw [← List.append_assoc] at kN hr
    have hx1 := hE2.off (b := x) (.head _)
    have hx2 := hE2.off (b := dx) (.tail _ (.head _))
    have hT2 := sub_mv (tl := tl ++ A9) hTR
    clear N2 hw1
    generalize tl ++ A9 = A8 at *
    generalize hR2 : A8 ++ R = R2 at hx1 hx2 hT2 kN
    k_steps
    rename News _ _ _ _ => N3
    unfold Held
    k_dflt (refine' taken_from_c ?B ?F ?X N3 ?Tp rfl ?hT hr ?h8 hy8 ?hd ?hu ?_)
    case B => k_asm
    case F => k_asm
    case X => k_asm
    case Tp => k_asm
    case hT => exact fun p hp => .tail _ (.tail _ (hT2 p hp))
    case h8 => (simp only [List.length_append, List.length_cons] at hy7 ⊢; lia)
    case hd => walk_at "mine room"
    case hu => walk_at "mine room"
    intro D vl tf n9 tl2 h3 tk3 kF kN hA2 hD9 hvl
    subst hR2
    have hE3 := hE2.step (M := [_, _]) rfl hA2
    replace kN := news_mv (M := [_, _]) (R := A8 ++ R) kN
    dsimp only [List.cons_append, List.nil_append] at kN
    rw [← List.append_assoc] at kN hvl
    have hmem9 : (D, ({ cls := .type "tuple", data := .seq [Value.bytes (takeL (fa ++ (b, j) :: fb) told).1 tf, vl].toArray n9 } : Obj)) ∈ (tl2 ++ A8) ++ R := List.mem_append.mpr (.inl (List.mem_append.mpr (.inl hD9)))
    have hx1 := hE3.off (b := x) (.head _)
    have hx2 := hE3.off (b := dx) (.tail _ (.head _))
    clear N3 hr hD9 hA2 hT2 hA
    generalize tl2 ++ A8 = A7 at *
    generalize hR3 : A7 ++ R = R3 at hx1 hx2 hmem9 kN
    generalize hft : (takeL (fa ++ (b, j) :: fb) told).1 = found at *
    k_steps
    rename Fr _ _ _ _ => kF
    rename News _ _ _ _ => kN
    subst hR3
    exact ret (by lia) (by lia) A7 _ _ vl _ _ kF kN hE3 hvl
  · rename (¬ off < told) => hlt
    have hy := hyp (by lia) (by lia)
    simp only [arrOff, arrDt, if_neg hlt] at hy
    obtain ⟨hy1, hy2, hy3, hy4, hy5, hy6, hy7, hy8, hy9⟩ := hy
    rename News _ _ _ _ => N1
    have hp9 : ∃ A9, Ext [x, dx] R A9 ∧ News _ _ _ ((x, instObj 124 dx) :: (dx, inD w t1 t2 t3 (.int limit tl1) (.int told tt1) vw) :: (A9 ++ R)) := ⟨[], Ext.nil hO, N1⟩
    (refine Exists.elim hp9 ?_; clear hp9; intro A9 hp9)
    obtain ⟨hE1, N2⟩ := hp9
    clear N1

    have hT1 := sub_mv (tl := A9) hTR
    have hw1 : DatIn (A9 ++ T) vw (pcsD ps) := hw.mono fun p hp => List.mem_append.mpr (.inr hp)
    unfold Held
    k_dflt (refine' add_piece_c ?B ?F ?X N2 ?Tp rfl ?hT hw1 hps hsz hy1 hy2 hy3 hy4 hy5 hy6 hy7 ?hd ?hu ?_)
    case B => k_asm
    case F => k_asm
    case X => k_asm
    case Tp => k_asm
    case hT => exact fun p hp => .tail _ (.tail _ (hT1 p hp))
    case hd => walk_at "mine room"
    case hu => walk_at "mine room"
    intro r tl h2 tk2 kF kN hA hr
    have hE2 := hE1.step (M := [_, _]) rfl hA
    replace kN := news_mv (M := [_, _]) (R := A9 ++ R) kN
    dsimp only [List.cons_append, List.nil_append] at kN
    rw [← List.append_assoc] at kN hr
    have hx1 := hE2.off (b := x) (.head _)
    have hx2 := hE2.off (b := dx) (.tail _ (.head _))
    have hT2 := sub_mv (tl := tl ++ A9) hTR
    clear N2 hw1
    generalize tl ++ A9 = A8 at *
    generalize hR2 : A8 ++ R = R2 at hx1 hx2 hT2 kN
    k_steps
    rename News _ _ _ _ => N3
    unfold Held
    k_dflt (refine' taken_from_c ?B ?F ?X N3 ?Tp rfl ?hT hr ?h8 hy8 ?hd ?hu ?_)
    case B => k_asm
    case F => k_asm
    case X => k_asm
    case Tp => k_asm
    case hT => exact fun p hp => .tail _ (.tail _ (hT2 p hp))
    case h8 => (simp only [List.length_append, List.length_cons] at hy7 ⊢; lia)
    case hd => walk_at "mine room"
    case hu => walk_at "mine room"
    intro D vl tf n9 tl2 h3 tk3 kF kN hA2 hD9 hvl
    subst hR2
    have hE3 := hE2.step (M := [_, _]) rfl hA2
    replace kN := news_mv (M := [_, _]) (R := A8 ++ R) kN
    dsimp only [List.cons_append, List.nil_append] at kN
    rw [← List.append_assoc] at kN hvl
    have hmem9 : (D, ({ cls := .type "tuple", data := .seq [Value.bytes (takeL (fa ++ (b, j) :: fb) told).1 tf, vl].toArray n9 } : Obj)) ∈ (tl2 ++ A8) ++ R := List.mem_append.mpr (.inl (List.mem_append.mpr (.inl hD9)))
    have hx1 := hE3.off (b := x) (.head _)
    have hx2 := hE3.off (b := dx) (.tail _ (.head _))
    clear N3 hr hD9 hA2 hT2 hA
    generalize tl2 ++ A8 = A7 at *
    generalize hR3 : A7 ++ R = R3 at hx1 hx2 hmem9 kN
    generalize hft : (takeL (fa ++ (b, j) :: fb) told).1 = found at *
    k_steps
    rename Fr _ _ _ _ => kF
    rename News _ _ _ _ => kN
    subst hR3

    exact ret (by lia) (by lia) A7 _ _ vl _ _ kF kN hE3 hvl
end arrived_c_k
section
variable {w : World} {p : Program} {loose : List Str} {mean : ExcName → Option Value} {mg mb : Str → Option Value} {dp un : Nat} {gd : Option (List Code)} {cn : Str} {cs : Scope} {a : Addr} {ccd : Value} {cl : List (Str × Addr)} {outer : List Env} {A₀ : Around} {base h₀ : Heap} {L : Addr} {m : Str → Option Value} {R T : List (Addr × Obj)} {s : Shared} {v : Value} {Q E : Value → Shared → Prop}
theorem arrived_c {x dx : Addr} {t1 t2 t3 tl1 tt1 to tz : Tok} {limit told off b : Int} {vw : Value} {ps fa fb : List (Int × Array UInt8)} {dt j : Array UInt8} :
  arrived_c_k.St w p loose mean mg mb dp un gd cn cs a ccd cl outer A₀ base h₀ L m R T s Q E x dx t1 t2 t3 tl1 tt1 to tz vw ps fa fb dt j limit told off b := all_eps (S := arrived_c_k.S) arrived_c_k.walk ((w, p, loose, mean, mg, mb, dp, un, gd, cn, cs, a, ccd, cl, outer, A₀, base, h₀, L, m, R, T, s, (cx_v cx0), Q, E), fn [t1, t2, t3, tl1, tt1, to, tz] default, fn [x, dx] default, fn [vw] default, fn [] default, fn [] [], fn [dt, j] #[], fn [ps, fa, fb] []) limit told off b
end
end Mine

namespace Mine
/-! the frames below a called def as entries of the ledger -/
noncomputable def fe (fs : List Addr) (h : Heap) : List (Addr × Obj) := fs.filterMap fun b => (h.get? b).map fun o => (b, o)
theorem mem_fe {fs : List Addr} {h : Heap} {p : Addr × Obj} (hp : p ∈ fe fs h) : p.1 ∈ fs ∧ h.get? p.1 = some p.2 := by
  obtain ⟨b, hb, e⟩ := List.mem_filterMap.mp hp
  cases hq : h.get? b with
  | none => rw [hq] at e; cases e
  | some o =>
    rw [hq] at e
    cases e
    exact ⟨hb, hq⟩
theorem fe_mem {fs : List Addr} {h : Heap} {b : Addr} {o : Obj} (hb : b ∈ fs) (e : h.get? b = some o) : (b, o) ∈ fe fs h := List.mem_filterMap.mpr ⟨b, hb, by rw [e]; rfl⟩
section
variable {h₀ h₀' h : Heap} {L : Addr} {m : Str → Option Value} {R : List (Addr × Obj)} {fs : List Addr}
theorem fe_down (F : Fr h₀ L h m) (N : News h₀ L h R) : Fr (hideAll h₀ fs) L h m ∧ News (hideAll h₀ fs) L h (fe fs h₀ ++ R) := by
  have of : ∀ b o, (hideAll h₀ fs).get? b = some o → h₀.get? b = some o := fun b o q => of_hideAll _ q
  refine ⟨⟨F.ns, fun b o q => F.keep b o (of b o q), by rw [hideAll_size]; exact F.above⟩, fun p hp => ?_⟩
  rcases List.mem_append.mp hp with hp | hp
  · obtain ⟨hb, e⟩ := mem_fe hp
    refine ⟨F.keep _ _ e, fun q => ?_, hideAll_none _ hb⟩
    rw [q, kts_self F] at e
    cases e
  · refine ⟨(N p hp).1, (N p hp).2.1, ?_⟩
    cases q : (hideAll h₀ fs).get? p.1 with
    | none => rfl
    | some o => have := of _ _ q; rw [(N p hp).2.2] at this; cases this
theorem fe_up {m' : Str → Option Value} (Fz : Fr h₀ L h₁ m') (T : KtsTurn fs h₀ h₀') (F : Fr (hideAll h₀ fs) L h m) (N : News (hideAll h₀ fs) L h (fe fs h₀' ++ R)) (hR : ∀ p ∈ R, p.1 ∉ fs) : Fr h₀' L h m ∧ News h₀' L h R := by
  refine ⟨⟨F.ns, fun b o q => ?_, by rw [T.size]; exact Fz.above⟩, fun p hp => ?_⟩
  · by_cases hb : b ∈ fs
    · exact (N _ (List.mem_append.mpr (.inl (fe_mem hb q)))).1
    · cases e : h₀.get? b with
      | none => rw [T.none_ _ e] at q; cases q
      | some o' =>
        have := T.other _ _ e hb
        rw [q] at this
        obtain rfl := Option.some.inj this
        exact F.keep b o (hideAll_get _ e hb)
  · have n := N p (List.mem_append.mpr (.inr hp))
    refine ⟨n.1, n.2.1, T.none_ _ ?_⟩
    cases e : h₀.get? p.1 with
    | none => rfl
    | some o => have := hideAll_get _ e (hR p hp); rw [n.2.2] at this; cases this
theorem fe_open {I C D : Addr} {oI oC oD : Obj} {h₁ : Heap} {m' : Str → Option Value} (Fz : Fr h₀ L h₁ m') (hfs : ∀ b ∈ fs, ∃ o, h₀.get? b = some o) (hRn : ∀ p ∈ R, h₀.get? p.1 = none) (T : KtsTurn fs h₀ h₀') (F : Fr (hideAll h₀ fs) L h m)
    (N : News (hideAll h₀ fs) L h ((I, oI) :: (C, oC) :: (D, oD) :: (fe fs h₀' ++ R))) (off : LCg.Off3 I C D (fe fs h₀' ++ R)) : Fr h₀' L h m ∧ News h₀' L h ((I, oI) :: (C, oC) :: (D, oD) :: R) := by
  have inf : ∀ b ∈ fs, ∃ o, (b, o) ∈ fe fs h₀' := fun b hb => by
    obtain ⟨o, ho⟩ := hfs b hb
    obtain ⟨sl, hs⟩ := T.up ho
    exact ⟨_, fe_mem hb hs⟩
  refine fe_up Fz T F (R := (I, oI) :: (C, oC) :: (D, oD) :: R) (fun p hp => N p ?_) fun p hp hm => ?_
  · rcases List.mem_append.mp hp with hp | hp
    · exact .tail _ (.tail _ (.tail _ (List.mem_append.mpr (.inl hp))))
    rcases List.mem_cons.mp hp with rfl | hp
    · exact .head _
    rcases List.mem_cons.mp hp with rfl | hp
    · exact .tail _ (.head _)
    rcases List.mem_cons.mp hp with rfl | hp
    · exact .tail _ (.tail _ (.head _))
    · exact .tail _ (.tail _ (.tail _ (List.mem_append.mpr (.inr hp))))
  · obtain ⟨o, ho⟩ := inf _ hm
    have n := off.mem _ (List.mem_append.mpr (.inl ho))
    rcases List.mem_cons.mp hp with rfl | hp
    · exact n.1 rfl
    rcases List.mem_cons.mp hp with rfl | hp
    · exact n.2.1 rfl
    rcases List.mem_cons.mp hp with rfl | hp
    · exact n.2.2 rfl
    · obtain ⟨o', ho'⟩ := hfs _ hm
      rw [hRn p hp] at ho'
      cases ho'
end
end Mine

namespace Mine
/-! a def with cells that may catch: the ground may turn under it -/
section
variable {prog : Program} {w : World} {A₀ A : Around} {s : Shared} {base h₀ : Heap} {outer : List Env} {L : Addr} {env : Env} {m : Str → Option Value} {news : List (Addr × Obj)} {K : Frag} {p : Program} {loose : List Str} {mean : ExcName → Option Value} {mg mb : Str → Option Value}
    {R : Result → Shared → Prop} {name qual : Str} {params : Arguments} {body : List Stmt} {scope : Scope} {dV kV doc pm cdv ct oc : Value} {an od : Option Addr} {osl : Array (Option Value)} {f : Addr} {args : Args} {binds : List (Str × Value)}
theorem mem_frames {b : Addr} (hf : env.frame = some L) (hm : b ∈ (env :: outer).filterMap (·.frame)) : b = L ∨ b ∈ outer.filterMap (·.frame) := by
  obtain ⟨e, he, hfe⟩ := List.mem_filterMap.mp hm
  rcases List.mem_cons.mp he with rfl | he
  · exact .inl (Option.some.inj (hfe.symm.trans hf))
  · exact .inr (List.mem_filterMap.mpr ⟨e, he, hfe⟩)
theorem enterX (B : Below A₀ base outer h₀) (F : Fr h₀ L s.heap m) (N : News h₀ L s.heap news) (hA : A.frames = some (env :: outer)) (hf : env.frame = some L) (hke : env.scope.kind = .function) :
    ∃ oL es ep, (hideAll s.heap (news.map (·.1))).get? L = some oL ∧ oL.data = .dict es ep ∧ (∀ h', h'.get? L = some oL → Heap.Ns h' L m) ∧ (∀ (sl : Array (Option Value)) h', h'.get? L = some { oL with slots := sl } → Heap.Ns h' L m) ∧
      h₀.StaysIn (hideAll s.heap (news.map (·.1))) ∧ Below A base (env :: outer) (hideAll s.heap (news.map (·.1))) := by
  obtain ⟨FG, BG, st, _⟩ := groundX (R := fun _ _ => True) B F N hA hf hke
  obtain ⟨oL, es, ep, hL, hd, hk, hm⟩ := FG.ns
  exact ⟨oL, es, ep, hL, hd, fun h' e => ⟨oL, es, ep, e, hd, hk, hm⟩, fun sl h' e => ⟨_, es, ep, e, hd, hk, hm⟩, st, BG⟩
theorem leave_turned (hf : env.frame = some L) (B : Below A₀ base outer h₀) (F : Fr h₀ L s.heap m) (T : Top p loose mean mg mb h₀) (XB : K.In base) (TB : Top p loose mean mg mb base) (D : KtsDicts (outer.filterMap (·.frame)) h₀) {g : Heap} {oL : Obj}
    (hLg : g.get? L = some oL) (hN : ∀ h', h'.get? L = some oL → Heap.Ns h' L m) (hNs : ∀ (sl : Array (Option Value)) h', h'.get? L = some { oL with slots := sl } → Heap.Ns h' L m) (st : h₀.StaysIn g) {v : Value} {s' : Shared}
    (hl : LeaveS ((env :: outer).filterMap (·.frame)) A₀ base outer K p loose mean mg mb h₀ h₀ L m g R v s') : R (.ok (.ret v)) s' := by
  have nL₀ : h₀.get? L = none := kts_self F
  rcases hl with ⟨L', m', news', F', N', k⟩ | ⟨g', L', m', news', T', F', N', k⟩
  · refine k ⟨hN _ (F'.keep _ _ hLg), fun b o e => F'.keep b o (st b o e), F.above⟩ fun p hp => ⟨(N' p hp).1, fun q => ?_, ?_⟩
    · have := (N' p hp).2.2; rw [q, hLg] at this; cases this
    · cases q : h₀.get? p.1 with
      | none => rfl
      | some o => have := (N' p hp).2.2; rw [st _ _ q] at this; cases this
  obtain ⟨sl, hs⟩ := T'.up hLg
  obtain ⟨T₁, S₁⟩ := kts_turn_at (h := s'.heap) (fs := outer.filterMap (·.frame)) (g := h₀)
    (fun b hb => let ⟨_, o, ho', _⟩ := B.frames.mem hb; ⟨o, ho'⟩)
    (fun b o e nmem => F'.keep b o (T'.other b o (st b o e) (fun q => by
      rcases mem_frames hf q with z | z
      · rw [z, nL₀] at e
        cases e
      · exact nmem z)))
    (fun b o e hm => let ⟨sl', hs'⟩ := T'.up (st b o e); ⟨sl', F'.keep _ _ hs'⟩)
  have B₃ : Below A₀ base outer (ktsHeap s'.heap (outer.filterMap (·.frame)) h₀) := ⟨B.stack, fun b o e => T₁.other b o (B.stays b o e) (fun hm => by
    rw [(B.frames.mem hm).1] at e
    cases e), B.frames.of_keeps fun b o e _ => let ⟨_, hs'⟩ := T₁.up e; ⟨_, hs', rfl⟩⟩
  refine k _ T₁ ⟨hNs sl _ (F'.keep _ _ hs), S₁, by rw [T₁.size]; exact F.above⟩ (fun p hp => ⟨(N' p hp).1, fun q => ?_, ?_⟩) B₃ (XB.keeps B₃.stays) (TB.keeps B₃.stays) (D.turn T₁)
  · have := (N' p hp).2.2; rw [q, hs] at this; cases this
  · refine T₁.none_ _ ?_
    cases q : h₀.get? p.1 with
    | none => rfl
    | some o =>
      obtain ⟨sl', hs'⟩ := T'.up (st _ _ q)
      have := (N' p hp).2.2
      rw [hs'] at this
      cases this
theorem code_defSC (B : Below A₀ base outer h₀) (F : Fr h₀ L s.heap m) (X₀ : K.In h₀) (N : News h₀ L s.heap news) (T : Top p loose mean mg mb h₀) (XB : K.In base) (TB : Top p loose mean mg mb base) (D : KtsDicts (outer.filterMap (·.frame)) h₀)
    (hA : A.frames = some (env :: outer)) (hf : env.frame = some L) (ho : K.lookup f = some ⟨oc, od, .func (fnOf name qual params body scope dV kV doc pm an cdv ct), osl⟩) (hcd : codeIn K cdv qual = true) (hroom : A.depth < recursionLimit)
    (hbind : BindsTo s (fnOf name qual params body scope dV kV doc pm an cdv ct) args binds) (hkind : (binds.all fun y => scope.names.lookup y.1 == some .local || scope.names.lookup y.1 == some .cell) = true) (hnd : ((cellsFrom 0 scope.names []).map (·.1)).Nodup)
    (h : ∀ g L' h₁ tk cells, Fr h₀ L g m → Fr g L' h₁ (bindL (envOfC qual scope L' f cdv).kindOf binds fun _ => none) → News g L' h₁ (cells ++ news) → CellsAre (bindC (envOfC qual scope L' f cdv).kindOf binds fun _ => none) (cellsFrom (L' + 1) scope.names []) cells →
      Below A base (env :: outer) g → K.In g → Top p loose mean mg mb g → KtsDicts ((env :: outer).filterMap (·.frame)) g → (∀ p ∈ news, p.1 < L') →
      wpAny (model prog w) (A.deeper (envOfC qual scope L' f cdv)) (execs body (envOfC qual scope L' f cdv))
        (fun fl s' => LeaveS ((env :: outer).filterMap (·.frame)) A₀ base outer K p loose mean mg mb h₀ h₀ L m g R (match fl with | .ret v => v | _ => .none) s')
        (fun e s' => wpAny (model prog w) (A.deeper (envOfC qual scope L' f cdv)) (leaving (envOfC qual scope L' f cdv) e) (fun _ s'' => R (.error e) s'') (fun e' s'' => R (.error e') s'') s')
        { s with heap := h₁, toks := tk })
    (hck : env.scope.kind = .function) (hco : scope.isCoroutine = false) (hgen : scope.isGenerator = false) (hk : scope.kind = .function) : codeAny (model prog w) A (.call (.ref f) args) R s := by
  have X := X₀.keeps F.keep
  obtain ⟨oL, es, ep, hLg, hLd, hN, hNs, st, B₂⟩ := enterX B F N hA hf hck
  refine codeAny_call_function hroom (X _ _ ho) rfl hco hgen rfl (codeRec_of X hcd) (hbind _ _ _ _ ?_)
  refine wpAny_newFunctionEnv_cells hk (kindsX hkind _) fun env' he s' x => ?_
  subst he
  refine ⟨(T.nolimit.keeps F.keep).keeps x.toInCall.keep, codeAny_func ?_⟩
  obtain ⟨h₁, tk, rfl, _⟩ := x.done
  have hk₁ := x.toInCall.keep
  obtain ⟨cells, NC, Y⟩ := Cl.news (h₀ := s.heap) (Nat.le_refl _) fun n c hm => ⟨x.cell n c (lookup_of_mem_nodup (cellsFrom_names scope.names 0 (s.heap.objs.size + 1) [] [] rfl ▸ hnd) hm), x.above n c hm⟩
  refine wpAny_mono (h _ s.heap.objs.size h₁ tk cells ⟨hN _ hLg, st, F.above⟩ ⟨x.toInCall.ns, fun b o e => hk₁ b o (of_hideAll _ e), Nat.le_of_eq (hideAll_size _ _)⟩ (fun p hp => ?_) Y B₂ (X₀.keeps st) (T.keeps st) (fun b hb => ?_) (fun p hp => Heap.lt_size (N p hp).1))
    (fun fl s' hl => leave_turned hf B F T XB TB D hLg hN hNs st hl) fun _ _ y => y
  · rcases List.mem_append.mp hp with hp | hp
    · refine ⟨(NC p hp).1, (NC p hp).2.1, ?_⟩
      cases q : (hideAll s.heap (news.map (·.1))).get? p.1 with
      | none => rfl
      | some o => have := of_hideAll _ q; rw [(NC p hp).2.2] at this; cases this
    · exact ⟨hk₁ _ _ (N p hp).1, Nat.ne_of_lt (Heap.lt_size (N p hp).1), hideAll_none _ (List.mem_map_of_mem hp)⟩
  · rcases mem_frames hf hb with rfl | hb
    · exact ⟨oL, es, ep, hLg, hLd⟩
    · obtain ⟨o, es', n', ho', hd'⟩ := D b hb
      exact ⟨o, es', n', st b o ho', hd'⟩
theorem code_defSX (B : Below A₀ base outer h₀) (F : Fr h₀ L s.heap m) (X₀ : K.In h₀) (N : News h₀ L s.heap news) (T : Top p loose mean mg mb h₀) (XB : K.In base) (TB : Top p loose mean mg mb base) (D : KtsDicts (outer.filterMap (·.frame)) h₀)
    (hA : A.frames = some (env :: outer)) (hf : env.frame = some L) (ho : K.lookup f = some ⟨oc, od, .func (fnOf name qual params body scope dV kV doc pm an cdv ct), osl⟩) (hcd : codeIn K cdv qual = true) (hroom : A.depth < recursionLimit)
    (hbind : BindsTo s (fnOf name qual params body scope dV kV doc pm an cdv ct) args binds) (hloc : ∀ y ∈ binds, scope.names.lookup y.1 = some .local)
    (h : ∀ g L' h₁, Fr h₀ L g m → Fr g L' h₁ (fun y => binds.reverse.lookup y) → News g L' h₁ news → Below A base (env :: outer) g → K.In g → Top p loose mean mg mb g → KtsDicts ((env :: outer).filterMap (·.frame)) g →
      wpAny (model prog w) (A.deeper (envOf qual scope L' f cdv)) (execs body (envOf qual scope L' f cdv))
        (fun fl s' => LeaveS ((env :: outer).filterMap (·.frame)) A₀ base outer K p loose mean mg mb h₀ h₀ L m g R (match fl with | .ret v => v | _ => .none) s')
        (fun e s' => wpAny (model prog w) (A.deeper (envOf qual scope L' f cdv)) (leaving (envOf qual scope L' f cdv) e) (fun _ s'' => R (.error e) s'') (fun e' s'' => R (.error e') s'') s')
        { s with heap := h₁, toks := s.toks + binds.length })
    (hck : env.scope.kind = .function) (hco : scope.isCoroutine = false) (hgen : scope.isGenerator = false) (hk : scope.kind = .function) (hcell : ∀ x ∈ scope.names, x.2 ≠ .cell) : codeAny (model prog w) A (.call (.ref f) args) R s := by
  have X := X₀.keeps F.keep
  refine codeAny_call_def (fd := fnOf name qual params body scope dV kV doc pm an cdv ct) (body := body) (binds := binds) hroom (X _ _ ho) rfl (T.nolimit.keeps F.keep) (codeRec_of X hcd) rfl hbind hcell hloc (fun h₁ hns hk₁ => ?_) hco hgen hk
  obtain ⟨oL, es, ep, hLg, hLd, hN, hNs, st, B₂⟩ := enterX B F N hA hf hck
  refine wpAny_mono (h _ s.heap.objs.size h₁ ⟨hN _ hLg, st, F.above⟩ ⟨hns, fun b o e => hk₁ b o (of_hideAll _ e), Nat.le_of_eq (hideAll_size _ _)⟩
    (fun p hp => ⟨hk₁ _ _ (N p hp).1, Nat.ne_of_lt (Heap.lt_size (N p hp).1), hideAll_none _ (List.mem_map_of_mem hp)⟩) B₂ (X₀.keeps st) (T.keeps st) (fun b hb => ?_)) (fun fl s' hl => leave_turned hf B F T XB TB D hLg hN hNs st hl) fun _ _ y => y
  rcases mem_frames hf hb with rfl | hb
  · exact ⟨oL, es, ep, hLg, hLd⟩
  · obtain ⟨o, es', n', ho', hd'⟩ := D b hb
    exact ⟨o, es', n', st b o ho', hd'⟩
end
end Mine

local macro_rules | `(tactic| walk_at "mine enterSC") => `(tactic| (refine' Mine.code_defSC ?k1 ?k2 ?k3 ?k4 ?k5 ?X ?T ?D ?A ?F ?k6 ?k7 ?k8 ?k9 ?b ?d ?_ ?c ?c2 ?c3 ?c4; (case A => exact rfl); (case F => exact rfl); (case k2 => k_asm); (case k1 => k_asm); (case X => assumption); (case T => assumption); (case D => assumption); (case k3 => k_asm); (case k4 => k_asm); (case k5 => k_asm); (case k6 => k_is); (case k7 => k_is); (case k8 => ktr_room); (case k9 => exact BindsTo.of_eq rfl); (case b => exact rfl); (case d => decide +kernel); (case c => assumption); (case c2 => exact rfl); (case c3 => exact rfl); (case c4 => exact rfl); k_whole; intro g' L' h' tk' cells' FG' F' N' Y' B' X' T' D' l1; k_cells Y'; (try simp only [List.cons_append, List.nil_append] at N'); (try dsimp only)))
namespace Mine
section
variable {w : World} {p : Program} {loose : List Str} {mean : ExcName → Option Value} {mg mb : Str → Option Value} {dp un : Nat} {gd : Option (List Code)} {cn : Str} {cs : Scope} {a : Addr} {ccd : Value} {cl : List (Str × Addr)} {outer : List Env} {A₀ : Around} {base h₀ : Heap} {L : Addr} {m : Str → Option Value} {R T : List (Addr × Obj)} {s : Shared} {v : Value} {Q E : Value → Shared → Prop}
theorem news_rot3 {h : Heap} {A B C : Addr × Obj} (N : News h₀ L h (A :: B :: C :: R)) : News h₀ L h (B :: C :: A :: R) := fun p hp => N p (sub_ix [A, B, C] [1, 2, 0] p hp)
theorem news_rot3b {h : Heap} {A B C : Addr × Obj} {tl : List (Addr × Obj)} (N : News h₀ L h (B :: C :: (tl ++ A :: R))) : News h₀ L h (A :: B :: C :: (tl ++ R)) := fun p hp => N p (sub_bl [[B, C], tl, [A], R] [2, 0, 1, 3] p hp)
/-- what a called def that may catch hands on: the ground under its caller's frames may have turned -/
noncomputable def Turned (w : World) (A₀ : Around) (base : Heap) (outer : List Env) (p : Program) (loose : List Str) (mean : ExcName → Option Value) (mg mb : Str → Option Value) (h₀ h₀' : Heap) : Prop :=
  KtsTurn (outer.filterMap (·.frame)) h₀ h₀' ∧ Below A₀ base outer h₀' ∧ (hd.heap_1 w.params).In h₀' ∧ Top p loose mean mg mb h₀' ∧ KtsDicts (outer.filterMap (·.frame)) h₀'
end
namespace law_taken_c_k
noncomputable def St (w : World) (p : Program) (loose : List Str) (mean : ExcName → Option Value) (mg : Str → Option Value) (mb : Str → Option Value) (dp : Nat) (un : Nat) (gd : Option (List Code)) (cn : Str) (cs : Scope) (a : Addr) (ccd : Value) (cl : List (Str × Addr)) (outer : List Env) (A₀ : Around) (base : Heap) (h₀ : Heap) (L : Addr) (m : Str → Option Value) (R : List (Addr × Obj)) (T : List (Addr × Obj)) (s : Shared) (Q : Value → Shared → Prop) (E : Value → Shared → Prop) (eD : Addr) (x : Addr) (dx : Addr) (oE : Obj) (t1 : Tok) (t2 : Tok) (t3 : Tok) (tl1 : Tok) (tt1 : Tok) (to : Tok) (tz : Tok) (tq : Tok) (vw : Value) (ps : List (Int × Array UInt8)) (fa : List (Int × Array UInt8)) (fb : List (Int × Array UInt8)) (dt : Array UInt8) (j : Array UInt8) (td : Array UInt8) (limit : Int) (told : Int) (off : Int) (b : Int) : Prop := ∀ (B : Below A₀ base outer h₀) (F : Fr h₀ L s.heap m) (X : (hd.heap_1 w.params).In h₀) (N : News h₀ L s.heap ((eD, oE) :: (x, instObj 124 dx) :: (dx, inD w t1 t2 t3 (.int limit tl1) (.int told tt1) vw) :: R)) (Tp : Top p loose mean mg mb h₀) (hk : cs.kind = .function) (XB : (hd.heap_1 w.params).In base) (TB : Top p loose mean mg mb base) (D : KtsDicts (outer.filterMap (·.frame)) h₀) (hE : oE.IsDictOf (PySem.strKind P0 w) [(Str.ofString "in", Value.ref x), (Str.ofString "told", Value.bytes td tq)]) (hTR : ∀ p ∈ T, p ∈ R) (hxd : @Ne Nat x dx) (hex : @Ne Nat eD x) (hed : @Ne Nat eD dx) (hO : OwnOff R [eD, x, dx]) (hw : DatIn T vw (pcsD ps)) (hdt : dt.size ≤ 1000) (htd : td.size ≤ 1000) (hdp : dp + 8 < recursionLimit) (hun : un + 800 < cLine) (hps : ps.length ≤ 1000) (hsz : ∀ q ∈ ps, q.2.size ≤ 1000) (hyp : off + (dt.size : Int) ≤ told + limit → told < off + (dt.size : Int) → 0 < (arrDt told off dt).size ∧ (∀ i, ((ps.take i).foldl pieceStep ⟨[], arrOff told off, arrDt told off dt⟩).joined.size ≤ 1000) ∧
    ps.foldl pieceStep ⟨[], arrOff told off, arrDt told off dt⟩ = ⟨fa ++ fb, b, j⟩ ∧ ((fa ++ fb).map (·.1)).Pairwise (· < ·) ∧ (∀ q ∈ fa, q.1 < b) ∧ (∀ q ∈ fb, b < q.1) ∧ (fa ++ fb).length ≤ 8 ∧ (∀ q ∈ fa ++ (b, j) :: fb, q.2.size ≤ 1000) ∧ (takeL (fa ++ (b, j) :: fb) told).1.size ≤ 1000) (retF : told + limit < off + (dt.size : Int) → ∀ h₀' h' tk', Turned w A₀ base outer p loose mean mg mb h₀ h₀' → Fr h₀' L h' m → News h₀' L h' ((eD, oE) :: (x, instObj 124 dx) :: (dx, inD w t1 t2 t3 (.int limit tl1) (.int told tt1) vw) :: R) → Q (.bool false) { s with heap := h', toks := tk' }) (ret0 : off + (dt.size : Int) ≤ told + limit → off + (dt.size : Int) ≤ told → ∀ oE' tq' h' tk', Fr h₀ L h' m → News h₀ L h' ((eD, oE') :: (x, instObj 124 dx) :: (dx, inD w t1 t2 t3 (.int limit tl1) (.int told tt1) vw) :: R) →
    oE'.IsDictOf (PySem.strKind P0 w) [(Str.ofString "in", Value.ref x), (Str.ofString "told", Value.bytes (td ++ #[]) tq')] → Q (.bool true) { s with heap := h', toks := tk' }) (ret : off + (dt.size : Int) ≤ told + limit → told < off + (dt.size : Int) → ∀ tl oE' tq' tt' vw' h' tk', Fr h₀ L h' m → News h₀ L h' ((eD, oE') :: (x, instObj 124 dx) :: (dx, inD w t1 t2 t3 (.int limit tl1) (.int (told + ((takeL (fa ++ (b, j) :: fb) told).1.size : Int)) tt') vw') :: (tl ++ R)) → Ext [eD, x, dx] R tl →
    DatIn (tl ++ T) vw' (pcsD (takeL (fa ++ (b, j) :: fb) told).2) → oE'.IsDictOf (PySem.strKind P0 w) [(Str.ofString "in", Value.ref x), (Str.ofString "told", Value.bytes (td ++ (takeL (fa ++ (b, j) :: fb) told).1) tq')] → Q (.bool true) { s with heap := h', toks := tk' }),
  wpAny (model P0 w) (ktrTop dp un gd cn cs L a ccd cl outer) (call (.ref 198) [.ref eD, .int off to, .bytes dt tz]) Q E s
noncomputable def S (c : CxF) : Prop := ∀ (limit : Int) (told : Int) (off : Int) (b : Int), St (cx_w (c).1) (cx_p (c).1) (cx_loose (c).1) (cx_mean (c).1) (cx_mg (c).1) (cx_mb (c).1) (cx_dp (c).1) (cx_un (c).1) (cx_gd (c).1) (cx_cn (c).1) (cx_cs (c).1) (cx_a (c).1) (cx_ccd (c).1) (cx_cl (c).1) (cx_outer (c).1) (cx_A₀ (c).1) (cx_base (c).1) (cx_h₀ (c).1) (cx_L (c).1) (cx_m (c).1) (cx_R (c).1) (cx_T (c).1) (cx_s (c).1) (cx_Q (c).1) (cx_E (c).1) (cx_adr c 0) (cx_adr c 1) (cx_adr c 2) (cx_obj c 0) (cx_tok c 0) (cx_tok c 1) (cx_tok c 2) (cx_tok c 3) (cx_tok c 4) (cx_tok c 5) (cx_tok c 6) (cx_tok c 7) (cx_val c 0) (cx_pcs c 0) (cx_pcs c 1) (cx_pcs c 2) (cx_byt c 0) (cx_byt c 1) (cx_byt c 2) limit told off b
noncomputable def kx9 : CxF := @Classical.epsilon (CxF) ne_cxf fun c => ¬ S c
set_option maxRecDepth 100000 in
set_option maxHeartbeats 8000000 in
theorem walk : S kx9 := by
  show ∀ (limit : Int) (told : Int) (off : Int) (b : Int), St (cx_w (kx9).1) (cx_p (kx9).1) (cx_loose (kx9).1) (cx_mean (kx9).1) (cx_mg (kx9).1) (cx_mb (kx9).1) (cx_dp (kx9).1) (cx_un (kx9).1) (cx_gd (kx9).1) (cx_cn (kx9).1) (cx_cs (kx9).1) (cx_a (kx9).1) (cx_ccd (kx9).1) (cx_cl (kx9).1) (cx_outer (kx9).1) (cx_A₀ (kx9).1) (cx_base (kx9).1) (cx_h₀ (kx9).1) (cx_L (kx9).1) (cx_m (kx9).1) (cx_R (kx9).1) (cx_T (kx9).1) (cx_s (kx9).1) (cx_Q (kx9).1) (cx_E (kx9).1) (cx_adr kx9 0) (cx_adr kx9 1) (cx_adr kx9 2) (cx_obj kx9 0) (cx_tok kx9 0) (cx_tok kx9 1) (cx_tok kx9 2) (cx_tok kx9 3) (cx_tok kx9 4) (cx_tok kx9 5) (cx_tok kx9 6) (cx_tok kx9 7) (cx_val kx9 0) (cx_pcs kx9 0) (cx_pcs kx9 1) (cx_pcs kx9 2) (cx_byt kx9 0) (cx_byt kx9 1) (cx_byt kx9 2) limit told off b
  generalize (cx_w (kx9).1) = w, (cx_p (kx9).1) = p, (cx_loose (kx9).1) = loose, (cx_mean (kx9).1) = mean, (cx_mg (kx9).1) = mg, (cx_mb (kx9).1) = mb, (cx_dp (kx9).1) = dp, (cx_un (kx9).1) = un, (cx_gd (kx9).1) = gd, (cx_cn (kx9).1) = cn, (cx_cs (kx9).1) = cs, (cx_a (kx9).1) = a, (cx_ccd (kx9).1) = ccd, (cx_cl (kx9).1) = cl, (cx_outer (kx9).1) = outer, (cx_A₀ (kx9).1) = A₀, (cx_base (kx9).1) = base, (cx_h₀ (kx9).1) = h₀, (cx_L (kx9).1) = L, (cx_m (kx9).1) = m, (cx_R (kx9).1) = R, (cx_T (kx9).1) = T, (cx_s (kx9).1) = s, (cx_Q (kx9).1) = Q, (cx_E (kx9).1) = E, (cx_adr kx9 0) = eD, (cx_adr kx9 1) = x, (cx_adr kx9 2) = dx, (cx_obj kx9 0) = oE, (cx_tok kx9 0) = t1, (cx_tok kx9 1) = t2, (cx_tok kx9 2) = t3, (cx_tok kx9 3) = tl1, (cx_tok kx9 4) = tt1, (cx_tok kx9 5) = to, (cx_tok kx9 6) = tz, (cx_tok kx9 7) = tq, (cx_val kx9 0) = vw, (cx_pcs kx9 0) = ps, (cx_pcs kx9 1) = fa, (cx_pcs kx9 2) = fb, (cx_byt kx9 0) = dt, (cx_byt kx9 1) = j, (cx_byt kx9 2) = td
  intro limit told off b
  delta St
  intro B F X N Tp hk XB TB D hE hTR hxd hex hed hO hw hdt htd hdp hun hps hsz hyp retF ret0 ret
  refine wpAny_call ?_
  k_dflt ((refine' Mine.code_defSX ?k1 ?k2 ?k3 ?k4 ?k5 ?XB ?TB ?D ?kA ?kF ?k6 ?k7 ?k8 ?k9 ?kB ?_ ?cK ?c2 ?c3 ?c4 ?c5; (case kA => exact rfl); (case kF => exact rfl); (case k2 => k_asm); (case k1 => k_asm); (case XB => assumption); (case TB => assumption); (case D => assumption); (case k3 => k_asm); (case k4 => k_asm); (case k5 => k_asm); (case k6 => k_is); (case k7 => k_is); (case k8 => ktr_room); (case k9 => exact BindsTo.of_eq rfl); (case kB => exact locs rfl); (case cK => assumption); (case c2 => exact rfl); (case c3 => exact rfl); (case c4 => exact rfl); (case c5 => decide); k_whole; intro g' L' h' FG' F' N' B' X' T' D'; (try dsimp only); (try k_fold)))
  generalize s.toks + List.length _ = tk9
  rename Fr _ _ _ _ => F1
  have F2 : Fr _ _ _ (fun y => List.lookup y [(Str.ofString "data", Value.bytes dt tz), (Str.ofString "offset", Value.int off to), (Str.ofString "end", Value.ref eD)]) := F1
  clear F1
  k_steps
  rename News _ _ _ _ => N1
  have N2 := news_rot3 N1
  clear N1
  unfold Held
  k_dflt (refine' arrived_c (T := T) (fa := fa) (fb := fb) (b := b) (j := j) ?B ?F ?X N2 ?Tp rfl ?hT hxd ?hO hw hdt ?hd ?hu hps hsz hyp ?retE ?ret0 ?ret)
  case B => k_asm
  case F => k_asm
  case X => k_asm
  case Tp => k_asm
  case hT => exact fun p hp => .tail _ (hTR p hp)
  case hO =>
    intro p hp c hc
    rcases List.mem_cons.mp hp with rfl | hp
    · rcases List.mem_cons.mp hc with rfl | hc
      · exact hex
      · rw [List.mem_singleton.mp hc]; exact hed
    · exact hO p hp c (.tail _ hc)
  case hd => walk_at "mine room"
  case hu => walk_at "mine room"
  case retE =>
    intro hgt G e d od mA tc h5 tk5 FG RX up D5 hc
    clear N2
    rename Below _ _ (_ :: outer) _ => B1
    rename KtsDicts _ _ => D1
    refine' x_caught RX FG B1 up XB TB D1 ?ex ?_
    case ex => k_is
    intro h6 g6 oe ws tk6 T6 F6 N6 hoc hod hoda B6 X6 P6 D6
    clear FG RX up B1 D1
    k_steps
    refine' k_load_exc ?F ?X (N6 _ (.head _)).1 (N6 _ (.tail _ (.head _))).1 (.tail _ (.tail _ (.tail _ (.head _)))) lk_code hoc hod hoda D5 hc rfl ?_
    case F => k_asm
    case X => k_asm
    k_steps
    rename Fr _ _ _ _ => kF
    rename News _ _ _ _ => kN
    rename KtsTurn _ _ _ => kT
    rename Below _ _ _ _ => kB
    rename Frag.In _ _ => kX
    rename Top _ _ _ _ _ _ => kP
    rename KtsDicts _ _ => kD
    refine retF hgt _ _ _ ⟨kT, kB, kX, kP, kD⟩ kF fun p hp => kN p (.tail _ (.tail _ ?_))
    rcases List.mem_cons.mp hp with rfl | hp
    · exact .tail _ (.tail _ (.head _))
    rcases List.mem_cons.mp hp with rfl | hp
    · exact .head _
    rcases List.mem_cons.mp hp with rfl | hp
    · exact .tail _ (.head _)
    · exact .tail _ (.tail _ (.tail _ hp))
  case ret0 =>
    intro hle1 hle2 tr h5 tk5 F5 N5
    clear N2
    have N6 := news_rot3b (tl := []) N5
    clear N5
    try dsimp only [List.nil_append] at N6
    have hOe := off_sub hO (b := eD) (.head _)
    k_steps
    rename Fr _ _ _ _ => kF
    rename News _ _ _ _ => kN
    exact ret0 hle1 hle2 _ _ _ _ kF kN (by assumption)
  case ret =>
    intro hle1 hle2 tl tr tt' vw' h5 tk5 F5 N5 hE5 hv5
    clear N2
    have N6 := news_rot3b N5
    clear N5
    have hEx : Ext [eD, x, dx] R tl := ⟨fun p hp c hc => by
      rcases List.mem_append.mp hp with hp | hp
      · rcases List.mem_cons.mp hc with rfl | hc
        · exact Ne.symm (hE5.2 (_, oE) (.head _) p hp)
        · exact hE5.1 p (List.mem_append.mpr (.inl hp)) c hc
      · exact hO p hp c hc, fun q hq p hp => hE5.2 q (.tail _ hq) p hp⟩
    have hOe := hEx.off (b := eD) (.head _)
    generalize hft : (takeL (fa ++ (b, j) :: fb) told).1 = found at *
    generalize hR5 : tl ++ R = R5 at N6 hOe
    have hfz : found.size ≤ 1000 := hft ▸ (hyp hle1 hle2).2.2.2.2.2.2.2.2
    k_steps
    rename Fr _ _ _ _ => kF
    rename News _ _ _ _ => kN
    subst hR5
    exact ret hle1 hle2 tl _ _ _ vw' _ _ kF kN hEx hv5 (by assumption)
end law_taken_c_k
section
variable {w : World} {p : Program} {loose : List Str} {mean : ExcName → Option Value} {mg mb : Str → Option Value} {dp un : Nat} {gd : Option (List Code)} {cn : Str} {cs : Scope} {a : Addr} {ccd : Value} {cl : List (Str × Addr)} {outer : List Env} {A₀ : Around} {base h₀ : Heap} {L : Addr} {m : Str → Option Value} {R T : List (Addr × Obj)} {s : Shared} {v : Value} {Q E : Value → Shared → Prop}
theorem law_taken_c {eD x dx : Addr} {oE : Obj} {t1 t2 t3 tl1 tt1 to tz tq : Tok} {limit told off b : Int} {vw : Value} {ps fa fb : List (Int × Array UInt8)} {dt j td : Array UInt8} :
  law_taken_c_k.St w p loose mean mg mb dp un gd cn cs a ccd cl outer A₀ base h₀ L m R T s Q E eD x dx oE t1 t2 t3 tl1 tt1 to tz tq vw ps fa fb dt j td limit told off b := all_eps (S := law_taken_c_k.S) law_taken_c_k.walk ((w, p, loose, mean, mg, mb, dp, un, gd, cn, cs, a, ccd, cl, outer, A₀, base, h₀, L, m, R, T, s, (cx_v cx0), Q, E), fn [t1, t2, t3, tl1, tt1, to, tz, tq] default, fn [eD, x, dx] default, fn [vw] default, fn [oE] default, fn [] [], fn [dt, j, td] #[], fn [ps, fa, fb] []) limit told off b
end
end Mine

namespace Mine
/-- what _law_taken makes of an end: told, the octets told, the pieces that wait -/
structure EndSt where
  told : Int
  td : Array UInt8
  ps : List (Int × Array UInt8)
  deriving Inhabited
noncomputable def endStep (limit : Int) (st : EndSt) (off : Int) (dt : Array UInt8) (merged : List (Int × Array UInt8)) : EndSt :=
  if st.told + limit < off + (dt.size : Int) then st
  else if off + (dt.size : Int) ≤ st.told then st
  else ⟨st.told + ((takeL merged st.told).1.size : Int), st.td ++ (takeL merged st.told).1, (takeL merged st.told).2⟩
/-- the premises of CryptoIn.arrived at an end -/
structure ArrOk (limit told off : Int) (ps : List (Int × Array UInt8)) (dt : Array UInt8) (fa fb : List (Int × Array UInt8)) (b : Int) (j : Array UInt8) : Prop where
  hdt : dt.size ≤ 1000
  hps : ps.length ≤ 1000
  hsz : ∀ q ∈ ps, q.2.size ≤ 1000
  hyp : off + (dt.size : Int) ≤ told + limit → told < off + (dt.size : Int) → 0 < (arrDt told off dt).size ∧ (∀ i, ((ps.take i).foldl pieceStep ⟨[], arrOff told off, arrDt told off dt⟩).joined.size ≤ 1000) ∧
    ps.foldl pieceStep ⟨[], arrOff told off, arrDt told off dt⟩ = ⟨fa ++ fb, b, j⟩ ∧ ((fa ++ fb).map (·.1)).Pairwise (· < ·) ∧ (∀ q ∈ fa, q.1 < b) ∧ (∀ q ∈ fb, b < q.1) ∧ (fa ++ fb).length ≤ 8 ∧ (∀ q ∈ fa ++ (b, j) :: fb, q.2.size ≤ 1000) ∧ (takeL (fa ++ (b, j) :: fb) told).1.size ≤ 1000
section
variable {w : World} {p : Program} {loose : List Str} {mean : ExcName → Option Value} {mg mb : Str → Option Value} {dp un : Nat} {gd : Option (List Code)} {cn : Str} {cs : Scope} {a : Addr} {ccd : Value} {cl : List (Str × Addr)} {outer : List Env} {A₀ : Around} {base h₀ : Heap} {L : Addr} {m : Str → Option Value} {R T : List (Addr × Obj)} {s : Shared} {v : Value} {Q E : Value → Shared → Prop}
theorem law_taken_u {eD x dx : Addr} {oE : Obj} {t1 t2 t3 tl1 tt1 to tz tq : Tok} {limit off b : Int} {vw : Value} {fa fb : List (Int × Array UInt8)} {dt j : Array UInt8} (st : EndSt)
  (B : Below A₀ base outer h₀) (F : Fr h₀ L s.heap m) (X : (hd.heap_1 w.params).In h₀) (N : News h₀ L s.heap ((eD, oE) :: (x, instObj 124 dx) :: (dx, inD w t1 t2 t3 (.int limit tl1) (.int st.told tt1) vw) :: R)) (Tp : Top p loose mean mg mb h₀) (hk : cs.kind = .function)
  (XB : (hd.heap_1 w.params).In base) (TB : Top p loose mean mg mb base) (D : KtsDicts (outer.filterMap (·.frame)) h₀)
  (hE : oE.IsDictOf (PySem.strKind P0 w) [(Str.ofString "in", Value.ref x), (Str.ofString "told", Value.bytes st.td tq)])
  (hTR : ∀ p ∈ T, p ∈ R) (hxd : @Ne Nat x dx) (hex : @Ne Nat eD x) (hed : @Ne Nat eD dx) (hO : OwnOff R [eD, x, dx]) (hw : DatIn T vw (pcsD st.ps)) (htd : st.td.size ≤ 1000) (ok : ArrOk limit st.told off st.ps dt fa fb b j) (hdp : dp + 8 < recursionLimit) (hun : un + 800 < cLine)
  (ret : ∀ h₀' tl oE' tq' tt' vw' h' tk', Turned w A₀ base outer p loose mean mg mb h₀ h₀' → Fr h₀' L h' m → News h₀' L h' ((eD, oE') :: (x, instObj 124 dx) :: (dx, inD w t1 t2 t3 (.int limit tl1) (.int (endStep limit st off dt (fa ++ (b, j) :: fb)).told tt') vw') :: (tl ++ R)) → Ext [eD, x, dx] R tl →
    DatIn (tl ++ T) vw' (pcsD (endStep limit st off dt (fa ++ (b, j) :: fb)).ps) → oE'.IsDictOf (PySem.strKind P0 w) [(Str.ofString "in", Value.ref x), (Str.ofString "told", Value.bytes (endStep limit st off dt (fa ++ (b, j) :: fb)).td tq')] →
    Q (.bool (decide (off + (dt.size : Int) ≤ st.told + limit))) { s with heap := h', toks := tk' }) :
  wpAny (model P0 w) (ktrTop dp un gd cn cs L a ccd cl outer) (call (.ref 198) [.ref eD, .int off to, .bytes dt tz]) Q E s := by
  have rf : Turned w A₀ base outer p loose mean mg mb h₀ h₀ := ⟨KtsTurn.refl, B, X, Tp, D⟩
  refine law_taken_c (fa := fa) (fb := fb) (b := b) (j := j) B F X N Tp hk XB TB D hE hTR hxd hex hed hO hw ok.hdt htd hdp hun ok.hps ok.hsz ok.hyp ?_ ?_ ?_
  · intro hgt h₀' h' tk' tr F' N'
    have e1 : endStep limit st off dt (fa ++ (b, j) :: fb) = st := by unfold endStep; rw [if_pos hgt]
    rw [e1, decide_eq_false (by lia)] at ret
    exact ret h₀' [] oE tq tt1 vw h' tk' tr F' N' (Ext.nil hO) hw hE
  · intro hle hle2 oE' tq' h' tk' F' N' hE'
    have e1 : endStep limit st off dt (fa ++ (b, j) :: fb) = st := by unfold endStep; rw [if_neg (by lia), if_pos hle2]
    rw [e1, decide_eq_true hle] at ret
    rw [Array.append_empty] at hE'
    exact ret h₀ [] oE' tq' tt1 vw h' tk' rf F' N' (Ext.nil hO) hw hE'
  · intro hle hle2 tl oE' tq' tt' vw' h' tk' F' N' hE5 hv hE'
    have e1 : endStep limit st off dt (fa ++ (b, j) :: fb) = ⟨st.told + ((takeL (fa ++ (b, j) :: fb) st.told).1.size : Int), st.td ++ (takeL (fa ++ (b, j) :: fb) st.told).1, (takeL (fa ++ (b, j) :: fb) st.told).2⟩ := by unfold endStep; rw [if_neg (by lia), if_neg (by lia)]
    rw [e1, decide_eq_true hle] at ret
    exact ret h₀ tl oE' tq' tt' vw' h' tk' rf F' N' hE5 hv hE'
end
end Mine

namespace Mine
section
variable {w : World} {p : Program} {loose : List Str} {mean : ExcName → Option Value} {mg mb : Str → Option Value} {dp un : Nat} {gd : Option (List Code)} {cn : Str} {cs : Scope} {a : Addr} {ccd : Value} {cl : List (Str × Addr)} {outer : List Env} {A₀ : Around} {base h₀ : Heap} {L : Addr} {m : Str → Option Value} {R T : List (Addr × Obj)} {s : Shared} {v : Value} {Q E : Value → Shared → Prop}
end
namespace law_had_c_k
noncomputable def St (w : World) (p : Program) (loose : List Str) (mean : ExcName → Option Value) (mg : Str → Option Value) (mb : Str → Option Value) (dp : Nat) (un : Nat) (gd : Option (List Code)) (cn : Str) (cs : Scope) (a : Addr) (ccd : Value) (cl : List (Str × Addr)) (outer : List Env) (A₀ : Around) (base : Heap) (h₀ : Heap) (L : Addr) (m : Str → Option Value) (R : List (Addr × Obj)) (T : List (Addr × Obj)) (s : Shared) (Q : Value → Shared → Prop) (E : Value → Shared → Prop) (eD : Addr) (x : Addr) (dx : Addr) (oE : Obj) (t1 : Tok) (t2 : Tok) (t3 : Tok) (tt1 : Tok) (vl : Value) (vw : Value) (v2 : Value) (ps : List (Int × Array UInt8)) (told : Int) : Prop := ∀ (B : Below A₀ base outer h₀) (F : Fr h₀ L s.heap m) (X : (hd.heap_1 w.params).In h₀) (N : News h₀ L s.heap ((eD, oE) :: (x, instObj 124 dx) :: (dx, inD w t1 t2 t3 vl (.int told tt1) vw) :: R)) (Tp : Top p loose mean mg mb h₀) (hk : cs.kind = .function) (hE : oE.IsDictOf (PySem.strKind P0 w) [(Str.ofString "in", Value.ref x), (Str.ofString "told", v2)]) (hTR : ∀ p ∈ T, p ∈ R) (hw : DatIn T vw (pcsD ps)) (hps : ps.length ≤ 1000) (hsz : ∀ q ∈ ps, q.2.size ≤ 1000) (hdp : dp + 3 < recursionLimit) (hun : un + 300 < cLine) (ret : ∀ r tl h' tk', Fr h₀ L h' m → News h₀ L h' (tl ++ ((eD, oE) :: (x, instObj 124 dx) :: (dx, inD w t1 t2 t3 vl (.int told tt1) vw) :: R)) → Apart ((eD, oE) :: (x, instObj 124 dx) :: (dx, inD w t1 t2 t3 vl (.int told tt1) vw) :: R) tl → DatIn (tl ++ T) r (spD (addL (coveredL ps) 0 told)) → Q r { s with heap := h', toks := tk' }),
  wpAny (model P0 w) (ktrTop dp un gd cn cs L a ccd cl outer) (call (.ref 205) [.ref eD]) Q E s
noncomputable def S (c : CxF) : Prop := ∀ (told : Int), St (cx_w (c).1) (cx_p (c).1) (cx_loose (c).1) (cx_mean (c).1) (cx_mg (c).1) (cx_mb (c).1) (cx_dp (c).1) (cx_un (c).1) (cx_gd (c).1) (cx_cn (c).1) (cx_cs (c).1) (cx_a (c).1) (cx_ccd (c).1) (cx_cl (c).1) (cx_outer (c).1) (cx_A₀ (c).1) (cx_base (c).1) (cx_h₀ (c).1) (cx_L (c).1) (cx_m (c).1) (cx_R (c).1) (cx_T (c).1) (cx_s (c).1) (cx_Q (c).1) (cx_E (c).1) (cx_adr c 0) (cx_adr c 1) (cx_adr c 2) (cx_obj c 0) (cx_tok c 0) (cx_tok c 1) (cx_tok c 2) (cx_tok c 3) (cx_val c 0) (cx_val c 1) (cx_val c 2) (cx_pcs c 0) told
noncomputable def kx9 : CxF := @Classical.epsilon (CxF) ne_cxf fun c => ¬ S c
set_option maxRecDepth 100000 in
set_option maxHeartbeats 8000000 in
theorem walk : S kx9 := by
  show ∀ (told : Int), St (cx_w (kx9).1) (cx_p (kx9).1) (cx_loose (kx9).1) (cx_mean (kx9).1) (cx_mg (kx9).1) (cx_mb (kx9).1) (cx_dp (kx9).1) (cx_un (kx9).1) (cx_gd (kx9).1) (cx_cn (kx9).1) (cx_cs (kx9).1) (cx_a (kx9).1) (cx_ccd (kx9).1) (cx_cl (kx9).1) (cx_outer (kx9).1) (cx_A₀ (kx9).1) (cx_base (kx9).1) (cx_h₀ (kx9).1) (cx_L (kx9).1) (cx_m (kx9).1) (cx_R (kx9).1) (cx_T (kx9).1) (cx_s (kx9).1) (cx_Q (kx9).1) (cx_E (kx9).1) (cx_adr kx9 0) (cx_adr kx9 1) (cx_adr kx9 2) (cx_obj kx9 0) (cx_tok kx9 0) (cx_tok kx9 1) (cx_tok kx9 2) (cx_tok kx9 3) (cx_val kx9 0) (cx_val kx9 1) (cx_val kx9 2) (cx_pcs kx9 0) told
  generalize (cx_w (kx9).1) = w, (cx_p (kx9).1) = p, (cx_loose (kx9).1) = loose, (cx_mean (kx9).1) = mean, (cx_mg (kx9).1) = mg, (cx_mb (kx9).1) = mb, (cx_dp (kx9).1) = dp, (cx_un (kx9).1) = un, (cx_gd (kx9).1) = gd, (cx_cn (kx9).1) = cn, (cx_cs (kx9).1) = cs, (cx_a (kx9).1) = a, (cx_ccd (kx9).1) = ccd, (cx_cl (kx9).1) = cl, (cx_outer (kx9).1) = outer, (cx_A₀ (kx9).1) = A₀, (cx_base (kx9).1) = base, (cx_h₀ (kx9).1) = h₀, (cx_L (kx9).1) = L, (cx_m (kx9).1) = m, (cx_R (kx9).1) = R, (cx_T (kx9).1) = T, (cx_s (kx9).1) = s, (cx_Q (kx9).1) = Q, (cx_E (kx9).1) = E, (cx_adr kx9 0) = eD, (cx_adr kx9 1) = x, (cx_adr kx9 2) = dx, (cx_obj kx9 0) = oE, (cx_tok kx9 0) = t1, (cx_tok kx9 1) = t2, (cx_tok kx9 2) = t3, (cx_tok kx9 3) = tt1, (cx_val kx9 0) = vl, (cx_val kx9 1) = vw, (cx_val kx9 2) = v2, (cx_pcs kx9 0) = ps
  intro told
  delta St
  intro B F X N Tp hk hE hTR hw hps hsz hdp hun ret
  refine wpAny_call ?_
  k_dflt ktr_enter
  generalize s.toks + List.length _ = tk9
  rename Fr _ _ _ _ => F1
  have F2 : Fr _ _ _ (fun y => List.lookup y [(Str.ofString "end", Value.ref eD)]) := F1
  clear F1
  k_steps
  rename News _ _ _ _ => N1
  unfold Held
  k_dflt (refine' covered_c ?B ?F ?X N1 ?Tp rfl ?hT hw hps hsz ?hd ?hu ?_)
  case B => k_asm
  case F => k_asm
  case X => k_asm
  case Tp => k_asm
  case hT => exact fun p hp => .tail _ (.tail _ (.tail _ (hTR p hp)))
  case hd => walk_at "mine room"
  case hu => walk_at "mine room"
  intro r tl h2 tk2 kF kN hA hr
  have hlc : (coveredL ps).length ≤ 1000 := by unfold coveredL; rw [List.length_map]; exact hps
  replace kN := news_mv (M := [_, _, _]) (R := R) kN
  dsimp only [List.cons_append, List.nil_append] at kN
  have hT1 := sub_mv (tl := tl) hTR
  clear N1
  generalize hR1 : tl ++ R = R1 at kN hT1
  k_steps
  rename News _ _ _ _ => N3
  unfold Held
  k_dflt (refine' add_span_c ?B ?F ?X N3 ?Tp rfl ?hT hr hlc ?hd ?hu ?_)
  case B => k_asm
  case F => k_asm
  case X => k_asm
  case Tp => k_asm
  case hT => exact fun p hp => .tail _ (.tail _ (.tail _ (hT1 p hp)))
  case hd => walk_at "mine room"
  case hu => walk_at "mine room"
  intro r2 tl2 h3 tk3 kF kN hA2 hr2
  subst hR1
  clear N3
  k_steps
  rename Fr _ _ _ _ => kF
  rename News _ _ _ _ => kN
  rw [← List.append_assoc] at hr2
  refine ret r2 (tl2 ++ tl) _ _ kF (fun p hp => kN p ?_) (apart_two hA fun q hq p hp => hA2 q ?_ p hp) hr2
  · rcases List.mem_append.mp hp with hp | hp
    · rcases List.mem_append.mp hp with hp | hp
      · exact List.mem_append.mpr (.inl hp)
      · exact List.mem_append.mpr (.inr (.tail _ (.tail _ (.tail _ (List.mem_append.mpr (.inl hp))))))
    · rcases List.mem_cons.mp hp with rfl | hp
      · exact List.mem_append.mpr (.inr (.head _))
      rcases List.mem_cons.mp hp with rfl | hp
      · exact List.mem_append.mpr (.inr (.tail _ (.head _)))
      rcases List.mem_cons.mp hp with rfl | hp
      · exact List.mem_append.mpr (.inr (.tail _ (.tail _ (.head _))))
      · exact List.mem_append.mpr (.inr (.tail _ (.tail _ (.tail _ (List.mem_append.mpr (.inr hp))))))
  · rcases List.mem_append.mp hq with hq | hq
    · exact .tail _ (.tail _ (.tail _ (List.mem_append.mpr (.inl hq))))
    · rcases List.mem_cons.mp hq with rfl | hq
      · exact .head _
      rcases List.mem_cons.mp hq with rfl | hq
      · exact .tail _ (.head _)
      rcases List.mem_cons.mp hq with rfl | hq
      · exact .tail _ (.tail _ (.head _))
      · exact .tail _ (.tail _ (.tail _ (List.mem_append.mpr (.inr hq))))
end law_had_c_k
section
variable {w : World} {p : Program} {loose : List Str} {mean : ExcName → Option Value} {mg mb : Str → Option Value} {dp un : Nat} {gd : Option (List Code)} {cn : Str} {cs : Scope} {a : Addr} {ccd : Value} {cl : List (Str × Addr)} {outer : List Env} {A₀ : Around} {base h₀ : Heap} {L : Addr} {m : Str → Option Value} {R T : List (Addr × Obj)} {s : Shared} {v : Value} {Q E : Value → Shared → Prop}
theorem law_had_c {eD x dx : Addr} {oE : Obj} {t1 t2 t3 tt1 : Tok} {told : Int} {vl vw v2 : Value} {ps : List (Int × Array UInt8)} :
  law_had_c_k.St w p loose mean mg mb dp un gd cn cs a ccd cl outer A₀ base h₀ L m R T s Q E eD x dx oE t1 t2 t3 tt1 vl vw v2 ps told := all_eps (S := law_had_c_k.S) law_had_c_k.walk ((w, p, loose, mean, mg, mb, dp, un, gd, cn, cs, a, ccd, cl, outer, A₀, base, h₀, L, m, R, T, s, (cx_v cx0), Q, E), fn [t1, t2, t3, tt1] default, fn [eD, x, dx] default, fn [vl, vw, v2] default, fn [oE] default, fn [] [], fn [] #[], fn [ps] []) told
end
end Mine

namespace Mine
section
variable {g g5 h : Heap} {L : Addr} {m : Str → Option Value} {R : List (Addr × Obj)} {fs : List Addr}
theorem turn_none (T : KtsTurn fs g g5) {b : Addr} (e : g5.get? b = none) : g.get? b = none := by
  cases q : g.get? b with
  | none => rfl
  | some o => obtain ⟨sl, z⟩ := T.up q; rw [e] at z; cases z
theorem turn_get (T : KtsTurn fs g g5) {b : Addr} {o : Obj} (e : g5.get? b = some o) : ∃ o', g.get? b = some o' := by
  cases q : g.get? b with
  | none => have := T.none_ _ q; rw [e] at this; cases this
  | some o' => exact ⟨o', rfl⟩
theorem fe_back (F : Fr g5 L h m) (N : News g5 L h R) (T : KtsTurn fs g g5) : Fr (hideAll g fs) L h m ∧ News (hideAll g fs) L h (fe fs g5 ++ R) := by
  obtain ⟨F', N'⟩ := fe_down (fs := fs) F N
  refine ⟨⟨F.ns, fun b o q => ?_, ?_⟩, fun p hp => ⟨(N' p hp).1, (N' p hp).2.1, ?_⟩⟩
  · have e := of_hideAll _ q
    by_cases hb : b ∈ fs
    · rw [hideAll_none _ hb] at q; cases q
    · exact F.keep b o (T.other b o e hb)
  · rw [hideAll_size, ← T.size]; exact F.above
  · rcases List.mem_append.mp hp with hp | hp
    · exact hideAll_none _ (mem_fe hp).1
    · cases q : (hideAll g fs).get? p.1 with
      | none => rfl
      | some o => have := of_hideAll _ q; rw [turn_none T (N p hp).2.2] at this; cases this
theorem off_turn {I C D : Addr} {A A' tl : List (Addr × Obj)} {g₁ : Heap} (T : KtsTurn fs g g5) (T₁ : KtsTurn fs g g₁) (off : LCg.Off3 I C D (fe fs g₁ ++ A)) (hA : ∀ p ∈ A', (∃ o, (p.1, o) ∈ A) ∨ p ∈ tl)
    (ht : ∀ p ∈ tl, p.1 ≠ I ∧ p.1 ≠ C ∧ p.1 ≠ D) : LCg.Off3 I C D (fe fs g5 ++ A') := by
  refine LCg.Off3.of fun p hp => ?_
  rcases List.mem_append.mp hp with hp | hp
  · obtain ⟨hb, e⟩ := mem_fe hp
    obtain ⟨o', e'⟩ := turn_get T e
    obtain ⟨sl, e1⟩ := T₁.up e'
    exact off.mem (p.1, { o' with slots := sl }) (List.mem_append.mpr (.inl (fe_mem hb e1)))
  · rcases hA p hp with ⟨o, hm⟩ | hm
    · exact off.mem (p.1, o) (List.mem_append.mpr (.inr hm))
    · exact ht p hm
theorem off1_mem {D : Addr} : ∀ {l : List (Addr × Obj)}, LCg.Off1 D l → ∀ p ∈ l, @Ne Nat p.1 D
  | [], _, _, h => nomatch h
  | _ :: _, x, p, h => by
    rcases List.mem_cons.mp h with rfl | h
    · exact x.1
    · exact off1_mem x.2 p h
theorem fe_open1 {D : Addr} {oD : Obj} {h₁ : Heap} {m' : Str → Option Value} (Fz : Fr g L h₁ m') (hfs : ∀ b ∈ fs, ∃ o, g.get? b = some o) (hRn : ∀ p ∈ R, g.get? p.1 = none) (T : KtsTurn fs g g5) (F : Fr (hideAll g fs) L h m)
    (N : News (hideAll g fs) L h ((D, oD) :: (fe fs g5 ++ R))) (off : LCg.Off1 D (fe fs g5 ++ R)) : Fr g5 L h m ∧ News g5 L h ((D, oD) :: R) := by
  refine fe_up Fz T F (R := (D, oD) :: R) (fun p hp => N p ?_) fun p hp hm => ?_
  · rcases List.mem_append.mp hp with hp | hp
    · exact .tail _ (List.mem_append.mpr (.inl hp))
    rcases List.mem_cons.mp hp with rfl | hp
    · exact .head _
    · exact .tail _ (List.mem_append.mpr (.inr hp))
  · obtain ⟨o, ho⟩ := hfs _ hm
    obtain ⟨sl, hs⟩ := T.up ho
    rcases List.mem_cons.mp hp with rfl | hp
    · exact off1_mem off _ (List.mem_append.mpr (.inl (fe_mem hm hs))) rfl
    · rw [hRn p hp] at ho
      cases ho
theorem ownoff_cons {b : Addr} {o : Obj} {adr : List Addr} {Y : List (Addr × Obj)} (hb : ∀ c ∈ adr, b ≠ c) (hY : OwnOff Y adr) : OwnOff ((b, o) :: Y) adr := fun p hp c hc => by
  rcases List.mem_cons.mp hp with rfl | hp
  · exact hb c hc
  · exact hY p hp c hc
end
end Mine

namespace Mine
section
variable {w : World} {p : Program} {loose : List Str} {mean : ExcName → Option Value} {mg mb : Str → Option Value} {dp un : Nat} {gd : Option (List Code)} {cn : Str} {cs : Scope} {a : Addr} {ccd : Value} {cl : List (Str × Addr)} {outer : List Env} {A₀ : Around} {base h₀ : Heap} {L : Addr} {m : Str → Option Value} {R T : List (Addr × Obj)} {s : Shared} {v : Value} {Q E : Value → Shared → Prop}
end
namespace crypto_in_c_k
noncomputable def St (w : World) (p : Program) (loose : List Str) (mean : ExcName → Option Value) (mg : Str → Option Value) (mb : Str → Option Value) (dp : Nat) (un : Nat) (gd : Option (List Code)) (cn : Str) (cs : Scope) (a : Addr) (ccd : Value) (cl : List (Str × Addr)) (outer : List Env) (A₀ : Around) (base : Heap) (h₀ : Heap) (L : Addr) (m : Str → Option Value) (R : List (Addr × Obj)) (s : Shared) (Q : Value → Shared → Prop) (E : Value → Shared → Prop) (t : Tok) (lim : Int) : Prop := ∀ (B : Below A₀ base outer h₀) (F : Fr h₀ L s.heap m) (X : (hd.heap_1 w.params).In h₀) (N : News h₀ L s.heap R) (Tp : Top p loose mean mg mb h₀) (hk : cs.kind = .function) (hdp : dp + 3 < recursionLimit) (hun : un + 300 < cLine) (ret : ∀ x d l t1 t2 t3 t4 n h' tk', Fr h₀ L h' m → News h₀ L h' ((x, instObj 124 d) :: (d, inD w t1 t2 t3 (.int lim t) (.int 0 t4) (.ref l)) :: (l, W.listOf ([] : List Value).toArray n) :: R) → AllLt x R → AllLt d R → AllLt l R → @LT.lt Nat _ d x → @LT.lt Nat _ x l → Q (.ref x) { s with heap := h', toks := tk' }),
  wpAny (model P0 w) (ktrTop dp un gd cn cs L a ccd cl outer) (call (.ref 124) [.int lim t]) Q E s
noncomputable def S (c : CxF) : Prop := ∀ (lim : Int), St (cx_w (c).1) (cx_p (c).1) (cx_loose (c).1) (cx_mean (c).1) (cx_mg (c).1) (cx_mb (c).1) (cx_dp (c).1) (cx_un (c).1) (cx_gd (c).1) (cx_cn (c).1) (cx_cs (c).1) (cx_a (c).1) (cx_ccd (c).1) (cx_cl (c).1) (cx_outer (c).1) (cx_A₀ (c).1) (cx_base (c).1) (cx_h₀ (c).1) (cx_L (c).1) (cx_m (c).1) (cx_R (c).1) (cx_s (c).1) (cx_Q (c).1) (cx_E (c).1) (cx_tok c 0) lim
noncomputable def kx9 : CxF := @Classical.epsilon (CxF) ne_cxf fun c => ¬ S c
set_option maxRecDepth 100000 in
set_option maxHeartbeats 8000000 in
theorem walk : S kx9 := by
  show ∀ (lim : Int), St (cx_w (kx9).1) (cx_p (kx9).1) (cx_loose (kx9).1) (cx_mean (kx9).1) (cx_mg (kx9).1) (cx_mb (kx9).1) (cx_dp (kx9).1) (cx_un (kx9).1) (cx_gd (kx9).1) (cx_cn (kx9).1) (cx_cs (kx9).1) (cx_a (kx9).1) (cx_ccd (kx9).1) (cx_cl (kx9).1) (cx_outer (kx9).1) (cx_A₀ (kx9).1) (cx_base (kx9).1) (cx_h₀ (kx9).1) (cx_L (kx9).1) (cx_m (kx9).1) (cx_R (kx9).1) (cx_s (kx9).1) (cx_Q (kx9).1) (cx_E (kx9).1) (cx_tok kx9 0) lim
  generalize (cx_w (kx9).1) = w, (cx_p (kx9).1) = p, (cx_loose (kx9).1) = loose, (cx_mean (kx9).1) = mean, (cx_mg (kx9).1) = mg, (cx_mb (kx9).1) = mb, (cx_dp (kx9).1) = dp, (cx_un (kx9).1) = un, (cx_gd (kx9).1) = gd, (cx_cn (kx9).1) = cn, (cx_cs (kx9).1) = cs, (cx_a (kx9).1) = a, (cx_ccd (kx9).1) = ccd, (cx_cl (kx9).1) = cl, (cx_outer (kx9).1) = outer, (cx_A₀ (kx9).1) = A₀, (cx_base (kx9).1) = base, (cx_h₀ (kx9).1) = h₀, (cx_L (kx9).1) = L, (cx_m (kx9).1) = m, (cx_R (kx9).1) = R, (cx_s (kx9).1) = s, (cx_Q (kx9).1) = Q, (cx_E (kx9).1) = E, (cx_tok kx9 0) = t
  intro lim
  delta St
  intro B F X N Tp hk hdp hun ret
  k_dflt (refine' call_cls ?k1 ?k2 ?k3 ?k4 ?k5 ?k6 ?_)
  case k1 => k_asm
  case k2 => k_asm
  case k3 => k_asm
  case k4 => k_is
  case k5 => k_is
  case k6 => k_is
  intro x d h1 F1 N1 l1 l2
  have lx := allLt_of l1
  have lxx : AllLt x R := allLt_of fun p hp => Nat.lt_trans (l1 p hp) l2
  clear l1
  replace l2 := ltN l2
  k_dflt ktr_enter
  k_steps
  rename Fr _ _ _ _ => kF
  rename News _ _ _ _ => kN
  rename _ ∧ _ => c1
  obtain ⟨c2, _, c3⟩ := c1
  exact ret x d _ _ _ _ _ _ _ _ kF (news_rot3 kN) lxx lx c3 l2 c2
end crypto_in_c_k
section
variable {w : World} {p : Program} {loose : List Str} {mean : ExcName → Option Value} {mg mb : Str → Option Value} {dp un : Nat} {gd : Option (List Code)} {cn : Str} {cs : Scope} {a : Addr} {ccd : Value} {cl : List (Str × Addr)} {outer : List Env} {A₀ : Around} {base h₀ : Heap} {L : Addr} {m : Str → Option Value} {R T : List (Addr × Obj)} {s : Shared} {v : Value} {Q E : Value → Shared → Prop}
theorem crypto_in_c {lim : Int} {t : Tok} :
  crypto_in_c_k.St w p loose mean mg mb dp un gd cn cs a ccd cl outer A₀ base h₀ L m R s Q E t lim := all_eps (S := crypto_in_c_k.S) crypto_in_c_k.walk ((w, p, loose, mean, mg, mb, dp, un, gd, cn, cs, a, ccd, cl, outer, A₀, base, h₀, L, m, R, (cx_T cx0), s, (cx_v cx0), Q, E), fn [t] default, fn [] default, fn [] default, fn [] default, fn [] [], fn [] #[], fn [] []) lim
end
end Mine

namespace Mine
theorem news_out4 {h₀ h : Heap} {L : Addr} {a b c d : Addr × Obj} {R : List (Addr × Obj)} (N : News h₀ L h (a :: b :: c :: d :: R)) : News h₀ L h (c :: d :: b :: a :: R) := fun p hp => N p (sub_ix [a, b, c, d] [2, 3, 1, 0] p hp)
section
variable {w : World} {p : Program} {loose : List Str} {mean : ExcName → Option Value} {mg mb : Str → Option Value} {dp un : Nat} {gd : Option (List Code)} {cn : Str} {cs : Scope} {a : Addr} {ccd : Value} {cl : List (Str × Addr)} {outer : List Env} {A₀ : Around} {base h₀ : Heap} {L : Addr} {m : Str → Option Value} {R T : List (Addr × Obj)} {s : Shared} {v : Value} {Q E : Value → Shared → Prop}
end
namespace crypto_out_c_k
noncomputable def St (w : World) (p : Program) (loose : List Str) (mean : ExcName → Option Value) (mg : Str → Option Value) (mb : Str → Option Value) (dp : Nat) (un : Nat) (gd : Option (List Code)) (cn : Str) (cs : Scope) (a : Addr) (ccd : Value) (cl : List (Str × Addr)) (outer : List Env) (A₀ : Around) (base : Heap) (h₀ : Heap) (L : Addr) (m : Str → Option Value) (R : List (Addr × Obj)) (s : Shared) (Q : Value → Shared → Prop) (E : Value → Shared → Prop) : Prop := ∀ (B : Below A₀ base outer h₀) (F : Fr h₀ L s.heap m) (X : (hd.heap_1 w.params).In h₀) (N : News h₀ L s.heap R) (Tp : Top p loose mean mg mb h₀) (hk : cs.kind = .function) (hdp : dp + 3 < recursionLimit) (hun : un + 300 < cLine) (ret : ∀ x d l1 l2 t1 t2 t3 tb n1 n2 h' tk', Fr h₀ L h' m → News h₀ L h' ((x, instObj 180 d) :: (d, outD w t1 t2 t3 (.bytes #[] tb) (.ref l1) (.ref l2)) :: (l1, W.listOf ([] : List Value).toArray n1) :: (l2, W.listOf ([] : List Value).toArray n2) :: R) → AllLt x R → AllLt d R → AllLt l1 R → AllLt l2 R → @LT.lt Nat _ d x → @LT.lt Nat _ x l1 → @LT.lt Nat _ l1 l2 → Q (.ref x) { s with heap := h', toks := tk' }),
  wpAny (model P0 w) (ktrTop dp un gd cn cs L a ccd cl outer) (call (.ref 180) []) Q E s
noncomputable def S (c : CxF) : Prop := St (cx_w (c).1) (cx_p (c).1) (cx_loose (c).1) (cx_mean (c).1) (cx_mg (c).1) (cx_mb (c).1) (cx_dp (c).1) (cx_un (c).1) (cx_gd (c).1) (cx_cn (c).1) (cx_cs (c).1) (cx_a (c).1) (cx_ccd (c).1) (cx_cl (c).1) (cx_outer (c).1) (cx_A₀ (c).1) (cx_base (c).1) (cx_h₀ (c).1) (cx_L (c).1) (cx_m (c).1) (cx_R (c).1) (cx_s (c).1) (cx_Q (c).1) (cx_E (c).1)
noncomputable def kx9 : CxF := @Classical.epsilon (CxF) ne_cxf fun c => ¬ S c
set_option maxRecDepth 100000 in
set_option maxHeartbeats 8000000 in
theorem walk : S kx9 := by
  show St (cx_w (kx9).1) (cx_p (kx9).1) (cx_loose (kx9).1) (cx_mean (kx9).1) (cx_mg (kx9).1) (cx_mb (kx9).1) (cx_dp (kx9).1) (cx_un (kx9).1) (cx_gd (kx9).1) (cx_cn (kx9).1) (cx_cs (kx9).1) (cx_a (kx9).1) (cx_ccd (kx9).1) (cx_cl (kx9).1) (cx_outer (kx9).1) (cx_A₀ (kx9).1) (cx_base (kx9).1) (cx_h₀ (kx9).1) (cx_L (kx9).1) (cx_m (kx9).1) (cx_R (kx9).1) (cx_s (kx9).1) (cx_Q (kx9).1) (cx_E (kx9).1)
  generalize (cx_w (kx9).1) = w, (cx_p (kx9).1) = p, (cx_loose (kx9).1) = loose, (cx_mean (kx9).1) = mean, (cx_mg (kx9).1) = mg, (cx_mb (kx9).1) = mb, (cx_dp (kx9).1) = dp, (cx_un (kx9).1) = un, (cx_gd (kx9).1) = gd, (cx_cn (kx9).1) = cn, (cx_cs (kx9).1) = cs, (cx_a (kx9).1) = a, (cx_ccd (kx9).1) = ccd, (cx_cl (kx9).1) = cl, (cx_outer (kx9).1) = outer, (cx_A₀ (kx9).1) = A₀, (cx_base (kx9).1) = base, (cx_h₀ (kx9).1) = h₀, (cx_L (kx9).1) = L, (cx_m (kx9).1) = m, (cx_R (kx9).1) = R, (cx_s (kx9).1) = s, (cx_Q (kx9).1) = Q, (cx_E (kx9).1) = E
  delta St
  intro B F X N Tp hk hdp hun ret
  k_dflt (refine' call_cls ?k1 ?k2 ?k3 ?k4 ?k5 ?k6 ?_)
  case k1 => k_asm
  case k2 => k_asm
  case k3 => k_asm
  case k4 => k_is
  case k5 => k_is
  case k6 => k_is
  intro x d h1 F1 N1 l1 l2
  have lx := allLt_of l1
  have lxx : AllLt x R := allLt_of fun p hp => Nat.lt_trans (l1 p hp) l2
  clear l1
  replace l2 := ltN l2
  k_dflt ktr_enter
  k_steps
  rename Fr _ _ _ _ => kF
  rename News _ _ _ _ => kN
  rename (_ < _ ∧ _ < _ ∧ _ < _ ∧ _) => c1
  obtain ⟨c2, c3, c4, c5⟩ := c1
  rename (_ < _ ∧ _ < _ ∧ _) => c1
  obtain ⟨b2, b3, b4⟩ := c1
  exact ret x d _ _ _ _ _ _ _ _ _ _ kF (news_out4 kN) lxx lx b4 c5 l2 b2 c2
end crypto_out_c_k
section
variable {w : World} {p : Program} {loose : List Str} {mean : ExcName → Option Value} {mg mb : Str → Option Value} {dp un : Nat} {gd : Option (List Code)} {cn : Str} {cs : Scope} {a : Addr} {ccd : Value} {cl : List (Str × Addr)} {outer : List Env} {A₀ : Around} {base h₀ : Heap} {L : Addr} {m : Str → Option Value} {R T : List (Addr × Obj)} {s : Shared} {v : Value} {Q E : Value → Shared → Prop}
theorem crypto_out_c :
  crypto_out_c_k.St w p loose mean mg mb dp un gd cn cs a ccd cl outer A₀ base h₀ L m R s Q E := all_eps (S := crypto_out_c_k.S) crypto_out_c_k.walk ((w, p, loose, mean, mg, mb, dp, un, gd, cn, cs, a, ccd, cl, outer, A₀, base, h₀, L, m, R, (cx_T cx0), s, (cx_v cx0), Q, E), fn [] default, fn [] default, fn [] default, fn [] default, fn [] [], fn [] #[], fn [] [])
end
end Mine

section
local macro_rules | `(tactic| intro $x:ident $xs:ident*) => `(tactic| intros $x:ident $xs*)
namespace Mine
open LCg
/-! a list comprehension over pairs whose one test never holds -/
section
variable {prog : Program} {w : World} {A : Around} {E : Value → Shared → Prop} {s : Shared} {h₀ : Heap} {L : Addr} {m : Str → Option Value} {env : Env}
noncomputable def NoneTurn (prog : Program) (w : World) (A : Around) (h₀ : Heap) (L : Addr) (m : Str → Option Value) (env : Env) (c : PySem.Expr) (scope : Scope) (cl : List (Str × Addr)) (R : List (Addr × Obj)) (I : Addr) (oI : Obj) (C : Addr) (oC : Obj) (D : Addr) (E' : Value → Shared → Prop) (s₁ : Shared) : Prop :=
  wpAny (model prog w) A (isTrue c (compEnvC scope cl C env) (eval c (compEnvC scope cl C env))) (fun ok s' => ok = false ∧ ∃ h' tk', s' = { s₁ with heap := h', toks := tk' } ∧ Fr h₀ L h' m ∧ News h₀ L h' ((I, oI) :: (C, oC) :: (D, lst []) :: R)) E' s₁
end
section
variable {w : World} {p : Program} {loose : List Str} {mean : ExcName → Option Value} {mg mb : Str → Option Value} {dp un : Nat} {gd : Option (List Code)} {cn : Str} {cs : Scope} {a : Addr} {ccd : Value} {cl : List (Str × Addr)} {outer : List Env} {A₀ : Around} {base h₀ : Heap} {L : Addr} {m : Str → Option Value} {R T : List (Addr × Obj)} {s : Shared} {v : Value} {Q E : Value → Shared → Prop}
end
namespace comp_none_k
noncomputable def St (w : World) (p : Program) (cl : List (Str × Addr)) (h₀ : Heap) (L : Addr) (m : Str → Option Value) (s : Shared) (Q : Value → Shared → Prop) (E : Value → Shared → Prop) (elt : PySem.Expr) (iter : PySem.Expr) (c : PySem.Expr) (x : Str) (x₂ : Str) (px : Pos) (px₂ : Pos) (tp : Pos) (scope : Scope) (pos : Pos) (A : Around) (env : Env) (xs : List (Int × Int)) (kk : Nat) : Prop := ∀ (_F₀ : Fr h₀ L s.heap m) (hclos : closureFor scope env = pure cl) (hcell : ∀ y ∈ scope.names, y.2 ≠ .cell) (hkind : scope.kind = .function) (hnames : ∀ y ∈ scope.names, y.2 = .local → scope.names.lookup y.1 = some .local) (hx : scope.names.lookup x = some .local) (hx₂ : scope.names.lookup x₂ = some .local) (hxx : x ≠ x₂) (h : wpAny (model p w) A (eval iter env) (fun xv s₁ => ∃ ax vs nn T₁ R₁, xv = .ref ax ∧ A.handled = none ∧ Fr h₀ L s₁.heap m ∧ News h₀ L s₁.heap R₁ ∧ (ax, listOf vs.toArray nn) ∈ T₁ ∧ DatAll T₁ vs (xs.map fun x => .tuple [.int x.1, .int x.2]) ∧ (∀ p ∈ T₁, p ∈ R₁) ∧
      (∀ b v₁ v₂ I oI C oC D m₂ h tk (E' : Value → Shared → Prop), b ∈ xs → DatIn T₁ v₁ (.int b.1) → DatIn T₁ v₂ (.int b.2) → NsObj oC m₂ → m₂ x = some v₁ → m₂ x₂ = some v₂ → Fr h₀ L h m → News h₀ L h ((I, oI) :: (C, oC) :: (D, lst []) :: R₁) →
        NoneTurn p w A h₀ L m env c scope cl R₁ I oI C oC D E' { s₁ with heap := h, toks := tk }) ∧
      (∀ D h tk, Fr h₀ L h m → News h₀ L h ((D, lst []) :: R₁) → (∀ p ∈ R₁, @Ne Nat p.1 D) → Q (.ref D) { s₁ with heap := h, toks := tk })) E s) (hs : ∀ x, foldedSetIterable iter env x = pure x),
  wpAny (model p w) A (eval (.ListComp elt [⟨.Tuple [.Name x px, .Name x₂ px₂] kk tp, iter, [c], 0⟩] scope pos) env) Q E s
noncomputable def S (c : CxF × ((((((PySem.Expr) × (PySem.Expr)) × (PySem.Expr)) × (((Str) × (Str)) × (Pos))) × ((((Pos) × (Pos)) × (Scope)) × (((Pos) × (Around)) × (Env)))))) : Prop := ∀ (kk : Nat), St (cx_w (c.1).1) (cx_p (c.1).1) (cx_cl (c.1).1) (cx_h₀ (c.1).1) (cx_L (c.1).1) (cx_m (c.1).1) (cx_s (c.1).1) (cx_Q (c.1).1) (cx_E (c.1).1) (c.2.1.1.1.1) (c.2.1.1.1.2) (c.2.1.1.2) (c.2.1.2.1.1) (c.2.1.2.1.2) (c.2.1.2.2) (c.2.2.1.1.1) (c.2.2.1.1.2) (c.2.2.1.2) (c.2.2.2.1.1) (c.2.2.2.1.2) (c.2.2.2.2) (cx_sps c.1 0) kk
noncomputable def kx9 : CxF × ((((((PySem.Expr) × (PySem.Expr)) × (PySem.Expr)) × (((Str) × (Str)) × (Pos))) × ((((Pos) × (Pos)) × (Scope)) × (((Pos) × (Around)) × (Env))))) := @Classical.epsilon (CxF × ((((((PySem.Expr) × (PySem.Expr)) × (PySem.Expr)) × (((Str) × (Str)) × (Pos))) × ((((Pos) × (Pos)) × (Scope)) × (((Pos) × (Around)) × (Env)))))) (ne_cxf.elim fun b => ⟨(b, ((((default, default), default), ((default, default), default)), (((default, default), default), ((default, {}), default))))⟩) fun c => ¬ S c
set_option maxRecDepth 100000 in
set_option maxHeartbeats 8000000 in
theorem walk : S kx9 := by
  show ∀ (kk : Nat), St (cx_w (kx9.1).1) (cx_p (kx9.1).1) (cx_cl (kx9.1).1) (cx_h₀ (kx9.1).1) (cx_L (kx9.1).1) (cx_m (kx9.1).1) (cx_s (kx9.1).1) (cx_Q (kx9.1).1) (cx_E (kx9.1).1) (kx9.2.1.1.1.1) (kx9.2.1.1.1.2) (kx9.2.1.1.2) (kx9.2.1.2.1.1) (kx9.2.1.2.1.2) (kx9.2.1.2.2) (kx9.2.2.1.1.1) (kx9.2.2.1.1.2) (kx9.2.2.1.2) (kx9.2.2.2.1.1) (kx9.2.2.2.1.2) (kx9.2.2.2.2) (cx_sps kx9.1 0) kk
  generalize (cx_w (kx9.1).1) = w, (cx_p (kx9.1).1) = p, (cx_cl (kx9.1).1) = cl, (cx_h₀ (kx9.1).1) = h₀, (cx_L (kx9.1).1) = L, (cx_m (kx9.1).1) = m, (cx_s (kx9.1).1) = s, (cx_Q (kx9.1).1) = Q, (cx_E (kx9.1).1) = E, (kx9.2.1.1.1.1) = elt, (kx9.2.1.1.1.2) = iter, (kx9.2.1.1.2) = c, (kx9.2.1.2.1.1) = x, (kx9.2.1.2.1.2) = x₂, (kx9.2.1.2.2) = px, (kx9.2.2.1.1.1) = px₂, (kx9.2.2.1.1.2) = tp, (kx9.2.2.1.2) = scope, (kx9.2.2.2.1.1) = pos, (kx9.2.2.2.1.2) = A, (kx9.2.2.2.2) = env, (cx_sps kx9.1 0) = xs
  intro kk
  delta St
  intro _F₀ hclos hcell hkind hnames hx hx₂ hxx h hs
  rw [eval_ListComp]
  refine wpAny_comprehension_free (use := none) rfl hs hclos hkind hnames (wpAny_mono h (fun xv s₁ h₁ => ?_) fun _ _ e => e)
  refine hide fun G9 k9 => ?_
  obtain ⟨ax, vs, nn, T, R, ex, g⟩ := h₁
  have hh := g.1
  have F := g.2.1
  have N := g.2.2.1
  have hl := g.2.2.2.1
  have hd := g.2.2.2.2.1
  have hTR := g.2.2.2.2.2.1
  have turn := g.2.2.2.2.2.2.1
  have fin := g.2.2.2.2.2.2.2
  clear g
  refine k9 ?_
  clear k9
  rw [ex]
  have hlist : s₁.heap.IsList ax vs.toArray := ⟨_, (N _ (hTR _ hl)).1, rfl, nn, rfl⟩
  have hax : @LT.lt Nat _ ax s₁.heap.objs.size := Heap.lt_size (N _ (hTR _ hl)).1
  refine wpAny_pyIter_list hlist ?_
  generalize hg : s₁.heap.push { cls := .type "list_iterator", data := .fields #[.ref ax, .int 0 0] } = g1
  have up1 : ∀ b o, s₁.heap.get? b = some o → g1.get? b = some o := fun b o e => hg ▸ Heap.get?_push_of_some _ e
  have z1 : g1.objs.size = s₁.heap.objs.size + 1 := by rw [← hg, Heap.size_push]
  generalize hI : s₁.heap.objs.size = I at *
  have hIter : g1.IsListIter I ax 0 := by rw [← hg, ← hI]; exact ⟨_, Heap.get?_push_size _ rfl, rfl, rfl⟩
  refine wpAny_newObj_type (wpAny_newFunctionEnv hcell (by intro y hy; simp at hy) (fun h₁ hns₁ hsb₁ => ?_) hkind)
  dsimp only at hns₁ hsb₁ ⊢
  generalize hH2 : g1.push { cls := .type "list", dict := none, data := .seq ([] : List Value).toArray } = H2 at hns₁ hsb₁ ⊢
  generalize hDz : g1.objs.size = D at *
  generalize hCz : H2.objs.size = C at *
  have zC : C = D + 1 := by rw [← hCz, ← hH2, Heap.size_push, hDz]
  have hDC : @LT.lt Nat _ D C := zC ▸ Nat.lt_succ_self D
  have hID : @LT.lt Nat _ I D := z1 ▸ Nat.lt_succ_self I
  have hIC : @LT.lt Nat _ I C := Nat.lt_trans hID hDC
  have old : ∀ (b : Nat) o, g1.get? b = some o → h₁.get? b = some o := fun b o e =>
    hsb₁.extBut b o (Nat.ne_of_lt (Nat.lt_trans (hDz ▸ Heap.lt_size e) hDC)) (Heap.get?_push_of_some _ (by rw [← hH2]; exact Heap.get?_push_of_some _ e))
  have lo : ∀ (b : Nat) o, s₁.heap.get? b = some o → @LT.lt Nat _ b I := fun b o e => hI ▸ Heap.lt_size e
  have no : ∀ (b : Nat), @LE.le Nat _ I b → h₀.get? b = none := fun b hb => by
    cases e : h₀.get? b with
    | none => rfl
    | some o => exact absurd hb (Nat.not_le.mpr (lo b o (F.keep b o e)))
  have nI : ∀ {b : Nat} {o}, h₀.get? b = some o → b ≠ I := fun e q => by rw [no _ (Nat.le_of_eq q.symm)] at e; cases e
  have nC : ∀ {b : Nat} {o}, h₀.get? b = some o → b ≠ C := fun e q => by rw [no _ (q ▸ Nat.le_of_lt hIC)] at e; cases e
  have hL : @LT.lt Nat _ L I := hI ▸ F.ns.lt
  have hLC := Nat.lt_trans hL hIC
  have hLD := Nat.lt_trans hL hID
  have rI : ∀ p ∈ R, @LT.lt Nat _ p.1 I := fun p hp => lo _ _ (N p hp).1
  have hD0 : h₁.get? D = some (lst []) := hsb₁.extBut _ _ (Nat.ne_of_lt hDC) (Heap.get?_push_of_some _ (by rw [← hH2, ← hDz]; exact Heap.get?_push_size _ rfl))
  have W := Walks.list (prog := p) (w := w) (A := A) hh I ax (Nat.ne_of_lt hax) vs.toArray
  have loop : ∀ s₃ : Shared, s₃ = { s₁ with heap := h₁, toks := s₁.toks + ([] : List (Str × Value)).length } →
      codeAny (model p w) A (.compLoop (.ListComp elt [⟨.Tuple [.Name x px, .Name x₂ px₂] kk tp, iter, [c], 0⟩] scope pos) 0 (.ref I) (.ref D) (compEnvC scope cl C env))
        (fun r s' => ∃ h' tk m', r = .ok .next ∧ s' = { s₁ with heap := h', toks := tk } ∧ Fr h₀ L h' m ∧ h'.Ns C m' ∧ News h₀ L h' ((D, lst []) :: R)) s₃ := by
    rintro s₃ rfl
    refine kct_loop (fun k s' => ∃ h' tk i m', s' = { s₁ with heap := h', toks := tk } ∧ i ≤ vs.toArray.size ∧ k = vs.toArray.size + 1 - i ∧ (h'.IsListIter I ax i ∧ h'.IsList ax vs.toArray) ∧ Fr h₀ L h' m ∧ h'.Ns C m' ∧ News h₀ L h' ((D, lst []) :: R)) ?_ (vs.toArray.size + 1)
      ⟨h₁, _, 0, _, rfl, Nat.zero_le _, rfl, ⟨?_, ?_⟩, F.keeps fun b o e => old b o (up1 b o e), hns₁, fun p hp => ?_⟩
    · intro k s' hk'
      refine hide fun G9 k9 => ?_
      obtain ⟨h', tk, i, m', e1, hi, e2, hst, F', hn', N'⟩ := hk'
      refine k9 ?_
      clear k9
      subst e1 e2
      by_cases hlt : i < vs.toArray.size
      · refine W.item i _ _ _ hlt hst fun v h₂ tk₂ hPv hst₂ hk₂ => ?_
        refine hide fun G8 k8 => ?_
        have hi2 : i < xs.length := by
          rw [← List.length_map (as := xs), ← hd.length]; exact hlt
        obtain ⟨t, v₁, v₂, n, ev, hm, q1, q2⟩ := pair_at (dec := fun x : Int × Int => (Dat.int x.1, Dat.int x.2)) hd (at_arr hPv) hi2
        have up2 : ∀ (b : Nat) o, b ≠ I → h'.get? b = some o → h₂.get? b = some o := fun b o hb e => hk₂ b o (fun q => hb (List.mem_singleton.mp q)) e
        have ht : h₂.IsTuple t #[v₁, v₂] := ⟨_, up2 _ _ (Nat.ne_of_lt (rI _ (hTR _ hm))) (N' _ (List.mem_cons_of_mem _ (hTR _ hm))).1, rfl, n, rfl⟩
        refine k8 ?_
        clear k8 hPv
        rw [ev]
        refine wpAny_letOwnedTupleGo_listiter hst₂.1 ?_
        refine kcp_assign (env := compEnvC scope cl C env) hh ht (lookup_relabel_local hx) (lookup_relabel_local hx₂) (by simp [compEnvC, relabel, hkind]) (hn'.at' fun o e => up2 _ o (Nat.ne_of_gt hIC) e) fun h₄ tk₄ hn₄ hs₄ => ?_
        refine hide fun G7 k7 => ?_
        obtain ⟨oC, heC, hoC⟩ := ns_obj hn₄
        have up3 : ∀ (b : Nat) o, b ≠ I → b ≠ C → h'.get? b = some o → h₄.get? b = some o := fun b o h1 h2 e => hs₄ b o h2 (up2 b o h1 e)
        have hit := hst₂.1
        obtain ⟨oI, heI, hcd⟩ := hit
        have heI4 : h₄.get? I = some oI := hs₄ I _ (Nat.ne_of_lt hIC) heI
        have F4 : Fr h₀ L h₄ m := ⟨F'.ns.at' fun o e => up3 _ o (Nat.ne_of_lt hL) (Nat.ne_of_lt hLC) e, fun b o e => up3 b o (nI e) (nC e) (F'.keep b o e), F'.above⟩
        have N4 : News h₀ L h₄ ((I, oI) :: (C, oC) :: (D, lst []) :: R) := List.forall_mem_cons.mpr ⟨⟨heI4, Nat.ne_of_gt hL, no I (Nat.le_refl _)⟩, List.forall_mem_cons.mpr ⟨⟨heC, Nat.ne_of_gt hLC, no C (Nat.le_of_lt hIC)⟩, List.forall_mem_cons.mpr
          ⟨⟨up3 _ _ (Nat.ne_of_gt hID) (Nat.ne_of_lt hDC) (N' _ (.head _)).1, (N' _ (.head _)).2⟩, fun q hq => ⟨up3 _ _ (Nat.ne_of_lt (rI q hq)) (Nat.ne_of_lt (Nat.lt_trans (rI q hq) hIC)) (N' q (.tail _ hq)).1, (N' q (.tail _ hq)).2⟩⟩⟩⟩
        refine k7 (wpAny_mono (turn xs[i] v₁ v₂ I oI C oC D _ h₄ tk₄ _ (List.getElem_mem hi2) q1 q2 hoC (by simp [hxx]) (by simp) F4 N4) (fun okb s₅ q5 => ?_) fun _ _ e => e)
        clear k7
        refine hide fun G6 k6 => ?_
        obtain ⟨eb, h₅, tk₅, es, F₅, N₅⟩ := q5
        refine k6 ?_
        clear k6
        rw [eb, if_neg Bool.false_ne_true]
        exact ⟨vs.toArray.size + 1 - (i + 1), Nat.sub_lt_sub_left (Nat.lt_succ_of_lt hlt) (Nat.lt_succ_self i), h₅, tk₅, i + 1, _, es, hlt, rfl, ⟨⟨oI, (N₅ _ (.head _)).1, hcd⟩, ⟨_, (N₅ _ (.tail _ (.tail _ (.tail _ (hTR _ hl))))).1, rfl, nn, rfl⟩⟩, F₅, hoC.ns (N₅ _ (.tail _ (.head _))).1, fun q hq => N₅ q (.tail _ (.tail _ hq))⟩
      · obtain rfl : i = vs.toArray.size := Nat.le_antisymm hi (Nat.not_lt.mp hlt)
        refine W.done _ _ _ hst fun h₂ tk₂ hk₂ => ?_
        have up2 : ∀ (b : Nat) o, b ≠ I → h'.get? b = some o → h₂.get? b = some o := fun b o hb e => hk₂ b o (fun q => hb (List.mem_singleton.mp q)) e
        exact ⟨h₂, tk₂, m', rfl, rfl, ⟨F'.ns.at' fun o e => up2 _ o (Nat.ne_of_lt hL) e, fun b o e => up2 b o (nI e) (F'.keep b o e), F'.above⟩, hn'.at' fun o e => up2 _ o (Nat.ne_of_gt hIC) e, List.forall_mem_cons.mpr
          ⟨⟨up2 _ _ (Nat.ne_of_gt hID) (N' _ (.head _)).1, (N' _ (.head _)).2⟩, fun q hq => ⟨up2 _ _ (Nat.ne_of_lt (rI q hq)) (N' q (.tail _ hq)).1, (N' q (.tail _ hq)).2⟩⟩⟩
    · obtain ⟨o, e, q⟩ := hIter; exact ⟨o, old _ _ e, q⟩
    · exact ⟨_, old _ _ (up1 _ _ (N _ (hTR _ hl)).1), rfl, nn, rfl⟩
    · exact (List.mem_cons.mp hp).elim (fun e => e ▸ ⟨hD0, Nat.ne_of_gt hLD, no D (Nat.le_of_lt hID)⟩) fun hp => ⟨old _ _ (up1 _ _ (N p hp).1), (N p hp).2⟩
  refine codeAny_mono (codeAny_compStart_list (loop _ rfl) (W.self 0 _ _ _ ⟨?_, ?_⟩ (loop _ rfl))) ?_
  · obtain ⟨o, e, q⟩ := hIter; exact ⟨o, old _ _ e, q⟩
  · exact ⟨_, old _ _ (up1 _ _ (N _ (hTR _ hl)).1), rfl, nn, rfl⟩
  · intro r s' q9
    refine hide fun G9 k9 => ?_
    obtain ⟨h', tk, m', er, es, F', hn', N'⟩ := q9
    refine k9 ?_
    clear k9
    rw [er, es]
    exact ⟨m', hn', fun h'' hs'' => fin D h'' tk (F'.change hs'' (Nat.ne_of_gt hLC) (no C (Nat.le_of_lt hIC))) (List.forall_mem_cons.mpr ⟨⟨hs''.extBut _ _ (Nat.ne_of_lt hDC) (N' _ (.head _)).1, (N' _ (.head _)).2⟩, fun p hp => ⟨hs''.extBut _ _ (Nat.ne_of_lt (Nat.lt_trans (rI p hp) hIC)) (N' p (.tail _ hp)).1, (N' p (.tail _ hp)).2⟩⟩)
      fun p hp => Nat.ne_of_lt (Nat.lt_trans (rI p hp) hID)⟩
end comp_none_k
section
variable {w : World} {p : Program} {loose : List Str} {mean : ExcName → Option Value} {mg mb : Str → Option Value} {dp un : Nat} {gd : Option (List Code)} {cn : Str} {cs : Scope} {a : Addr} {ccd : Value} {cl : List (Str × Addr)} {outer : List Env} {A₀ : Around} {base h₀ : Heap} {L : Addr} {m : Str → Option Value} {R T : List (Addr × Obj)} {s : Shared} {v : Value} {Q E : Value → Shared → Prop}
theorem comp_none {elt iter c : PySem.Expr} {x x₂ : Str} {px px₂ tp : Pos} {kk : Nat} {scope : Scope} {pos : Pos} {A : Around} {env : Env} {xs : List (Int × Int)} :
  comp_none_k.St w p cl h₀ L m s Q E elt iter c x x₂ px px₂ tp scope pos A env xs kk := all_eps (S := comp_none_k.S) comp_none_k.walk (((w, p, (cx_loose cx0), (cx_mean cx0), (cx_mg cx0), (cx_mb cx0), (cx_dp cx0), (cx_un cx0), (cx_gd cx0), (cx_cn cx0), (cx_cs cx0), (cx_a cx0), (cx_ccd cx0), cl, (cx_outer cx0), (cx_A₀ cx0), (cx_base cx0), h₀, L, m, (cx_R cx0), (cx_T cx0), s, (cx_v cx0), Q, E), fn [] default, fn [] default, fn [] default, fn [] default, fn [xs] [], fn [] #[], fn [] []), ((((elt, iter), c), ((x, x₂), px)), (((px₂, tp), scope), ((pos, A), env)))) kk
end
end Mine

namespace Mine
theorem news_sub {h₀ h : Heap} {L : Addr} {R R' : List (Addr × Obj)} (N : News h₀ L h R) (h9 : ∀ p ∈ R', p ∈ R) : News h₀ L h R' := fun p hp => N p (h9 p hp)
theorem news_pull7 {h₀ h : Heap} {L : Addr} {R : List (Addr × Obj)} {a1 a2 a3 a4 a5 a6 a7 b1 b2 b3 : Addr × Obj} (N : News h₀ L h (a1 :: a2 :: a3 :: a4 :: a5 :: a6 :: a7 :: b1 :: b2 :: b3 :: R)) : News h₀ L h (b1 :: b2 :: b3 :: a1 :: a2 :: a3 :: a4 :: a5 :: a6 :: a7 :: R) := fun p hp => N p (sub_ix [a1, a2, a3, a4, a5, a6, a7, b1, b2, b3] [7, 8, 9, 0, 1, 2, 3, 4, 5, 6] p hp)
theorem news_pull2 {h₀ h : Heap} {L : Addr} {R : List (Addr × Obj)} {a1 a2 b1 b2 b3 : Addr × Obj} (N : News h₀ L h (a1 :: a2 :: b1 :: b2 :: b3 :: R)) : News h₀ L h (b1 :: b2 :: b3 :: a1 :: a2 :: R) := fun p hp => N p (sub_ix [a1, a2, b1, b2, b3] [2, 3, 4, 0, 1] p hp)
theorem cell_ne {n c : Nat} (h : c < n) : @Ne Nat (n + 1) c := Nat.ne_of_gt (Nat.lt_succ_of_lt h)
theorem hide_tail {h₀ h : Heap} {L : Addr} {R : List (Addr × Obj)} {a b c d e : Addr × Obj} (N : News h₀ L h (a :: b :: c :: d :: e :: R)) : ∃ R9, R9 = R ∧ News h₀ L h (a :: b :: c :: d :: e :: R9) := ⟨R, rfl, N⟩
theorem mem6 {R : List (Addr × Obj)} {a1 a2 a3 a4 a5 a6 p : Addr × Obj} (h : p ∈ R) : p ∈ a1 :: a2 :: a3 :: a4 :: a5 :: a6 :: R := .tail _ (.tail _ (.tail _ (.tail _ (.tail _ (.tail _ h)))))
theorem news_ra {h₀ h : Heap} {L : Addr} {R tl : List (Addr × Obj)} {x dx w D c : Addr × Obj} (N : News h₀ L h (x :: dx :: (tl ++ (w :: D :: c :: R)))) : News h₀ L h (w :: x :: dx :: D :: c :: (tl ++ R)) := fun p hp => N p (sub_bl [[x, dx], tl, [w], [D, c], R] [2, 0, 3, 1, 4] p hp)
theorem news_rb {h₀ h : Heap} {L : Addr} {R tl : List (Addr × Obj)} {x dx w D c : Addr × Obj} (N : News h₀ L h (tl ++ (w :: x :: dx :: D :: c :: R))) : News h₀ L h (w :: x :: dx :: D :: c :: (tl ++ R)) := fun p hp => N p (sub_bl [tl, [w, x, dx, D, c], R] [1, 0, 2] p hp)
theorem sub_out {tl4 tl3 tl2 tl R : List (Addr × Obj)} {w x dx D c a1 a2 a3 b1 b2 b3 : Addr × Obj} : ∀ p ∈ w :: x :: dx :: a1 :: a2 :: a3 :: b1 :: b2 :: b3 :: ((tl4 ++ (tl3 ++ (tl2 ++ tl))) ++ R), p ∈ w :: x :: dx :: D :: c :: (tl4 ++ (tl3 ++ (a1 :: a2 :: a3 :: b1 :: b2 :: b3 :: (tl2 ++ (tl ++ R))))) := by
  rw [List.append_assoc, List.append_assoc, List.append_assoc]
  exact sub_bl [[w, x, dx], [D, c], tl4, tl3, [a1, a2, a3, b1, b2, b3], tl2, tl, R] [0, 4, 2, 3, 5, 6, 7]
theorem sub_t1 {tl4 tl3 tl2 tl T : List (Addr × Obj)} : ∀ p ∈ tl ++ T, p ∈ (tl4 ++ (tl3 ++ (tl2 ++ tl))) ++ T := by
  rw [List.append_assoc, List.append_assoc, List.append_assoc]
  exact sub_bl [tl4, tl3, tl2, tl, T] [3, 4]
theorem sub_t2 {tl4 tl3 tl2 tl T : List (Addr × Obj)} : ∀ p ∈ tl2 ++ T, p ∈ (tl4 ++ (tl3 ++ (tl2 ++ tl))) ++ T := by
  rw [List.append_assoc, List.append_assoc, List.append_assoc]
  exact sub_bl [tl4, tl3, tl2, tl, T] [2, 4]
theorem sub_t3 {tl4 tl3 tl2 tl T : List (Addr × Obj)} : ∀ p ∈ tl3 ++ T, p ∈ (tl4 ++ (tl3 ++ (tl2 ++ tl))) ++ T := by
  rw [List.append_assoc, List.append_assoc, List.append_assoc]
  exact sub_bl [tl4, tl3, tl2, tl, T] [1, 4]
theorem sub_t4 {tl4 tl3 tl2 tl T : List (Addr × Obj)} : ∀ p ∈ tl4 ++ T, p ∈ (tl4 ++ (tl3 ++ (tl2 ++ tl))) ++ T := by
  rw [List.append_assoc, List.append_assoc, List.append_assoc]
  exact sub_bl [tl4, tl3, tl2, tl, T] [0, 4]
theorem sub_t0 {tl T : List (Addr × Obj)} : ∀ p ∈ T, p ∈ tl ++ T := fun p hp => List.mem_append.mpr (.inr hp)
theorem apart_app {Z tl tl2 : List (Addr × Obj)} (h1 : Apart Z tl) (h2 : Apart Z tl2) : Apart Z (tl2 ++ tl) := fun q hq p hp => (List.mem_append.mp hp).elim (h2 q hq p) (h1 q hq p)
theorem lt_three {n : Nat} {b1 b2 b3 : Addr} {o1 o2 o3 : Obj} {R : List (Addr × Obj)} {a1 a2 a3 a4 a5 a6 : Addr × Obj} (h : ∀ p ∈ a1 :: a2 :: a3 :: a4 :: a5 :: a6 :: (b1, o1) :: (b2, o2) :: (b3, o3) :: R, p.1 < n) : ∀ c ∈ [b1, b2, b3], @LT.lt Nat _ c n := by
  intro c hc
  simp only [List.mem_cons, List.not_mem_nil, or_false] at hc
  rcases hc with rfl | rfl | rfl
  · exact h _ (.tail _ (.tail _ (.tail _ (.tail _ (.tail _ (.tail _ (.head _)))))))
  · exact h _ (.tail _ (.tail _ (.tail _ (.tail _ (.tail _ (.tail _ (.tail _ (.head _))))))))
  · exact h _ (.tail _ (.tail _ (.tail _ (.tail _ (.tail _ (.tail _ (.tail _ (.tail _ (.head _)))))))))
theorem pick_all {P : Addr → Prop} {Z : List (Addr × Obj)} (h : ∀ p ∈ Z, P p.1) (ix : List Nat) : ∀ c ∈ (picks Z ix).map (·.1), P c := fun _ hc =>
  let ⟨p, hp, e⟩ := List.mem_map.mp hc
  e ▸ h p (picks_sub ix p hp)
theorem oo_pick {Z tl : List (Addr × Obj)} (h : Apart Z tl) (ix : List Nat) : OwnOff tl ((picks Z ix).map (·.1)) := fun p hp => pick_all (P := fun c => @Ne Nat p.1 c) (fun q hq => Ne.symm (h q hq p hp)) ix
theorem oo_app {tl : List (Addr × Obj)} {as bs : List Addr} (h : OwnOff tl as) (k : OwnOff tl bs) : OwnOff tl (as ++ bs) := fun p hp c hc => (List.mem_append.mp hc).elim (h p hp c) (k p hp c)
theorem oo_l {tl R : List (Addr × Obj)} {as : List Addr} (h : OwnOff (tl ++ R) as) : OwnOff tl as := fun p hp => h p (List.mem_append.mpr (.inl hp))
theorem oo_both {tl R : List (Addr × Obj)} {as : List Addr} (h : OwnOff tl as) (k : OwnOff R as) : OwnOff (tl ++ R) as := fun p hp => (List.mem_append.mp hp).elim (h p) (k p)
theorem three_c {b e x d : Addr} (h1 : b ≠ e) (h2 : b ≠ x) (h3 : b ≠ d) : ∀ c ∈ [e, x, d], b ≠ c := List.forall_mem_cons.mpr ⟨h1, List.forall_mem_cons.mpr ⟨h2, List.forall_mem_cons.mpr ⟨h3, List.forall_mem_nil _⟩⟩⟩
theorem two_c {b e x : Addr} (h1 : b ≠ e) (h2 : b ≠ x) : ∀ c ∈ [e, x], b ≠ c := List.forall_mem_cons.mpr ⟨h1, List.forall_mem_cons.mpr ⟨h2, List.forall_mem_nil _⟩⟩
theorem fst3 {a1 a2 a3 c : Addr} {r : List Addr} (h : c ∈ [a1, a2, a3]) : c ∈ a1 :: a2 :: a3 :: r := show c ∈ [a1, a2, a3] ++ r from List.mem_append.mpr (.inl h)
theorem mid3 {a1 a2 a3 b1 b2 b3 c : Addr} {r : List Addr} (h : c ∈ [b1, b2, b3]) : c ∈ a1 :: a2 :: a3 :: b1 :: b2 :: b3 :: r := show c ∈ [a1, a2, a3] ++ (b1 :: b2 :: b3 :: r) from List.mem_append.mpr (.inr (fst3 h))
theorem cov_map {l l' A Y tl : List (Addr × Obj)} (e : l'.map (·.1) = l.map (·.1)) (hl : ∀ p ∈ l, p ∈ A) (r : ∀ p ∈ Y, p ∈ A ∨ p ∈ tl) : ∀ p ∈ l' ++ Y, (∃ o, (p.1, o) ∈ A) ∨ p ∈ tl := fun p hp =>
  (List.mem_append.mp hp).elim (fun hp => .inl (by
    have h : p.1 ∈ l'.map (·.1) := List.mem_map.mpr ⟨p, hp, rfl⟩
    rw [e] at h
    obtain ⟨q, hq, e9⟩ := List.mem_map.mp h
    exact ⟨q.2, e9 ▸ hl q hq⟩)) fun hp => (r p hp).imp (fun h => ⟨p.2, h⟩) id
theorem cell_off {n c : Nat} (h : c < n) : n + 1 ≠ c := fun q => Nat.lt_irrefl _ (Nat.lt_of_lt_of_le h (Nat.le_trans (Nat.le_succ _) (Nat.le_of_eq q)))
theorem mem10 {R : List (Addr × Obj)} {a1 a2 a3 a4 a5 a6 a7 a8 a9 a10 p : Addr × Obj} (h : p ∈ R) : p ∈ a1 :: a2 :: a3 :: a4 :: a5 :: a6 :: a7 :: a8 :: a9 :: a10 :: R := .tail _ (.tail _ (.tail _ (.tail _ (.tail _ (.tail _ (.tail _ (.tail _ (.tail _ (.tail _ h)))))))))
theorem sub_back1 {FE tl R : List (Addr × Obj)} {I C D c w1 w2 w3 a1 a2 a3 b1 b2 b3 : Addr × Obj} : ∀ p ∈ I :: C :: D :: (FE ++ (c :: w1 :: w2 :: w3 :: a1 :: a2 :: a3 :: b1 :: b2 :: b3 :: (tl ++ R))), p ∈ FE ++ (a1 :: a2 :: a3 :: (tl ++ (I :: C :: D :: c :: w1 :: w2 :: w3 :: b1 :: b2 :: b3 :: R))) := sub_bl [FE, [a1, a2, a3], tl, [I, C, D], [c, w1, w2, w3], [b1, b2, b3], R] [3, 0, 4, 1, 5, 2, 6]
theorem sub_back2 {FE tl R : List (Addr × Obj)} {I C D c w1 w2 w3 a1 a2 a3 b1 b2 b3 : Addr × Obj} : ∀ p ∈ I :: C :: D :: (FE ++ (c :: w1 :: w2 :: w3 :: a1 :: a2 :: a3 :: b1 :: b2 :: b3 :: (tl ++ R))), p ∈ FE ++ (b1 :: b2 :: b3 :: (tl ++ (I :: C :: D :: c :: w1 :: w2 :: w3 :: a1 :: a2 :: a3 :: R))) := sub_bl [FE, [b1, b2, b3], tl, [I, C, D], [c, w1, w2, w3], [a1, a2, a3], R] [3, 0, 4, 5, 1, 2, 6]
theorem news_pull10 {h₀ h : Heap} {L : Addr} {R : List (Addr × Obj)} {a1 a2 a3 a4 a5 a6 a7 a8 a9 a10 b1 b2 b3 : Addr × Obj} (N : News h₀ L h (a1 :: a2 :: a3 :: a4 :: a5 :: a6 :: a7 :: a8 :: a9 :: a10 :: b1 :: b2 :: b3 :: R)) : News h₀ L h (b1 :: b2 :: b3 :: a1 :: a2 :: a3 :: a4 :: a5 :: a6 :: a7 :: a8 :: a9 :: a10 :: R) := fun p hp => N p (sub_ix [a1, a2, a3, a4, a5, a6, a7, a8, a9, a10, b1, b2, b3] [10, 11, 12, 0, 1, 2, 3, 4, 5, 6, 7, 8, 9] p hp)
section
variable {w : World} {p : Program} {loose : List Str} {mean : ExcName → Option Value} {mg mb : Str → Option Value} {dp un : Nat} {gd : Option (List Code)} {cn : Str} {cs : Scope} {a : Addr} {ccd : Value} {cl : List (Str × Addr)} {outer : List Env} {A₀ : Around} {base h₀ : Heap} {L : Addr} {m : Str → Option Value} {R T : List (Addr × Obj)} {s : Shared} {v : Value} {Q E : Value → Shared → Prop}
end
namespace law_come_c_k
noncomputable def St (w : World) (p : Program) (loose : List Str) (mean : ExcName → Option Value) (mg : Str → Option Value) (mb : Str → Option Value) (dp : Nat) (un : Nat) (gd : Option (List Code)) (cn : Str) (cs : Scope) (a : Addr) (ccd : Value) (cl : List (Str × Addr)) (outer : List Env) (A₀ : Around) (base : Heap) (h₀ : Heap) (L : Addr) (m : Str → Option Value) (R : List (Addr × Obj)) (T : List (Addr × Obj)) (s : Shared) (Q : Value → Shared → Prop) (E : Value → Shared → Prop) (wD : Addr) (x : Addr) (dx : Addr) (e1 : Addr) (x1 : Addr) (d1 : Addr) (e2 : Addr) (x2 : Addr) (d2 : Addr) (le : Addr) (ra : Addr) (oW : Obj) (o1 : Obj) (o2 : Obj) (t1 : Tok) (t2 : Tok) (t3 : Tok) (tdd : Tok) (t11 : Tok) (t12 : Tok) (t13 : Tok) (tl1 : Tok) (tt1 : Tok) (t21 : Tok) (t22 : Tok) (t23 : Tok) (tlx2 : Tok) (tt2 : Tok) (to : Tok) (tz : Tok) (tq1 : Tok) (tq2 : Tok) (data : Array UInt8) (vdue : Value) (vack : Value) (vput : Value) (vfl : Value) (vel : Value) (vak : Value) (vbo : Value) (vw1 : Value) (vw2 : Value) (dt : Array UInt8) (j1 : Array UInt8) (j2 : Array UInt8) (fa1 : List (Int × Array UInt8)) (fb1 : List (Int × Array UInt8)) (fa2 : List (Int × Array UInt8)) (fb2 : List (Int × Array UInt8)) (due : List (Int × Int)) (ack : List (Int × Int)) (wack : List (Int × Int)) (st1 : EndSt) (st2 : EndSt) (lim1 : Int) (lim2 : Int) (off : Int) (b1 : Int) (b2 : Int) (n9 : Nat) (n8 : Nat) : Prop := ∀ (B : Below A₀ base outer h₀) (F : Fr h₀ L s.heap m) (X : (hd.heap_1 w.params).In h₀) (N : News h₀ L s.heap ((wD, oW) :: (x, instObj 180 dx) :: (dx, outD w t1 t2 t3 (.bytes data tdd) vdue vack) :: (e1, o1) :: (x1, instObj 124 d1) :: (d1, inD w t11 t12 t13 (.int lim1 tl1) (.int st1.told tt1) vw1) :: (e2, o2) :: (x2, instObj 124 d2) :: (d2, inD w t21 t22 t23 (.int lim2 tlx2) (.int st2.told tt2) vw2) :: R)) (Tp : Top p loose mean mg mb h₀) (hk : cs.kind = .function) (XB : (hd.heap_1 w.params).In base) (TB : Top p loose mean mg mb base) (D : KtsDicts (outer.filterMap (·.frame)) h₀) (hW : oW.IsDictOf (PySem.strKind P0 w) [(Str.ofString "out", Value.ref x), (Str.ofString "put", vput), (Str.ofString "flying", vfl), (Str.ofString "elder", vel), (Str.ofString "acked", vak), (Str.ofString "bounds", vbo), (Str.ofString "ends", Value.ref le)]) (hE1 : o1.IsDictOf (PySem.strKind P0 w) [(Str.ofString "in", Value.ref x1), (Str.ofString "told", Value.bytes st1.td tq1)]) (hE2 : o2.IsDictOf (PySem.strKind P0 w) [(Str.ofString "in", Value.ref x2), (Str.ofString "told", Value.bytes st2.td tq2)]) (hle : (le, W.listOf [Value.ref e1, Value.ref e2].toArray n9) ∈ T) (hra : (ra, ({ cls := .type "tuple", data := .seq [Value.int off to, Value.bytes dt tz].toArray n8 } : Obj)) ∈ T) (hnd : ([wD, x, dx, e1, x1, d1, e2, x2, d2] : List Nat).Nodup) (hO : OwnOff R [wD, x, dx, e1, x1, d1, e2, x2, d2]) (hw1 : DatIn T vw1 (pcsD st1.ps)) (hw2 : DatIn T vw2 (pcsD st2.ps)) (htd1 : st1.td.size ≤ 1000) (htd2 : st2.td.size ≤ 1000) (ok1 : ArrOk lim1 st1.told off st1.ps dt fa1 fb1 b1 j1) (ok2 : ArrOk lim2 st2.told off st2.ps dt fa2 fb2 b2 j2) (hTR : ∀ p ∈ T, p ∈ R) (hdp : dp + 9 < recursionLimit) (hun : un + 900 < cLine) (hvd : DatIn T vdue (spD due)) (hva : DatIn T vack (spD ack)) (hvk : DatIn T vak (spD wack)) (hdl : due.length ≤ 1000) (hal : ack.length ≤ 1000) (hkl : wack.length ≤ 1000) (hdz : 0 < dt.size) (hack : ∀ q ∈ ack, q.1 < q.2) (hlw : ∀ i, (withoutL [(off, off + (dt.size : Int))] (ack.take i)).length ≤ 1000) (hll : ∀ i, (lostL due ((withoutL [(off, off + (dt.size : Int))] ack).take i)).length ≤ 1000) (ret : ∀ h₀' tl oW' o1' o2' vdue' vack' vak' tq1' tt1' vw1' tq2' tt2' vw2' h' tk', Turned w A₀ base outer p loose mean mg mb h₀ h₀' → Fr h₀' L h' m →
    News h₀' L h' ((wD, oW') :: (x, instObj 180 dx) :: (dx, outD w t1 t2 t3 (.bytes data tdd) vdue' vack') :: (e1, o1') :: (x1, instObj 124 d1) :: (d1, inD w t11 t12 t13 (.int lim1 tl1) (.int (endStep lim1 st1 off dt (fa1 ++ (b1, j1) :: fb1)).told tt1') vw1') :: (e2, o2') :: (x2, instObj 124 d2) :: (d2, inD w t21 t22 t23 (.int lim2 tlx2) (.int (endStep lim2 st2 off dt (fa2 ++ (b2, j2) :: fb2)).told tt2') vw2') :: (tl ++ R)) →
    Ext [wD, x, dx, e1, x1, d1, e2, x2, d2] R tl →
    oW'.IsDictOf (PySem.strKind P0 w) [(Str.ofString "out", Value.ref x), (Str.ofString "put", vput), (Str.ofString "flying", vfl), (Str.ofString "elder", vel), (Str.ofString "acked", vak'), (Str.ofString "bounds", vbo), (Str.ofString "ends", Value.ref le)] →
    o1'.IsDictOf (PySem.strKind P0 w) [(Str.ofString "in", Value.ref x1), (Str.ofString "told", Value.bytes (endStep lim1 st1 off dt (fa1 ++ (b1, j1) :: fb1)).td tq1')] →
    o2'.IsDictOf (PySem.strKind P0 w) [(Str.ofString "in", Value.ref x2), (Str.ofString "told", Value.bytes (endStep lim2 st2 off dt (fa2 ++ (b2, j2) :: fb2)).td tq2')] →
    DatIn (tl ++ T) vdue' (spD (if off + (dt.size : Int) ≤ st1.told + lim1 then cutL due off (off + (dt.size : Int)) else lostL due (withoutL [(off, off + (dt.size : Int))] ack))) →
    DatIn (tl ++ T) vack' (spD (if off + (dt.size : Int) ≤ st1.told + lim1 then addL ack off (off + (dt.size : Int)) else ack)) →
    DatIn (tl ++ T) vak' (spD (if off + (dt.size : Int) ≤ st1.told + lim1 then addL wack off (off + (dt.size : Int)) else wack)) →
    DatIn (tl ++ T) vw1' (pcsD (endStep lim1 st1 off dt (fa1 ++ (b1, j1) :: fb1)).ps) → DatIn (tl ++ T) vw2' (pcsD (endStep lim2 st2 off dt (fa2 ++ (b2, j2) :: fb2)).ps) →
    Q (.bool (decide (off + (dt.size : Int) ≤ st2.told + lim2) || !decide (off + (dt.size : Int) ≤ st1.told + lim1))) { s with heap := h', toks := tk' }),
  wpAny (model P0 w) (ktrTop dp un gd cn cs L a ccd cl outer) (call (.ref 210) [.ref wD, .ref ra]) Q E s
noncomputable def S (c : CxF × (((EndSt) × (EndSt)))) : Prop := ∀ (lim1 : Int) (lim2 : Int) (off : Int) (b1 : Int) (b2 : Int) (n9 : Nat) (n8 : Nat), St (cx_w (c.1).1) (cx_p (c.1).1) (cx_loose (c.1).1) (cx_mean (c.1).1) (cx_mg (c.1).1) (cx_mb (c.1).1) (cx_dp (c.1).1) (cx_un (c.1).1) (cx_gd (c.1).1) (cx_cn (c.1).1) (cx_cs (c.1).1) (cx_a (c.1).1) (cx_ccd (c.1).1) (cx_cl (c.1).1) (cx_outer (c.1).1) (cx_A₀ (c.1).1) (cx_base (c.1).1) (cx_h₀ (c.1).1) (cx_L (c.1).1) (cx_m (c.1).1) (cx_R (c.1).1) (cx_T (c.1).1) (cx_s (c.1).1) (cx_Q (c.1).1) (cx_E (c.1).1) (cx_adr c.1 0) (cx_adr c.1 1) (cx_adr c.1 2) (cx_adr c.1 3) (cx_adr c.1 4) (cx_adr c.1 5) (cx_adr c.1 6) (cx_adr c.1 7) (cx_adr c.1 8) (cx_adr c.1 9) (cx_adr c.1 10) (cx_obj c.1 0) (cx_obj c.1 1) (cx_obj c.1 2) (cx_tok c.1 0) (cx_tok c.1 1) (cx_tok c.1 2) (cx_tok c.1 3) (cx_tok c.1 4) (cx_tok c.1 5) (cx_tok c.1 6) (cx_tok c.1 7) (cx_tok c.1 8) (cx_tok c.1 9) (cx_tok c.1 10) (cx_tok c.1 11) (cx_tok c.1 12) (cx_tok c.1 13) (cx_tok c.1 14) (cx_tok c.1 15) (cx_tok c.1 16) (cx_tok c.1 17) (cx_byt c.1 0) (cx_val c.1 0) (cx_val c.1 1) (cx_val c.1 2) (cx_val c.1 3) (cx_val c.1 4) (cx_val c.1 5) (cx_val c.1 6) (cx_val c.1 7) (cx_val c.1 8) (cx_byt c.1 1) (cx_byt c.1 2) (cx_byt c.1 3) (cx_pcs c.1 0) (cx_pcs c.1 1) (cx_pcs c.1 2) (cx_pcs c.1 3) (cx_sps c.1 0) (cx_sps c.1 1) (cx_sps c.1 2) (c.2.1) (c.2.2) lim1 lim2 off b1 b2 n9 n8
noncomputable def kx9 : CxF × (((EndSt) × (EndSt))) := @Classical.epsilon (CxF × (((EndSt) × (EndSt)))) (ne_cxf.elim fun b => ⟨(b, (⟨0, #[], []⟩, ⟨0, #[], []⟩))⟩) fun c => ¬ S c
set_option maxRecDepth 100000 in
set_option maxHeartbeats 8000000 in
theorem walk : S kx9 := by
  show ∀ (lim1 : Int) (lim2 : Int) (off : Int) (b1 : Int) (b2 : Int) (n9 : Nat) (n8 : Nat), St (cx_w (kx9.1).1) (cx_p (kx9.1).1) (cx_loose (kx9.1).1) (cx_mean (kx9.1).1) (cx_mg (kx9.1).1) (cx_mb (kx9.1).1) (cx_dp (kx9.1).1) (cx_un (kx9.1).1) (cx_gd (kx9.1).1) (cx_cn (kx9.1).1) (cx_cs (kx9.1).1) (cx_a (kx9.1).1) (cx_ccd (kx9.1).1) (cx_cl (kx9.1).1) (cx_outer (kx9.1).1) (cx_A₀ (kx9.1).1) (cx_base (kx9.1).1) (cx_h₀ (kx9.1).1) (cx_L (kx9.1).1) (cx_m (kx9.1).1) (cx_R (kx9.1).1) (cx_T (kx9.1).1) (cx_s (kx9.1).1) (cx_Q (kx9.1).1) (cx_E (kx9.1).1) (cx_adr kx9.1 0) (cx_adr kx9.1 1) (cx_adr kx9.1 2) (cx_adr kx9.1 3) (cx_adr kx9.1 4) (cx_adr kx9.1 5) (cx_adr kx9.1 6) (cx_adr kx9.1 7) (cx_adr kx9.1 8) (cx_adr kx9.1 9) (cx_adr kx9.1 10) (cx_obj kx9.1 0) (cx_obj kx9.1 1) (cx_obj kx9.1 2) (cx_tok kx9.1 0) (cx_tok kx9.1 1) (cx_tok kx9.1 2) (cx_tok kx9.1 3) (cx_tok kx9.1 4) (cx_tok kx9.1 5) (cx_tok kx9.1 6) (cx_tok kx9.1 7) (cx_tok kx9.1 8) (cx_tok kx9.1 9) (cx_tok kx9.1 10) (cx_tok kx9.1 11) (cx_tok kx9.1 12) (cx_tok kx9.1 13) (cx_tok kx9.1 14) (cx_tok kx9.1 15) (cx_tok kx9.1 16) (cx_tok kx9.1 17) (cx_byt kx9.1 0) (cx_val kx9.1 0) (cx_val kx9.1 1) (cx_val kx9.1 2) (cx_val kx9.1 3) (cx_val kx9.1 4) (cx_val kx9.1 5) (cx_val kx9.1 6) (cx_val kx9.1 7) (cx_val kx9.1 8) (cx_byt kx9.1 1) (cx_byt kx9.1 2) (cx_byt kx9.1 3) (cx_pcs kx9.1 0) (cx_pcs kx9.1 1) (cx_pcs kx9.1 2) (cx_pcs kx9.1 3) (cx_sps kx9.1 0) (cx_sps kx9.1 1) (cx_sps kx9.1 2) (kx9.2.1) (kx9.2.2) lim1 lim2 off b1 b2 n9 n8
  generalize (cx_w (kx9.1).1) = w, (cx_p (kx9.1).1) = p, (cx_loose (kx9.1).1) = loose, (cx_mean (kx9.1).1) = mean, (cx_mg (kx9.1).1) = mg, (cx_mb (kx9.1).1) = mb, (cx_dp (kx9.1).1) = dp, (cx_un (kx9.1).1) = un, (cx_gd (kx9.1).1) = gd, (cx_cn (kx9.1).1) = cn, (cx_cs (kx9.1).1) = cs, (cx_a (kx9.1).1) = a, (cx_ccd (kx9.1).1) = ccd, (cx_cl (kx9.1).1) = cl, (cx_outer (kx9.1).1) = outer, (cx_A₀ (kx9.1).1) = A₀, (cx_base (kx9.1).1) = base, (cx_h₀ (kx9.1).1) = h₀, (cx_L (kx9.1).1) = L, (cx_m (kx9.1).1) = m, (cx_R (kx9.1).1) = R, (cx_T (kx9.1).1) = T, (cx_s (kx9.1).1) = s, (cx_Q (kx9.1).1) = Q, (cx_E (kx9.1).1) = E, (cx_adr kx9.1 0) = wD, (cx_adr kx9.1 1) = x, (cx_adr kx9.1 2) = dx, (cx_adr kx9.1 3) = e1, (cx_adr kx9.1 4) = x1, (cx_adr kx9.1 5) = d1, (cx_adr kx9.1 6) = e2, (cx_adr kx9.1 7) = x2, (cx_adr kx9.1 8) = d2, (cx_adr kx9.1 9) = le, (cx_adr kx9.1 10) = ra, (cx_obj kx9.1 0) = oW, (cx_obj kx9.1 1) = o1, (cx_obj kx9.1 2) = o2, (cx_tok kx9.1 0) = t1, (cx_tok kx9.1 1) = t2, (cx_tok kx9.1 2) = t3, (cx_tok kx9.1 3) = tdd, (cx_tok kx9.1 4) = t11, (cx_tok kx9.1 5) = t12, (cx_tok kx9.1 6) = t13, (cx_tok kx9.1 7) = tl1, (cx_tok kx9.1 8) = tt1, (cx_tok kx9.1 9) = t21, (cx_tok kx9.1 10) = t22, (cx_tok kx9.1 11) = t23, (cx_tok kx9.1 12) = tlx2, (cx_tok kx9.1 13) = tt2, (cx_tok kx9.1 14) = to, (cx_tok kx9.1 15) = tz, (cx_tok kx9.1 16) = tq1, (cx_tok kx9.1 17) = tq2, (cx_byt kx9.1 0) = data, (cx_val kx9.1 0) = vdue, (cx_val kx9.1 1) = vack, (cx_val kx9.1 2) = vput, (cx_val kx9.1 3) = vfl, (cx_val kx9.1 4) = vel, (cx_val kx9.1 5) = vak, (cx_val kx9.1 6) = vbo, (cx_val kx9.1 7) = vw1, (cx_val kx9.1 8) = vw2, (cx_byt kx9.1 1) = dt, (cx_byt kx9.1 2) = j1, (cx_byt kx9.1 3) = j2, (cx_pcs kx9.1 0) = fa1, (cx_pcs kx9.1 1) = fb1, (cx_pcs kx9.1 2) = fa2, (cx_pcs kx9.1 3) = fb2, (cx_sps kx9.1 0) = due, (cx_sps kx9.1 1) = ack, (cx_sps kx9.1 2) = wack, (kx9.2.1) = st1, (kx9.2.2) = st2
  intro lim1 lim2 off b1 b2 n9 n8
  delta St
  intro B F X N Tp hk XB TB D hW hE1 hE2 hle hra hnd hO hw1 hw2 htd1 htd2 ok1 ok2 hTR hdp hun hvd hva hvk hdl hal hkl hdz hack hlw hll ret
  have hnd' := hnd
  simp only [List.nodup_cons, List.mem_cons, not_or, List.not_mem_nil, not_false_eq_true, and_true, List.nodup_nil] at hnd'
  obtain ⟨⟨nwx, nwdx, nwe1, nwx1, nwd1, nwe2, nwx2, nwd2⟩, ⟨nxdx, nxe1, nxx1, nxd1, nxe2, nxx2, nxd2⟩, ⟨ndxe1, ndxx1, ndxd1, ndxe2, ndxx2, ndxd2⟩, ⟨ne1x1, ne1d1, ne1e2, ne1x2, ne1d2⟩, ⟨nx1d1, nx1e2, nx1x2, nx1d2⟩, ⟨nd1e2, nd1x2, nd1d2⟩, ⟨ne2x2, ne2d2⟩, nx2d2⟩ := hnd'
  refine wpAny_call ?_
  k_dflt (walk_at "mine enterSC")
  k_steps
  unfold Held
  rename Fr _ _ _ _ => F1
  rename News _ _ _ _ => N1
  rename KtsDicts _ _ => D1
  rename Below _ _ (_ :: outer) _ => B1
  have F0 := (fe_down (fs := (envX cn cs L a ccd cl :: outer).filterMap (·.frame)) F1 N1).1
  k_dflt (refine LCg.ListComp_U (F₀ := F0) (by with_unfolding_all rfl) (by decide) (by rfl) (by decide) (by rfl) ?_)
  clear F0
  k_steps
  rename Fr _ _ _ _ => F1
  rename News _ _ _ _ => N1
  rename (∀ p ∈ (wD, oW) :: _, _) => l1
  generalize hfs : (envX cn cs L a ccd cl :: outer).filterMap (·.frame) = fs at D1
  have hfo : ∀ b ∈ fs, ∃ o, _ := fun b hb => let ⟨o, _, _, ho, _⟩ := D1 b hb; ⟨o, ho⟩
  have hRn : ∀ p ∈ _, _ := fun p hp => (N1 p hp).2.2
  obtain ⟨F0, N0⟩ := fe_down (fs := fs) F1 N1
  refine LCg.CompSrc.ledger (its := [Value.ref e1, Value.ref e2].toArray) (k := n9) rfl F0 N0 ?hm ?hz ?zf5
  case' zf5 => intro g
  case hm => exact List.mem_append.mpr (.inr (.tail _ (.tail _ (.tail _ (.tail _ (.tail _ (.tail _ (.tail _ (.tail _ (.tail _ (.tail _ (hTR _ hle))))))))))))
  case hz => size_fits
  refine LCg.CompRest.succ ?zf6
  case' zf6 => intro v I oI C oC D9 m₂ h9 tk9 E' hv hC hx F2 N2 off ne
  have hv' : v = Value.ref e1 := (Option.some.inj hv).symm
  subst hv'
  obtain ⟨F3, N3⟩ := fe_open F1 hfo hRn KtsTurn.refl F2 N2 off
  have hFz : ∃ hx mx, Fr _ _ hx mx := ⟨_, _, F1⟩
  clear F0 N0 F1 N1 F2 N2
  k_steps
  rename News _ _ _ _ => N4
  have N5 := news_pull7 N4
  clear N4
  unfold Held
  k_dflt (refine' law_taken_u (T := T) (fa := fa1) (fb := fb1) (b := b1) (j := j1) st1 ?B ?F ?X N5 ?Tp rfl XB TB ?D hE1 ?hT ?n1 ?n2 ?n3 ?hO hw1 htd1 ok1 ?hd ?hu ?_)
  case B => k_asm
  case F => k_asm
  case X => k_asm
  case Tp => k_asm
  case D => rw [hfs]; exact D1
  case hT => exact fun p hp => .tail _ (.tail _ (.tail _ (.tail _ (.tail _ (.tail _ (.tail _ (.tail _ (.tail _ (.tail _ (hTR p hp))))))))))
  case n1 => exact nx1d1
  case n2 => exact ne1x1
  case n3 => exact ne1d1
  case hO =>
    have hof : ∀ c ∈ [e1, x1, d1], c ≠ I ∧ c ≠ C ∧ c ≠ D9 := (pick_all (P := fun c => c ≠ I ∧ c ≠ C ∧ c ≠ D9) (fun p hp => off.mem p (List.mem_append.mpr (.inr hp))) [4, 5, 6] :)
    have hlt : ∀ c ∈ [e1, x1, d1], @LT.lt Nat _ c _ := (pick_all (P := fun c => @LT.lt Nat _ c _) l1 [3, 4, 5] :)
    exact ownoff_cons (fun c hc => Ne.symm (hof c hc).1) (ownoff_cons (fun c hc => Ne.symm (hof c hc).2.1) (ownoff_cons (fun c hc => Ne.symm (hof c hc).2.2) (ownoff_cons (fun c hc => cell_off (hlt c hc)) (ownoff_cons (three_c nwe1 nwx1 nwd1) (ownoff_cons (three_c nxe1 nxx1 nxd1) (ownoff_cons (three_c ndxe1 ndxx1 ndxd1)
      (ownoff_cons (three_c (Ne.symm ne1e2) (Ne.symm nx1e2) (Ne.symm nd1e2)) (ownoff_cons (three_c (Ne.symm ne1x2) (Ne.symm nx1x2) (Ne.symm nd1x2)) (ownoff_cons (three_c (Ne.symm ne1d2) (Ne.symm nx1d2) (Ne.symm nd1d2)) fun p hp c hc => hO p hp c (mid3 hc))))))))))
  case hd => walk_at "mine room"
  case hu => walk_at "mine room"
  intro g5 tl oE' tq' tt' vw' h5 tk5 tr F5 N6 hEx hv5 hE5
  k_steps
  obtain ⟨T5, B5, X5, P5, D5⟩ := tr
  rw [hfs] at T5 D5
  obtain ⟨F6, N7⟩ := fe_back F5 N6 T5
  have htl : ∀ p ∈ tl, p.1 ≠ I ∧ p.1 ≠ C ∧ p.1 ≠ D9 := fun p hp => ⟨Ne.symm (hEx.2 _ (.head _) p hp), Ne.symm (hEx.2 _ (.tail _ (.head _)) p hp), Ne.symm (hEx.2 _ (.tail _ (.tail _ (.head _))) p hp)⟩
  have hT1 : ∀ p ∈ T, p ∈ tl ++ R := fun p hp => List.mem_append.mpr (.inr (hTR p hp))
  refine LCg.CompEnd.intro F6 N7 _ sub_back1 ?off ?S ?rest
  case off =>
    refine off_turn T5 KtsTurn.refl off (fun p hp => ?_) htl
    refine cov_map (l := [_, _, _, _, _, _, _, _, _, _]) (l' := [_, _, _, _, _, _, _, _, _, _]) ?e9 (fun p hp => List.mem_append.mpr (.inl hp)) (fun p hp => (List.mem_append.mp hp).elim .inr fun hp => .inl (mem10 hp)) p hp
    case e9 => rfl
  case S => exact .inr ⟨_, List.mem_append.mpr (.inr (mem10 (List.mem_append.mpr (.inr (hTR _ hle))))), rfl, _, rfl⟩
  have hRn5 := fun p hp => turn_none T5 (N6 p hp).2.2
  clear F6 N7 F5 N6
  refine LCg.CompRest.succ ?zf7
  case' zf7 => intro v I2 oI2 C2 oC2 D2 m3 h10 tk10 E2 hv hC2 hx2 F7 N8 off2 ne2
  have hv' : v = Value.ref e2 := (Option.some.inj hv).symm
  subst hv'
  obtain ⟨_, _, F1⟩ := hFz
  obtain ⟨F3, N3⟩ := fe_open F1 hfo (fun p hp => hRn5 p (sub_back1 (FE := []) p (.tail _ (.tail _ (.tail _ hp))))) T5 F7 N8 off2
  have hRn6 : ∀ p ∈ _, _ := fun p hp => (N3 p hp).2.2
  clear F7 N8
  generalize hR5 : tl ++ R = R5 at N3 hT1
  k_steps
  rename News _ _ _ _ => N4
  have N5 := news_pull10 N4
  clear N4
  unfold Held
  k_dflt (refine' law_taken_u (T := T) (fa := fa2) (fb := fb2) (b := b2) (j := j2) st2 ?B ?F ?X N5 ?Tp rfl XB TB ?D hE2 ?hT ?n1 ?n2 ?n3 ?hO hw2 htd2 ok2 ?hd ?hu ?_)
  case B => exact B5
  case F => k_asm
  case X => exact X5
  case Tp => exact P5
  case D => rw [hfs]; exact D5
  case hT => exact fun p hp => mem10 (hT1 p hp)
  case n1 => exact nx2d2
  case n2 => exact ne2x2
  case n3 => exact ne2d2
  case hO =>
    have hof : ∀ c ∈ [e2, x2, d2], c ≠ I2 ∧ c ≠ C2 ∧ c ≠ D2 := (pick_all (P := fun c => c ≠ I2 ∧ c ≠ C2 ∧ c ≠ D2) (fun p hp => off2.mem p (List.mem_append.mpr (.inr hp))) [7, 8, 9] :)
    have hlt : ∀ c ∈ [e2, x2, d2], @LT.lt Nat _ c _ := (pick_all (P := fun c => @LT.lt Nat _ c _) l1 [6, 7, 8] :)
    exact ownoff_cons (fun c hc => Ne.symm (hof c hc).1) (ownoff_cons (fun c hc => Ne.symm (hof c hc).2.1) (ownoff_cons (fun c hc => Ne.symm (hof c hc).2.2) (ownoff_cons (fun c hc => cell_off (hlt c hc)) (ownoff_cons (three_c nwe2 nwx2 nwd2) (ownoff_cons (three_c nxe2 nxx2 nxd2) (ownoff_cons (three_c ndxe2 ndxx2 ndxd2)
      (ownoff_cons (three_c ne1e2 ne1x2 ne1d2) (ownoff_cons (three_c nx1e2 nx1x2 nx1d2) (ownoff_cons (three_c nd1e2 nd1x2 nd1d2) (hR5 ▸ oo_both (oo_pick hEx.2 [7, 8, 9]) fun p hp c hc => hO p hp c (.tail _ (.tail _ (.tail _ (.tail _ (.tail _ (.tail _ hc))))))))))))))))
  case hd => walk_at "mine room"
  case hu => walk_at "mine room"
  intro g6 tl2 oE2' tq2' tt2' vw2' h6 tk6 tr F5 N6 hEx2 hv6 hE6
  k_steps
  obtain ⟨T6, B6, X6, P6, D6⟩ := tr
  rw [hfs] at T6 D6
  have T56 := T5.trans T6
  obtain ⟨F6, N7⟩ := fe_back F5 N6 T56
  have htl2 : ∀ p ∈ tl2, p.1 ≠ I2 ∧ p.1 ≠ C2 ∧ p.1 ≠ D2 := fun p hp => ⟨Ne.symm (hEx2.2 _ (.head _) p hp), Ne.symm (hEx2.2 _ (.tail _ (.head _)) p hp), Ne.symm (hEx2.2 _ (.tail _ (.tail _ (.head _))) p hp)⟩
  rw [← hR5] at *
  refine LCg.CompEnd.intro F6 N7 _ sub_back2 ?off9 ?S9 ?rest9
  case off9 =>
    refine off_turn T56 T5 off2 (fun p hp => ?_) htl2
    refine cov_map (l := [_, _, _, _, _, _, _, _, _, _]) (l' := [_, _, _, _, _, _, _, _, _, _]) ?e9 (fun p hp => List.mem_append.mpr (.inl hp)) (fun p hp => (List.mem_append.mp hp).elim .inr fun hp => .inl (mem10 hp)) p hp
    case e9 => rfl
  case S9 => exact .inr ⟨_, List.mem_append.mpr (.inr (mem10 (List.mem_append.mpr (.inr (hT1 _ hle))))), rfl, _, rfl⟩
  have hRn7 := fun p hp => turn_none T56 (N6 p hp).2.2
  clear F6 N7 F5 N6 N5 F3
  refine LCg.CompRest.zero ?zf8
  case' zf8 => intro D h11 tk11 F7 N8 off3
  obtain ⟨F8, N9⟩ := fe_open1 F1 hfo (fun p hp => hRn7 p (sub_back2 (FE := []) p (.tail _ (.tail _ (.tail _ hp))))) T56 F7 N8 off3
  clear F7 N8
  replace N9 := news_pull2 N9
  have hA1 : OwnOff tl [wD, x, dx, e1, x1, d1, e2, x2, d2] := (oo_app (oo_pick hEx.2 [4, 5, 6]) (oo_app (oo_l hEx.1) (oo_pick hEx.2 [7, 8, 9])) :)
  have hA2 : OwnOff tl2 [wD, x, dx, e1, x1, d1, e2, x2, d2] := (oo_app (oo_pick hEx2.2 [4, 5, 6, 7, 8, 9]) (oo_l hEx2.1) :)
  have hR1 : Apart R tl := fun q hq => hEx.2 q (mem10 hq)
  have hR2 : Apart R tl2 := fun q hq => hEx2.2 q (mem10 (List.mem_append.mpr (.inr hq)))
  have hDw : @Ne Nat wD D := off1_mem off3 (_, _) (List.mem_append.mpr (.inr (.tail _ (.head _))))
  have hDx : @Ne Nat x D := off1_mem off3 (_, _) (List.mem_append.mpr (.inr (.tail _ (.tail _ (.head _)))))
  have hDdx : @Ne Nat dx D := off1_mem off3 (_, _) (List.mem_append.mpr (.inr (.tail _ (.tail _ (.tail _ (.head _))))))
  have hcw : @Ne Nat _ wD := cell_ne (l1 _ (.head _))
  have hcx : @Ne Nat _ x := cell_ne (l1 _ (.tail _ (.head _)))
  have hcdx : @Ne Nat _ dx := cell_ne (l1 _ (.tail _ (.tail _ (.head _))))
  obtain ⟨R9, hR9, N9⟩ := hide_tail N9
  have hT9 : ∀ p ∈ T, p ∈ R9 := fun p hp => by rw [hR9]; exact mem6 (List.mem_append.mpr (.inr (hT1 p hp)))
  have hO9 : OwnOff R9 [wD, x, dx] := by
    rw [hR9]
    exact ownoff_cons (three_c (Ne.symm nwe1) (Ne.symm nxe1) (Ne.symm ndxe1)) (ownoff_cons (three_c (Ne.symm nwx1) (Ne.symm nxx1) (Ne.symm ndxx1)) (ownoff_cons (three_c (Ne.symm nwd1) (Ne.symm nxd1) (Ne.symm ndxd1)) (ownoff_cons (three_c (Ne.symm nwe2) (Ne.symm nxe2) (Ne.symm ndxe2)) (ownoff_cons (three_c (Ne.symm nwx2) (Ne.symm nxx2) (Ne.symm ndxx2)) (ownoff_cons (three_c (Ne.symm nwd2) (Ne.symm nxd2) (Ne.symm ndxd2))
      (oo_both (oo_pick hEx2.2 [4, 5, 6]) (oo_both (oo_pick hEx.2 [4, 5, 6]) fun p hp c hc => hO p hp c (fst3 hc))))))))
  clear hRn7 hRn6 hRn5 hRn off off2 off3 hR5 F1 T5 T6 B5 X5 P5 D5
  by_cases hfst : off + (dt.size : Int) ≤ st1.told + lim1
  · rw [decide_eq_true hfst] at N9
    generalize hsec : decide (off + (dt.size : Int) ≤ st2.told + lim2) = sec at N9
    try dsimp only [List.nil_append, List.cons_append] at N9
    have hdtz := ok1.hdt
    k_steps
    rename News _ _ _ _ => N1
    have N2 := news_rot3 N1
    clear N1
    unfold Held
    k_dflt (refine' on_acked_c (T := T) (due := due) (ack := ack) ?B ?F ?X N2 ?Tp rfl ?hT ?hxd ?hO hvd hva hdl hal ?hz ?hd ?hu ?_)
    case B => k_asm
    case F => k_asm
    case X => k_asm
    case Tp => k_asm
    case hT => exact fun p hp => .tail _ (.tail _ (.tail _ (hT9 p hp)))
    case hxd => exact nxdx
    case hO =>
      exact ownoff_cons (two_c nwx nwdx) (ownoff_cons (two_c (Ne.symm hDx) (Ne.symm hDdx)) (ownoff_cons (two_c hcx hcdx) fun p hp c hc => hO9 p hp c (.tail _ hc)))
    case hz => lia
    case hd => walk_at "mine room"
    case hu => walk_at "mine room"
    intro tl3 vdue' vack' h12 tk12 F10 N10 hE10 hvd' hva'
    clear N2
    replace N10 := news_ra N10
    have hT10 : ∀ p ∈ T, p ∈ tl3 ++ R9 := fun p hp => List.mem_append.mpr (.inr (hT9 p hp))
    have hO10 : OwnOff (tl3 ++ R9) [wD] := fun p hp c hc => by
      rw [List.mem_singleton.mp hc]
      rcases List.mem_append.mp hp with hp | hp
      · exact Ne.symm (hE10.2 _ (.head _) p hp)
      · exact hO9 p hp _ (.head _)
    generalize hR10 : tl3 ++ R9 = R10 at N10 hT10 hO10
    k_steps
    rename News _ _ _ _ => N11
    unfold Held
    k_dflt (refine' add_span_c (T := T) (sp := wack) ?B ?F ?X N11 ?Tp rfl ?hT hvk hkl ?hd ?hu ?_)
    case B => k_asm
    case F => k_asm
    case X => k_asm
    case Tp => k_asm
    case hT => exact fun p hp => .tail _ (.tail _ (.tail _ (.tail _ (.tail _ (hT10 p hp)))))
    case hd => walk_at "mine room"
    case hu => walk_at "mine room"
    intro vak' tl4 h13 tk13 F12 N12 hA12 hvk'
    clear N11
    replace N12 := news_rb N12
    have hO12 : OwnOff (tl4 ++ R10) [wD] := fun p hp c hc => by
      rw [List.mem_singleton.mp hc]
      rcases List.mem_append.mp hp with hp | hp
      · exact Ne.symm (hA12 _ (.head _) p hp)
      · exact hO10 p hp _ (.head _)
    generalize hR12 : tl4 ++ R10 = R12 at N12 hO12
    have h2 := hE10.2
    rw [hR9] at h2
    have h3 : Apart R9 tl4 := fun q hq => hA12 q (.tail _ (.tail _ (.tail _ (.tail _ (.tail _ (by rw [← hR10]; exact List.mem_append.mpr (.inr hq)))))))
    rw [hR9] at h3
    have hA3 : OwnOff tl3 [wD, x, dx, e1, x1, d1, e2, x2, d2] := (oo_app (oo_pick h2 [0]) (oo_app (oo_l hE10.1) (oo_pick h2 [3, 4, 5, 6, 7, 8])) :)
    have hA4 : OwnOff tl4 [wD, x, dx, e1, x1, d1, e2, x2, d2] := (oo_app (oo_pick hA12 [0, 1, 2]) (oo_pick h3 [0, 1, 2, 3, 4, 5]) :)
    have hExt : Ext [wD, x, dx, e1, x1, d1, e2, x2, d2] R (tl4 ++ (tl3 ++ (tl2 ++ tl))) := ⟨oo_both (oo_both hA4 (oo_both hA3 (oo_both hA2 hA1))) hO,
      apart_app (apart_app (apart_app hR1 hR2) fun q hq => h2 q (.tail _ (.tail _ (.tail _ (mem6 (List.mem_append.mpr (.inr (List.mem_append.mpr (.inr hq))))))))) fun q hq => h3 q (mem6 (List.mem_append.mpr (.inr (List.mem_append.mpr (.inr hq)))))⟩
    subst hfs
    have r9 : ∀ {x : Value}, x = .bool (decide (off + (dt.size : Int) ≤ st2.told + lim2) || !decide (off + (dt.size : Int) ≤ st1.told + lim1)) → x = .bool sec := fun {x} e => by rw [e, decide_eq_true hfst, hsec, Bool.not_true, Bool.or_false]
    clear hA1 hA2 hA3 hA4 h2 h3
    cases sec
    · k_steps
      rename Fr _ _ _ _ => kF
      rename News _ _ _ _ => kN
      rename KtsTurn _ _ _ => kT
      rename Below _ _ _ _ => kB
      rename Frag.In _ _ => kX
      rename Top _ _ _ _ _ _ => kP
      rename KtsDicts _ _ => kD
      rw [← hR12, ← hR10, hR9] at kN
      show Q (Value.bool false) _
      rw [← r9 rfl]
      exact ret _ (tl4 ++ (tl3 ++ (tl2 ++ tl))) _ _ _ _ _ _ _ _ _ _ _ _ _ _ ⟨kT, kB, kX, kP, kD⟩ kF (fun p hp => kN p (sub_out p hp)) hExt (by assumption) hE5 hE6 (by rw [if_pos hfst]; exact hvd'.mono sub_t3) (by rw [if_pos hfst]; exact hva'.mono sub_t3) (by rw [if_pos hfst]; exact hvk'.mono sub_t4) (hv5.mono sub_t1) (hv6.mono sub_t2)
    · k_steps
      rename Fr _ _ _ _ => kF
      rename News _ _ _ _ => kN
      rename KtsTurn _ _ _ => kT
      rename Below _ _ _ _ => kB
      rename Frag.In _ _ => kX
      rename Top _ _ _ _ _ _ => kP
      rename KtsDicts _ _ => kD
      rw [← hR12, ← hR10, hR9] at kN
      show Q (Value.bool true) _
      rw [← r9 rfl]
      exact ret _ (tl4 ++ (tl3 ++ (tl2 ++ tl))) _ _ _ _ _ _ _ _ _ _ _ _ _ _ ⟨kT, kB, kX, kP, kD⟩ kF (fun p hp => kN p (sub_out p hp)) hExt (by assumption) hE5 hE6 (by rw [if_pos hfst]; exact hvd'.mono sub_t3) (by rw [if_pos hfst]; exact hva'.mono sub_t3) (by rw [if_pos hfst]; exact hvk'.mono sub_t4) (hv5.mono sub_t1) (hv6.mono sub_t2)
  · rw [decide_eq_false hfst] at N9
    generalize hsec : decide (off + (dt.size : Int) ≤ st2.told + lim2) = sec at N9
    try dsimp only [List.nil_append, List.cons_append] at N9
    have hdtz := ok1.hdt
    k_steps
    rename News _ _ _ _ => N1
    have N2 := news_rot3 N1
    clear N1
    unfold Held
    k_dflt (refine' on_lost_c (T := T) (due := due) (ack := ack) ?B ?F ?X N2 ?Tp rfl ?hT ?hxd ?hO hvd hva hack hlw hll ?hd ?hu ?_)
    case B => k_asm
    case F => k_asm
    case X => k_asm
    case Tp => k_asm
    case hT => exact fun p hp => .tail _ (.tail _ (.tail _ (hT9 p hp)))
    case hxd => exact nxdx
    case hO =>
      exact ownoff_cons (two_c nwx nwdx) (ownoff_cons (two_c (Ne.symm hDx) (Ne.symm hDdx)) (ownoff_cons (two_c hcx hcdx) fun p hp c hc => hO9 p hp c (.tail _ hc)))
    case hd => walk_at "mine room"
    case hu => walk_at "mine room"
    intro tl3 vdue' h12 tk12 F10 N10 hE10 hvd'
    clear N2
    replace N10 := news_ra N10
    have h2 := hE10.2
    rw [hR9] at h2
    have hA3 : OwnOff tl3 [wD, x, dx, e1, x1, d1, e2, x2, d2] := (oo_app (oo_pick h2 [0]) (oo_app (oo_l hE10.1) (oo_pick h2 [3, 4, 5, 6, 7, 8])) :)
    have hExt : Ext [wD, x, dx, e1, x1, d1, e2, x2, d2] R ([] ++ (tl3 ++ (tl2 ++ tl))) := ⟨oo_both (oo_both (fun _ h => nomatch h) (oo_both hA3 (oo_both hA2 hA1))) hO,
      apart_app (apart_app (apart_app hR1 hR2) fun q hq => h2 q (.tail _ (.tail _ (.tail _ (mem6 (List.mem_append.mpr (.inr (List.mem_append.mpr (.inr hq))))))))) Apart.nil⟩
    generalize hR10 : tl3 ++ R9 = R10 at N10
    subst hfs
    have r9 : ∀ {x : Value}, x = .bool (decide (off + (dt.size : Int) ≤ st2.told + lim2) || !decide (off + (dt.size : Int) ≤ st1.told + lim1)) → x = .bool true := fun {x} e => by rw [e, decide_eq_false hfst, Bool.not_false, Bool.or_true]
    clear hA1 hA2 hA3 h2
    cases sec
    · k_steps
      rename Fr _ _ _ _ => kF
      rename News _ _ _ _ => kN
      rename KtsTurn _ _ _ => kT
      rename Below _ _ _ _ => kB
      rename Frag.In _ _ => kX
      rename Top _ _ _ _ _ _ => kP
      rename KtsDicts _ _ => kD
      rw [← hR10, hR9] at kN
      show Q (Value.bool true) _
      rw [← r9 rfl]
      exact ret _ ([] ++ (tl3 ++ (tl2 ++ tl))) _ _ _ _ _ _ _ _ _ _ _ _ _ _ ⟨kT, kB, kX, kP, kD⟩ kF (fun p hp => kN p (sub_out p hp)) hExt hW hE5 hE6 (by rw [if_neg hfst]; exact hvd'.mono sub_t3) (by rw [if_neg hfst]; exact hva.mono sub_t0) (by rw [if_neg hfst]; exact hvk.mono sub_t0) (hv5.mono sub_t1) (hv6.mono sub_t2)
    · k_steps
      rename Fr _ _ _ _ => kF
      rename News _ _ _ _ => kN
      rename KtsTurn _ _ _ => kT
      rename Below _ _ _ _ => kB
      rename Frag.In _ _ => kX
      rename Top _ _ _ _ _ _ => kP
      rename KtsDicts _ _ => kD
      rw [← hR10, hR9] at kN
      show Q (Value.bool true) _
      rw [← r9 rfl]
      exact ret _ ([] ++ (tl3 ++ (tl2 ++ tl))) _ _ _ _ _ _ _ _ _ _ _ _ _ _ ⟨kT, kB, kX, kP, kD⟩ kF (fun p hp => kN p (sub_out p hp)) hExt hW hE5 hE6 (by rw [if_neg hfst]; exact hvd'.mono sub_t3) (by rw [if_neg hfst]; exact hva.mono sub_t0) (by rw [if_neg hfst]; exact hvk.mono sub_t0) (hv5.mono sub_t1) (hv6.mono sub_t2)
end law_come_c_k
section
variable {w : World} {p : Program} {loose : List Str} {mean : ExcName → Option Value} {mg mb : Str → Option Value} {dp un : Nat} {gd : Option (List Code)} {cn : Str} {cs : Scope} {a : Addr} {ccd : Value} {cl : List (Str × Addr)} {outer : List Env} {A₀ : Around} {base h₀ : Heap} {L : Addr} {m : Str → Option Value} {R T : List (Addr × Obj)} {s : Shared} {v : Value} {Q E : Value → Shared → Prop}
theorem law_come_c {wD x dx e1 x1 d1 e2 x2 d2 le ra : Addr} {oW o1 o2 : Obj} {t1 t2 t3 tdd t11 t12 t13 tl1 tt1 t21 t22 t23 tlx2 tt2 to tz tq1 tq2 : Tok} {data : Array UInt8} {vdue vack vput vfl vel vak vbo : Value} {lim1 lim2 off b1 b2 : Int} {vw1 vw2 : Value} {dt j1 j2 : Array UInt8} {fa1 fb1 fa2 fb2 : List (Int × Array UInt8)} {due ack wack : List (Int × Int)} {n9 n8 : Nat} (st1 st2 : EndSt) :
  law_come_c_k.St w p loose mean mg mb dp un gd cn cs a ccd cl outer A₀ base h₀ L m R T s Q E wD x dx e1 x1 d1 e2 x2 d2 le ra oW o1 o2 t1 t2 t3 tdd t11 t12 t13 tl1 tt1 t21 t22 t23 tlx2 tt2 to tz tq1 tq2 data vdue vack vput vfl vel vak vbo vw1 vw2 dt j1 j2 fa1 fb1 fa2 fb2 due ack wack st1 st2 lim1 lim2 off b1 b2 n9 n8 := all_eps (S := law_come_c_k.S) law_come_c_k.walk (((w, p, loose, mean, mg, mb, dp, un, gd, cn, cs, a, ccd, cl, outer, A₀, base, h₀, L, m, R, T, s, (cx_v cx0), Q, E), fn [t1, t2, t3, tdd, t11, t12, t13, tl1, tt1, t21, t22, t23, tlx2, tt2, to, tz, tq1, tq2] default, fn [wD, x, dx, e1, x1, d1, e2, x2, d2, le, ra] default, fn [vdue, vack, vput, vfl, vel, vak, vbo, vw1, vw2] default, fn [oW, o1, o2] default, fn [due, ack, wack] [], fn [data, dt, j1, j2] #[], fn [fa1, fb1, fa2, fb2] []), (st1, st2)) lim1 lim2 off b1 b2 n9 n8
end
end Mine

namespace Mine
section
variable {w : World} {p : Program} {loose : List Str} {mean : ExcName → Option Value} {mg mb : Str → Option Value} {dp un : Nat} {gd : Option (List Code)} {cn : Str} {cs : Scope} {a : Addr} {ccd : Value} {cl : List (Str × Addr)} {outer : List Env} {A₀ : Around} {base h₀ : Heap} {L : Addr} {m : Str → Option Value} {R T : List (Addr × Obj)} {s : Shared} {v : Value} {Q E : Value → Shared → Prop}
theorem room2 {a i j n r : Nat} (h : a + n < r) (hk : Nat.ble (i + j) n = true) : a + i + j < r := by rw [Nat.add_assoc]; exact room h hk
theorem room3 {a i j k n r : Nat} (h : a + n < r) (hk : Nat.ble (i + (j + k)) n = true) : a + i + j + k < r := by rw [Nat.add_assoc, Nat.add_assoc]; exact room h hk
theorem loop_head {h : Heap} {D : Addr} {o : Obj} {R : List (Addr × Obj)} (N : News h₀ L h ((D, o) :: R)) : ∃ fa, D = fa ∧ News h₀ L h ((fa, o) :: R) := ⟨D, rfl, N⟩
theorem apart_lt {h : Heap} {D : Addr} {o : Obj} {R : List (Addr × Obj)} (_ : News h₀ L h ((D, o) :: R)) (l : AllLt D R) : Apart R [(D, o)] := fun q hq p hp => by
  rw [List.mem_singleton.mp hp]
  exact Nat.ne_of_lt (allLt_mem l q hq)
theorem mem11 {R : List (Addr × Obj)} {a1 a2 a3 a4 a5 a6 a7 a8 a9 a10 a11 p : Addr × Obj} (h : p ∈ R) : p ∈ a1 :: a2 :: a3 :: a4 :: a5 :: a6 :: a7 :: a8 :: a9 :: a10 :: a11 :: R := .tail _ (mem10 h)
theorem news_up {h : Heap} {I w : Addr × Obj} {tl Z : List (Addr × Obj)} (N : News h₀ L h (I :: (tl ++ (w :: Z)))) : News h₀ L h (I :: w :: (tl ++ Z)) := fun p hp => N p (sub_bl [[I], tl, [w], Z] [0, 2, 1, 3] p hp)
theorem hide2 {h : Heap} {R : List (Addr × Obj)} {a b : Addr × Obj} (N : News h₀ L h (a :: b :: R)) : ∃ R9, R9 = R ∧ News h₀ L h (a :: b :: R9) := ⟨R, rfl, N⟩
theorem sub_e1 {tl4 tl3 tl2 Z : List (Addr × Obj)} {I w : Addr × Obj} : ∀ p ∈ (tl4 ++ tl3) ++ (I :: ([] ++ (tl2 ++ (w :: Z)))), p ∈ tl4 ++ (I :: w :: (tl3 ++ (tl2 ++ Z))) := by
  rw [List.append_assoc]
  exact sub_bl [tl4, [I], [w], tl3, tl2, Z] [0, 3, 1, 4, 2, 5]
theorem sub_e2 {tl4 tl3 Z : List (Addr × Obj)} : ∀ p ∈ tl4 ++ Z, p ∈ (tl4 ++ tl3) ++ Z := by
  rw [List.append_assoc]
  exact sub_bl [tl4, tl3, Z] [0, 2]
theorem apart_e1 {tl4 tl3 tl2 Z : List (Addr × Obj)} {I w : Addr × Obj} (h3 : Apart (I :: w :: (tl2 ++ Z)) tl3) (h4 : Apart (I :: w :: (tl3 ++ (tl2 ++ Z))) tl4) : Apart (I :: ([] ++ (tl2 ++ (w :: Z)))) (tl4 ++ tl3) := by
  intro q hq
  have hq3 : q ∈ I :: w :: (tl2 ++ Z) := sub_bl [[I], [w], tl2, Z] [0, 2, 1, 3] q hq
  have hq4 : q ∈ I :: w :: (tl3 ++ (tl2 ++ Z)) := sub_bl [[I, w], tl3, tl2, Z] [0, 2, 3] q hq3
  intro p hp
  exact (List.mem_append.mp hp).elim (h4 q hq4 p) (h3 q hq3 p)
theorem ne_empty {data : Array UInt8} (h : 0 < data.size) : ¬ (data.toList != (#[] : Array UInt8).toList) = false := by
  intro q
  have q2 : data.toList = [] := by simpa using q
  have q3 : data.size = 0 := by rw [← Array.length_toList, q2]; rfl
  lia
theorem news_drop2 {h : Heap} {a b : Addr × Obj} {Z : List (Addr × Obj)} (N : News h₀ L h (a :: b :: Z)) : News h₀ L h Z := fun p hp => N p (.tail _ (.tail _ hp))
theorem news_pull8 {h : Heap} {R : List (Addr × Obj)} {a1 a2 a3 a4 a5 a6 a7 a8 b1 b2 b3 : Addr × Obj} (N : News h₀ L h (a1 :: a2 :: a3 :: a4 :: a5 :: a6 :: a7 :: a8 :: b1 :: b2 :: b3 :: R)) : News h₀ L h (b1 :: b2 :: b3 :: a1 :: a2 :: a3 :: a4 :: a5 :: a6 :: a7 :: a8 :: R) := fun p hp => N p (sub_ix [a1, a2, a3, a4, a5, a6, a7, a8, b1, b2, b3] [8, 9, 10, 0, 1, 2, 3, 4, 5, 6, 7] p hp)
theorem news_pull11 {h : Heap} {R : List (Addr × Obj)} {a1 a2 a3 a4 a5 a6 a7 a8 a9 a10 a11 b1 b2 b3 : Addr × Obj} (N : News h₀ L h (a1 :: a2 :: a3 :: a4 :: a5 :: a6 :: a7 :: a8 :: a9 :: a10 :: a11 :: b1 :: b2 :: b3 :: R)) : News h₀ L h (b1 :: b2 :: b3 :: a1 :: a2 :: a3 :: a4 :: a5 :: a6 :: a7 :: a8 :: a9 :: a10 :: a11 :: R) := fun p hp => N p (sub_ix [a1, a2, a3, a4, a5, a6, a7, a8, a9, a10, a11, b1, b2, b3] [11, 12, 13, 0, 1, 2, 3, 4, 5, 6, 7, 8, 9, 10] p hp)
theorem mem8 {R : List (Addr × Obj)} {a1 a2 a3 a4 a5 a6 a7 a8 p : Addr × Obj} (h : p ∈ R) : p ∈ a1 :: a2 :: a3 :: a4 :: a5 :: a6 :: a7 :: a8 :: R := .tail _ (.tail _ (mem6 h))
theorem sub_had1 {tl R : List (Addr × Obj)} {I C D a1 a2 a3 a4 a5 b1 b2 b3 e1 e2 e3 : Addr × Obj} : ∀ p ∈ I :: C :: D :: (a1 :: a2 :: a3 :: a4 :: a5 :: b1 :: b2 :: b3 :: e1 :: e2 :: e3 :: (tl ++ R)), p ∈ tl ++ (b1 :: b2 :: b3 :: I :: C :: D :: a1 :: a2 :: a3 :: a4 :: a5 :: e1 :: e2 :: e3 :: R) := sub_bl [tl, [b1, b2, b3], [I, C, D], [a1, a2, a3, a4, a5], [e1, e2, e3], R] [2, 3, 1, 4, 0, 5]
theorem sub_had2 {tl R : List (Addr × Obj)} {I C D a1 a2 a3 a4 a5 b1 b2 b3 e1 e2 e3 : Addr × Obj} : ∀ p ∈ I :: C :: D :: (a1 :: a2 :: a3 :: a4 :: a5 :: b1 :: b2 :: b3 :: e1 :: e2 :: e3 :: (tl ++ R)), p ∈ tl ++ (e1 :: e2 :: e3 :: I :: C :: D :: a1 :: a2 :: a3 :: a4 :: a5 :: b1 :: b2 :: b3 :: R) := sub_bl [tl, [e1, e2, e3], [I, C, D], [a1, a2, a3, a4, a5], [b1, b2, b3], R] [2, 3, 4, 1, 0, 5]
theorem off3_grow {I C D : Addr} {Z Z' tl : List (Addr × Obj)} (off : LCg.Off3 I C D Z) (hs : ∀ p ∈ Z', p ∈ tl ∨ p ∈ Z) (ht : ∀ p ∈ tl, p.1 ≠ I ∧ p.1 ≠ C ∧ p.1 ≠ D) : LCg.Off3 I C D Z' :=
  LCg.Off3.of fun p hp => (hs p hp).elim (ht p) (off.mem p)
theorem grow11 {tl R : List (Addr × Obj)} {a1 a2 a3 a4 a5 b1 b2 b3 e1 e2 e3 : Addr × Obj} : ∀ p ∈ a1 :: a2 :: a3 :: a4 :: a5 :: b1 :: b2 :: b3 :: e1 :: e2 :: e3 :: (tl ++ R), p ∈ tl ∨ p ∈ a1 :: a2 :: a3 :: a4 :: a5 :: b1 :: b2 :: b3 :: e1 :: e2 :: e3 :: R := fun p hp => List.mem_append.mp (sub_bl [tl, [a1, a2, a3, a4, a5, b1, b2, b3, e1, e2, e3], R] [1, 0, 2] p hp)
theorem sub_up {tl Z : List (Addr × Obj)} : ∀ p ∈ Z, p ∈ tl ++ Z := fun p hp => List.mem_append.mpr (.inr hp)
theorem sub_in {tl tl2 T : List (Addr × Obj)} : ∀ p ∈ tl2 ++ T, p ∈ tl2 ++ (tl ++ T) := fun p hp => (List.mem_append.mp hp).elim (fun q => List.mem_append.mpr (.inl q)) fun q => List.mem_append.mpr (.inr (List.mem_append.mpr (.inr q)))
theorem nil_span {l : Addr} {n : Nat} {R : List (Addr × Obj)} : DatIn ((l, W.listOf #[] n) :: R) (.ref l) (spD []) := DatIn.list (vs := []) (.head _) .nil
theorem news_drop1 {h : Heap} {a : Addr × Obj} {Z : List (Addr × Obj)} (N : News h₀ L h (a :: Z)) : News h₀ L h Z := fun p hp => N p (.tail _ hp)
theorem lt_off {b n : Nat} (h : b < n) : ∀ c ∈ [n + 1, n + 1 + 1], @Ne Nat b c := fun c hc => by
  rcases List.mem_cons.mp hc with rfl | hc
  · lia
  · rw [List.mem_singleton.mp hc]; lia
theorem one_c {b c : Nat} (h : @Ne Nat b c) : ∀ q ∈ [c], @Ne Nat b q := fun q hq => by rw [List.mem_singleton.mp hq]; exact h
theorem mem9 {R : List (Addr × Obj)} {a1 a2 a3 a4 a5 a6 a7 a8 a9 p : Addr × Obj} (h : p ∈ R) : p ∈ a1 :: a2 :: a3 :: a4 :: a5 :: a6 :: a7 :: a8 :: a9 :: R := .tail _ (mem8 h)
theorem lt_nine {n : Nat} {R : List (Addr × Obj)} {b1 b2 b3 b4 b5 b6 b7 b8 b9 : Addr} {o1 o2 o3 o4 o5 o6 o7 o8 o9 : Obj} (l : ∀ p ∈ (b1, o1) :: (b2, o2) :: (b3, o3) :: (b4, o4) :: (b5, o5) :: (b6, o6) :: (b7, o7) :: (b8, o8) :: (b9, o9) :: R, p.1 < n) :
    b1 < n ∧ b2 < n ∧ b3 < n ∧ b4 < n ∧ b5 < n ∧ b6 < n ∧ b7 < n ∧ b8 < n ∧ b9 < n :=
  ⟨l _ (.head _), l _ (.tail _ (.head _)), l _ (.tail _ (.tail _ (.head _))), l _ (.tail _ (.tail _ (.tail _ (.head _)))), l _ (.tail _ (.tail _ (.tail _ (.tail _ (.head _))))), l _ (.tail _ (.tail _ (.tail _ (.tail _ (.tail _ (.head _)))))), l _ (mem6 (.head _)), l _ (.tail _ (mem6 (.head _))), l _ (mem8 (.head _))⟩
theorem co_app {c1 c2 : Addr} {o1 o2 : Obj} {tl R W : List (Addr × Obj)} (h : OwnOff R [c1, c2]) (hA : Apart W tl) (h1 : (c1, o1) ∈ W) (h2 : (c2, o2) ∈ W) : OwnOff (tl ++ R) [c1, c2] := fun p hp c hc => by
  rcases List.mem_append.mp hp with hp | hp
  · rcases List.mem_cons.mp hc with rfl | hc
    · exact Ne.symm (hA _ h1 p hp)
    · rw [List.mem_singleton.mp hc]; exact Ne.symm (hA _ h2 p hp)
  · exact h p hp c hc
theorem co_one {c1 c2 D : Addr} {o1 o2 : Obj} {W : List (Addr × Obj)} (off : LCg.Off1 D W) (h1 : (c1, o1) ∈ W) (h2 : (c2, o2) ∈ W) : ∀ c ∈ [c1, c2], @Ne Nat D c := fun c hc => by
  rcases List.mem_cons.mp hc with rfl | hc
  · exact Ne.symm (off1_mem off _ h1)
  · rw [List.mem_singleton.mp hc]; exact Ne.symm (off1_mem off _ h2)
theorem news_cells {h : Heap} {a b c d : Addr × Obj} {Z : List (Addr × Obj)} (N : News h₀ L h (a :: b :: c :: d :: Z)) : News h₀ L h (c :: d :: a :: b :: Z) := fun p hp => N p (sub_ix [a, b, c, d] [2, 3, 0, 1] p hp)
theorem ex_eq {n : Addr} {Z : List (Addr × Obj)} (_ : ∀ p ∈ Z, p.1 < n) : ∃ k, k = n := ⟨n, rfl⟩
theorem zip_ne1 {n I : Nat} (h : n + 1 + 1 < I) : @Ne Nat I (n + 1) ∧ @Ne Nat (I + 1) (n + 1) ∧ @Ne Nat (I + 2) (n + 1) ∧ @Ne Nat (I + 3) (n + 1) ∧ @Ne Nat (I + 4) (n + 1) := by lia
theorem zip_ne2 {n I : Nat} (h : n + 1 + 1 < I) : @Ne Nat I (n + 1 + 1) ∧ @Ne Nat (I + 1) (n + 1 + 1) ∧ @Ne Nat (I + 2) (n + 1 + 1) ∧ @Ne Nat (I + 3) (n + 1 + 1) ∧ @Ne Nat (I + 4) (n + 1 + 1) := by lia
theorem ne_same {a b : Array UInt8} (h : a = b) : ¬ (a.toList != b.toList) = true := by
  subst h
  simp
theorem mem17 {R : List (Addr × Obj)} {a1 a2 a3 a4 a5 a6 a7 a8 a9 a10 a11 a12 a13 a14 a15 a16 a17 p : Addr × Obj} (h : p ∈ R) : p ∈ a1 :: a2 :: a3 :: a4 :: a5 :: a6 :: a7 :: a8 :: a9 :: a10 :: a11 :: a12 :: a13 :: a14 :: a15 :: a16 :: a17 :: R := mem6 (mem11 h)
theorem sub_keep17 {tl R : List (Addr × Obj)} {a0 a1 a2 a3 a4 a5 a6 a7 a8 a9 a10 a11 a12 a13 a14 a15 a16 a17 : Addr × Obj} : ∀ p ∈ a0 :: a1 :: a2 :: a3 :: a4 :: a5 :: a6 :: a7 :: a8 :: a9 :: a10 :: a11 :: a12 :: a13 :: a14 :: a15 :: a16 :: a17 :: R, p ∈ a0 :: a1 :: a2 :: a3 :: a4 :: a5 :: a6 :: a7 :: a8 :: a9 :: a10 :: a11 :: a12 :: a13 :: a14 :: a15 :: a16 :: a17 :: (tl ++ R) := sub_bl [[a0, a1, a2, a3, a4, a5, a6, a7, a8, a9, a10, a11, a12, a13, a14, a15, a16, a17], tl, R] [0, 2]
theorem zip_off {I a b : Nat} {o1 o2 o3 o4 : Obj} {i0 i1 i2 i3 i4 : Obj} {Z : List (Addr × Obj)} (l : ∀ p ∈ (a, o1) :: (b, o2) :: Z, p.1 < I) : ∀ p ∈ (a, o3) :: (b, o4) :: Z, ∀ q ∈ [(I + 4, i4), (I + 2, i2), (I + 3, i3), (I, i0), (I + 1, i1)], @Ne Nat p.1 q.1 := by
  have key : ∀ c : Nat, c < I → ∀ q ∈ [(I + 4, i4), (I + 2, i2), (I + 3, i3), (I, i0), (I + 1, i1)], @Ne Nat c q.1 := by
    intro c hc q hq
    simp only [List.mem_cons, List.not_mem_nil, or_false] at hq
    rcases hq with rfl | rfl | rfl | rfl | rfl <;> dsimp only <;> lia
  intro p hp
  rcases List.mem_cons.mp hp with rfl | hp
  · exact key a (l _ (.head _))
  rcases List.mem_cons.mp hp with rfl | hp
  · exact key b (l _ (.tail _ (.head _)))
  · exact key p.1 (l _ (.tail _ (.tail _ hp)))
theorem mem12 {R : List (Addr × Obj)} {a1 a2 a3 a4 a5 a6 a7 a8 a9 a10 a11 a12 p : Addr × Obj} (h : p ∈ R) : p ∈ a1 :: a2 :: a3 :: a4 :: a5 :: a6 :: a7 :: a8 :: a9 :: a10 :: a11 :: a12 :: R := .tail _ (mem11 h)
theorem news_plus {h : Heap} {a : Addr × Obj} {Z : List (Addr × Obj)} (N : News h₀ L h Z) (hm : a ∈ Z) : News h₀ L h (a :: Z) := fun p hp => (List.mem_cons.mp hp).elim (fun e => e ▸ N a hm) (N p)
theorem grow9 {R R9 : List (Addr × Obj)} {a1 a2 a3 a4 a5 a6 a7 a8 a9 : Addr × Obj} (h : ∀ p ∈ R, p ∈ R9) : ∀ p ∈ a1 :: a2 :: a3 :: a4 :: a5 :: a6 :: a7 :: a8 :: a9 :: R, p ∈ a1 :: a2 :: a3 :: a4 :: a5 :: a6 :: a7 :: a8 :: a9 :: R9 := fun p hp => (List.mem_append.mp (show p ∈ [a1, a2, a3, a4, a5, a6, a7, a8, a9] ++ R from hp)).elim (fun q => (List.mem_append.mpr (.inl q) : p ∈ [a1, a2, a3, a4, a5, a6, a7, a8, a9] ++ R9)) fun q => mem9 (h p q)
theorem succ_at {prog : Program} {w : World} {A : Around} {s : Shared} {h₀ : Heap} {L : Addr} {m : Str → Option Value} {env : Env} {elt : PySem.Expr} {x : Str} {scope : Scope} {cl : List (Str × Addr)} {S : List (Addr × Obj) → Prop} {P : Nat → Value → Prop} {Fin : List Value → List (Addr × Obj) → Prop} {k i : Nat} {ys : List Value} {news : List (Addr × Obj)} {val : Value} (hv : ∀ v, P i v → val = v)
    (h : ∀ I oI C oC D m₂ h tk (E' : Value → Shared → Prop), LCg.NsObj oC m₂ → m₂ x = some val → Fr h₀ L h m → News h₀ L h ((I, oI) :: (C, oC) :: (D, LCg.lst ys) :: news) → LCg.Off3 I C D news → ((@Ne Nat I C) ∧ (@Ne Nat I D) ∧ (@Ne Nat C D)) →
      wpAny (model prog w) A (eval elt (compEnvC scope cl C env)) (LCg.CompEnd h₀ L m { s with heap := h, toks := tk } I oI C oC D (LCg.lst ys) S (fun y news' => LCg.CompRest prog w A h₀ L m env elt x scope cl s S P Fin k (i + 1) (ys ++ [y]) news')) E' { s with heap := h, toks := tk }) :
    LCg.CompRest prog w A h₀ L m env elt x scope cl s S P Fin (k + 1) i ys news := LCg.CompRest.succ fun v I oI C oC D m₂ h9 tk E' hp hC hx F N off ne => h I oI C oC D m₂ h9 tk E' hC (by rw [hv v hp]; exact hx) F N off ne
theorem dat_list {v : Value} {ds : List Dat} (h : DatIn T v (.list ds)) : ∃ a vs n, v = .ref a ∧ (a, W.listOf vs.toArray n) ∈ T ∧ DatAll T vs ds := by
  cases h with
  | list hm hd => exact ⟨_, _, _, rfl, hm, hd⟩
noncomputable def flyL (fly : List (Int × Array UInt8)) (ack : List (Int × Int)) : List (Int × Int) := fly.foldl (fun a p => addL a p.1 (p.1 + (p.2.size : Int))) ack
noncomputable def dueL (due : List (Int × Int)) (some : List (Int × Int)) : List (Int × Int) := due.foldl (fun a q => addL a q.1 q.2) some
noncomputable def hadL (st : EndSt) : List (Int × Int) := addL (coveredL st.ps) 0 st.told
structure StandsOk (lim1 lim2 : Int) (data : Array UInt8) (due ack : List (Int × Int)) (fly : List (Int × Array UInt8)) (st1 st2 : EndSt) : Prop where
  hdata : data.size ≤ 1000
  hal : ack.length ≤ 1000
  hflz : ∀ q ∈ fly, q.2.size ≤ 1000
  hfl : ∀ i, (flyL (fly.take i) ack).length ≤ 1000
  hdl : ∀ i, (dueL (due.take i) (flyL fly ack)).length ≤ 1000
  hcut : ∀ q ∈ due, q.1 < q.2 ∧ cutL ack q.1 q.2 = ack
  hsome : dueL due (flyL fly ack) = [(0, (data.size : Int))]
  hpos : 0 < data.size
  htd1 : st1.td = KBy.picked data none (some st1.told)
  htdz1 : st1.td.size ≤ 1000
  htz1 : (st1.td.size : Int) = st1.told
  hbd1 : ∀ q ∈ coveredL st1.ps, q.2 ≤ st1.told + lim1
  htd2 : st2.td = KBy.picked data none (some st2.told)
  htdz2 : st2.td.size ≤ 1000
  htz2 : (st2.td.size : Int) = st2.told
  hbd2 : ∀ q ∈ coveredL st2.ps, q.2 ≤ st2.told + lim2
  hle : st1.told ≤ st2.told
  hwA : ∀ i, (withoutL ack ((hadL st1).take i)).length ≤ 1000
  hpA : ∀ q ∈ hadL st1, q.1 < q.2
  hwA0 : withoutL ack (hadL st1) = []
  hwB : ∀ i, (withoutL (hadL st1) ((hadL st2).take i)).length ≤ 1000
  hpB : ∀ q ∈ hadL st2, q.1 < q.2
  hwB0 : withoutL (hadL st1) (hadL st2) = []
  hps1 : st1.ps.length ≤ 1000
  hsz1 : ∀ q ∈ st1.ps, q.2.size ≤ 1000
  hps2 : st2.ps.length ≤ 1000
  hsz2 : ∀ q ∈ st2.ps, q.2.size ≤ 1000
end
end Mine

namespace Mine
section
variable {w : World} {p : Program} {loose : List Str} {mean : ExcName → Option Value} {mg mb : Str → Option Value} {dp un : Nat} {gd : Option (List Code)} {cn : Str} {cs : Scope} {a : Addr} {ccd : Value} {cl : List (Str × Addr)} {outer : List Env} {A₀ : Around} {base h₀ : Heap} {L : Addr} {m : Str → Option Value} {R T : List (Addr × Obj)} {s : Shared} {v : Value} {Q E : Value → Shared → Prop}
theorem sub_had {tl Z : List (Addr × Obj)} {a b c I C D w c2 c1 : Addr × Obj} : ∀ p ∈ I :: C :: D :: (w :: c2 :: c1 :: (tl ++ Z)), p ∈ tl ++ (a :: b :: c :: I :: C :: D :: w :: c2 :: c1 :: Z) := sub_bl [tl, [a, b, c], [I, C, D], [w, c2, c1], Z] [2, 3, 0, 4]
theorem memZ {Z : List (Addr × Obj)} {a1 a2 a3 a4 a5 a6 a7 a8 a9 p : Addr × Obj} (h : p ∈ Z) : p ∈ a1 :: a2 :: a3 :: a4 :: a5 :: a6 :: a7 :: a8 :: a9 :: Z := mem9 h
theorem sub_keepz {tl R : List (Addr × Obj)} {a0 b1 b2 b3 a1 a2 a3 a4 a5 a6 a7 a8 a9 : Addr × Obj} : ∀ p ∈ a0 :: a1 :: a2 :: a3 :: a4 :: a5 :: a6 :: a7 :: a8 :: a9 :: R, p ∈ a0 :: b1 :: b2 :: b3 :: a1 :: a2 :: a3 :: a4 :: a5 :: a6 :: a7 :: a8 :: a9 :: (tl ++ R) := sub_bl [[a0], [b1, b2, b3], [a1, a2, a3, a4, a5, a6, a7, a8, a9], tl, R] [0, 2, 4]
theorem grow3 {tl Z : List (Addr × Obj)} {w c2 c1 : Addr × Obj} : ∀ p ∈ w :: c2 :: c1 :: (tl ++ Z), p ∈ tl ∨ p ∈ w :: c2 :: c1 :: Z := fun p hp => List.mem_append.mp (sub_bl [tl, [w, c2, c1], Z] [1, 0, 2] p hp)
end
namespace law_stands_c_k
noncomputable def St (w : World) (p : Program) (loose : List Str) (mean : ExcName → Option Value) (mg : Str → Option Value) (mb : Str → Option Value) (dp : Nat) (un : Nat) (gd : Option (List Code)) (cn : Str) (cs : Scope) (a : Addr) (ccd : Value) (cl : List (Str × Addr)) (outer : List Env) (A₀ : Around) (base : Heap) (h₀ : Heap) (L : Addr) (m : Str → Option Value) (T : List (Addr × Obj)) (s : Shared) (Q : Value → Shared → Prop) (E : Value → Shared → Prop) (Z : List (Addr × Obj)) (wD : Addr) (x : Addr) (dx : Addr) (e1 : Addr) (x1 : Addr) (d1 : Addr) (e2 : Addr) (x2 : Addr) (d2 : Addr) (le : Addr) (lb : Addr) (oW : Obj) (o1 : Obj) (o2 : Obj) (t1 : Tok) (t2 : Tok) (t3 : Tok) (tdd : Tok) (t11 : Tok) (t12 : Tok) (t13 : Tok) (tl1 : Tok) (tt1 : Tok) (t21 : Tok) (t22 : Tok) (t23 : Tok) (tlx2 : Tok) (tt2 : Tok) (tq1 : Tok) (tq2 : Tok) (tp : Tok) (tb1 : Tok) (tb2 : Tok) (data : Array UInt8) (vack : Value) (vel : Value) (vw1 : Value) (vw2 : Value) (due : List (Int × Int)) (ack : List (Int × Int)) (fly : List (Int × Array UInt8)) (st1 : EndSt) (st2 : EndSt) (vdue : Value) (vfl : Value) (vak : Value) (lim1 : Int) (lim2 : Int) (n9 : Nat) (n8 : Nat) : Prop := ∀ (B : Below A₀ base outer h₀) (F : Fr h₀ L s.heap m) (X : (hd.heap_1 w.params).In h₀) (N : News h₀ L s.heap Z) (zw : (wD, oW) ∈ Z) (zx : (x, instObj 180 dx) ∈ Z) (zd : (dx, outD w t1 t2 t3 (.bytes data tdd) vdue vack) ∈ Z) (ze1 : (e1, o1) ∈ Z) (zx1 : (x1, instObj 124 d1) ∈ Z) (zd1 : (d1, inD w t11 t12 t13 (.int lim1 tl1) (.int st1.told tt1) vw1) ∈ Z) (ze2 : (e2, o2) ∈ Z) (zx2 : (x2, instObj 124 d2) ∈ Z) (zd2 : (d2, inD w t21 t22 t23 (.int lim2 tlx2) (.int st2.told tt2) vw2) ∈ Z) (Tp : Top p loose mean mg mb h₀) (hk : cs.kind = .function) (XB : (hd.heap_1 w.params).In base) (TB : Top p loose mean mg mb base) (D : KtsDicts (outer.filterMap (·.frame)) h₀) (hW : oW.IsDictOf (PySem.strKind P0 w) [(Str.ofString "out", Value.ref x), (Str.ofString "put", Value.bytes data tp), (Str.ofString "flying", vfl), (Str.ofString "elder", vel), (Str.ofString "acked", vak), (Str.ofString "bounds", Value.ref lb), (Str.ofString "ends", Value.ref le)]) (hE1 : o1.IsDictOf (PySem.strKind P0 w) [(Str.ofString "in", Value.ref x1), (Str.ofString "told", Value.bytes st1.td tq1)]) (hE2 : o2.IsDictOf (PySem.strKind P0 w) [(Str.ofString "in", Value.ref x2), (Str.ofString "told", Value.bytes st2.td tq2)]) (hle : (le, W.listOf [Value.ref e1, Value.ref e2].toArray n9) ∈ T) (hlb : (lb, W.listOf [Value.int lim1 tb1, Value.int lim2 tb2].toArray n8) ∈ T) (hvd : DatIn T vdue (spD due)) (hvk : DatIn T vak (spD ack)) (hvf : DatIn T vfl (pcsD fly)) (hw1 : DatIn T vw1 (pcsD st1.ps)) (hw2 : DatIn T vw2 (pcsD st2.ps)) (ok : StandsOk lim1 lim2 data due ack fly st1 st2) (hTR : ∀ p ∈ T, p ∈ Z) (hdp : dp + 9 < recursionLimit) (hun : un + 900 < cLine) (ret : ∀ h' tk', Fr h₀ L h' m → News h₀ L h' Z → Q (.bool true) { s with heap := h', toks := tk' }),
  wpAny (model P0 w) (ktrTop dp un gd cn cs L a ccd cl outer) (call (.ref 215) [.ref wD]) Q E s
noncomputable def S (c : CxF × ((((List (Addr × Obj)) × (EndSt)) × (EndSt)))) : Prop := ∀ (vdue : Value) (vfl : Value) (vak : Value) (lim1 : Int) (lim2 : Int) (n9 : Nat) (n8 : Nat), St (cx_w (c.1).1) (cx_p (c.1).1) (cx_loose (c.1).1) (cx_mean (c.1).1) (cx_mg (c.1).1) (cx_mb (c.1).1) (cx_dp (c.1).1) (cx_un (c.1).1) (cx_gd (c.1).1) (cx_cn (c.1).1) (cx_cs (c.1).1) (cx_a (c.1).1) (cx_ccd (c.1).1) (cx_cl (c.1).1) (cx_outer (c.1).1) (cx_A₀ (c.1).1) (cx_base (c.1).1) (cx_h₀ (c.1).1) (cx_L (c.1).1) (cx_m (c.1).1) (cx_T (c.1).1) (cx_s (c.1).1) (cx_Q (c.1).1) (cx_E (c.1).1) (c.2.1.1) (cx_adr c.1 0) (cx_adr c.1 1) (cx_adr c.1 2) (cx_adr c.1 3) (cx_adr c.1 4) (cx_adr c.1 5) (cx_adr c.1 6) (cx_adr c.1 7) (cx_adr c.1 8) (cx_adr c.1 9) (cx_adr c.1 10) (cx_obj c.1 0) (cx_obj c.1 1) (cx_obj c.1 2) (cx_tok c.1 0) (cx_tok c.1 1) (cx_tok c.1 2) (cx_tok c.1 3) (cx_tok c.1 4) (cx_tok c.1 5) (cx_tok c.1 6) (cx_tok c.1 7) (cx_tok c.1 8) (cx_tok c.1 9) (cx_tok c.1 10) (cx_tok c.1 11) (cx_tok c.1 12) (cx_tok c.1 13) (cx_tok c.1 14) (cx_tok c.1 15) (cx_tok c.1 16) (cx_tok c.1 17) (cx_tok c.1 18) (cx_byt c.1 0) (cx_val c.1 0) (cx_val c.1 1) (cx_val c.1 2) (cx_val c.1 3) (cx_sps c.1 0) (cx_sps c.1 1) (cx_pcs c.1 0) (c.2.1.2) (c.2.2) vdue vfl vak lim1 lim2 n9 n8
noncomputable def kx9 : CxF × ((((List (Addr × Obj)) × (EndSt)) × (EndSt))) := @Classical.epsilon (CxF × ((((List (Addr × Obj)) × (EndSt)) × (EndSt)))) (ne_cxf.elim fun b => ⟨(b, ((default, ⟨0, #[], []⟩), ⟨0, #[], []⟩))⟩) fun c => ¬ S c
set_option maxRecDepth 100000 in
set_option maxHeartbeats 8000000 in
theorem walk : S kx9 := by
  show ∀ (vdue : Value) (vfl : Value) (vak : Value) (lim1 : Int) (lim2 : Int) (n9 : Nat) (n8 : Nat), St (cx_w (kx9.1).1) (cx_p (kx9.1).1) (cx_loose (kx9.1).1) (cx_mean (kx9.1).1) (cx_mg (kx9.1).1) (cx_mb (kx9.1).1) (cx_dp (kx9.1).1) (cx_un (kx9.1).1) (cx_gd (kx9.1).1) (cx_cn (kx9.1).1) (cx_cs (kx9.1).1) (cx_a (kx9.1).1) (cx_ccd (kx9.1).1) (cx_cl (kx9.1).1) (cx_outer (kx9.1).1) (cx_A₀ (kx9.1).1) (cx_base (kx9.1).1) (cx_h₀ (kx9.1).1) (cx_L (kx9.1).1) (cx_m (kx9.1).1) (cx_T (kx9.1).1) (cx_s (kx9.1).1) (cx_Q (kx9.1).1) (cx_E (kx9.1).1) (kx9.2.1.1) (cx_adr kx9.1 0) (cx_adr kx9.1 1) (cx_adr kx9.1 2) (cx_adr kx9.1 3) (cx_adr kx9.1 4) (cx_adr kx9.1 5) (cx_adr kx9.1 6) (cx_adr kx9.1 7) (cx_adr kx9.1 8) (cx_adr kx9.1 9) (cx_adr kx9.1 10) (cx_obj kx9.1 0) (cx_obj kx9.1 1) (cx_obj kx9.1 2) (cx_tok kx9.1 0) (cx_tok kx9.1 1) (cx_tok kx9.1 2) (cx_tok kx9.1 3) (cx_tok kx9.1 4) (cx_tok kx9.1 5) (cx_tok kx9.1 6) (cx_tok kx9.1 7) (cx_tok kx9.1 8) (cx_tok kx9.1 9) (cx_tok kx9.1 10) (cx_tok kx9.1 11) (cx_tok kx9.1 12) (cx_tok kx9.1 13) (cx_tok kx9.1 14) (cx_tok kx9.1 15) (cx_tok kx9.1 16) (cx_tok kx9.1 17) (cx_tok kx9.1 18) (cx_byt kx9.1 0) (cx_val kx9.1 0) (cx_val kx9.1 1) (cx_val kx9.1 2) (cx_val kx9.1 3) (cx_sps kx9.1 0) (cx_sps kx9.1 1) (cx_pcs kx9.1 0) (kx9.2.1.2) (kx9.2.2) vdue vfl vak lim1 lim2 n9 n8
  generalize (cx_w (kx9.1).1) = w, (cx_p (kx9.1).1) = p, (cx_loose (kx9.1).1) = loose, (cx_mean (kx9.1).1) = mean, (cx_mg (kx9.1).1) = mg, (cx_mb (kx9.1).1) = mb, (cx_dp (kx9.1).1) = dp, (cx_un (kx9.1).1) = un, (cx_gd (kx9.1).1) = gd, (cx_cn (kx9.1).1) = cn, (cx_cs (kx9.1).1) = cs, (cx_a (kx9.1).1) = a, (cx_ccd (kx9.1).1) = ccd, (cx_cl (kx9.1).1) = cl, (cx_outer (kx9.1).1) = outer, (cx_A₀ (kx9.1).1) = A₀, (cx_base (kx9.1).1) = base, (cx_h₀ (kx9.1).1) = h₀, (cx_L (kx9.1).1) = L, (cx_m (kx9.1).1) = m, (cx_T (kx9.1).1) = T, (cx_s (kx9.1).1) = s, (cx_Q (kx9.1).1) = Q, (cx_E (kx9.1).1) = E, (kx9.2.1.1) = Z, (cx_adr kx9.1 0) = wD, (cx_adr kx9.1 1) = x, (cx_adr kx9.1 2) = dx, (cx_adr kx9.1 3) = e1, (cx_adr kx9.1 4) = x1, (cx_adr kx9.1 5) = d1, (cx_adr kx9.1 6) = e2, (cx_adr kx9.1 7) = x2, (cx_adr kx9.1 8) = d2, (cx_adr kx9.1 9) = le, (cx_adr kx9.1 10) = lb, (cx_obj kx9.1 0) = oW, (cx_obj kx9.1 1) = o1, (cx_obj kx9.1 2) = o2, (cx_tok kx9.1 0) = t1, (cx_tok kx9.1 1) = t2, (cx_tok kx9.1 2) = t3, (cx_tok kx9.1 3) = tdd, (cx_tok kx9.1 4) = t11, (cx_tok kx9.1 5) = t12, (cx_tok kx9.1 6) = t13, (cx_tok kx9.1 7) = tl1, (cx_tok kx9.1 8) = tt1, (cx_tok kx9.1 9) = t21, (cx_tok kx9.1 10) = t22, (cx_tok kx9.1 11) = t23, (cx_tok kx9.1 12) = tlx2, (cx_tok kx9.1 13) = tt2, (cx_tok kx9.1 14) = tq1, (cx_tok kx9.1 15) = tq2, (cx_tok kx9.1 16) = tp, (cx_tok kx9.1 17) = tb1, (cx_tok kx9.1 18) = tb2, (cx_byt kx9.1 0) = data, (cx_val kx9.1 0) = vack, (cx_val kx9.1 1) = vel, (cx_val kx9.1 2) = vw1, (cx_val kx9.1 3) = vw2, (cx_sps kx9.1 0) = due, (cx_sps kx9.1 1) = ack, (cx_pcs kx9.1 0) = fly, (kx9.2.1.2) = st1, (kx9.2.2) = st2
  intro vdue vfl vak lim1 lim2 n9 n8
  delta St
  intro B F X N zw zx zd ze1 zx1 zd1 ze2 zx2 zd2 Tp hk XB TB D hW hE1 hE2 hle hlb hvd hvk hvf hw1 hw2 ok hTR hdp hun ret
  obtain ⟨ds, dvs, nd, rfl, hdm, hdall⟩ := dat_list hvd
  obtain ⟨aks, avs, na, rfl, ham, hakall⟩ := dat_list hvk
  obtain ⟨fls, fvs, nf, rfl, hflm, hfall⟩ := dat_list hvf
  have hakl : avs.length ≤ 1000 := by rw [hakall.length, List.length_map]; exact ok.hal
  have hmemA := hTR _ ham
  have hmemF := hTR _ hflm
  replace N := news_plus N zw
  refine wpAny_call ?_
  k_dflt (walk_at "mine enterSC")
  rename (∀ p ∈ (wD, oW) :: Z, _) => l1
  obtain ⟨Lq, rfl⟩ := ex_eq l1
  have hC0 : OwnOff Z [Lq + 1, Lq + 1 + 1] := fun p hp c hc => lt_off (l1 p (.tail _ hp)) c hc
  clear l1
  k_steps
  rename Fr _ _ _ _ => F1
  rename News _ _ _ _ => N1
  rename _ ∧ _ => hlt
  have hA0 := apart_lt N1 hlt
  clear hlt
  obtain ⟨fa, rfl, _⟩ := loop_head N1
  refine For_invTF F1 ?_ (by intro _; rfl)
  k_steps
  rename News _ _ _ _ => N3
  replace N3 : News _ _ _ (([] : List (Addr × Obj)) ++ ([(_, _)] ++ _)) := N3
  refine' mut_pairs (T := T) [] (fun q : Int × Array UInt8 => (Dat.int q.1, Dat.bytes q.2)) fly (fun a q => addL a q.1 (q.1 + (q.2.size : Int))) ack
    (fun st TT M m => M = [] ∧ ∃ v', DatIn TT v' (spD st) ∧ ∀ p ∈ [(Str.ofString "some", v'), (Str.ofString "world", Value.ref wD)], m p.1 = some p.2)
    ?r1 ?r2 ?r3 ?r4 ?r5 ?r6 ?r7 F1 N3 ?r8 ?r9 hA0 ?ra ?_ ?_
  case r1 => rfl
  case r2 => rfl
  case r3 => rfl
  case r4 => rfl
  case r5 => exact List.mem_append.mpr (.inr hflm)
  case r6 => exact hfall.mono (sub_up (tl := [_]))
  case r7 => exact fun p hp => .tail _ (.tail _ (.tail _ (hTR p hp)))
  case r8 => rfl
  case r9 => exact fun _ _ _ hb => (nomatch hb)
  case ra => exact ⟨rfl, _, DatIn.list (List.mem_append.mpr (.inl (.head _))) (hakall.mono (sub_up (tl := [_]))), by walk_at "mine fr"⟩
  · intro pre a post v₁ v₂ m₁ tl M s₁ h tk I oI hx D1 D2 hI hM hO hP9 F4 N4
    refine hide fun G9 k9 => ?_
    obtain ⟨eM, v', hv', hps⟩ := hP9
    obtain ⟨td1, ed1⟩ := dat_int D1
    obtain ⟨td2, ed2⟩ := dat_bytes D2
    refine k9 ?_
    clear k9 D1 D2
    subst eM ed1 ed2
    clear F1 N3
    replace F4 := fr_kv hps F4
    rw [List.nil_append] at N4
    have hpre : fly.take pre.length = pre := by rw [hx]; simp
    have hle := ok.hfl pre.length
    rw [hpre] at hle
    have hyz := ok.hflz a (by rw [hx]; simp)
    k_steps
    unfold Held
    k_dflt (refine' add_span_c (T := tl ++ T) ?B ?F ?X N4 ?Tp rfl ?hT hv' hle ?hd ?hu ?_)
    case B => k_asm
    case F => k_asm
    case X => k_asm
    case Tp => k_asm
    case hT => exact fun p hp => .tail _ ((List.mem_append.mp hp).elim (fun q => List.mem_append.mpr (.inl q)) fun q => List.mem_append.mpr (.inr (.tail _ (.tail _ (.tail _ (hTR p q))))))
    case hd => first | exact room2 hdp rfl | exact room3 hdp rfl
    case hu => first | exact room2 hun rfl | exact room3 hun rfl
    intro r tl2 h' tk' kF kN hf hr
    k_steps
    rename Fr _ _ _ _ => F4
    rename News _ _ _ _ => N4
    refine mEnd tl2 [] F4 N4 rfl hf ⟨rfl, r, hr, ?_⟩
    walk_at "mine fr"
  · rintro m₁ tl M h tk ⟨rfl, v', hv', hps⟩ hM hO hlt F3 N4
    replace F3 := fr_kv0 hps F3
    have hC1 := co_app hC0 hlt (.tail _ (.head _)) (.head _)
    clear F1 N3 hM hO hlt hA0
    rw [List.nil_append] at N4
    replace N4 := news_mv (M := [_, _, _]) (R := Z) N4
    simp only [List.cons_append, List.nil_append] at N4
    replace N4 := news_rot3 (news_rot3 N4)
    have hT1 := sub_mv (tl := tl) hTR
    change DatIn (tl ++ T) v' (spD (flyL fly ack)) at hv'
    have hZ1 : ∀ p ∈ Z, p ∈ tl ++ Z := sub_up
    generalize hR1 : tl ++ Z = Z1 at N4 hT1 hZ1 hC1
    replace N4 := news_plus (news_plus N4 (.tail _ (.tail _ (.tail _ (hZ1 _ zd))))) (.tail _ (.tail _ (.tail _ (.tail _ (hZ1 _ zx)))))
    k_steps
    refine For_invTF F3 ?_ (by intro _; rfl)
    k_steps
    replace N4 := news_drop2 N4
    replace N4 : News _ _ _ (([] : List (Addr × Obj)) ++ (([] : List (Addr × Obj)) ++ _)) := N4
    refine' mut_pairs (T := tl ++ T) [] (fun q : Int × Int => (Dat.int q.1, Dat.int q.2)) due (fun a q => addL a q.1 q.2) (flyL fly ack)
      (fun st TT M m => M = [] ∧ ∃ v', DatIn TT v' (spD st) ∧ ∀ p ∈ [(Str.ofString "some", v'), (Str.ofString "world", Value.ref wD)], m p.1 = some p.2)
      ?q1 ?q2 ?q3 ?q4 ?q5 ?q6 ?q7 F3 N4 ?q8 ?q9 Apart.nil ?qa ?_ ?_
    case q1 => rfl
    case q2 => rfl
    case q3 => rfl
    case q4 => rfl
    case q5 => exact List.mem_append.mpr (.inr (List.mem_append.mpr (.inr hdm)))
    case q6 => exact hdall.mono fun p hp => List.mem_append.mpr (.inr (List.mem_append.mpr (.inr hp)))
    case q7 => exact fun p hp => .tail _ (.tail _ (.tail _ (hT1 p hp)))
    case q8 => rfl
    case q9 => exact fun _ _ _ hb => (nomatch hb)
    case qa => exact ⟨rfl, v', hv', by walk_at "mine fr"⟩
    · intro pre a post v₁ v₂ m₁ tl2 M s₁ h tk I oI hx D1 D2 hI hM hO hP9 F4 N5
      refine hide fun G9 k9 => ?_
      obtain ⟨eM, v', hv', hps⟩ := hP9
      obtain ⟨td1, ed1⟩ := dat_int D1
      obtain ⟨td2, ed2⟩ := dat_int D2
      refine k9 ?_
      clear k9 D1 D2
      subst eM ed1 ed2
      clear F3 N4
      replace F4 := fr_kv hps F4
      rw [List.nil_append] at N5
      have hpre : due.take pre.length = pre := by rw [hx]; simp
      have hle := ok.hdl pre.length
      rw [hpre] at hle
      have hlc := ok.hcut a (by rw [hx]; simp)
      have hlt9 := hlc.1
      have hcut9 := hlc.2
      clear hlc
      replace N5 := news_up N5
      obtain ⟨Y, hY, N5⟩ := hide2 N5
      have hT2 : ∀ p ∈ tl2 ++ (tl ++ T), p ∈ Y := fun p hp => by rw [hY]; exact (List.mem_append.mp hp).elim (fun q => List.mem_append.mpr (.inl q)) fun q => List.mem_append.mpr (.inr (.tail _ (.tail _ (hT1 p q))))
      have hT3 : ∀ p ∈ T, p ∈ Y := fun p hp => hT2 p (List.mem_append.mpr (.inr (List.mem_append.mpr (.inr hp))))
      k_steps
      unfold Held
      k_dflt (refine' cut_span_c (T := T) ?B ?F ?X N5 ?Tp rfl ?hT hvk ok.hal hlt9 ?hd ?hu ?_)
      case B => k_asm
      case F => k_asm
      case X => k_asm
      case Tp => k_asm
      case hT => exact fun p hp => .tail _ (.tail _ (hT3 p hp))
      case hd => first | exact room2 hdp rfl | exact room3 hdp rfl
      case hu => first | exact room2 hun rfl | exact room3 hun rfl
      intro r tl3 h3 tk3 F5 N6 hf3 hr
      rw [hcut9] at hr
      refine el_listk hr ?_
      clear hr
      intro ra hr
      replace N6 := news_mv (M := [_, _]) (R := Y) N6
      simp only [List.cons_append, List.nil_append] at N6
      have hT5 : ∀ p ∈ tl3 ++ T, p ∈ tl3 ++ Y := sub_mv hT3
      have hT6 : ∀ p ∈ T, p ∈ tl3 ++ Y := fun p hp => List.mem_append.mpr (.inr (hT3 p hp))
      have hT7 : ∀ p ∈ tl2 ++ (tl ++ T), p ∈ tl3 ++ Y := fun p hp => List.mem_append.mpr (.inr (hT2 p hp))
      generalize hY2 : tl3 ++ Y = Y2 at N6 hT5 hT6 hT7
      k_steps
      unfold Held
      refine ne_spans_no N6 hr hvk (fun p hp => .tail _ (.tail _ (hT5 p hp))) (fun p hp => .tail _ (.tail _ (hT6 p hp))) ?_ ?_
      · first | exact room2 hun rfl | exact room3 hun rfl
      k_steps
      unfold Held
      k_dflt (refine' add_span_c (T := tl2 ++ (tl ++ T)) ?B9 ?F9 ?X9 N6 ?Tp9 rfl ?hT9 hv' hle ?hd9 ?hu9 ?_)
      case B9 => k_asm
      case F9 => k_asm
      case X9 => k_asm
      case Tp9 => k_asm
      case hT9 => exact fun p hp => .tail _ (.tail _ (hT7 p hp))
      case hd9 => first | exact room2 hdp rfl | exact room3 hdp rfl
      case hu9 => first | exact room2 hun rfl | exact room3 hun rfl
      intro r tl4 h4 tk4 F6 N7 hf4 hr4
      k_steps
      rename Fr _ _ _ _ => F7
      rename News _ _ _ _ => N7
      subst hY2 hY
      refine mEnd (tl4 ++ tl3) [] F7 (fun p hp => N7 p (sub_e1 p hp)) rfl (apart_e1 hf3 hf4) ⟨rfl, r, hr4.mono sub_e2, ?_⟩
      walk_at "mine fr"
    · rintro m₁ tl2 M h tk ⟨rfl, v', hv', hps⟩ hM hO hlt F5 N5
      replace F5 := fr_kv0 hps F5
      have hC2 := co_app hC1 hlt (.tail _ (.tail _ (.head _))) (.tail _ (.head _))
      clear F3 N4 hM hO hlt
      rw [List.nil_append] at N5
      replace N5 := news_mv (M := [_, _, _]) (R := Z1) N5
      simp only [List.cons_append, List.nil_append] at N5
      change DatIn (tl2 ++ (tl ++ T)) v' (spD (dueL due (flyL fly ack))) at hv'
      have hT2 : ∀ p ∈ tl2 ++ (tl ++ T), p ∈ tl2 ++ Z1 := sub_mv hT1
      rw [ok.hsome] at hv'
      revert F5
      refine el_listk hv' ?_
      clear hv'
      intro sa hv' F5
      have hZ2 : ∀ p ∈ Z, p ∈ tl2 ++ Z1 := fun p hp => List.mem_append.mpr (.inr (hZ1 p hp))
      have hT3 : ∀ p ∈ T, p ∈ tl2 ++ Z1 := fun p hp => hZ2 p (hTR p hp)
      generalize hR5 : tl2 ++ Z1 = Z2 at N5 hT2 hT3 hC2 hZ2
      have hdz := ok.hdata
      have hpos := ok.hpos
      k_steps
      rotate_left
      · rename (_ != _) = false => hq
        exact absurd hq (ne_empty hpos)
      rename News _ _ _ _ => N6
      unfold Held
      refine' ne_spans_no N6 hv' (one_span (R := [])) ?hT0 ?hT0' ?hu0 ?_
      case hT0 => exact fun p hp => .tail _ (.tail _ (.tail _ (.tail _ (.tail _ (hT2 p hp)))))
      case hT0' => walk_at "mine sub"
      case hu0 => first | exact room2 hun rfl | exact room3 hun rfl
      replace N6 := news_drop2 N6
      clear hv' hT2 hC1 hT1 hZ1 hR1
      k_steps
      unfold Held
      k_dflt (refine LCg.Assign_ListComp_U (F₀ := by k_asm) (by rfl) (by with_unfolding_all rfl) (by with_unfolding_all rfl) (by decide) (by rfl) (by decide) (by rfl) (by rfl) (by rfl) ?_)
      k_steps
      rename Fr _ _ _ _ => F7
      rename News _ _ _ _ => N7
      refine LCg.CompSrc.ledger (its := [Value.ref e1, Value.ref e2].toArray) (k := n9) rfl F7 N7 ?hm1 ?hz1 ?zf9
      case' zf9 => intro g
      case hm1 => exact .tail _ (.tail _ (.tail _ (hT3 _ hle)))
      case hz1 => size_fits
      clear F7 N7
      refine succ_at (val := Value.ref e1) (fun v hv => Option.some.inj hv) ?zf10
      case' zf10 => intro I oI C oC D9 m₂ h9 tk9 E' hC hx F8 N8 off ne
      k_steps
      rename News _ _ _ _ => N8
      replace N8 := news_plus (news_plus (news_plus N8 (mem6 (hZ2 _ zd1))) (.tail _ (mem6 (hZ2 _ zx1)))) (.tail _ (.tail _ (mem6 (hZ2 _ ze1))))
      unfold Held
      k_dflt (refine' law_had_c (T := T) (ps := st1.ps) ?B1 ?F1 ?X1 N8 ?Tp1 rfl hE1 ?hT1 hw1 ok.hps1 ok.hsz1 ?hd1 ?hu1 ?_)
      case B1 => k_asm
      case F1 => k_asm
      case X1 => k_asm
      case Tp1 => k_asm
      case hT1 => exact fun p hp => mem6 (hT3 p hp)
      case hd1 => first | exact room2 hdp rfl | exact room3 hdp rfl
      case hu1 => first | exact room2 hun rfl | exact room3 hun rfl
      intro r1 tlA h10 tk10 F9 N9 hA9 hr1
      k_steps
      refine LCg.CompEnd.intro F9 N9 _ sub_had ?off1 ?S1 ?rest1
      case off1 => exact off3_grow off grow3 fun p hp => ⟨Ne.symm (hA9 _ (.tail _ (.tail _ (.tail _ (.head _)))) p hp), Ne.symm (hA9 _ (.tail _ (.tail _ (.tail _ (.tail _ (.head _))))) p hp), Ne.symm (hA9 _ (.tail _ (.tail _ (.tail _ (.tail _ (.tail _ (.head _)))))) p hp)⟩
      case S1 => exact .inr ⟨_, .tail _ (.tail _ (.tail _ (List.mem_append.mpr (.inr (hT3 _ hle))))), rfl, _, rfl⟩
      clear F8 N8 F9 N9
      have hZ3 : ∀ p ∈ Z, p ∈ tlA ++ Z2 := fun p hp => List.mem_append.mpr (.inr (hZ2 p hp))
      have hTA : ∀ p ∈ tlA ++ T, p ∈ tlA ++ Z2 := sub_mv hT3
      have hC3 := co_app hC2 hA9 (mem8 (.head _)) (.tail _ (.tail _ (.tail _ (.tail _ (.tail _ (.tail _ (.tail _ (.head _))))))))
      generalize hR6 : tlA ++ Z2 = Z3 at hTA hC3 hZ3
      refine succ_at (val := Value.ref e2) (fun v hv => Option.some.inj hv) ?zf11
      case' zf11 => intro I2 oI2 C2 oC2 D2 m3 h11 tk11 E2 hC2 hx2 F8 N8 off2 ne2
      k_steps
      rename News _ _ _ _ => N8
      replace N8 := news_plus (news_plus (news_plus N8 (mem6 (hZ3 _ zd2))) (.tail _ (mem6 (hZ3 _ zx2)))) (.tail _ (.tail _ (mem6 (hZ3 _ ze2))))
      unfold Held
      k_dflt (refine' law_had_c (T := T) (ps := st2.ps) ?B2 ?F2 ?X2 N8 ?Tp2 rfl hE2 ?hT2 hw2 ok.hps2 ok.hsz2 ?hd2 ?hu2 ?_)
      case B2 => k_asm
      case F2 => k_asm
      case X2 => k_asm
      case Tp2 => k_asm
      case hT2 => exact fun p hp => mem6 (hZ3 p (hTR p hp))
      case hd2 => first | exact room2 hdp rfl | exact room3 hdp rfl
      case hu2 => first | exact room2 hun rfl | exact room3 hun rfl
      intro r2 tlB h12 tk12 F9 N9 hA10 hr2
      k_steps
      refine LCg.CompEnd.intro F9 N9 _ sub_had ?off2 ?S2 ?rest2
      case off2 => exact off3_grow off2 grow3 fun p hp => ⟨Ne.symm (hA10 _ (.tail _ (.tail _ (.tail _ (.head _)))) p hp), Ne.symm (hA10 _ (.tail _ (.tail _ (.tail _ (.tail _ (.head _))))) p hp), Ne.symm (hA10 _ (.tail _ (.tail _ (.tail _ (.tail _ (.tail _ (.head _)))))) p hp)⟩
      case S2 => exact .inr ⟨_, .tail _ (.tail _ (.tail _ (List.mem_append.mpr (.inr (hZ3 _ (hTR _ hle)))))), rfl, _, rfl⟩
      have hC4 := co_app hC3 hA10 (mem8 (.head _)) (.tail _ (.tail _ (.tail _ (.tail _ (.tail _ (.tail _ (.tail _ (.head _))))))))
      clear F8 N8 F9 N9 hA9 hA10 off off2 ne ne2
      refine LCg.CompRest.zero ?zf12
      case' zf12 => intro Dh h13 tk13 F10 N10 off3
      replace hr1 := hr1.mono (sub_up (tl := tlB))
      replace hr2 := hr2.mono (sub_in (tl := tlA))
      change DatIn _ r1 (spD (hadL st1)) at hr1
      change DatIn _ r2 (spD (hadL st2)) at hr2
      have hT7 : ∀ p ∈ tlB ++ (tlA ++ T), p ∈ tlB ++ Z3 := sub_mv hTA
      generalize hT8 : tlB ++ (tlA ++ T) = T8 at hr1 hr2 hT7
      have hTT8 : ∀ p ∈ T, p ∈ T8 := fun p hp => by rw [← hT8]; exact List.mem_append.mpr (.inr (List.mem_append.mpr (.inr hp)))
      have hDc : ∀ c ∈ [Lq + 1, Lq + 1 + 1], @Ne Nat Dh c := co_one off3 (.tail _ (.tail _ (.head _))) (.tail _ (.head _))
      have hZ4 : ∀ p ∈ Z, p ∈ tlB ++ Z3 := fun p hp => List.mem_append.mpr (.inr (hZ3 p hp))
      generalize hR7 : tlB ++ Z3 = Z4 at N10 hT7 hC4 hZ4
      clear off3 hTA hZ3 hZ2 hT3 hC2 hC3
      try (rename InElt _ _ => kE; clear kE)
      try (rename InElt _ _ => kE; clear kE)
      revert N10
      refine el_listk hr1 ?_
      clear hr1
      intro a1 hr1
      refine el_listk hr2 ?_
      clear hr2
      intro a2 hr2 N10
      try dsimp only [List.nil_append, List.cons_append] at N10
      replace hvk := hvk.mono hTT8
      walk_at "mine steps"
      rename News _ _ _ _ => N11
      unfold Held
      k_dflt (refine' without_spans_c (T := T8) ?Ba ?Fa ?Xa N11 ?Tpa rfl ?hTa hvk hr1 ok.hwA ok.hpA ?hda ?hua ?_)
      case Ba => k_asm
      case Fa => k_asm
      case Xa => k_asm
      case Tpa => k_asm
      case hTa => exact fun p hp => .tail _ (.tail _ (.tail _ (.tail _ (hT7 p hp))))
      case hda => first | exact room2 hdp rfl | exact room3 hdp rfl
      case hua => first | exact room2 hun rfl | exact room3 hun rfl
      intro r3 tlC h14 tk14 F11 N12 hA11 hr3
      rw [ok.hwA0] at hr3
      have hC5 := co_app hC4 hA11 (.tail _ (.tail _ (.tail _ (.head _)))) (.tail _ (.tail _ (.head _)))
      clear hA11
      clear N11
      replace N12 := news_mv (M := [_, _, _, _]) (R := Z4) N12
      simp only [List.cons_append, List.nil_append] at N12
      have hTC : ∀ p ∈ tlC ++ T8, p ∈ tlC ++ Z4 := sub_mv hT7
      have hT10 : ∀ p ∈ T8, p ∈ tlC ++ Z4 := fun p hp => List.mem_append.mpr (.inr (hT7 p hp))
      refine el_listk hr3 ?_
      clear hr3
      intro a3 hr3
      have hZ5 : ∀ p ∈ Z, p ∈ tlC ++ Z4 := fun p hp => List.mem_append.mpr (.inr (hZ4 p hp))
      generalize hR8 : tlC ++ Z4 = Z5 at N12 hTC hT10 hC5 hZ5
      clear hC4 hT7 hZ4
      k_steps
      rename News _ _ _ _ => N13
      unfold Held
      refine' ne_spans_no N13 hr3 nil_span ?hTaa ?hTba ?hu2a ?_
      case hTaa => exact fun p hp => .tail _ (.tail _ (.tail _ (.tail _ (.tail _ (hTC p hp)))))
      case hTba => walk_at "mine sub"
      case hu2a => first | exact room2 hun rfl | exact room3 hun rfl
      clear hr3 hR8 hTC
      replace N13 := news_drop1 N13
      walk_at "mine steps"
      rename News _ _ _ _ => N11
      unfold Held
      k_dflt (refine' without_spans_c (T := T8) ?Bb ?Fb ?Xb N11 ?Tpb rfl ?hTb hr1 hr2 ok.hwB ok.hpB ?hdb ?hub ?_)
      case Bb => k_asm
      case Fb => k_asm
      case Xb => k_asm
      case Tpb => k_asm
      case hTb => exact fun p hp => .tail _ (.tail _ (.tail _ (.tail _ (hT10 p hp))))
      case hdb => first | exact room2 hdp rfl | exact room3 hdp rfl
      case hub => first | exact room2 hun rfl | exact room3 hun rfl
      intro r3 tlC h14 tk14 F11 N12 hA11 hr3
      rw [ok.hwB0] at hr3
      have hC6 := co_app hC5 hA11 (.tail _ (.tail _ (.tail _ (.head _)))) (.tail _ (.tail _ (.head _)))
      clear hA11
      clear N11
      replace N12 := news_mv (M := [_, _, _, _]) (R := Z5) N12
      simp only [List.cons_append, List.nil_append] at N12
      have hTC : ∀ p ∈ tlC ++ T8, p ∈ tlC ++ Z5 := sub_mv hT10
      refine el_listk hr3 ?_
      clear hr3
      intro a3 hr3
      have hZ6 : ∀ p ∈ Z, p ∈ tlC ++ Z5 := fun p hp => List.mem_append.mpr (.inr (hZ5 p hp))
      generalize hR8 : tlC ++ Z5 = Z6 at N12 hTC hC6 hZ6
      clear hC5 hT10 hZ5
      k_steps
      rename News _ _ _ _ => N13
      unfold Held
      refine' ne_spans_no N13 hr3 nil_span ?hTab ?hTbb ?hu2b ?_
      case hTab => exact fun p hp => .tail _ (.tail _ (.tail _ (.tail _ (.tail _ (hTC p hp)))))
      case hTbb => walk_at "mine sub"
      case hu2b => first | exact room2 hun rfl | exact room3 hun rfl
      clear hr3 hR8 hTC hr1 hr2
      replace N13 := news_drop1 N13
      k_steps
      rename Fr _ _ _ _ => F12
      (with_unfolding_all refine' For_turns F12 ?_; k_whole)
      k_steps
      rename Fr _ _ _ _ => F12
      rename News _ _ _ _ => N14
      replace N14 := news_cells N14
      have hK0 : ∀ c ∈ [Lq + 1, Lq + 1 + 1], OwnOff ((Dh, LCg.lst [Value.ref a1, Value.ref a2]) :: (wD, oW) :: Z6) [c] := fun c hc =>
        ownoff_cons (one_c (hDc c hc)) (ownoff_cons (one_c (hC0 _ zw c hc)) fun p hp q hq => hC6 p hp q (by rw [List.mem_singleton.mp hq]; exact hc))
      have hK1 := hK0 _ (.head _)
      have hK2 := hK0 _ (.tail _ (.head _))
      have hcc : @Ne Nat (Lq + 1 + 1) (Lq + 1) := Nat.ne_of_gt (Nat.lt_succ_self _)
      clear hK0
      with_unfolding_all refine ktu_zip (lo1 := W.listOf [Value.ref e1, Value.ref e2].toArray n9) (lo2 := W.listOf [Value.int lim1 tb1, Value.int lim2 tb2].toArray n8) (xs := [Value.ref e1, Value.ref e2]) (ys := [Value.int lim1 tb1, Value.int lim2 tb2]) (by rfl) F12 N14 (.tail _ (.tail _ (.tail _ (.tail _ (hZ6 _ (hTR _ hle)))))) (by rfl) (by rfl) (.tail _ (.tail _ (.tail _ (.tail _ (hZ6 _ (hTR _ hlb)))))) (by rfl) (by rfl) fun I9 l9 => ?_
      have lI := l9 _ (.head _)
      refine hide fun G9 k9 => ?_
      obtain ⟨i0, i1, i2, i3, i4⟩ := zip_ne1 lI
      obtain ⟨j0, j1, j2, j3, j4⟩ := zip_ne2 lI
      refine k9 ?_
      clear k9 lI
      have htdz1 := ok.htdz1
      have htz1 := ok.htz1
      k_steps
      rename News _ _ _ _ => N15
      replace N15 := news_plus (news_plus (news_plus N15 (memZ (hZ6 _ zd1))) (.tail _ (memZ (hZ6 _ zx1)))) (.tail _ (.tail _ (memZ (hZ6 _ ze1))))
      k_steps
      · rename (_ != _) = true => hq
        exact absurd hq (ne_same ok.htd1)
      all_goals (try exact absurd htz1 (by assumption))
      unfold Held
      k_dflt (refine comp_none (xs := coveredL st1.ps) (by k_asm) (by with_unfolding_all rfl) (by decide) (by rfl) (by decide) (by rfl) (by rfl) (by decide) ?_ (fun _ => rfl))
      k_steps
      rename News _ _ _ _ => N15
      unfold Held
      k_dflt (refine' covered_c (T := T) ?Bc ?Fc ?Xc N15 ?Tpc rfl ?hTc hw1 ok.hps1 ok.hsz1 ?hdc ?huc ?_)
      case Bc => k_asm
      case Fc => k_asm
      case Xc => k_asm
      case Tpc => k_asm
      case hdc => first | exact room2 hdp rfl | exact room3 hdp rfl
      case huc => first | exact room2 hun rfl | exact room3 hun rfl
      case hTc => exact fun p hp => mem12 (hZ6 p (hTR p hp))
      intro r tlD h15 tk15 F15 N16 hAD hrD
      clear hAD N15
      refine hide fun G9 k9 => ?_
      obtain ⟨axD, vsD, nnD, erD, hmD, hallD⟩ := dat_list hrD
      replace N16 := news_mv (M := [_, _, _, _, _, _, _, _, _, _, _, _]) (R := Z6) N16
      simp only [List.cons_append, List.nil_append] at N16
      refine k9 ⟨axD, vsD, nnD, tlD ++ T, _, erD, rfl, F15, N16, hmD, ?_, fun p hp => mem12 (sub_mv (fun p hp => hZ6 p (hTR p hp)) p hp), ?_, ?_⟩
      · exact hallD
      · clear k9
        intro q v₁ v₂ I8 oI8 C8 oC8 D8 m8 h16 tk16 E8 hq D1 D2 hC8 hx8 hx9 F16 N17
        have hbq := ok.hbd1 _ hq
        unfold NoneTurn
        refine hide fun G9 k9 => ?_
        obtain ⟨td1, ed1⟩ := dat_int D1
        obtain ⟨td2, ed2⟩ := dat_int D2
        refine k9 ?_
        clear k9 D1 D2
        subst ed1 ed2
        generalize hRD : tlD ++ Z6 = RD at N17
        k_steps
        · exact decide_eq_false (Int.not_lt.mpr hbq)
        · assumption
        · assumption
      · clear k9
        intro D8 h16 tk16 F16 N17 hD8
        replace N17 := news_sub N17 (sub_keepz (tl := tlD))
        clear N16 F15 hrD hmD hallD hD8
        k_steps
        rename News _ _ _ _ => N18
        unfold Held
        refine' ne_spans_no N18 (nil_span (R := [])) (nil_span (R := [])) ?hs1 ?hs2 ?hs3 ?_
        case hs1 => walk_at "mine sub"
        case hs2 => walk_at "mine sub"
        case hs3 => first | exact room2 hun rfl | exact room3 hun rfl
        replace N18 := news_drop2 N18
        k_steps
        rename Fr _ _ _ _ => F18
        rename News _ _ _ _ => N18
        refine ⟨_, _, _, (_ :: _ :: _), rfl, F18, N18, zip_off l9, ⟨.tail _ (.tail _ (.tail _ (.tail _ (hZ6 _ (hTR _ hle))))), .tail _ (.tail _ (.tail _ (.tail _ (hZ6 _ (hTR _ hlb))))), trivial⟩, ?_⟩
        clear N18 F18
        have htdz2 := ok.htdz2
        have htz2 := ok.htz2
        k_steps
        rename News _ _ _ _ => N15
        replace N15 := news_plus (news_plus (news_plus N15 (memZ (hZ6 _ zd2))) (.tail _ (memZ (hZ6 _ zx2)))) (.tail _ (.tail _ (memZ (hZ6 _ ze2))))
        k_steps
        · rename (_ != _) = true => hq
          exact absurd hq (ne_same ok.htd2)
        all_goals (try exact absurd htz2 (by assumption))
        unfold Held
        k_dflt (refine comp_none (xs := coveredL st2.ps) (by k_asm) (by with_unfolding_all rfl) (by decide) (by rfl) (by decide) (by rfl) (by rfl) (by decide) ?_ (fun _ => rfl))
        k_steps
        rename News _ _ _ _ => N15
        unfold Held
        k_dflt (refine' covered_c (T := T) ?Bcz ?Fcz ?Xcz N15 ?Tpcz rfl ?hTcz hw2 ok.hps2 ok.hsz2 ?hdcz ?hucz ?_)
        case Bcz => k_asm
        case Fcz => k_asm
        case Xcz => k_asm
        case Tpcz => k_asm
        case hdcz => first | exact room2 hdp rfl | exact room3 hdp rfl
        case hucz => first | exact room2 hun rfl | exact room3 hun rfl
        case hTcz => exact fun p hp => mem12 (hZ6 p (hTR p hp))
        intro r tlD h15 tk15 F15 N16 hAD hrD
        clear hAD N15
        refine hide fun G9 k9 => ?_
        obtain ⟨axD, vsD, nnD, erD, hmD, hallD⟩ := dat_list hrD
        replace N16 := news_mv (M := [_, _, _, _, _, _, _, _, _, _, _, _]) (R := Z6) N16
        simp only [List.cons_append, List.nil_append] at N16
        refine k9 ⟨axD, vsD, nnD, tlD ++ T, _, erD, rfl, F15, N16, hmD, ?_, fun p hp => mem12 (sub_mv (fun p hp => hZ6 p (hTR p hp)) p hp), ?_, ?_⟩
        · exact hallD
        · clear k9
          intro q v₁ v₂ I8 oI8 C8 oC8 D8 m8 h16 tk16 E8 hq D1 D2 hC8 hx8 hx9 F16 N17
          have hbq := ok.hbd2 _ hq
          unfold NoneTurn
          refine hide fun G9 k9 => ?_
          obtain ⟨td1, ed1⟩ := dat_int D1
          obtain ⟨td2, ed2⟩ := dat_int D2
          refine k9 ?_
          clear k9 D1 D2
          subst ed1 ed2
          generalize hRD : tlD ++ Z6 = RD at N17
          k_steps
          · exact decide_eq_false (Int.not_lt.mpr hbq)
          · assumption
          · assumption
        · clear k9
          intro D8 h16 tk16 F16 N17 hD8
          replace N17 := news_sub N17 (sub_keepz (tl := tlD))
          clear N16 F15 hrD hmD hallD hD8
          k_steps
          rename News _ _ _ _ => N18
          unfold Held
          refine' ne_spans_no N18 (nil_span (R := [])) (nil_span (R := [])) ?hs1z ?hs2z ?hs3z ?_
          case hs1z => walk_at "mine sub"
          case hs2z => walk_at "mine sub"
          case hs3z => first | exact room2 hun rfl | exact room3 hun rfl
          replace N18 := news_drop2 N18
          k_steps
          rename Fr _ _ _ _ => F18
          rename News _ _ _ _ => N18
          refine ⟨_, _, _, (_ :: _ :: _), rfl, F18, N18, zip_off l9, ⟨.tail _ (.tail _ (.tail _ (.tail _ (hZ6 _ (hTR _ hle))))), .tail _ (.tail _ (.tail _ (.tail _ (hZ6 _ (hTR _ hlb))))), trivial⟩, ?_⟩
          refine ItemsRest.zero ?zf13
          case' zf13 => intro h17 tk17 F19 N19
          replace N19 := news_plus (news_plus (news_plus (news_plus (news_plus (news_plus (news_plus N19 (.tail _ (.tail _ (.tail _ (.tail _ (hZ6 _ zd2)))))) (.tail _ (.tail _ (.tail _ (.tail _ (.tail _ (hZ6 _ zx2))))))) (mem6 (hZ6 _ ze2))) (.tail _ (mem6 (hZ6 _ zd1)))) (mem8 (hZ6 _ zx1))) (mem9 (hZ6 _ ze1))) (mem10 (hZ6 _ (hTR _ hle)))
          have hle9 := ok.hle
          dsimp only
          walk_at "mine steps"
          rename Fr _ _ _ _ => kF
          rename News _ _ _ _ => kN
          rw [decide_eq_true hle9]
          exact ret _ _ kF fun p hp => kN p (mem11 (hZ6 p hp))
end law_stands_c_k
section
variable {w : World} {p : Program} {loose : List Str} {mean : ExcName → Option Value} {mg mb : Str → Option Value} {dp un : Nat} {gd : Option (List Code)} {cn : Str} {cs : Scope} {a : Addr} {ccd : Value} {cl : List (Str × Addr)} {outer : List Env} {A₀ : Around} {base h₀ : Heap} {L : Addr} {m : Str → Option Value} {R T : List (Addr × Obj)} {s : Shared} {v : Value} {Q E : Value → Shared → Prop}
theorem law_stands_c {Z : List (Addr × Obj)} {wD x dx e1 x1 d1 e2 x2 d2 le lb : Addr} {oW o1 o2 : Obj} {t1 t2 t3 tdd t11 t12 t13 tl1 tt1 t21 t22 t23 tlx2 tt2 tq1 tq2 tp tb1 tb2 : Tok} {data : Array UInt8} {vdue vack vfl vel vak vw1 vw2 : Value} {lim1 lim2 : Int} {due ack : List (Int × Int)} {fly : List (Int × Array UInt8)} {n9 n8 : Nat} (st1 st2 : EndSt) :
  law_stands_c_k.St w p loose mean mg mb dp un gd cn cs a ccd cl outer A₀ base h₀ L m T s Q E Z wD x dx e1 x1 d1 e2 x2 d2 le lb oW o1 o2 t1 t2 t3 tdd t11 t12 t13 tl1 tt1 t21 t22 t23 tlx2 tt2 tq1 tq2 tp tb1 tb2 data vack vel vw1 vw2 due ack fly st1 st2 vdue vfl vak lim1 lim2 n9 n8 := all_eps (S := law_stands_c_k.S) law_stands_c_k.walk (((w, p, loose, mean, mg, mb, dp, un, gd, cn, cs, a, ccd, cl, outer, A₀, base, h₀, L, m, (cx_R cx0), T, s, (cx_v cx0), Q, E), fn [t1, t2, t3, tdd, t11, t12, t13, tl1, tt1, t21, t22, t23, tlx2, tt2, tq1, tq2, tp, tb1, tb2] default, fn [wD, x, dx, e1, x1, d1, e2, x2, d2, le, lb] default, fn [vack, vel, vw1, vw2] default, fn [oW, o1, o2] default, fn [due, ack] [], fn [data] #[], fn [fly] []), ((Z, st1), st2)) vdue vfl vak lim1 lim2 n9 n8
end
end Mine

namespace Mine
/-! the world of the law: its objects, its state -/
structure WAdr where
  (wD x dx e1 x1 d1 e2 x2 d2 le lb : Addr)
  (ne nb : Nat)
  (lim1 lim2 : Int)
  (tb1 tb2 : Tok)
  deriving Inhabited
structure WVal where
  (oW o1 o2 : Obj)
  (t1 t2 t3 tdd t11 t12 t13 tl1 tt1 t21 t22 t23 tl2 tt2 tq1 tq2 tp : Tok)
  (vdue vack vel vak vw1 vw2 : Value)
  lf : Addr
  fs : List Value
  nf : Nat
  deriving Inhabited
structure WSt where
  data : Array UInt8
  (due ack : List (Int × Int))
  (fly eld : List (Int × Array UInt8))
  (s1 s2 : EndSt)
  deriving Inhabited
noncomputable def wadr0 : WAdr := ⟨default, default, default, default, default, default, default, default, default, default, default, 0, 0, 0, 0, default, default⟩
noncomputable def wst0 : WSt := ⟨#[], [], [], [], [], ⟨0, #[], []⟩, ⟨0, #[], []⟩⟩
noncomputable def wval0 : WVal := ⟨default, default, default, default, default, default, default, default, default, default, default, default, default, default, default, default, default, default, default, default, default, default, default, default, default, default, default, [], 0⟩
noncomputable def nine (a : WAdr) : List Addr := [a.wD, a.x, a.dx, a.e1, a.x1, a.d1, a.e2, a.x2, a.d2]
noncomputable def wled (w : World) (a : WAdr) (v : WVal) (st : WSt) (R : List (Addr × Obj)) : List (Addr × Obj) :=
  (a.wD, v.oW) :: (a.x, instObj 180 a.dx) :: (a.dx, outD w v.t1 v.t2 v.t3 (.bytes st.data v.tdd) v.vdue v.vack) ::
  (a.e1, v.o1) :: (a.x1, instObj 124 a.d1) :: (a.d1, inD w v.t11 v.t12 v.t13 (.int a.lim1 v.tl1) (.int st.s1.told v.tt1) v.vw1) ::
  (a.e2, v.o2) :: (a.x2, instObj 124 a.d2) :: (a.d2, inD w v.t21 v.t22 v.t23 (.int a.lim2 v.tl2) (.int st.s2.told v.tt2) v.vw2) ::
  (v.lf, W.listOf v.fs.toArray v.nf) :: R
structure WIs (w : World) (T : List (Addr × Obj)) (a : WAdr) (v : WVal) (st : WSt) : Prop where
  hW : v.oW.IsDictOf (PySem.strKind P0 w) [(Str.ofString "out", Value.ref a.x), (Str.ofString "put", Value.bytes st.data v.tp), (Str.ofString "flying", Value.ref v.lf), (Str.ofString "elder", v.vel), (Str.ofString "acked", v.vak), (Str.ofString "bounds", Value.ref a.lb), (Str.ofString "ends", Value.ref a.le)]
  hE1 : v.o1.IsDictOf (PySem.strKind P0 w) [(Str.ofString "in", Value.ref a.x1), (Str.ofString "told", Value.bytes st.s1.td v.tq1)]
  hE2 : v.o2.IsDictOf (PySem.strKind P0 w) [(Str.ofString "in", Value.ref a.x2), (Str.ofString "told", Value.bytes st.s2.td v.tq2)]
  hle : (a.le, W.listOf [Value.ref a.e1, Value.ref a.e2].toArray a.ne) ∈ T
  hlb : (a.lb, W.listOf [Value.int a.lim1 a.tb1, Value.int a.lim2 a.tb2].toArray a.nb) ∈ T
  hvd : DatIn T v.vdue (spD st.due)
  hva : DatIn T v.vack (spD st.ack)
  hvk : DatIn T v.vak (spD st.ack)
  hvl : DatIn T v.vel (pcsD st.eld)
  hfl : DatAll T v.fs (st.fly.map pcD)
  hw1 : DatIn T v.vw1 (pcsD st.s1.ps)
  hw2 : DatIn T v.vw2 (pcsD st.s2.ps)
structure WSep (a : WAdr) (v : WVal) (R : List (Addr × Obj)) : Prop where
  nd : (nine a).Nodup
  lf9 : ∀ c ∈ nine a, @Ne Nat v.lf c
  hO : OwnOff R (nine a)
  hOf : OwnOff R [v.lf]
/-- what arrives at an end: the pieces in their order -/
noncomputable def arrFold (told off : Int) (ps : List (Int × Array UInt8)) (dt : Array UInt8) : PcSt := ps.foldl pieceStep ⟨[], arrOff told off, arrDt told off dt⟩
noncomputable def befL (f : PcSt) : List (Int × Array UInt8) := f.found.filter fun q => decide (q.1 < f.beg)
noncomputable def aftL (f : PcSt) : List (Int × Array UInt8) := f.found.filter fun q => decide (f.beg < q.1)
noncomputable def arrS (lim : Int) (st : EndSt) (r : Int × Array UInt8) : EndSt :=
  endStep lim st r.1 r.2 (befL (arrFold st.told r.1 st.ps r.2) ++ ((arrFold st.told r.1 st.ps r.2).beg, (arrFold st.told r.1 st.ps r.2).joined) :: aftL (arrFold st.told r.1 st.ps r.2))
noncomputable def comeS (l1 l2 : Int) (st : WSt) (r : Int × Array UInt8) : WSt := { st with
  due := if r.1 + (r.2.size : Int) ≤ st.s1.told + l1 then cutL st.due r.1 (r.1 + (r.2.size : Int)) else lostL st.due (withoutL [(r.1, r.1 + (r.2.size : Int))] st.ack)
  ack := if r.1 + (r.2.size : Int) ≤ st.s1.told + l1 then addL st.ack r.1 (r.1 + (r.2.size : Int)) else st.ack
  s1 := arrS l1 st.s1 r
  s2 := arrS l2 st.s2 r }
structure EndOk (lim : Int) (st : EndSt) (r : Int × Array UInt8) : Prop where
  ok : ArrOk lim st.told r.1 st.ps r.2 (befL (arrFold st.told r.1 st.ps r.2)) (aftL (arrFold st.told r.1 st.ps r.2)) (arrFold st.told r.1 st.ps r.2).beg (arrFold st.told r.1 st.ps r.2).joined
  htd : st.td.size ≤ 1000
structure LostOk (st : WSt) (r : Int × Array UInt8) : Prop where
  hack : ∀ q ∈ st.ack, q.1 < q.2
  hlw : ∀ i, (withoutL [(r.1, r.1 + (r.2.size : Int))] (st.ack.take i)).length ≤ 1000
  hll : ∀ i, (lostL st.due ((withoutL [(r.1, r.1 + (r.2.size : Int))] st.ack).take i)).length ≤ 1000
  hsz : r.2.size ≤ 1000
structure ComeOk (l1 l2 : Int) (st : WSt) (r : Int × Array UInt8) : Prop where
  e1 : EndOk l1 st.s1 r
  e2 : EndOk l2 st.s2 r
  lost : LostOk st r
  hdl : st.due.length ≤ 1000
  hal : st.ack.length ≤ 1000
  hdz : 0 < r.2.size
  hyes : r.1 + (r.2.size : Int) ≤ st.s1.told + l1 → r.1 + (r.2.size : Int) ≤ st.s2.told + l2
section
variable {w : World} {p : Program} {loose : List Str} {mean : ExcName → Option Value} {mg mb : Str → Option Value} {dp un : Nat} {gd : Option (List Code)} {cn : Str} {cs : Scope} {a : Addr} {ccd : Value} {cl : List (Str × Addr)} {outer : List Env} {A₀ : Around} {base h₀ : Heap} {L : Addr} {m : Str → Option Value} {R T : List (Addr × Obj)} {s : Shared} {v : Value} {Q E : Value → Shared → Prop}
theorem news_lf {h : Heap} {a1 a2 a3 a4 a5 a6 a7 a8 a9 f : Addr × Obj} {tl : List (Addr × Obj)} (N : News h₀ L h (a1 :: a2 :: a3 :: a4 :: a5 :: a6 :: a7 :: a8 :: a9 :: (tl ++ (f :: R)))) : News h₀ L h (a1 :: a2 :: a3 :: a4 :: a5 :: a6 :: a7 :: a8 :: a9 :: f :: (tl ++ R)) := fun p hp => N p (sub_bl [[a1, a2, a3, a4, a5, a6, a7, a8, a9], tl, [f], R] [0, 2, 1, 3] p hp)
end
namespace law_come_w_k
noncomputable def St (w : World) (p : Program) (loose : List Str) (mean : ExcName → Option Value) (mg : Str → Option Value) (mb : Str → Option Value) (dp : Nat) (un : Nat) (gd : Option (List Code)) (cn : Str) (cs : Scope) (a : Addr) (ccd : Value) (cl : List (Str × Addr)) (outer : List Env) (A₀ : Around) (base : Heap) (h₀ : Heap) (L : Addr) (m : Str → Option Value) (R : List (Addr × Obj)) (T : List (Addr × Obj)) (s : Shared) (Q : Value → Shared → Prop) (E : Value → Shared → Prop) (a0 : WAdr) (v0 : WVal) (st : WSt) (ra : Addr) (to : Tok) (tz : Tok) (r : Int × Array UInt8) (n8 : Nat) : Prop := ∀ (B : Below A₀ base outer h₀) (F : Fr h₀ L s.heap m) (X : (hd.heap_1 w.params).In h₀) (N : News h₀ L s.heap (wled w a0 v0 st R)) (Tp : Top p loose mean mg mb h₀) (hk : cs.kind = .function) (XB : (hd.heap_1 w.params).In base) (TB : Top p loose mean mg mb base) (D : KtsDicts (outer.filterMap (·.frame)) h₀) (I : WIs w T a0 v0 st) (S : WSep a0 v0 R) (hra : (ra, ({ cls := .type "tuple", data := .seq [Value.int r.1 to, Value.bytes r.2 tz].toArray n8 } : Obj)) ∈ T) (ok : ComeOk a0.lim1 a0.lim2 st r) (hTR : ∀ p ∈ T, p ∈ R) (hdp : dp + 9 < recursionLimit) (hun : un + 900 < cLine) (ret : ∀ h₀' v' tl h' tk', Turned w A₀ base outer p loose mean mg mb h₀ h₀' → Fr h₀' L h' m → News h₀' L h' (wled w a0 v' (comeS a0.lim1 a0.lim2 st r) (tl ++ R)) → Apart R tl → WIs w (tl ++ T) a0 v' (comeS a0.lim1 a0.lim2 st r) → WSep a0 v' (tl ++ R) →
    Q (.bool true) { s with heap := h', toks := tk' }),
  wpAny (model P0 w) (ktrTop dp un gd cn cs L a ccd cl outer) (call (.ref 210) [.ref a0.wD, .ref ra]) Q E s
noncomputable def S (c : CxF × ((((WAdr) × (WVal)) × ((WSt) × (Int × Array UInt8))))) : Prop := ∀ (n8 : Nat), St (cx_w (c.1).1) (cx_p (c.1).1) (cx_loose (c.1).1) (cx_mean (c.1).1) (cx_mg (c.1).1) (cx_mb (c.1).1) (cx_dp (c.1).1) (cx_un (c.1).1) (cx_gd (c.1).1) (cx_cn (c.1).1) (cx_cs (c.1).1) (cx_a (c.1).1) (cx_ccd (c.1).1) (cx_cl (c.1).1) (cx_outer (c.1).1) (cx_A₀ (c.1).1) (cx_base (c.1).1) (cx_h₀ (c.1).1) (cx_L (c.1).1) (cx_m (c.1).1) (cx_R (c.1).1) (cx_T (c.1).1) (cx_s (c.1).1) (cx_Q (c.1).1) (cx_E (c.1).1) (c.2.1.1) (c.2.1.2) (c.2.2.1) (cx_adr c.1 0) (cx_tok c.1 0) (cx_tok c.1 1) (c.2.2.2) n8
noncomputable def kx9 : CxF × ((((WAdr) × (WVal)) × ((WSt) × (Int × Array UInt8)))) := @Classical.epsilon (CxF × ((((WAdr) × (WVal)) × ((WSt) × (Int × Array UInt8))))) (ne_cxf.elim fun b => ⟨(b, ((wadr0, wval0), (wst0, default)))⟩) fun c => ¬ S c
theorem walk : S kx9 := by
  show ∀ (n8 : Nat), St (cx_w (kx9.1).1) (cx_p (kx9.1).1) (cx_loose (kx9.1).1) (cx_mean (kx9.1).1) (cx_mg (kx9.1).1) (cx_mb (kx9.1).1) (cx_dp (kx9.1).1) (cx_un (kx9.1).1) (cx_gd (kx9.1).1) (cx_cn (kx9.1).1) (cx_cs (kx9.1).1) (cx_a (kx9.1).1) (cx_ccd (kx9.1).1) (cx_cl (kx9.1).1) (cx_outer (kx9.1).1) (cx_A₀ (kx9.1).1) (cx_base (kx9.1).1) (cx_h₀ (kx9.1).1) (cx_L (kx9.1).1) (cx_m (kx9.1).1) (cx_R (kx9.1).1) (cx_T (kx9.1).1) (cx_s (kx9.1).1) (cx_Q (kx9.1).1) (cx_E (kx9.1).1) (kx9.2.1.1) (kx9.2.1.2) (kx9.2.2.1) (cx_adr kx9.1 0) (cx_tok kx9.1 0) (cx_tok kx9.1 1) (kx9.2.2.2) n8
  generalize (cx_w (kx9.1).1) = w, (cx_p (kx9.1).1) = p, (cx_loose (kx9.1).1) = loose, (cx_mean (kx9.1).1) = mean, (cx_mg (kx9.1).1) = mg, (cx_mb (kx9.1).1) = mb, (cx_dp (kx9.1).1) = dp, (cx_un (kx9.1).1) = un, (cx_gd (kx9.1).1) = gd, (cx_cn (kx9.1).1) = cn, (cx_cs (kx9.1).1) = cs, (cx_a (kx9.1).1) = a, (cx_ccd (kx9.1).1) = ccd, (cx_cl (kx9.1).1) = cl, (cx_outer (kx9.1).1) = outer, (cx_A₀ (kx9.1).1) = A₀, (cx_base (kx9.1).1) = base, (cx_h₀ (kx9.1).1) = h₀, (cx_L (kx9.1).1) = L, (cx_m (kx9.1).1) = m, (cx_R (kx9.1).1) = R, (cx_T (kx9.1).1) = T, (cx_s (kx9.1).1) = s, (cx_Q (kx9.1).1) = Q, (cx_E (kx9.1).1) = E, (kx9.2.1.1) = a0, (kx9.2.1.2) = v0, (kx9.2.2.1) = st, (cx_adr kx9.1 0) = ra, (cx_tok kx9.1 0) = to, (cx_tok kx9.1 1) = tz, (kx9.2.2.2) = r
  intro n8
  delta St
  intro B F X N Tp hk XB TB D I S hra ok hTR hdp hun ret
  unfold wled at N
  refine law_come_c (T := T) (R := (v0.lf, W.listOf v0.fs.toArray v0.nf) :: R) st.s1 st.s2 B F X N Tp hk XB TB D I.hW I.hE1 I.hE2 I.hle hra S.nd (ownoff_cons S.lf9 S.hO) I.hw1 I.hw2 ok.e1.htd ok.e2.htd ok.e1.ok ok.e2.ok (fun p hp => .tail _ (hTR p hp)) hdp hun I.hvd I.hva I.hvk ok.hdl ok.hal ok.hal ok.hdz ok.lost.hack ok.lost.hlw ok.lost.hll ?_
  intro h₀' tl oW' o1' o2' vdue' vack' vak' tq1' tt1' vw1' tq2' tt2' vw2' h' tk' tr F' N' hE hW' hE1' hE2' hd ha hk' hw1 hw2
  have hb : (decide (r.1 + (r.2.size : Int) ≤ st.s2.told + a0.lim2) || !decide (r.1 + (r.2.size : Int) ≤ st.s1.told + a0.lim1)) = true := by
    by_cases h1 : r.1 + (r.2.size : Int) ≤ st.s1.told + a0.lim1
    · rw [decide_eq_true (ok.hyes h1)]; rfl
    · rw [decide_eq_false h1]; exact Bool.or_true _
  rw [hb]
  have sub : ∀ p ∈ T, p ∈ tl ++ T := fun p hp => List.mem_append.mpr (.inr hp)
  refine ret h₀' { v0 with oW := oW', o1 := o1', o2 := o2', vdue := vdue', vack := vack', vak := vak', tq1 := tq1', tt1 := tt1', vw1 := vw1', tq2 := tq2', tt2 := tt2', vw2 := vw2' } tl h' tk' tr F' (news_lf N') (fun q hq => hE.2 q (.tail _ hq)) ?_ ?_
  · exact ⟨hW', hE1', hE2', sub _ I.hle, sub _ I.hlb, hd, ha, hk', I.hvl.mono sub, I.hfl.mono sub, hw1, hw2⟩
  · refine ⟨S.nd, S.lf9, fun p hp c hc => hE.1 p ?_ c hc, fun p hp c hc => ?_⟩
    · rcases List.mem_append.mp hp with hp | hp
      · exact List.mem_append.mpr (.inl hp)
      · exact List.mem_append.mpr (.inr (.tail _ hp))
    · rcases List.mem_append.mp hp with hp | hp
      · rw [List.mem_singleton.mp hc]; exact Ne.symm (hE.2 _ (.head _) p hp)
      · exact S.hOf p hp c hc
end law_come_w_k
section
variable {w : World} {p : Program} {loose : List Str} {mean : ExcName → Option Value} {mg mb : Str → Option Value} {dp un : Nat} {gd : Option (List Code)} {cn : Str} {cs : Scope} {a : Addr} {ccd : Value} {cl : List (Str × Addr)} {outer : List Env} {A₀ : Around} {base h₀ : Heap} {L : Addr} {m : Str → Option Value} {R T : List (Addr × Obj)} {s : Shared} {v : Value} {Q E : Value → Shared → Prop}
theorem law_come_w {a0 : WAdr} {v0 : WVal} {st : WSt} {ra : Addr} {to tz : Tok} {n8 : Nat} {r : Int × Array UInt8} :
  law_come_w_k.St w p loose mean mg mb dp un gd cn cs a ccd cl outer A₀ base h₀ L m R T s Q E a0 v0 st ra to tz r n8 := all_eps (S := law_come_w_k.S) law_come_w_k.walk (((w, p, loose, mean, mg, mb, dp, un, gd, cn, cs, a, ccd, cl, outer, A₀, base, h₀, L, m, R, T, s, (cx_v cx0), Q, E), fn [to, tz] default, fn [ra] default, fn [] default, fn [] default, fn [] [], fn [] #[], fn [] []), ((a0, v0), (st, r))) n8
end
end Mine

namespace Mine
theorem wled_eq {w : World} {a : WAdr} {v : WVal} {st : WSt} {R : List (Addr × Obj)} : wled w a v st R = wled w a v st [] ++ R := rfl
theorem wled_mem {w : World} {a : WAdr} {v : WVal} {st : WSt} {R : List (Addr × Obj)} {p : Addr × Obj} : p ∈ wled w a v st R ↔ p ∈ wled w a v st [] ∨ p ∈ R := by rw [wled_eq]; exact List.mem_append
theorem wled_adr {w : World} {a : WAdr} {v : WVal} {st : WSt} {p : Addr × Obj} (hp : p ∈ wled w a v st []) : p.1 ∈ nine a ∨ p.1 = v.lf := by
  unfold wled at hp
  unfold nine
  simp only [List.mem_cons, List.not_mem_nil, or_false] at hp ⊢
  rcases hp with rfl | rfl | rfl | rfl | rfl | rfl | rfl | rfl | rfl | rfl <;> simp
theorem wled_nine {w : World} {a : WAdr} {v : WVal} {st : WSt} {b : Addr} (h : ∀ p ∈ wled w a v st [], @Ne Nat p.1 b) : (∀ c ∈ nine a, @Ne Nat c b) ∧ @Ne Nat v.lf b := by
  unfold wled at h
  unfold nine
  simp only [List.forall_mem_cons] at h ⊢
  obtain ⟨h1, h2, h3, h4, h5, h6, h7, h8, h9, h10, _⟩ := h
  exact ⟨⟨h1, h2, h3, h4, h5, h6, h7, h8, h9, fun _ h => nomatch h⟩, h10⟩
theorem wsep_cons {w : World} {a : WAdr} {v : WVal} {st : WSt} {R : List (Addr × Obj)} {b : Addr} {o : Obj} (S : WSep a v R) (h : ∀ p ∈ wled w a v st [], @Ne Nat p.1 b) : WSep a v ((b, o) :: R) := by
  obtain ⟨h1, h2⟩ := wled_nine h
  refine ⟨S.nd, S.lf9, fun p hp c hc => ?_, fun p hp c hc => ?_⟩
  · rcases List.mem_cons.mp hp with rfl | hp
    · exact Ne.symm (h1 c hc)
    · exact S.hO p hp c hc
  · rcases List.mem_cons.mp hp with rfl | hp
    · rw [List.mem_singleton.mp hc]; exact Ne.symm h2
    · exact S.hOf p hp c hc
theorem wsep_sub {a : WAdr} {v : WVal} {R R' : List (Addr × Obj)} (S : WSep a v R) (h : ∀ p ∈ R', p ∈ R) : WSep a v R' := ⟨S.nd, S.lf9, fun p hp => S.hO p (h p hp), fun p hp => S.hOf p (h p hp)⟩
theorem wled_off {w : World} {a : WAdr} {v : WVal} {st : WSt} {R : List (Addr × Obj)} {b : Addr} {o : Obj} (S : WSep a v R) (hb : (b, o) ∈ R) : ∀ p ∈ wled w a v st [], @Ne Nat p.1 b := fun p hp => by
  rcases wled_adr hp with h | h
  · exact Ne.symm (S.hO _ hb _ h)
  · rw [h]; exact Ne.symm (S.hOf _ hb _ (.head _))
theorem fr_kv1 {h₀ h : Heap} {L : Addr} {ps : List (Str × Value)} {u : Str → Option Value} {x₁ : Str} {v₁ : Value} (hu : ∀ p ∈ ps, u p.1 = some p.2) (F : Fr h₀ L h (fun z => if z = x₁ then some v₁ else u z)) :
    Fr h₀ L h (fun z => if z = x₁ then some v₁ else kv ps u z) := by rw [kv_eq hu]; exact F
theorem wled_pull {h₀ h : Heap} {L : Addr} {w : World} {a : WAdr} {v : WVal} {st : WSt} {R : List (Addr × Obj)} {e : Addr × Obj} (N : News h₀ L h (e :: wled w a v st R)) : News h₀ L h (wled w a v st (e :: R)) := fun p hp => N p (by
  rcases wled_mem.mp hp with h | h
  · exact .tail _ (wled_mem.mpr (.inl h))
  · rcases List.mem_cons.mp h with rfl | h
    · exact .head _
    · exact .tail _ (wled_mem.mpr (.inr h)))
theorem mem_w1 {w : World} {a : WAdr} {v : WVal} {st : WSt} {R : List (Addr × Obj)} : (a.wD, v.oW) ∈ wled w a v st R := .head _
theorem mem_x1 {w : World} {a : WAdr} {v : WVal} {st : WSt} {R : List (Addr × Obj)} : (a.x, instObj 180 a.dx) ∈ wled w a v st R := .tail _ (.head _)
theorem mem_d1 {w : World} {a : WAdr} {v : WVal} {st : WSt} {R : List (Addr × Obj)} : (a.dx, outD w v.t1 v.t2 v.t3 (.bytes st.data v.tdd) v.vdue v.vack) ∈ wled w a v st R := .tail _ (.tail _ (.head _))
theorem mem_lf {w : World} {a : WAdr} {v : WVal} {st : WSt} {R : List (Addr × Obj)} : (v.lf, W.listOf v.fs.toArray v.nf) ∈ wled w a v st R := mem9 (.head _)
theorem wled_plus3 {h₀ h : Heap} {L : Addr} {w : World} {a : WAdr} {v : WVal} {st : WSt} {R : List (Addr × Obj)} (N : News h₀ L h (wled w a v st R)) :
    News h₀ L h ((a.wD, v.oW) :: (a.x, instObj 180 a.dx) :: (a.dx, outD w v.t1 v.t2 v.t3 (.bytes st.data v.tdd) v.vdue v.vack) :: wled w a v st R) :=
  news_plus (news_plus (news_plus N mem_d1) (.tail _ mem_x1)) (.tail _ (.tail _ mem_w1))
section
variable {w : World} {p : Program} {loose : List Str} {mean : ExcName → Option Value} {mg mb : Str → Option Value} {dp un : Nat} {gd : Option (List Code)} {cn : Str} {cs : Scope} {a : Addr} {ccd : Value} {cl : List (Str × Addr)} {outer : List Env} {A₀ : Around} {base h₀ : Heap} {L : Addr} {m : Str → Option Value} {R T : List (Addr × Obj)} {s : Shared} {v : Value} {Q E : Value → Shared → Prop}
theorem dat_row {v : Value} {r : Int × Array UInt8} (h : DatIn T v (pcD r)) : ∃ ra to tz n, v = .ref ra ∧ (ra, ({ cls := .type "tuple", data := .seq [Value.int r.1 to, Value.bytes r.2 tz].toArray n } : Obj)) ∈ T := by
  unfold pcD at h
  cases h with
  | tuple hm hall =>
    cases hall with
    | cons h1 hr =>
      cases hr with
      | cons h2 hr2 =>
        cases hr2
        cases h1
        cases h2
        exact ⟨_, _, _, _, rfl, hm⟩
end
noncomputable def lostS (st : WSt) (r : Int × Array UInt8) : WSt := { st with due := lostL st.due (withoutL [(r.1, r.1 + (r.2.size : Int))] st.ack) }
noncomputable def putS (st : WSt) (more : Array UInt8) : WSt := { st with data := st.data ++ more, due := addL st.due (st.data.size : Int) ((st.data.size : Int) + (more.size : Int)) }
/-- the entries behind the world's dict -/
noncomputable def wtail (w : World) (a : WAdr) (v : WVal) (st : WSt) (R : List (Addr × Obj)) : List (Addr × Obj) := (wled w a v st R).tail
theorem wtail_off {w : World} {a : WAdr} {v : WVal} {st : WSt} {R : List (Addr × Obj)} (S : WSep a v R) : OwnOff (wtail w a v st R) [a.wD] := by
  obtain ⟨h1, _⟩ := List.nodup_cons.mp S.nd
  have one : ∀ {b : Addr}, b ∈ [a.x, a.dx, a.e1, a.x1, a.d1, a.e2, a.x2, a.d2] → ∀ c ∈ [a.wD], @Ne Nat b c := fun hb c hc e => by
    rw [List.mem_singleton.mp hc] at e
    exact h1 (e ▸ hb)
  exact ownoff_cons (one (.head _)) (ownoff_cons (one (.tail _ (.head _))) (ownoff_cons (one (.tail _ (.tail _ (.head _)))) (ownoff_cons (one (.tail _ (.tail _ (.tail _ (.head _))))) (ownoff_cons (one (.tail _ (.tail _ (.tail _ (.tail _ (.head _)))))) (ownoff_cons (one (.tail _ (.tail _ (.tail _ (.tail _ (.tail _ (.head _))))))) (ownoff_cons (one (.tail _ (.tail _ (.tail _ (.tail _ (.tail _ (.tail _ (.head _)))))))) (ownoff_cons (one (.tail _ (.tail _ (.tail _ (.tail _ (.tail _ (.tail _ (.tail _ (.head _)))))))))
    (ownoff_cons (fun c hc => by rw [List.mem_singleton.mp hc]; exact S.lf9 _ (.head _)) fun p hp c hc => S.hO p hp c (by rw [List.mem_singleton.mp hc]; exact .head _)))))))))
theorem wtail_mem {w : World} {a : WAdr} {v : WVal} {st : WSt} {R : List (Addr × Obj)} {p : Addr × Obj} (h : p ∈ R) : p ∈ wtail w a v st R := mem9 h
section
variable {h₀ h : Heap} {L : Addr} {w : World} {a : WAdr} {v : WVal} {st : WSt} {R : List (Addr × Obj)} {c : Addr × Obj}
theorem cell_in (N : News h₀ L h (c :: (a.wD, v.oW) :: (a.x, instObj 180 a.dx) :: (a.dx, outD w v.t1 v.t2 v.t3 (.bytes st.data v.tdd) v.vdue v.vack) :: wtail w a v st R)) : News h₀ L h (wled w a v st (c :: R)) := fun p hp => by
  rcases wled_mem.mp hp with h | h
  · rcases List.mem_cons.mp h with h | h
    · exact N p (h ▸ .tail _ (.head _))
    · exact N p (.tail _ (.tail _ (.tail _ (.tail _ (List.mem_append.mpr (.inl h) : p ∈ wtail w a v st [] ++ R)))))
  · rcases List.mem_cons.mp h with h | h
    · exact N p (h ▸ .head _)
    · exact N p (.tail _ (.tail _ (.tail _ (.tail _ (wtail_mem h)))))
theorem cell_out {tl : List (Addr × Obj)} (N : News h₀ L h (wled w a v st (tl ++ (c :: R)))) : News h₀ L h (c :: (a.wD, v.oW) :: wtail w a v st (tl ++ R)) := fun p hp => by
  rcases List.mem_cons.mp hp with h | h
  · exact N p (h ▸ wled_mem.mpr (.inr (List.mem_append.mpr (.inr (.head _)))))
  rcases List.mem_cons.mp h with h | h
  · exact N p (h ▸ .head _)
  · rcases List.mem_append.mp (show p ∈ wtail w a v st [] ++ (tl ++ R) from h) with h | h
    · exact N p (.tail _ (List.mem_append.mpr (.inl h) : p ∈ wtail w a v st [] ++ (tl ++ (c :: R))))
    · rcases List.mem_append.mp h with h | h
      · exact N p (wled_mem.mpr (.inr (List.mem_append.mpr (.inl h))))
      · exact N p (wled_mem.mpr (.inr (List.mem_append.mpr (.inr (.tail _ h)))))
end
/-! the world's sending part, its methods on the ten entries -/
noncomputable def wrest (w : World) (a : WAdr) (v : WVal) (st : WSt) (R : List (Addr × Obj)) : List (Addr × Obj) :=
  (a.wD, v.oW) :: (a.e1, v.o1) :: (a.x1, instObj 124 a.d1) :: (a.d1, inD w v.t11 v.t12 v.t13 (.int a.lim1 v.tl1) (.int st.s1.told v.tt1) v.vw1) ::
  (a.e2, v.o2) :: (a.x2, instObj 124 a.d2) :: (a.d2, inD w v.t21 v.t22 v.t23 (.int a.lim2 v.tl2) (.int st.s2.told v.tt2) v.vw2) ::
  (v.lf, W.listOf v.fs.toArray v.nf) :: R
section
variable {w : World} {p : Program} {loose : List Str} {mean : ExcName → Option Value} {mg mb : Str → Option Value} {dp un : Nat} {gd : Option (List Code)} {cn : Str} {cs : Scope} {a : Addr} {ccd : Value} {cl : List (Str × Addr)} {outer : List Env} {A₀ : Around} {base h₀ : Heap} {L : Addr} {m : Str → Option Value} {R T : List (Addr × Obj)} {s : Shared} {v : Value} {Q E : Value → Shared → Prop}
variable {a0 : WAdr} {v0 : WVal} {st : WSt}
theorem wrest_sub : ∀ p ∈ R, p ∈ wrest w a0 v0 st R := fun p hp => .tail _ (.tail _ (.tail _ (.tail _ (.tail _ (.tail _ (.tail _ (.tail _ hp)))))))
theorem x_front {h : Heap} (N : News h₀ L h (wled w a0 v0 st R)) : News h₀ L h ((a0.x, instObj 180 a0.dx) :: (a0.dx, outD w v0.t1 v0.t2 v0.t3 (.bytes st.data v0.tdd) v0.vdue v0.vack) :: wrest w a0 v0 st R) :=
  fun p hp => N p (sub_ix (wled w a0 v0 st []) [1, 2, 0, 3, 4, 5, 6, 7, 8, 9] p hp)
theorem x_back0 {h : Heap} {o : Obj} {tl : List (Addr × Obj)} (N : News h₀ L h ((a0.x, instObj 180 a0.dx) :: (a0.dx, o) :: (tl ++ wrest w a0 v0 st R))) : News h₀ L h ((a0.wD, v0.oW) :: (a0.x, instObj 180 a0.dx) :: (a0.dx, o) :: ((wrest w a0 v0 st []).tail ++ (tl ++ R))) := fun p hp => by
  have h := sub_ix ((a0.x, instObj 180 a0.dx) :: (a0.dx, o) :: wrest w a0 v0 st []) (R := tl ++ R) [2, 0, 1, 3, 4, 5, 6, 7, 8, 9] p hp
  rcases List.mem_append.mp h with h | h
  · rcases List.mem_cons.mp h with h | h
    · exact N p (h ▸ .head _)
    rcases List.mem_cons.mp h with h | h
    · exact N p (h ▸ .tail _ (.head _))
    · exact N p (.tail _ (.tail _ (List.mem_append.mpr (.inr (List.mem_append.mpr (.inl h) : p ∈ wrest w a0 v0 st [] ++ R)))))
  · rcases List.mem_append.mp h with h | h
    · exact N p (.tail _ (.tail _ (List.mem_append.mpr (.inl h))))
    · exact N p (.tail _ (.tail _ (List.mem_append.mpr (.inr (wrest_sub p h)))))
theorem x_back {h : Heap} {vd : Value} {du : List (Int × Int)} {tl : List (Addr × Obj)} (N : News h₀ L h ((a0.x, instObj 180 a0.dx) :: (a0.dx, outD w v0.t1 v0.t2 v0.t3 (.bytes st.data v0.tdd) vd v0.vack) :: (tl ++ wrest w a0 v0 st R))) : News h₀ L h (wled w a0 { v0 with vdue := vd } { st with due := du } (tl ++ R)) := x_back0 N
theorem wrest_off (S : WSep a0 v0 R) : OwnOff (wrest w a0 v0 st R) [a0.x, a0.dx] := by
  have hndx := S.nd
  unfold nine at hndx
  simp only [List.nodup_cons, List.mem_cons, not_or, List.not_mem_nil, not_false_eq_true, and_true, List.nodup_nil] at hndx
  obtain ⟨⟨nwx, nwdx, _⟩, ⟨nxdx, nxe1, nxx1, nxd1, nxe2, nxx2, nxd2⟩, ⟨ndxe1, ndxx1, ndxd1, ndxe2, ndxx2, ndxd2⟩, _⟩ := hndx
  have two : ∀ b : Addr, @Ne Nat b a0.x → @Ne Nat b a0.dx → ∀ c ∈ [a0.x, a0.dx], @Ne Nat b c := by
    intro b h1 h2 c hc
    rcases List.mem_cons.mp hc with rfl | hc
    · exact h1
    · rw [List.mem_singleton.mp hc]; exact h2
  refine ownoff_cons (two _ nwx nwdx) (ownoff_cons (two _ (Ne.symm nxe1) (Ne.symm ndxe1)) (ownoff_cons (two _ (Ne.symm nxx1) (Ne.symm ndxx1)) (ownoff_cons (two _ (Ne.symm nxd1) (Ne.symm ndxd1)) (ownoff_cons (two _ (Ne.symm nxe2) (Ne.symm ndxe2)) (ownoff_cons (two _ (Ne.symm nxx2) (Ne.symm ndxx2)) (ownoff_cons (two _ (Ne.symm nxd2) (Ne.symm ndxd2)) (ownoff_cons (two _ (S.lf9 _ (.tail _ (.head _))) (S.lf9 _ (.tail _ (.tail _ (.head _))))) fun p hp c hc => S.hO p hp c ?_)))))))
  rcases List.mem_cons.mp hc with rfl | hc
  · exact .tail _ (.head _)
  · rw [List.mem_singleton.mp hc]; exact .tail _ (.tail _ (.head _))
theorem x_dx (S : WSep a0 v0 R) : @Ne Nat a0.x a0.dx := by
  have hndx := S.nd
  unfold nine at hndx
  simp only [List.nodup_cons, List.mem_cons, not_or, List.not_mem_nil, not_false_eq_true, and_true, List.nodup_nil] at hndx
  exact hndx.2.1.1
theorem wsep_ext {tl : List (Addr × Obj)} (S : WSep a0 v0 R) (hE : Ext [a0.x, a0.dx] (wrest w a0 v0 st R) tl) : WSep a0 v0 (tl ++ R) := by
  refine ⟨S.nd, S.lf9, fun p hp c hc => ?_, fun p hp c hc => ?_⟩
  · rcases List.mem_append.mp hp with hp | hp
    · have h1 := hE.1 p (List.mem_append.mpr (.inl hp))
      have h2 := hE.2
      unfold wrest at h2
      unfold nine at hc
      simp only [List.mem_cons, List.not_mem_nil, or_false] at hc
      rcases hc with rfl | rfl | rfl | rfl | rfl | rfl | rfl | rfl | rfl
      · exact Ne.symm (h2 _ (.head _) p hp)
      · exact h1 _ (.head _)
      · exact h1 _ (.tail _ (.head _))
      · exact Ne.symm (h2 _ (.tail _ (.head _)) p hp)
      · exact Ne.symm (h2 _ (.tail _ (.tail _ (.head _))) p hp)
      · exact Ne.symm (h2 _ (.tail _ (.tail _ (.tail _ (.head _)))) p hp)
      · exact Ne.symm (h2 _ (.tail _ (.tail _ (.tail _ (.tail _ (.head _))))) p hp)
      · exact Ne.symm (h2 _ (.tail _ (.tail _ (.tail _ (.tail _ (.tail _ (.head _)))))) p hp)
      · exact Ne.symm (h2 _ (mem6 (.head _)) p hp)
    · exact S.hO p hp c hc
  · rcases List.mem_append.mp hp with hp | hp
    · rw [List.mem_singleton.mp hc]
      exact Ne.symm (hE.2 _ (.tail _ (mem6 (.head _))) p hp)
    · exact S.hOf p hp c hc
theorem apart_ext {tl : List (Addr × Obj)} (hE : Ext [a0.x, a0.dx] (wrest w a0 v0 st R) tl) : Apart R tl := fun q hq => hE.2 q (wrest_sub q hq)
theorem wis_due {tl : List (Addr × Obj)} {vd : Value} {du : List (Int × Int)} (I : WIs w T a0 v0 st) (h : DatIn (tl ++ T) vd (spD du)) : WIs w (tl ++ T) a0 { v0 with vdue := vd } { st with due := du } := by
  have sub : ∀ p ∈ T, p ∈ tl ++ T := fun p hp => List.mem_append.mpr (.inr hp)
  exact ⟨I.hW, I.hE1, I.hE2, sub _ I.hle, sub _ I.hlb, h, I.hva.mono sub, I.hvk.mono sub, I.hvl.mono sub, I.hfl.mono sub, I.hw1.mono sub, I.hw2.mono sub⟩
theorem lost_w {to tz : Tok} {r : Int × Array UInt8}
  (B : Below A₀ base outer h₀) (F : Fr h₀ L s.heap m) (X : (hd.heap_1 w.params).In h₀) (N : News h₀ L s.heap (wled w a0 v0 st R)) (Tp : Top p loose mean mg mb h₀) (hk : cs.kind = .function)
  (I : WIs w T a0 v0 st) (S : WSep a0 v0 R) (ok : LostOk st r) (hTR : ∀ p ∈ T, p ∈ R) (hdp : dp + 4 < recursionLimit) (hun : un + 400 < cLine)
  (ret : ∀ vd tl h' tk', Fr h₀ L h' m → News h₀ L h' (wled w a0 { v0 with vdue := vd } (lostS st r) (tl ++ R)) → Apart R tl → WIs w (tl ++ T) a0 { v0 with vdue := vd } (lostS st r) → WSep a0 v0 (tl ++ R) → Q .none { s with heap := h', toks := tk' }) :
  wpAny (model P0 w) (ktrTop dp un gd cn cs L a ccd cl outer) (call (.ref 163) [.ref a0.x, .int r.1 to, .int (r.2.size : Int) tz]) Q E s := by
  refine on_lost_c (T := T) (due := st.due) (ack := st.ack) B F X (x_front N) Tp hk (fun p hp => wrest_sub p (hTR p hp)) (x_dx S) (wrest_off S) I.hvd I.hva ok.hack ok.hlw ok.hll hdp hun ?_
  intro tl vd h' tk' F' N' hE hvd
  exact ret vd tl h' tk' F' (x_back N') (apart_ext hE) (wis_due I hvd) (wsep_ext S hE)
theorem chunk_w {most : Int} {t : Tok}
  (B : Below A₀ base outer h₀) (F : Fr h₀ L s.heap m) (X : (hd.heap_1 w.params).In h₀) (N : News h₀ L s.heap (wled w a0 v0 st R)) (Tp : Top p loose mean mg mb h₀) (hk : cs.kind = .function)
  (I : WIs w T a0 v0 st) (S : WSep a0 v0 R) (hsp : st.due.length ≤ 1000) (hpos : ∀ q ∈ st.due, q.1 < q.2) (hdz : st.data.size ≤ 1000) (hmo : 0 < most) (hTR : ∀ p ∈ T, p ∈ R) (hdp : dp + 3 < recursionLimit) (hun : un + 300 < cLine)
  (ret0 : st.due = [] → ∀ h' tk', Fr h₀ L h' m → News h₀ L h' (wled w a0 v0 st R) → Q .none { s with heap := h', toks := tk' })
  (ret1 : ∀ lo hi rest, st.due = (lo, hi) :: rest → ∀ ra to tz n vd tl h' tk', Fr h₀ L h' m → News h₀ L h' (wled w a0 { v0 with vdue := vd } { st with due := cutL st.due lo (pmin hi (lo + most)) } (tl ++ R)) → Apart R tl →
    WIs w (tl ++ T) a0 { v0 with vdue := vd } { st with due := cutL st.due lo (pmin hi (lo + most)) } → WSep a0 v0 (tl ++ R) →
    (ra, ({ cls := .type "tuple", data := .seq [Value.int lo to, Value.bytes (KBy.picked st.data (some lo) (some (pmin hi (lo + most)))) tz].toArray n } : Obj)) ∈ tl ++ T → Q (.ref ra) { s with heap := h', toks := tk' }) :
  wpAny (model P0 w) (ktrTop dp un gd cn cs L a ccd cl outer) (call (.ref 156) [.ref a0.x, .int most t]) Q E s := by
  refine next_chunk_c (T := T) (due := st.due) B F X (x_front N) Tp hk (fun p hp => wrest_sub p (hTR p hp)) (x_dx S) (wrest_off S) I.hvd hsp hpos hdz hmo hdp hun ?_ ?_
  · intro he h' tk' F' N'
    refine ret0 he h' tk' F' ?_
    have := x_back (tl := []) (du := st.due) N'
    exact this
  · intro lo hi rest he r tl vd h' tk' F' N' hE hvd hr
    obtain ⟨ra, to, tz, n, rfl, hra⟩ := dat_row hr
    exact ret1 lo hi rest he ra to tz n vd tl h' tk' F' (x_back N') (apart_ext hE) (wis_due I hvd) (wsep_ext S hE) hra
theorem put_w {more : Array UInt8} {tm : Tok}
  (B : Below A₀ base outer h₀) (F : Fr h₀ L s.heap m) (X : (hd.heap_1 w.params).In h₀) (N : News h₀ L s.heap (wled w a0 v0 st R)) (Tp : Top p loose mean mg mb h₀) (hk : cs.kind = .function)
  (I : WIs w T a0 v0 st) (S : WSep a0 v0 R) (hsp : st.due.length ≤ 1000) (hdz : st.data.size ≤ 1000) (hmz : more.size ≤ 1000) (hTR : ∀ p ∈ T, p ∈ R) (hdp : dp + 3 < recursionLimit) (hun : un + 300 < cLine)
  (ret : ∀ vd td tl h' tk', Fr h₀ L h' m → News h₀ L h' (wled w a0 { v0 with vdue := vd, tdd := td } (putS st more) (tl ++ R)) → Apart R tl → DatIn (tl ++ T) vd (spD (putS st more).due) → WSep a0 v0 (tl ++ R) → Q .none { s with heap := h', toks := tk' }) :
  wpAny (model P0 w) (ktrTop dp un gd cn cs L a ccd cl outer) (call (.ref 149) [.ref a0.x, .bytes more tm]) Q E s := by
  refine put_c (T := T) (due := st.due) B F X (x_front N) Tp hk (fun p hp => wrest_sub p (hTR p hp)) (x_dx S) (wrest_off S) I.hvd hsp hdz hmz hdp hun ?_
  intro tl vd td h' tk' F' N' hE hvd
  exact ret vd td tl h' tk' F' (x_back0 N') (apart_ext hE) hvd (wsep_ext S hE)
end
end Mine

namespace Mine
section
variable {prog : Program} {w : World} {A : Around} {E : Value → Shared → Prop} {s : Shared} {h₀ : Heap} {L : Addr} {R : List (Addr × Obj)} {l b : Addr} {vs : List Value} {n k : Nat} {Q : Value → Shared → Prop}
theorem ne_nil_list (N : News h₀ L s.heap R) (hl : (l, W.listOf vs.toArray n) ∈ R) (hb : (b, W.listOf ([] : List Value).toArray k) ∈ R) (hu : A.units < cLine) (h : Q (.bool (!vs.isEmpty)) s) : wpAny (model prog w) A (compareOp .NotEq (.ref l) (.ref b)) Q E s := by
  show wpAny _ _ (richCompare .NotEq _ _) _ _ _
  cases vs with
  | nil => exact SeqAt.RcNeAt.lists (e := fun _ => true) (isList_of N hl) (isList_of N hb) rfl hu (fun j h1 _ => absurd h1 (Nat.not_lt_zero _)) prog w E Q h
  | cons v r => exact SeqAt.RcNeAt.lists_lengths (isList_of N hl) (isList_of N hb) (by simp) hu prog w E Q h
theorem eq_nil_list (N : News h₀ L s.heap R) (hl : (l, W.listOf vs.toArray n) ∈ R) (hb : (b, W.listOf ([] : List Value).toArray k) ∈ R) (hu : A.units < cLine) (h : Q (.bool vs.isEmpty) s) : wpAny (model prog w) A (compareOp .Eq (.ref l) (.ref b)) Q E s := by
  show wpAny _ _ (richCompare .Eq _ _) _ _ _
  cases vs with
  | nil => exact SeqAt.RcAt.lists (e := fun _ => true) (isList_of N hl) (isList_of N hb) rfl hu (fun j h1 _ => absurd h1 (Nat.not_lt_zero _)) prog w E Q h
  | cons v r => exact SeqAt.RcAt.lists_lengths (isList_of N hl) (isList_of N hb) (by simp) hu prog w E Q h
end
end Mine

namespace Mine
section
variable {w : World} {p : Program} {loose : List Str} {mean : ExcName → Option Value} {mg mb : Str → Option Value} {dp un : Nat} {gd : Option (List Code)} {cn : Str} {cs : Scope} {a : Addr} {ccd : Value} {cl : List (Str × Addr)} {outer : List Env} {A₀ : Around} {base h₀ : Heap} {L : Addr} {m : Str → Option Value} {R T : List (Addr × Obj)} {s : Shared} {v : Value} {Q E : Value → Shared → Prop}
end
namespace deed_again_k
noncomputable def St (w : World) (p : Program) (loose : List Str) (mean : ExcName → Option Value) (mg : Str → Option Value) (mb : Str → Option Value) (dp : Nat) (un : Nat) (gd : Option (List Code)) (cn : Str) (cs : Scope) (a : Addr) (ccd : Value) (cl : List (Str × Addr)) (outer : List Env) (A₀ : Around) (base : Heap) (h₀ : Heap) (L : Addr) (m : Str → Option Value) (R : List (Addr × Obj)) (T : List (Addr × Obj)) (s : Shared) (Q : Value → Shared → Prop) (E : Value → Shared → Prop) (a0 : WAdr) (v0 : WVal) (st : WSt) (tf : Tok) (tp : Tok) (tz : Tok) (r : Int × Array UInt8) (pick : Int) (size : Int) : Prop := ∀ (B : Below A₀ base outer h₀) (F : Fr h₀ L s.heap m) (X : (hd.heap_1 w.params).In h₀) (N : News h₀ L s.heap (wled w a0 v0 st R)) (Tp : Top p loose mean mg mb h₀) (hk : cs.kind = .function) (XB : (hd.heap_1 w.params).In base) (TB : Top p loose mean mg mb base) (D : KtsDicts (outer.filterMap (·.frame)) h₀) (I : WIs w T a0 v0 st) (S : WSep a0 v0 R) (hr : st.eld[(pick.fmod (st.eld.length : Int)).toNat]? = some r) (hp0 : 0 ≤ pick) (hp1 : pick ≤ 1000) (hel : st.eld.length ≤ 1000) (ok : ComeOk a0.lim1 a0.lim2 st r) (hTR : ∀ p ∈ T, p ∈ R) (hdp : dp + 10 < recursionLimit) (hun : un + 1000 < cLine) (ret : ∀ h₀' v' tl h' tk', Turned w A₀ base outer p loose mean mg mb h₀ h₀' → Fr h₀' L h' m → News h₀' L h' (wled w a0 v' (comeS a0.lim1 a0.lim2 st r) (tl ++ R)) → Apart R tl → WIs w (tl ++ T) a0 v' (comeS a0.lim1 a0.lim2 st r) → WSep a0 v' (tl ++ R) →
    Q (.bool true) { s with heap := h', toks := tk' }),
  wpAny (model P0 w) (ktrTop dp un gd cn cs L a ccd cl outer) (call (.ref 220) [.ref a0.wD, .int 7 tf, .int pick tp, .int size tz]) Q E s
noncomputable def S (c : CxF × ((((WAdr) × (WVal)) × ((WSt) × (Int × Array UInt8))))) : Prop := ∀ (pick : Int) (size : Int), St (cx_w (c.1).1) (cx_p (c.1).1) (cx_loose (c.1).1) (cx_mean (c.1).1) (cx_mg (c.1).1) (cx_mb (c.1).1) (cx_dp (c.1).1) (cx_un (c.1).1) (cx_gd (c.1).1) (cx_cn (c.1).1) (cx_cs (c.1).1) (cx_a (c.1).1) (cx_ccd (c.1).1) (cx_cl (c.1).1) (cx_outer (c.1).1) (cx_A₀ (c.1).1) (cx_base (c.1).1) (cx_h₀ (c.1).1) (cx_L (c.1).1) (cx_m (c.1).1) (cx_R (c.1).1) (cx_T (c.1).1) (cx_s (c.1).1) (cx_Q (c.1).1) (cx_E (c.1).1) (c.2.1.1) (c.2.1.2) (c.2.2.1) (cx_tok c.1 0) (cx_tok c.1 1) (cx_tok c.1 2) (c.2.2.2) pick size
noncomputable def kx9 : CxF × ((((WAdr) × (WVal)) × ((WSt) × (Int × Array UInt8)))) := @Classical.epsilon (CxF × ((((WAdr) × (WVal)) × ((WSt) × (Int × Array UInt8))))) (ne_cxf.elim fun b => ⟨(b, ((wadr0, wval0), (wst0, default)))⟩) fun c => ¬ S c
set_option maxRecDepth 100000 in
set_option maxHeartbeats 8000000 in
theorem walk : S kx9 := by
  show ∀ (pick : Int) (size : Int), St (cx_w (kx9.1).1) (cx_p (kx9.1).1) (cx_loose (kx9.1).1) (cx_mean (kx9.1).1) (cx_mg (kx9.1).1) (cx_mb (kx9.1).1) (cx_dp (kx9.1).1) (cx_un (kx9.1).1) (cx_gd (kx9.1).1) (cx_cn (kx9.1).1) (cx_cs (kx9.1).1) (cx_a (kx9.1).1) (cx_ccd (kx9.1).1) (cx_cl (kx9.1).1) (cx_outer (kx9.1).1) (cx_A₀ (kx9.1).1) (cx_base (kx9.1).1) (cx_h₀ (kx9.1).1) (cx_L (kx9.1).1) (cx_m (kx9.1).1) (cx_R (kx9.1).1) (cx_T (kx9.1).1) (cx_s (kx9.1).1) (cx_Q (kx9.1).1) (cx_E (kx9.1).1) (kx9.2.1.1) (kx9.2.1.2) (kx9.2.2.1) (cx_tok kx9.1 0) (cx_tok kx9.1 1) (cx_tok kx9.1 2) (kx9.2.2.2) pick size
  generalize (cx_w (kx9.1).1) = w, (cx_p (kx9.1).1) = p, (cx_loose (kx9.1).1) = loose, (cx_mean (kx9.1).1) = mean, (cx_mg (kx9.1).1) = mg, (cx_mb (kx9.1).1) = mb, (cx_dp (kx9.1).1) = dp, (cx_un (kx9.1).1) = un, (cx_gd (kx9.1).1) = gd, (cx_cn (kx9.1).1) = cn, (cx_cs (kx9.1).1) = cs, (cx_a (kx9.1).1) = a, (cx_ccd (kx9.1).1) = ccd, (cx_cl (kx9.1).1) = cl, (cx_outer (kx9.1).1) = outer, (cx_A₀ (kx9.1).1) = A₀, (cx_base (kx9.1).1) = base, (cx_h₀ (kx9.1).1) = h₀, (cx_L (kx9.1).1) = L, (cx_m (kx9.1).1) = m, (cx_R (kx9.1).1) = R, (cx_T (kx9.1).1) = T, (cx_s (kx9.1).1) = s, (cx_Q (kx9.1).1) = Q, (cx_E (kx9.1).1) = E, (kx9.2.1.1) = a0, (kx9.2.1.2) = v0, (kx9.2.2.1) = st, (cx_tok kx9.1 0) = tf, (cx_tok kx9.1 1) = tp, (cx_tok kx9.1 2) = tz, (kx9.2.2.2) = r
  intro pick size
  delta St
  intro B F X N Tp hk XB TB D I S hr hp0 hp1 hel ok hTR hdp hun ret
  have hne : st.eld ≠ [] := fun e => by rw [e] at hr; simp at hr
  obtain ⟨hW, hE1, hE2, hle, hlb, hvd, hva, hvk, hvl, hfl, hw1, hw2⟩ := id I
  unfold pcsD at hvl
  obtain ⟨le, lvs, ln, hvle, hlm, hlall⟩ := dat_list hvl
  rw [hvle] at hW
  have hll : lvs.length = st.eld.length := by rw [hlall.length, List.length_map]
  unfold wled at N
  refine wpAny_call ?_
  k_dflt (walk_at "mine enterSC")
  rename (∀ p ∈ (a0.wD, v0.oW) :: _, _) => l1
  obtain ⟨Lq, rfl⟩ := ex_eq l1
  k_steps
  rename News _ _ _ _ => N1
  unfold Held
  refine ne_nil_list (k := 0) N1 (.tail _ (.tail _ (mem10 (hTR _ hlm)))) (.head _) (by walk_at "mine room") ?_
  rw [show (!lvs.isEmpty) = true by cases lvs with | nil => exact absurd hll.symm (by simpa using hne) | cons _ _ => rfl]
  replace N1 := news_plus (news_drop1 N1) (.tail _ (mem10 (hTR _ hlm)))
  have hlp : 0 < (lvs.length : Int) := by rw [hll]; have := List.length_pos_iff.mpr hne; lia
  have q0 := fmod_lo0 (x := pick) hlp
  have q1 := fmod_hi0 (x := pick) hlp
  rw [← hll] at hr
  generalize hix : pick.fmod (lvs.length : Int) = ix at q0 q1 hr
  have hlvs : lvs.length ≤ 1000 := by rw [hll]; exact hel
  walk_at "mine steps"
  rename DatIn _ _ _ => hDD
  rename _ = some _ => hkk
  rw [hix, List.getElem?_map, hr] at hkk
  obtain rfl := Option.some.inj hkk
  obtain ⟨ra, t8, t9, n8, rfl, hra⟩ := dat_row hDD
  rename Fr _ _ _ _ => F2
  replace N1 := news_sub N1 (R' := wled w a0 v0 st R) fun p hp => .tail _ (.tail _ hp)
  unfold Held
  k_dflt (refine' law_come_w (T := T) (st := st) ?B ?F ?X N1 ?Tp rfl XB TB ?D I S hra ok hTR ?hd ?hu ?_)
  case B => k_asm
  case F => k_asm
  case X => k_asm
  case Tp => k_asm
  case D => assumption
  case hd => walk_at "mine room"
  case hu => walk_at "mine room"
  intro g5 v5 tl5 h5 tk5 tr F5 N5 A5 I5 S5
  clear N1
  obtain ⟨T5, B5, X5, P5, D5⟩ := tr
  generalize hZ5 : wled w a0 v5 (comeS a0.lim1 a0.lim2 st r) (tl5 ++ R) = Z5 at N5
  k_steps
  rename Fr _ _ _ _ => kF
  rename News _ _ _ _ => kN
  rename KtsTurn _ _ _ => kT
  rename Below _ _ _ _ => kB
  rename Frag.In _ _ => kX
  rename Top _ _ _ _ _ _ => kP
  rename KtsDicts _ _ => kD
  subst hZ5
  exact ret _ v5 tl5 _ _ ⟨kT, kB, kX, kP, kD⟩ kF kN A5 I5 S5
end deed_again_k
section
variable {w : World} {p : Program} {loose : List Str} {mean : ExcName → Option Value} {mg mb : Str → Option Value} {dp un : Nat} {gd : Option (List Code)} {cn : Str} {cs : Scope} {a : Addr} {ccd : Value} {cl : List (Str × Addr)} {outer : List Env} {A₀ : Around} {base h₀ : Heap} {L : Addr} {m : Str → Option Value} {R T : List (Addr × Obj)} {s : Shared} {v : Value} {Q E : Value → Shared → Prop}
theorem deed_again {a0 : WAdr} {v0 : WVal} {st : WSt} {tf tp tz : Tok} {pick size : Int} {r : Int × Array UInt8} :
  deed_again_k.St w p loose mean mg mb dp un gd cn cs a ccd cl outer A₀ base h₀ L m R T s Q E a0 v0 st tf tp tz r pick size := all_eps (S := deed_again_k.S) deed_again_k.walk (((w, p, loose, mean, mg, mb, dp, un, gd, cn, cs, a, ccd, cl, outer, A₀, base, h₀, L, m, R, T, s, (cx_v cx0), Q, E), fn [tf, tp, tz] default, fn [] default, fn [] default, fn [] default, fn [] [], fn [] #[], fn [] []), ((a0, v0), (st, r))) pick size
end
end Mine

end
namespace Mine
section
variable {w : World} {p : Program} {loose : List Str} {mean : ExcName → Option Value} {mg mb : Str → Option Value} {dp un : Nat} {gd : Option (List Code)} {cn : Str} {cs : Scope} {a : Addr} {ccd : Value} {cl : List (Str × Addr)} {outer : List Env} {A₀ : Around} {base h₀ : Heap} {L : Addr} {m : Str → Option Value} {R T : List (Addr × Obj)} {s : Shared} {v : Value} {Q E : Value → Shared → Prop}
end
namespace deed_idle_k
noncomputable def St (w : World) (p : Program) (loose : List Str) (mean : ExcName → Option Value) (mg : Str → Option Value) (mb : Str → Option Value) (dp : Nat) (un : Nat) (gd : Option (List Code)) (cn : Str) (cs : Scope) (a : Addr) (ccd : Value) (cl : List (Str × Addr)) (outer : List Env) (A₀ : Around) (base : Heap) (h₀ : Heap) (L : Addr) (m : Str → Option Value) (R : List (Addr × Obj)) (T : List (Addr × Obj)) (s : Shared) (Q : Value → Shared → Prop) (E : Value → Shared → Prop) (a0 : WAdr) (v0 : WVal) (st : WSt) (tf : Tok) (tp : Tok) (tz : Tok) (form : Int) (pick : Int) (size : Int) : Prop := ∀ (B : Below A₀ base outer h₀) (F : Fr h₀ L s.heap m) (X : (hd.heap_1 w.params).In h₀) (N : News h₀ L s.heap (wled w a0 v0 st R)) (Tp : Top p loose mean mg mb h₀) (hk : cs.kind = .function) (XB : (hd.heap_1 w.params).In base) (TB : Top p loose mean mg mb base) (D : KtsDicts (outer.filterMap (·.frame)) h₀) (I : WIs w T a0 v0 st) (hf4 : 4 ≤ form) (hf7 : form = 7 → st.eld = []) (hfl0 : st.fly = []) (hTR : ∀ p ∈ T, p ∈ R) (hdp : dp + 10 < recursionLimit) (hun : un + 1000 < cLine) (ret : ∀ h' tk', Fr h₀ L h' m → News h₀ L h' (wled w a0 v0 st R) → Q (.bool true) { s with heap := h', toks := tk' }),
  wpAny (model P0 w) (ktrTop dp un gd cn cs L a ccd cl outer) (call (.ref 220) [.ref a0.wD, .int form tf, .int pick tp, .int size tz]) Q E s
noncomputable def S (c : CxF × ((((WAdr) × (WVal)) × (WSt)))) : Prop := ∀ (form : Int) (pick : Int) (size : Int), St (cx_w (c.1).1) (cx_p (c.1).1) (cx_loose (c.1).1) (cx_mean (c.1).1) (cx_mg (c.1).1) (cx_mb (c.1).1) (cx_dp (c.1).1) (cx_un (c.1).1) (cx_gd (c.1).1) (cx_cn (c.1).1) (cx_cs (c.1).1) (cx_a (c.1).1) (cx_ccd (c.1).1) (cx_cl (c.1).1) (cx_outer (c.1).1) (cx_A₀ (c.1).1) (cx_base (c.1).1) (cx_h₀ (c.1).1) (cx_L (c.1).1) (cx_m (c.1).1) (cx_R (c.1).1) (cx_T (c.1).1) (cx_s (c.1).1) (cx_Q (c.1).1) (cx_E (c.1).1) (c.2.1.1) (c.2.1.2) (c.2.2) (cx_tok c.1 0) (cx_tok c.1 1) (cx_tok c.1 2) form pick size
noncomputable def kx9 : CxF × ((((WAdr) × (WVal)) × (WSt))) := @Classical.epsilon (CxF × ((((WAdr) × (WVal)) × (WSt)))) (ne_cxf.elim fun b => ⟨(b, ((wadr0, wval0), wst0))⟩) fun c => ¬ S c
set_option maxRecDepth 100000 in
set_option maxHeartbeats 8000000 in
theorem walk : S kx9 := by
  show ∀ (form : Int) (pick : Int) (size : Int), St (cx_w (kx9.1).1) (cx_p (kx9.1).1) (cx_loose (kx9.1).1) (cx_mean (kx9.1).1) (cx_mg (kx9.1).1) (cx_mb (kx9.1).1) (cx_dp (kx9.1).1) (cx_un (kx9.1).1) (cx_gd (kx9.1).1) (cx_cn (kx9.1).1) (cx_cs (kx9.1).1) (cx_a (kx9.1).1) (cx_ccd (kx9.1).1) (cx_cl (kx9.1).1) (cx_outer (kx9.1).1) (cx_A₀ (kx9.1).1) (cx_base (kx9.1).1) (cx_h₀ (kx9.1).1) (cx_L (kx9.1).1) (cx_m (kx9.1).1) (cx_R (kx9.1).1) (cx_T (kx9.1).1) (cx_s (kx9.1).1) (cx_Q (kx9.1).1) (cx_E (kx9.1).1) (kx9.2.1.1) (kx9.2.1.2) (kx9.2.2) (cx_tok kx9.1 0) (cx_tok kx9.1 1) (cx_tok kx9.1 2) form pick size
  generalize (cx_w (kx9.1).1) = w, (cx_p (kx9.1).1) = p, (cx_loose (kx9.1).1) = loose, (cx_mean (kx9.1).1) = mean, (cx_mg (kx9.1).1) = mg, (cx_mb (kx9.1).1) = mb, (cx_dp (kx9.1).1) = dp, (cx_un (kx9.1).1) = un, (cx_gd (kx9.1).1) = gd, (cx_cn (kx9.1).1) = cn, (cx_cs (kx9.1).1) = cs, (cx_a (kx9.1).1) = a, (cx_ccd (kx9.1).1) = ccd, (cx_cl (kx9.1).1) = cl, (cx_outer (kx9.1).1) = outer, (cx_A₀ (kx9.1).1) = A₀, (cx_base (kx9.1).1) = base, (cx_h₀ (kx9.1).1) = h₀, (cx_L (kx9.1).1) = L, (cx_m (kx9.1).1) = m, (cx_R (kx9.1).1) = R, (cx_T (kx9.1).1) = T, (cx_s (kx9.1).1) = s, (cx_Q (kx9.1).1) = Q, (cx_E (kx9.1).1) = E, (kx9.2.1.1) = a0, (kx9.2.1.2) = v0, (kx9.2.2) = st, (cx_tok kx9.1 0) = tf, (cx_tok kx9.1 1) = tp, (cx_tok kx9.1 2) = tz
  intro form pick size
  delta St
  intro B F X N Tp hk XB TB D I hf4 hf7 hfl0 hTR hdp hun ret
  obtain ⟨hW, hE1, hE2, hle, hlb, hvd, hva, hvk, hvl, hfl, hw1, hw2⟩ := id I
  unfold pcsD at hvl
  obtain ⟨le, lvs, ln, hvle, hlm, hlall⟩ := dat_list hvl
  rw [hvle] at hW
  have hll : lvs.length = st.eld.length := by rw [hlall.length, List.length_map]
  have hfe : v0.fs = [] := by
    have := hfl.length
    rw [hfl0] at this
    exact List.length_eq_zero_iff.mp (by simpa using this)
  unfold wled at N
  refine wpAny_call ?_
  k_dflt (walk_at "mine enterSC")
  have g1 : ¬ form < 1 := by lia
  have g4 : ¬ form < 4 := by lia
  by_cases h7 : form = 7
  · subst h7
    have hl0 : lvs = [] := List.length_eq_zero_iff.mp (by rw [hll, hf7 rfl]; rfl)
    k_steps
    rename News _ _ _ _ => N1
    unfold Held
    refine ne_nil_list (vs := lvs) (n := ln) (k := 0) N1 (.tail _ (.tail _ (mem10 (hTR _ hlm)))) (.head _) (by walk_at "mine room") ?_
    rw [show (!lvs.isEmpty) = false by rw [hl0]; rfl]
    replace N1 := news_drop1 N1
    k_steps
    rename News _ _ _ _ => N2
    unfold Held
    refine eq_nil_list (vs := v0.fs) (n := v0.nf) (k := 0) N2 (.tail _ (.tail _ (mem9 (.head _)))) (.head _) (by walk_at "mine room") ?_
    rw [show (v0.fs.isEmpty) = true by rw [hfe]; rfl]
    replace N2 := news_drop1 N2
    k_steps
    rename Fr _ _ _ _ => kF
    rename News _ _ _ _ => kN
    exact ret _ _ kF fun p hp => kN p (.tail _ hp)
  · k_steps
    all_goals (try exact absurd (by assumption) h7)
    rename News _ _ _ _ => N2
    unfold Held
    refine eq_nil_list (vs := v0.fs) (n := v0.nf) (k := 0) N2 (.tail _ (.tail _ (mem9 (.head _)))) (.head _) (by walk_at "mine room") ?_
    rw [show (v0.fs.isEmpty) = true by rw [hfe]; rfl]
    replace N2 := news_drop1 N2
    k_steps
    rename Fr _ _ _ _ => kF
    rename News _ _ _ _ => kN
    exact ret _ _ kF fun p hp => kN p (.tail _ hp)
end deed_idle_k
section
variable {w : World} {p : Program} {loose : List Str} {mean : ExcName → Option Value} {mg mb : Str → Option Value} {dp un : Nat} {gd : Option (List Code)} {cn : Str} {cs : Scope} {a : Addr} {ccd : Value} {cl : List (Str × Addr)} {outer : List Env} {A₀ : Around} {base h₀ : Heap} {L : Addr} {m : Str → Option Value} {R T : List (Addr × Obj)} {s : Shared} {v : Value} {Q E : Value → Shared → Prop}
theorem deed_idle {a0 : WAdr} {v0 : WVal} {st : WSt} {tf tp tz : Tok} {form pick size : Int} :
  deed_idle_k.St w p loose mean mg mb dp un gd cn cs a ccd cl outer A₀ base h₀ L m R T s Q E a0 v0 st tf tp tz form pick size := all_eps (S := deed_idle_k.S) deed_idle_k.walk (((w, p, loose, mean, mg, mb, dp, un, gd, cn, cs, a, ccd, cl, outer, A₀, base, h₀, L, m, R, T, s, (cx_v cx0), Q, E), fn [tf, tp, tz] default, fn [] default, fn [] default, fn [] default, fn [] [], fn [] #[], fn [] []), ((a0, v0), st)) form pick size
end
end Mine

section
local macro_rules | `(tactic| intro $x:ident $xs:ident*) => `(tactic| intros $x:ident $xs*)
namespace Mine
section
variable {w : World} {p : Program} {loose : List Str} {mean : ExcName → Option Value} {mg mb : Str → Option Value} {dp un : Nat} {gd : Option (List Code)} {cn : Str} {cs : Scope} {a : Addr} {ccd : Value} {cl : List (Str × Addr)} {outer : List Env} {A₀ : Around} {base h₀ : Heap} {L : Addr} {m : Str → Option Value} {R T : List (Addr × Obj)} {s : Shared} {v : Value} {Q E : Value → Shared → Prop}
theorem kl_cut_at : ∀ {l : List Value} {k : Nat} {y : Value}, l[k]? = some y → ∃ p q, kl_cut l k = some (p, y, q) ∧ l.eraseIdx k = p ++ q
  | [], _, _, h => by simp at h
  | x :: r, 0, y, h => by
    obtain rfl : x = y := by simpa using h
    exact ⟨[], r, rfl, rfl⟩
  | x :: r, k + 1, y, h => by
    obtain ⟨p, q, e, e2⟩ := kl_cut_at (l := r) (k := k) (y := y) (by simpa using h)
    refine ⟨x :: p, q, ?_, ?_⟩
    · unfold kl_cut; rw [e]
    · show x :: r.eraseIdx k = x :: (p ++ q); rw [e2]
theorem pop_led {D : Addr} {vs : List Value} {n : Nat} {i : Int} {u : Tok} {y : Value} {news news' : List (Addr × Obj)} {A : Around} {Q : Value → Shared → Prop} (F : Fr h₀ L s.heap m) (N : News h₀ L s.heap news) (hi0 : 0 ≤ i) (hv : vs[i.toNat]? = some y) (hz : vs.length ≤ 1000)
    (U : Upd D (W.listOf vs.toArray n) (W.listOf (vs.eraseIdx i.toNat).toArray (n + 1)) news news') (h : ∀ h', Fr h₀ L h' m → News h₀ L h' news' → Q y { s with heap := h' }) : wpAny (model P0 w) A (call (.builtin "list.pop") [.ref D, .int i u]) Q E s := by
  obtain ⟨p, q, e, e2⟩ := kl_cut_at hv
  have hlt : i.toNat < vs.length := by
    cases Nat.lt_or_ge i.toNat vs.length with
    | inl h => exact h
    | inr h => rw [List.getElem?_eq_none h] at hv; cases hv
  rw [e2] at U
  refine kl_popAt (k := i.toNat) F N ?_ ?_ e U (Nat.le_trans hz (by rw [sizeLine_eq]; exact Nat.le_of_ble_eq_true (by with_unfolding_all rfl))) h
  · unfold Builtin.List.listFitsIndex
    rw [Bool.and_eq_true, decide_eq_true_iff, decide_eq_true_iff]
    lia
  · have hn : ¬ i < 0 := by lia
    have hb : (decide (0 ≤ i) && decide (i < (vs.length : Int))) = true := by
      rw [Bool.and_eq_true, decide_eq_true_iff, decide_eq_true_iff]
      lia
    simp only [seqIndex?, hn, if_false, List.size_toArray, hb, if_true]
theorem upd_lf {a0 : WAdr} {v0 : WVal} {n : Nat} {oc : Obj} {o1 o2 : Obj} {b1 b2 b3 b4 b5 b6 b7 b8 b9 : Obj} (hlt : @LT.lt Nat _ v0.lf n) (h9 : ∀ c ∈ nine a0, @Ne Nat v0.lf c) (hR : OwnOff R [v0.lf]) :
    Upd v0.lf o1 o2 ((n + 1, oc) :: (a0.wD, b1) :: (a0.x, b2) :: (a0.dx, b3) :: (a0.e1, b4) :: (a0.x1, b5) :: (a0.d1, b6) :: (a0.e2, b7) :: (a0.x2, b8) :: (a0.d2, b9) :: (v0.lf, o1) :: R)
      ((n + 1, oc) :: (a0.wD, b1) :: (a0.x, b2) :: (a0.dx, b3) :: (a0.e1, b4) :: (a0.x1, b5) :: (a0.d1, b6) :: (a0.e2, b7) :: (a0.x2, b8) :: (a0.d2, b9) :: (v0.lf, o2) :: R) := by
  unfold nine at h9
  refine .tail (cell_ne hlt) (.tail (Ne.symm (h9 _ (.head _))) (.tail (Ne.symm (h9 _ (.tail _ (.head _)))) (.tail (Ne.symm (h9 _ (.tail _ (.tail _ (.head _))))) (.tail (Ne.symm (h9 _ (.tail _ (.tail _ (.tail _ (.head _)))))) (.tail (Ne.symm (h9 _ (.tail _ (.tail _ (.tail _ (.tail _ (.head _))))))) (.tail (Ne.symm (h9 _ (.tail _ (.tail _ (.tail _ (.tail _ (.tail _ (.head _)))))))) (.tail (Ne.symm (h9 _ (.tail _ (.tail _ (.tail _ (.tail _ (.tail _ (.tail _ (.head _))))))))) (.tail (Ne.symm (h9 _ (.tail _ (.tail _ (.tail _ (.tail _ (.tail _ (.tail _ (.tail _ (.head _)))))))))) (.tail (Ne.symm (h9 _ (.tail _ (.tail _ (.tail _ (.tail _ (.tail _ (.tail _ (.tail _ (.tail _ (.head _))))))))))) (.head fun p hp => ?_))))))))))
  exact hR p hp _ (.head _)
theorem map_erase {α β : Type} (f : α → β) : ∀ (l : List α) (k : Nat), (l.eraseIdx k).map f = (l.map f).eraseIdx k
  | [], _ => rfl
  | _ :: _, 0 => rfl
  | x :: r, k + 1 => by
    show f x :: (r.eraseIdx k).map f = f x :: (r.map f).eraseIdx k
    rw [map_erase f r k]
theorem news_xdx {h : Heap} {c w x dx : Addr × Obj} {Z : List (Addr × Obj)} (N : News h₀ L h (c :: w :: x :: dx :: Z)) : News h₀ L h (x :: dx :: c :: w :: Z) := fun p hp => N p (sub_ix [c, w, x, dx] [2, 3, 0, 1] p hp)
theorem news_lostback {h : Heap} {c w x dx a1 a2 a3 a4 a5 a6 f : Addr × Obj} {tl : List (Addr × Obj)} (N : News h₀ L h (x :: dx :: (tl ++ (c :: w :: a1 :: a2 :: a3 :: a4 :: a5 :: a6 :: f :: R)))) : News h₀ L h (w :: x :: dx :: a1 :: a2 :: a3 :: a4 :: a5 :: a6 :: f :: (tl ++ R)) := fun p hp => N p (sub_bl [[x, dx], tl, [c], [w], [a1, a2, a3, a4, a5, a6, f], R] [3, 0, 4, 1, 5] p hp)
theorem all_erase : ∀ {vs : List Value} {ds : List Dat} (k : Nat), DatAll T vs ds → DatAll T (vs.eraseIdx k) (ds.eraseIdx k)
  | _, _, _, .nil => by simpa using DatAll.nil
  | _, _, 0, .cons _ r => r
  | _, _, k + 1, .cons h r => .cons h (all_erase k r)
end
namespace deed_pop_k
noncomputable def St (w : World) (p : Program) (loose : List Str) (mean : ExcName → Option Value) (mg : Str → Option Value) (mb : Str → Option Value) (dp : Nat) (un : Nat) (gd : Option (List Code)) (cn : Str) (cs : Scope) (a : Addr) (ccd : Value) (cl : List (Str × Addr)) (outer : List Env) (A₀ : Around) (base : Heap) (h₀ : Heap) (L : Addr) (m : Str → Option Value) (R : List (Addr × Obj)) (T : List (Addr × Obj)) (s : Shared) (Q : Value → Shared → Prop) (E : Value → Shared → Prop) (a0 : WAdr) (v0 : WVal) (st : WSt) (tf : Tok) (tp : Tok) (tz : Tok) (r : Int × Array UInt8) (form : Int) (pick : Int) (size : Int) : Prop := ∀ (B : Below A₀ base outer h₀) (F : Fr h₀ L s.heap m) (X : (hd.heap_1 w.params).In h₀) (N : News h₀ L s.heap (wled w a0 v0 st R)) (Tp : Top p loose mean mg mb h₀) (hk : cs.kind = .function) (XB : (hd.heap_1 w.params).In base) (TB : Top p loose mean mg mb base) (D : KtsDicts (outer.filterMap (·.frame)) h₀) (I : WIs w T a0 v0 st) (S : WSep a0 v0 R) (hf4 : 4 ≤ form) (h7 : form ≠ 7) (hr : st.fly[(pick.fmod (st.fly.length : Int)).toNat]? = some r) (hp0 : 0 ≤ pick) (hp1 : pick ≤ 1000) (hel : st.fly.length ≤ 1000) (ok : form < 6 → ComeOk a0.lim1 a0.lim2 { st with fly := st.fly.eraseIdx (pick.fmod (st.fly.length : Int)).toNat } r) (okl : 6 ≤ form → LostOk st r) (hTR : ∀ p ∈ T, p ∈ R) (hdp : dp + 10 < recursionLimit) (hun : un + 1000 < cLine) (ret : form < 6 → ∀ h₀' v' tl h' tk', Turned w A₀ base outer p loose mean mg mb h₀ h₀' → Fr h₀' L h' m → News h₀' L h' (wled w a0 v' (comeS a0.lim1 a0.lim2 { st with fly := st.fly.eraseIdx (pick.fmod (st.fly.length : Int)).toNat } r) (tl ++ R)) → Apart R tl → WIs w (tl ++ T) a0 v' (comeS a0.lim1 a0.lim2 { st with fly := st.fly.eraseIdx (pick.fmod (st.fly.length : Int)).toNat } r) → WSep a0 v' (tl ++ R) →
    Q (.bool true) { s with heap := h', toks := tk' }) (ret2 : 6 ≤ form → ∀ v' tl h' tk', Fr h₀ L h' m → News h₀ L h' (wled w a0 v' (lostS { st with fly := st.fly.eraseIdx (pick.fmod (st.fly.length : Int)).toNat } r) (tl ++ R)) → Apart R tl → WIs w (tl ++ T) a0 v' (lostS { st with fly := st.fly.eraseIdx (pick.fmod (st.fly.length : Int)).toNat } r) → WSep a0 v' (tl ++ R) →
    Q (.bool true) { s with heap := h', toks := tk' }),
  wpAny (model P0 w) (ktrTop dp un gd cn cs L a ccd cl outer) (call (.ref 220) [.ref a0.wD, .int form tf, .int pick tp, .int size tz]) Q E s
noncomputable def S (c : CxF × ((((WAdr) × (WVal)) × ((WSt) × (Int × Array UInt8))))) : Prop := ∀ (form : Int) (pick : Int) (size : Int), St (cx_w (c.1).1) (cx_p (c.1).1) (cx_loose (c.1).1) (cx_mean (c.1).1) (cx_mg (c.1).1) (cx_mb (c.1).1) (cx_dp (c.1).1) (cx_un (c.1).1) (cx_gd (c.1).1) (cx_cn (c.1).1) (cx_cs (c.1).1) (cx_a (c.1).1) (cx_ccd (c.1).1) (cx_cl (c.1).1) (cx_outer (c.1).1) (cx_A₀ (c.1).1) (cx_base (c.1).1) (cx_h₀ (c.1).1) (cx_L (c.1).1) (cx_m (c.1).1) (cx_R (c.1).1) (cx_T (c.1).1) (cx_s (c.1).1) (cx_Q (c.1).1) (cx_E (c.1).1) (c.2.1.1) (c.2.1.2) (c.2.2.1) (cx_tok c.1 0) (cx_tok c.1 1) (cx_tok c.1 2) (c.2.2.2) form pick size
noncomputable def kx9 : CxF × ((((WAdr) × (WVal)) × ((WSt) × (Int × Array UInt8)))) := @Classical.epsilon (CxF × ((((WAdr) × (WVal)) × ((WSt) × (Int × Array UInt8))))) (ne_cxf.elim fun b => ⟨(b, ((wadr0, wval0), (wst0, default)))⟩) fun c => ¬ S c
set_option maxRecDepth 100000 in
set_option maxHeartbeats 8000000 in
theorem walk : S kx9 := by
  show ∀ (form : Int) (pick : Int) (size : Int), St (cx_w (kx9.1).1) (cx_p (kx9.1).1) (cx_loose (kx9.1).1) (cx_mean (kx9.1).1) (cx_mg (kx9.1).1) (cx_mb (kx9.1).1) (cx_dp (kx9.1).1) (cx_un (kx9.1).1) (cx_gd (kx9.1).1) (cx_cn (kx9.1).1) (cx_cs (kx9.1).1) (cx_a (kx9.1).1) (cx_ccd (kx9.1).1) (cx_cl (kx9.1).1) (cx_outer (kx9.1).1) (cx_A₀ (kx9.1).1) (cx_base (kx9.1).1) (cx_h₀ (kx9.1).1) (cx_L (kx9.1).1) (cx_m (kx9.1).1) (cx_R (kx9.1).1) (cx_T (kx9.1).1) (cx_s (kx9.1).1) (cx_Q (kx9.1).1) (cx_E (kx9.1).1) (kx9.2.1.1) (kx9.2.1.2) (kx9.2.2.1) (cx_tok kx9.1 0) (cx_tok kx9.1 1) (cx_tok kx9.1 2) (kx9.2.2.2) form pick size
  generalize (cx_w (kx9.1).1) = w, (cx_p (kx9.1).1) = p, (cx_loose (kx9.1).1) = loose, (cx_mean (kx9.1).1) = mean, (cx_mg (kx9.1).1) = mg, (cx_mb (kx9.1).1) = mb, (cx_dp (kx9.1).1) = dp, (cx_un (kx9.1).1) = un, (cx_gd (kx9.1).1) = gd, (cx_cn (kx9.1).1) = cn, (cx_cs (kx9.1).1) = cs, (cx_a (kx9.1).1) = a, (cx_ccd (kx9.1).1) = ccd, (cx_cl (kx9.1).1) = cl, (cx_outer (kx9.1).1) = outer, (cx_A₀ (kx9.1).1) = A₀, (cx_base (kx9.1).1) = base, (cx_h₀ (kx9.1).1) = h₀, (cx_L (kx9.1).1) = L, (cx_m (kx9.1).1) = m, (cx_R (kx9.1).1) = R, (cx_T (kx9.1).1) = T, (cx_s (kx9.1).1) = s, (cx_Q (kx9.1).1) = Q, (cx_E (kx9.1).1) = E, (kx9.2.1.1) = a0, (kx9.2.1.2) = v0, (kx9.2.2.1) = st, (cx_tok kx9.1 0) = tf, (cx_tok kx9.1 1) = tp, (cx_tok kx9.1 2) = tz, (kx9.2.2.2) = r
  intro form pick size
  delta St
  intro B F X N Tp hk XB TB D I S hf4 h7 hr hp0 hp1 hel ok okl hTR hdp hun ret ret2
  obtain ⟨hW, hE1, hE2, hle, hlb, hvd, hva, hvk, hvl, hfl, hw1, hw2⟩ := id I
  have hll : v0.fs.length = st.fly.length := by rw [hfl.length, List.length_map]
  have hne : st.fly ≠ [] := fun e => by rw [e] at hr; simp at hr
  have hlp : 0 < (v0.fs.length : Int) := by rw [hll]; have := List.length_pos_iff.mpr hne; lia
  unfold wled at N
  refine wpAny_call ?_
  k_dflt (walk_at "mine enterSC")
  rename (∀ p ∈ (a0.wD, v0.oW) :: _, _) => l1
  obtain ⟨Lq, rfl⟩ := ex_eq l1
  have g1 : ¬ form < 1 := by lia
  have g4 : ¬ form < 4 := by lia
  k_steps
  all_goals (try exact absurd (by assumption) h7)
  rename News _ _ _ _ => N2
  unfold Held
  refine eq_nil_list (vs := v0.fs) (n := v0.nf) (k := 0) N2 (.tail _ (.tail _ (mem9 (.head _)))) (.head _) (by walk_at "mine room") ?_
  rw [show (v0.fs.isEmpty) = false by cases hq : v0.fs with | nil => rw [hq] at hlp; exact absurd hlp (by simp) | cons _ _ => rfl]
  replace N2 := news_drop1 N2
  have q0 := fmod_lo0 (x := pick) hlp
  have q1 := fmod_hi0 (x := pick) hlp
  rw [← hll] at hr ok ret ret2
  have hlvs : v0.fs.length ≤ 1000 := by rw [hll]; exact hel
  k_steps
  have hkl : (pick.fmod (v0.fs.length : Int)).toNat < (st.fly.map pcD).length := by rw [List.length_map, ← hll]; lia
  obtain ⟨v, hv, hD⟩ := hfl.get hkl
  have hD' : DatIn T v (pcD r) := by
    have e : (st.fly.map pcD)[(pick.fmod (v0.fs.length : Int)).toNat]'hkl = pcD r := by
      have := List.getElem?_eq_getElem hkl
      rw [List.getElem?_map, hr] at this
      exact (Option.some.inj this).symm
    rw [← e]; exact hD
  obtain ⟨ra, t8, t9, n8, rfl, hra⟩ := dat_row hD'
  have hfl2 := all_erase (pick.fmod (v0.fs.length : Int)).toNat hfl
  rw [← map_erase] at hfl2
  generalize hix : pick.fmod (v0.fs.length : Int) = ix at *
  rename Fr _ _ _ _ => F2
  rename News _ _ _ _ => N3
  refine pop_led F2 N3 q0 hv hlvs (upd_lf (l1 _ (mem9 (.head _))) S.lf9 S.hOf) ?zf14
  case' zf14 => intro h4 F4 N4
  clear F2 N3
  have I2 : WIs w T a0 { v0 with fs := v0.fs.eraseIdx ix.toNat, nf := v0.nf + 1 } { st with fly := st.fly.eraseIdx ix.toNat } := ⟨hW, hE1, hE2, hle, hlb, hvd, hva, hvk, hvl, hfl2, hw1, hw2⟩
  have S2 : WSep a0 { v0 with fs := v0.fs.eraseIdx ix.toNat, nf := v0.nf + 1 } R := ⟨S.nd, S.lf9, S.hO, S.hOf⟩
  by_cases h6 : form < 6
  · k_steps
    rename Fr _ _ _ _ => F5
    rename News _ _ _ _ => N5
    replace N5 := news_sub N5 (R' := wled w a0 { v0 with fs := v0.fs.eraseIdx ix.toNat, nf := v0.nf + 1 } { st with fly := st.fly.eraseIdx ix.toNat } R) fun p hp => .tail _ hp
    unfold Held
    k_dflt (refine' law_come_w (T := T) (st := { st with fly := st.fly.eraseIdx ix.toNat }) ?B ?F ?X N5 ?Tp rfl XB TB ?D I2 S2 hra (ok h6) hTR ?hd ?hu ?_)
    case B => k_asm
    case F => k_asm
    case X => k_asm
    case Tp => k_asm
    case D => assumption
    case hd => walk_at "mine room"
    case hu => walk_at "mine room"
    intro g5 v5 tl5 h5 tk5 tr F5 N5 A5 I5 S5
    obtain ⟨T5, B5, X5, P5, D5⟩ := tr
    generalize hZ5 : wled w a0 v5 (comeS a0.lim1 a0.lim2 { st with fly := st.fly.eraseIdx ix.toNat } r) (tl5 ++ R) = Z5 at N5
    k_steps
    rename Fr _ _ _ _ => kF
    rename News _ _ _ _ => kN
    rename KtsTurn _ _ _ => kT
    rename Below _ _ _ _ => kB
    rename Frag.In _ _ => kX
    rename Top _ _ _ _ _ _ => kP
    rename KtsDicts _ _ => kD
    subst hZ5
    exact ret h6 _ v5 tl5 _ _ ⟨kT, kB, kX, kP, kD⟩ kF kN A5 I5 S5
  · have okl := okl (by lia)
    have hsz := okl.hsz
    k_steps
    rename Fr _ _ _ _ => F5
    rename News _ _ _ _ => N5
    replace N5 := news_xdx N5
    have hndx := S.nd
    unfold nine at hndx
    simp only [List.nodup_cons, List.mem_cons, not_or, List.not_mem_nil, not_false_eq_true, and_true, List.nodup_nil] at hndx
    obtain ⟨⟨nwx, nwdx, _⟩, ⟨nxdx, nxe1, nxx1, nxd1, nxe2, nxx2, nxd2⟩, ⟨ndxe1, ndxx1, ndxd1, ndxe2, ndxx2, ndxd2⟩, _⟩ := hndx
    have two : ∀ b : Addr, @Ne Nat b a0.x → @Ne Nat b a0.dx → ∀ c ∈ [a0.x, a0.dx], @Ne Nat b c := by
      intro b h1 h2 c hc
      rcases List.mem_cons.mp hc with rfl | hc
      · exact h1
      · rw [List.mem_singleton.mp hc]; exact h2
    have lx := l1 _ (.tail _ (.head _))
    have ldx := l1 _ (.tail _ (.tail _ (.head _)))
    unfold Held
    k_dflt (refine' on_lost_c (T := T) (due := st.due) (ack := st.ack) ?B2 ?F2 ?X2 N5 ?Tp2 rfl ?hT2 ?hxd2 ?hO2 hvd hva okl.hack okl.hlw okl.hll ?hd2 ?hu2 ?_)
    case B2 => k_asm
    case F2 => k_asm
    case X2 => k_asm
    case Tp2 => k_asm
    case hT2 => exact fun p hp => .tail _ (mem8 (hTR p hp))
    case hxd2 => exact nxdx
    case hO2 =>
      refine ownoff_cons (two _ (cell_ne lx) (cell_ne ldx)) (ownoff_cons (two _ nwx nwdx) (ownoff_cons (two _ (Ne.symm nxe1) (Ne.symm ndxe1)) (ownoff_cons (two _ (Ne.symm nxx1) (Ne.symm ndxx1)) (ownoff_cons (two _ (Ne.symm nxd1) (Ne.symm ndxd1)) (ownoff_cons (two _ (Ne.symm nxe2) (Ne.symm ndxe2)) (ownoff_cons (two _ (Ne.symm nxx2) (Ne.symm ndxx2)) (ownoff_cons (two _ (Ne.symm nxd2) (Ne.symm ndxd2)) (ownoff_cons (two _ (S.lf9 _ (.tail _ (.head _))) (S.lf9 _ (.tail _ (.tail _ (.head _))))) fun p hp c hc => S.hO p hp c ?_))))))))
      rcases List.mem_cons.mp hc with rfl | hc
      · exact .tail _ (.head _)
      · rw [List.mem_singleton.mp hc]; exact .tail _ (.tail _ (.head _))
    case hd2 => walk_at "mine room"
    case hu2 => walk_at "mine room"
    intro tl5 vdue' h5 tk5 F6 N6 hE6 hvd6
    clear N5
    generalize hZ5 : (_ : List (Addr × Obj)) = Z5 at N6
    k_steps
    rename Fr _ _ _ _ => kF
    rename News _ _ _ _ => kN
    subst hZ5
    have sub : ∀ p ∈ T, p ∈ tl5 ++ T := fun p hp => List.mem_append.mpr (.inr hp)
    refine ret2 (by lia) { v0 with fs := v0.fs.eraseIdx ix.toNat, nf := v0.nf + 1, vdue := vdue' } tl5 _ _ kF (news_lostback kN) (fun q hq => hE6.2 q (mem9 hq)) ⟨hW, hE1, hE2, sub _ hle, sub _ hlb, hvd6, hva.mono sub, hvk.mono sub, hvl.mono sub, hfl2.mono sub, hw1.mono sub, hw2.mono sub⟩ ⟨S.nd, S.lf9, fun p hp c hc => ?_, fun p hp c hc => ?_⟩
    · rcases List.mem_append.mp hp with hp | hp
      · have h1 := hE6.1 p (List.mem_append.mpr (.inl hp))
        have h2 := hE6.2
        unfold nine at hc
        simp only [List.mem_cons, List.not_mem_nil, or_false] at hc
        rcases hc with rfl | rfl | rfl | rfl | rfl | rfl | rfl | rfl | rfl
        · exact Ne.symm (h2 _ (.tail _ (.head _)) p hp)
        · exact h1 _ (.head _)
        · exact h1 _ (.tail _ (.head _))
        · exact Ne.symm (h2 _ (.tail _ (.tail _ (.head _))) p hp)
        · exact Ne.symm (h2 _ (.tail _ (.tail _ (.tail _ (.head _)))) p hp)
        · exact Ne.symm (h2 _ (.tail _ (.tail _ (.tail _ (.tail _ (.head _))))) p hp)
        · exact Ne.symm (h2 _ (.tail _ (.tail _ (.tail _ (.tail _ (.tail _ (.head _)))))) p hp)
        · exact Ne.symm (h2 _ (mem6 (.head _)) p hp)
        · exact Ne.symm (h2 _ (.tail _ (mem6 (.head _))) p hp)
      · exact S.hO p hp c hc
    · rcases List.mem_append.mp hp with hp | hp
      · rw [List.mem_singleton.mp hc]
        exact Ne.symm (hE6.2 _ (mem8 (.head _)) p hp)
      · exact S.hOf p hp c hc
end deed_pop_k
section
variable {w : World} {p : Program} {loose : List Str} {mean : ExcName → Option Value} {mg mb : Str → Option Value} {dp un : Nat} {gd : Option (List Code)} {cn : Str} {cs : Scope} {a : Addr} {ccd : Value} {cl : List (Str × Addr)} {outer : List Env} {A₀ : Around} {base h₀ : Heap} {L : Addr} {m : Str → Option Value} {R T : List (Addr × Obj)} {s : Shared} {v : Value} {Q E : Value → Shared → Prop}
theorem deed_pop {a0 : WAdr} {v0 : WVal} {st : WSt} {tf tp tz : Tok} {form pick size : Int} {r : Int × Array UInt8} :
  deed_pop_k.St w p loose mean mg mb dp un gd cn cs a ccd cl outer A₀ base h₀ L m R T s Q E a0 v0 st tf tp tz r form pick size := all_eps (S := deed_pop_k.S) deed_pop_k.walk (((w, p, loose, mean, mg, mb, dp, un, gd, cn, cs, a, ccd, cl, outer, A₀, base, h₀, L, m, R, T, s, (cx_v cx0), Q, E), fn [tf, tp, tz] default, fn [] default, fn [] default, fn [] default, fn [] [], fn [] #[], fn [] []), ((a0, v0), (st, r))) form pick size
end
end Mine

namespace Mine
local macro_rules | `(tactic| walk_at "exec If") => `(tactic| ((with_reducible show wpAny _ _ (exec (Stmt.If (Expr.BoolOp _ _ _) _ _ _) _) _ _ _); refine Mine.held ?_))
section
variable {w : World} {p : Program} {loose : List Str} {mean : ExcName → Option Value} {mg mb : Str → Option Value} {dp un : Nat} {gd : Option (List Code)} {cn : Str} {cs : Scope} {a : Addr} {ccd : Value} {cl : List (Str × Addr)} {outer : List Env} {A₀ : Around} {base h₀ : Heap} {L : Addr} {m : Str → Option Value} {R T : List (Addr × Obj)} {s : Shared} {v : Value} {Q E : Value → Shared → Prop}
theorem if_cut {A : Around} {env : Env} {test : PySem.Expr} {body orelse : List Stmt} {pos : Pos} {Q : Flow → Shared → Prop} {Z : List (Addr × Obj)} (F : Fr h₀ L s.heap m) (N : News h₀ L s.heap Z)
    (ev : wpAny (model P0 w) A (isTrue test env (eval test env)) (fun b s' => b = false ∧ ∃ h' tk', s' = { s with heap := h', toks := tk' } ∧ Fr h₀ L h' m ∧ News h₀ L h' Z) E s)
    (co : ∀ h' tk', Fr h₀ L h' m → News h₀ L h' Z → wpAny (model P0 w) A (execs orelse env) Q E { s with heap := h', toks := tk' }) : wpAny (model P0 w) A (exec (.If test body orelse pos) env) Q E s := by
  refine wpAny_If (wpAny_mono ev (fun b s' h9 => ?_) fun _ _ e => e)
  obtain ⟨rfl, h', tk', rfl, F', N'⟩ := h9
  exact co h' tk' F' N'
theorem sub_upc {X tl : List (Addr × Obj)} : ∀ p ∈ tl ++ T, p ∈ (X ++ tl) ++ T := fun p hp => by rw [List.append_assoc]; exact List.mem_append.mpr (.inr hp)
theorem chunk_pack {h : Heap} {a0 : WAdr} {v0 : WVal} {st : WSt} {D1 D2 l1 : Addr} {oD2 oL1 oW : Obj} {fs : List Value} {nf : Nat} {vel : Value} {c l2 : Addr × Obj} (S : WSep a0 v0 R)
  (N : News h₀ L h ((D2, oD2) :: l2 :: (D1, W.listOf fs.toArray nf) :: (l1, oL1) :: c :: (a0.wD, oW) :: wtail w a0 v0 st R))
  (c1 : AllLt D1 ((l1, oL1) :: c :: (a0.wD, oW) :: wtail w a0 v0 st R)) (c2 : AllLt D2 (l2 :: (D1, W.listOf fs.toArray nf) :: (l1, oL1) :: c :: (a0.wD, oW) :: wtail w a0 v0 st R)) :
  News h₀ L h (wled w a0 { v0 with oW := oW, lf := D1, fs := fs, nf := nf, vel := vel } st ([(D2, oD2)] ++ R)) ∧ Apart R [(D2, oD2)] ∧ WSep a0 { v0 with oW := oW, lf := D1, fs := fs, nf := nf, vel := vel } ([(D2, oD2)] ++ R) := by
  have k1 := allLt_mem c1
  have k2 := allLt_mem c2
  have n1 : ∀ b ∈ nine a0, @LT.lt Nat _ b D1 := by
    have w1 : ∀ p ∈ (a0.wD, oW) :: wtail w a0 v0 st R, @LT.lt Nat _ p.1 D1 := fun p hp => k1 p (.tail _ (.tail _ hp))
    exact List.forall_mem_cons.mpr ⟨w1 _ (.head _), List.forall_mem_cons.mpr ⟨w1 _ (.tail _ (.head _)), List.forall_mem_cons.mpr ⟨w1 _ (.tail _ (.tail _ (.head _))), List.forall_mem_cons.mpr ⟨w1 _ (.tail _ (.tail _ (.tail _ (.head _)))), List.forall_mem_cons.mpr ⟨w1 _ (.tail _ (.tail _ (.tail _ (.tail _ (.head _))))), List.forall_mem_cons.mpr ⟨w1 _ (.tail _ (.tail _ (.tail _ (.tail _ (.tail _ (.head _)))))), List.forall_mem_cons.mpr ⟨w1 _ (mem6 (.head _)), List.forall_mem_cons.mpr ⟨w1 _ (.tail _ (mem6 (.head _))), List.forall_mem_cons.mpr ⟨w1 _ (mem8 (.head _)), List.forall_mem_nil _⟩⟩⟩⟩⟩⟩⟩⟩⟩
  have hD : @LT.lt Nat _ D1 D2 := k2 _ (.tail _ (.head _))
  have hR : ∀ p ∈ R, p ∈ (a0.wD, oW) :: wtail w a0 v0 st R := fun p hp => .tail _ (wtail_mem hp)
  refine ⟨fun p hp => ?_, fun q hq p hp => ?_, S.nd, fun c hc => Nat.ne_of_gt (n1 c hc), fun p hp c hc => ?_, fun p hp c hc => ?_⟩
  · have h := sub_ix ((D2, oD2) :: (D1, W.listOf fs.toArray nf) :: (a0.wD, oW) :: wtail w a0 v0 st []) (R := R) [2, 3, 4, 5, 6, 7, 8, 9, 10, 1, 0] p hp
    rcases List.mem_append.mp h with h | h
    · rcases List.mem_cons.mp h with h | h
      · exact N p (h ▸ .head _)
      rcases List.mem_cons.mp h with h | h
      · exact N p (h ▸ .tail _ (.tail _ (.head _)))
      rcases List.mem_cons.mp h with h | h
      · exact N p (h ▸ .tail _ (.tail _ (.tail _ (.tail _ (.tail _ (.head _))))))
      · exact N p (mem6 (List.mem_append.mpr (.inl h) : p ∈ wtail w a0 v0 st [] ++ R))
    · exact N p (mem6 (wtail_mem h))
  · rw [List.mem_singleton.mp hp]
    exact Nat.ne_of_lt (k2 q (.tail _ (.tail _ (.tail _ (.tail _ (hR q hq))))))
  · rcases List.mem_append.mp hp with hp | hp
    · rw [List.mem_singleton.mp hp]
      exact Nat.ne_of_gt (Nat.lt_trans (n1 c hc) hD)
    · exact S.hO p hp c hc
  · rw [List.mem_singleton.mp hc]
    rcases List.mem_append.mp hp with hp | hp
    · rw [List.mem_singleton.mp hp]
      exact Nat.ne_of_gt hD
    · exact Nat.ne_of_lt (k1 p (.tail _ (.tail _ (hR p hp))))
noncomputable def chunkS (st : WSt) (lo hi : Int) : WSt := { st with due := cutL st.due lo hi, fly := st.fly ++ [(lo, KBy.picked st.data (some lo) (some hi))], eld := st.eld ++ [(lo, KBy.picked st.data (some lo) (some hi))] }
end
namespace deed_chunk_k
noncomputable def St (w : World) (p : Program) (loose : List Str) (mean : ExcName → Option Value) (mg : Str → Option Value) (mb : Str → Option Value) (dp : Nat) (un : Nat) (gd : Option (List Code)) (cn : Str) (cs : Scope) (a : Addr) (ccd : Value) (cl : List (Str × Addr)) (outer : List Env) (A₀ : Around) (base : Heap) (h₀ : Heap) (L : Addr) (m : Str → Option Value) (R : List (Addr × Obj)) (T : List (Addr × Obj)) (s : Shared) (Q : Value → Shared → Prop) (E : Value → Shared → Prop) (a0 : WAdr) (v0 : WVal) (st : WSt) (tf : Tok) (tp : Tok) (tz : Tok) (form : Int) (pick : Int) (size : Int) : Prop := ∀ (B : Below A₀ base outer h₀) (F : Fr h₀ L s.heap m) (X : (hd.heap_1 w.params).In h₀) (N : News h₀ L s.heap (wled w a0 v0 st R)) (Tp : Top p loose mean mg mb h₀) (hk : cs.kind = .function) (XB : (hd.heap_1 w.params).In base) (TB : Top p loose mean mg mb base) (D : KtsDicts (outer.filterMap (·.frame)) h₀) (I : WIs w T a0 v0 st) (S : WSep a0 v0 R) (hf0 : 0 ≤ form) (hf4 : form < 4) (hf12 : form = 0 → 12 ≤ st.data.size) (hz0 : 0 ≤ size) (hz1 : size ≤ 1000) (hdl : st.due.length ≤ 1000) (hpos : ∀ q ∈ st.due, q.1 < q.2) (hdz : st.data.size ≤ 1000) (hel : st.eld.length ≤ 900) (hfl9 : st.fly.length ≤ 900) (hTR : ∀ p ∈ T, p ∈ R) (hdp : dp + 10 < recursionLimit) (hun : un + 1000 < cLine) (ret0 : st.due = [] → ∀ v' tl h' tk', Fr h₀ L h' m → News h₀ L h' (wled w a0 v' st (tl ++ R)) → Apart R tl → WIs w (tl ++ T) a0 v' st → WSep a0 v' (tl ++ R) → Q (.bool true) { s with heap := h', toks := tk' }) (ret1 : ∀ lo hi rest, st.due = (lo, hi) :: rest → ∀ v' tl h' tk', Fr h₀ L h' m → News h₀ L h' (wled w a0 v' (chunkS st lo (pmin hi (lo + (1 + size)))) (tl ++ R)) → Apart R tl → WIs w (tl ++ T) a0 v' (chunkS st lo (pmin hi (lo + (1 + size)))) → WSep a0 v' (tl ++ R) → Q (.bool true) { s with heap := h', toks := tk' }),
  wpAny (model P0 w) (ktrTop dp un gd cn cs L a ccd cl outer) (call (.ref 220) [.ref a0.wD, .int form tf, .int pick tp, .int size tz]) Q E s
noncomputable def S (c : CxF × ((((WAdr) × (WVal)) × (WSt)))) : Prop := ∀ (form : Int) (pick : Int) (size : Int), St (cx_w (c.1).1) (cx_p (c.1).1) (cx_loose (c.1).1) (cx_mean (c.1).1) (cx_mg (c.1).1) (cx_mb (c.1).1) (cx_dp (c.1).1) (cx_un (c.1).1) (cx_gd (c.1).1) (cx_cn (c.1).1) (cx_cs (c.1).1) (cx_a (c.1).1) (cx_ccd (c.1).1) (cx_cl (c.1).1) (cx_outer (c.1).1) (cx_A₀ (c.1).1) (cx_base (c.1).1) (cx_h₀ (c.1).1) (cx_L (c.1).1) (cx_m (c.1).1) (cx_R (c.1).1) (cx_T (c.1).1) (cx_s (c.1).1) (cx_Q (c.1).1) (cx_E (c.1).1) (c.2.1.1) (c.2.1.2) (c.2.2) (cx_tok c.1 0) (cx_tok c.1 1) (cx_tok c.1 2) form pick size
noncomputable def kx9 : CxF × ((((WAdr) × (WVal)) × (WSt))) := @Classical.epsilon (CxF × ((((WAdr) × (WVal)) × (WSt)))) (ne_cxf.elim fun b => ⟨(b, ((wadr0, wval0), wst0))⟩) fun c => ¬ S c
set_option maxRecDepth 100000 in
set_option maxHeartbeats 8000000 in
theorem walk : S kx9 := by
  show ∀ (form : Int) (pick : Int) (size : Int), St (cx_w (kx9.1).1) (cx_p (kx9.1).1) (cx_loose (kx9.1).1) (cx_mean (kx9.1).1) (cx_mg (kx9.1).1) (cx_mb (kx9.1).1) (cx_dp (kx9.1).1) (cx_un (kx9.1).1) (cx_gd (kx9.1).1) (cx_cn (kx9.1).1) (cx_cs (kx9.1).1) (cx_a (kx9.1).1) (cx_ccd (kx9.1).1) (cx_cl (kx9.1).1) (cx_outer (kx9.1).1) (cx_A₀ (kx9.1).1) (cx_base (kx9.1).1) (cx_h₀ (kx9.1).1) (cx_L (kx9.1).1) (cx_m (kx9.1).1) (cx_R (kx9.1).1) (cx_T (kx9.1).1) (cx_s (kx9.1).1) (cx_Q (kx9.1).1) (cx_E (kx9.1).1) (kx9.2.1.1) (kx9.2.1.2) (kx9.2.2) (cx_tok kx9.1 0) (cx_tok kx9.1 1) (cx_tok kx9.1 2) form pick size
  generalize (cx_w (kx9.1).1) = w, (cx_p (kx9.1).1) = p, (cx_loose (kx9.1).1) = loose, (cx_mean (kx9.1).1) = mean, (cx_mg (kx9.1).1) = mg, (cx_mb (kx9.1).1) = mb, (cx_dp (kx9.1).1) = dp, (cx_un (kx9.1).1) = un, (cx_gd (kx9.1).1) = gd, (cx_cn (kx9.1).1) = cn, (cx_cs (kx9.1).1) = cs, (cx_a (kx9.1).1) = a, (cx_ccd (kx9.1).1) = ccd, (cx_cl (kx9.1).1) = cl, (cx_outer (kx9.1).1) = outer, (cx_A₀ (kx9.1).1) = A₀, (cx_base (kx9.1).1) = base, (cx_h₀ (kx9.1).1) = h₀, (cx_L (kx9.1).1) = L, (cx_m (kx9.1).1) = m, (cx_R (kx9.1).1) = R, (cx_T (kx9.1).1) = T, (cx_s (kx9.1).1) = s, (cx_Q (kx9.1).1) = Q, (cx_E (kx9.1).1) = E, (kx9.2.1.1) = a0, (kx9.2.1.2) = v0, (kx9.2.2) = st, (cx_tok kx9.1 0) = tf, (cx_tok kx9.1 1) = tp, (cx_tok kx9.1 2) = tz
  intro form pick size
  delta St
  intro B F X N Tp hk XB TB D I S hf0 hf4 hf12 hz0 hz1 hdl hpos hdz hel hfl9 hTR hdp hun ret0 ret1
  obtain ⟨hW, hE1, hE2, hle, hlb, hvd, hva, hvk, hvl, hfl, hw1, hw2⟩ := id I
  unfold pcsD at hvl
  obtain ⟨le, lvs, ln, hvle, hlm, hlall⟩ := dat_list hvl
  rw [hvle] at hW
  have hll : lvs.length = st.eld.length := by rw [hlall.length, List.length_map]
  have hll2 : v0.fs.length = st.fly.length := by rw [hfl.length, List.length_map]
  have hlen1 : lvs.length ≤ 900 := by lia
  have hlen2 : v0.fs.length ≤ 900 := by lia
  have hOw := wtail_off (w := w) (st := st) S
  have N0 : News h₀ L s.heap ((a0.wD, v0.oW) :: (a0.x, instObj 180 a0.dx) :: (a0.dx, outD w v0.t1 v0.t2 v0.t3 (.bytes st.data v0.tdd) v0.vdue v0.vack) :: wtail w a0 v0 st R) := fun p hp => N p (sub_ix (wled w a0 v0 st []) [0, 1, 2, 1, 2, 3, 4, 5, 6, 7, 8, 9] p hp)
  clear N
  have nwx := hOw _ (.head _) _ (.head _)
  have nwdx := hOw _ (.tail _ (.head _)) _ (.head _)
  have hTZ : ∀ p ∈ T, p ∈ wtail w a0 v0 st R := fun p hp => wtail_mem (hTR p hp)
  generalize hZ : wtail w a0 v0 st R = Z at N0 hOw hTZ
  refine wpAny_call ?_
  k_dflt (walk_at "mine enterSC")
  rename (∀ p ∈ (a0.wD, v0.oW) :: _, _) => l1
  obtain ⟨Lq, rfl⟩ := ex_eq l1
  have lZ : ∀ p ∈ wled w a0 v0 st [], @Ne Nat p.1 (Lq + 1) := fun p hp => by
    refine Ne.symm (cell_ne (l1 p ?_))
    rcases List.mem_cons.mp hp with h | h
    · exact h ▸ .head _
    · exact .tail _ (.tail _ (.tail _ (hZ ▸ (List.mem_append.mpr (.inl h) : p ∈ wtail w a0 v0 st [] ++ R))))
  have hcw : @Ne Nat (Lq + 1) a0.wD := cell_ne (l1 _ (.head _))
  clear l1
  k_steps
  rename Fr _ _ _ _ => F2
  rename News _ _ _ _ => N2
  unfold Held
  refine if_cut (s := ⟨_, _, _, _, _⟩) F2 N2 ?ev ?co
  case ev =>
    k_steps
    all_goals first | assumption | trivial | (exfalso; lia)
  intro h4 tk4 F3 N3
  clear F2 N2
  k_steps
  rename Fr _ _ _ _ => F5
  rename News _ _ _ _ => N5
  unfold Held
  subst hZ
  have S5 : ∀ oc : Obj, WSep a0 v0 ((Lq + 1, oc) :: R) := fun _ => wsep_cons S lZ
  have N6 := cell_in N5
  clear N5
  k_dflt (refine' chunk_w (T := T) (most := 1 + size) ?Ba F5 ?Xa N6 ?Tpa rfl I (S5 _) hdl hpos hdz ?hmo ?hTa ?hda ?hua ?r0a ?r1a)
  case Ba => k_asm
  case Xa => k_asm
  case Tpa => k_asm
  case hmo => lia
  case hTa => exact fun p hp => .tail _ (hTR p hp)
  case hda => walk_at "mine room"
  case hua => walk_at "mine room"
  case r0a =>
    intro he h5 tk5 F6 N7
    clear N6 F5
    replace N7 := cell_out (tl := []) N7
    have hlmZ : (le, W.listOf lvs.toArray ln) ∈ wtail w a0 v0 st R := wtail_mem (hTR _ hlm)
    have hlfZ : (v0.lf, W.listOf v0.fs.toArray v0.nf) ∈ wtail w a0 v0 st R := mem8 (.head _)
    rw [List.nil_append] at N7
    generalize hZ : wtail w a0 v0 st R = Z at N7 hOw hTZ hlmZ hlfZ
    k_steps
    rename Fr _ _ _ _ => kF
    rename News _ _ _ _ => kN
    rename Obj.IsDictOf _ _ _ => hdd
    rename (_ < _) ∧ _ => c2
    revert c2
    rename (_ < _) ∧ _ => c1
    clear c1
    rename (_ < _) ∧ _ => c1
    intro q2
    subst hZ
    obtain ⟨pN, pA, pS⟩ := chunk_pack (fs := v0.fs ++ []) (vel := _) S kN c1 q2
    refine ret0 he _ _ _ _ kF pN pA ⟨hdd, hE1, hE2, .tail _ hle, .tail _ hlb, hvd.mono sub_up, hva.mono sub_up, hvk.mono sub_up, DatIn.list (.head _) ?_, ?_, hw1.mono sub_up, hw2.mono sub_up⟩ pS
    · rw [List.append_nil lvs]; exact hlall.mono sub_up
    · show DatAll _ (v0.fs ++ []) _
      rw [List.append_nil v0.fs]; exact hfl.mono sub_up
  case r1a =>
    intro lo hi rest he ra t8 t9 n8 vd tl5 h5 tk5 F6 N7 A5 I5 S6 hra
    clear N6 F5 hOw hTZ
    replace N7 := cell_out N7
    have S7 : WSep a0 { v0 with vdue := vd } (tl5 ++ R) := wsep_sub (R := tl5 ++ ((Lq + 1, _) :: R)) ⟨S6.nd, S6.lf9, S6.hO, S6.hOf⟩ fun p hp => (List.mem_append.mp hp).elim (fun h => List.mem_append.mpr (.inl h)) fun h => List.mem_append.mpr (.inr (.tail _ h))
    have hA5 : Apart R tl5 := fun q hq => A5 q (.tail _ hq)
    have hOw := wtail_off (w := w) (st := { st with due := cutL st.due lo (pmin hi (lo + (1 + size))) }) S7
    have hlmZ : (le, W.listOf lvs.toArray ln) ∈ wtail w a0 { v0 with vdue := vd } { st with due := cutL st.due lo (pmin hi (lo + (1 + size))) } (tl5 ++ R) := wtail_mem (List.mem_append.mpr (.inr (hTR _ hlm)))
    have hlfZ : (v0.lf, W.listOf v0.fs.toArray v0.nf) ∈ wtail w a0 { v0 with vdue := vd } { st with due := cutL st.due lo (pmin hi (lo + (1 + size))) } (tl5 ++ R) := mem8 (.head _)
    generalize hZ : wtail w a0 { v0 with vdue := vd } { st with due := cutL st.due lo (pmin hi (lo + (1 + size))) } (tl5 ++ R) = Z at N7 hOw hlmZ hlfZ
    dsimp only at N7
    k_steps
    rename Fr _ _ _ _ => kF
    rename News _ _ _ _ => kN
    rename Obj.IsDictOf _ _ _ => hdd
    rename (_ < _) ∧ _ => c2
    revert c2
    rename (_ < _) ∧ _ => c1
    clear c1
    rename (_ < _) ∧ _ => c1
    intro q2
    subst hZ
    obtain ⟨pN, pA, pS⟩ := chunk_pack (fs := v0.fs ++ [Value.ref ra]) (vel := _) S7 kN c1 q2
    rw [← List.append_assoc] at pN pS
    have sT : ∀ p ∈ T, p ∈ tl5 ++ T := sub_up
    have hrow : DatIn (tl5 ++ T) (Value.ref ra) (pcD (lo, KBy.picked st.data (some lo) (some (pmin hi (lo + (1 + size)))))) := DatIn.tuple hra (.cons (.int _ _) (.cons (.bytes _ _) .nil))
    refine ret1 lo hi rest he _ ([_] ++ tl5) _ _ kF pN (apart_app hA5 fun q hq => pA q (List.mem_append.mpr (.inr hq))) ⟨hdd, hE1, hE2, .tail _ (sT _ hle), .tail _ (sT _ hlb), I5.hvd.mono sub_upc, (hva.mono sT).mono sub_upc, (hvk.mono sT).mono sub_upc, DatIn.list (.head _) ?_, ?_, (hw1.mono sT).mono sub_upc, (hw2.mono sT).mono sub_upc⟩ pS
    · show DatAll _ _ ((st.eld ++ [_]).map pcD)
      rw [List.map_append]
      exact DatAll.append ((hlall.mono sT).mono sub_upc) (DatAll.one (hrow.mono sub_upc))
    · show DatAll _ (v0.fs ++ _) ((st.fly ++ [_]).map pcD)
      rw [List.map_append]
      exact DatAll.append ((hfl.mono sT).mono sub_upc) (DatAll.one (hrow.mono sub_upc))
end deed_chunk_k
section
variable {w : World} {p : Program} {loose : List Str} {mean : ExcName → Option Value} {mg mb : Str → Option Value} {dp un : Nat} {gd : Option (List Code)} {cn : Str} {cs : Scope} {a : Addr} {ccd : Value} {cl : List (Str × Addr)} {outer : List Env} {A₀ : Around} {base h₀ : Heap} {L : Addr} {m : Str → Option Value} {R T : List (Addr × Obj)} {s : Shared} {v : Value} {Q E : Value → Shared → Prop}
theorem deed_chunk {a0 : WAdr} {v0 : WVal} {st : WSt} {tf tp tz : Tok} {form pick size : Int} :
  deed_chunk_k.St w p loose mean mg mb dp un gd cn cs a ccd cl outer A₀ base h₀ L m R T s Q E a0 v0 st tf tp tz form pick size := all_eps (S := deed_chunk_k.S) deed_chunk_k.walk (((w, p, loose, mean, mg, mb, dp, un, gd, cn, cs, a, ccd, cl, outer, A₀, base, h₀, L, m, R, T, s, (cx_v cx0), Q, E), fn [tf, tp, tz] default, fn [] default, fn [] default, fn [] default, fn [] [], fn [] #[], fn [] []), ((a0, v0), st)) form pick size
end
end Mine

namespace Mine
section
variable {w : World} {p : Program} {loose : List Str} {mean : ExcName → Option Value} {mg mb : Str → Option Value} {dp un : Nat} {gd : Option (List Code)} {cn : Str} {cs : Scope} {a : Addr} {ccd : Value} {cl : List (Str × Addr)} {outer : List Env} {A₀ : Around} {base h₀ : Heap} {L : Addr} {m : Str → Option Value} {R T : List (Addr × Obj)} {s : Shared} {v : Value} {Q E : Value → Shared → Prop}
end
namespace deed_put_k
noncomputable def St (w : World) (p : Program) (loose : List Str) (mean : ExcName → Option Value) (mg : Str → Option Value) (mb : Str → Option Value) (dp : Nat) (un : Nat) (gd : Option (List Code)) (cn : Str) (cs : Scope) (a : Addr) (ccd : Value) (cl : List (Str × Addr)) (outer : List Env) (A₀ : Around) (base : Heap) (h₀ : Heap) (L : Addr) (m : Str → Option Value) (R : List (Addr × Obj)) (T : List (Addr × Obj)) (s : Shared) (Q : Value → Shared → Prop) (E : Value → Shared → Prop) (a0 : WAdr) (v0 : WVal) (tf : Tok) (tp : Tok) (tz : Tok) (st : WSt) (form : Int) (pick : Int) (size : Int) : Prop := ∀ (B : Below A₀ base outer h₀) (F : Fr h₀ L s.heap m) (X : (hd.heap_1 w.params).In h₀) (N : News h₀ L s.heap (wled w a0 v0 st R)) (Tp : Top p loose mean mg mb h₀) (hk : cs.kind = .function) (XB : (hd.heap_1 w.params).In base) (TB : Top p loose mean mg mb base) (D : KtsDicts (outer.filterMap (·.frame)) h₀) (I : WIs w T a0 v0 st) (S : WSep a0 v0 R) (hf1 : form < 1) (h12 : (st.data.size : Int) < 12) (hz0 : 0 ≤ size) (hz1 : size ≤ 10) (hdl : st.due.length ≤ 1000) (hTR : ∀ p ∈ T, p ∈ R) (hdp : dp + 10 < recursionLimit) (hun : un + 1000 < cLine) (ret : ∀ more : Array UInt8, (more.size : Int) = 1 + size → ∀ v' tl h' tk', Fr h₀ L h' m → News h₀ L h' (wled w a0 v' (putS st more) (tl ++ R)) → Apart R tl → WIs w (tl ++ T) a0 v' (putS st more) → WSep a0 v' (tl ++ R) → Q (.bool true) { s with heap := h', toks := tk' }),
  wpAny (model P0 w) (ktrTop dp un gd cn cs L a ccd cl outer) (call (.ref 220) [.ref a0.wD, .int form tf, .int pick tp, .int size tz]) Q E s
noncomputable def S (c : CxF × (((WAdr) × (WVal)))) : Prop := ∀ (st : WSt) (form : Int) (pick : Int) (size : Int), St (cx_w (c.1).1) (cx_p (c.1).1) (cx_loose (c.1).1) (cx_mean (c.1).1) (cx_mg (c.1).1) (cx_mb (c.1).1) (cx_dp (c.1).1) (cx_un (c.1).1) (cx_gd (c.1).1) (cx_cn (c.1).1) (cx_cs (c.1).1) (cx_a (c.1).1) (cx_ccd (c.1).1) (cx_cl (c.1).1) (cx_outer (c.1).1) (cx_A₀ (c.1).1) (cx_base (c.1).1) (cx_h₀ (c.1).1) (cx_L (c.1).1) (cx_m (c.1).1) (cx_R (c.1).1) (cx_T (c.1).1) (cx_s (c.1).1) (cx_Q (c.1).1) (cx_E (c.1).1) (c.2.1) (c.2.2) (cx_tok c.1 0) (cx_tok c.1 1) (cx_tok c.1 2) st form pick size
noncomputable def kx9 : CxF × (((WAdr) × (WVal))) := @Classical.epsilon (CxF × (((WAdr) × (WVal)))) (ne_cxf.elim fun b => ⟨(b, (wadr0, wval0))⟩) fun c => ¬ S c
set_option maxRecDepth 100000 in
set_option maxHeartbeats 8000000 in
theorem walk : S kx9 := by
  show ∀ (st : WSt) (form : Int) (pick : Int) (size : Int), St (cx_w (kx9.1).1) (cx_p (kx9.1).1) (cx_loose (kx9.1).1) (cx_mean (kx9.1).1) (cx_mg (kx9.1).1) (cx_mb (kx9.1).1) (cx_dp (kx9.1).1) (cx_un (kx9.1).1) (cx_gd (kx9.1).1) (cx_cn (kx9.1).1) (cx_cs (kx9.1).1) (cx_a (kx9.1).1) (cx_ccd (kx9.1).1) (cx_cl (kx9.1).1) (cx_outer (kx9.1).1) (cx_A₀ (kx9.1).1) (cx_base (kx9.1).1) (cx_h₀ (kx9.1).1) (cx_L (kx9.1).1) (cx_m (kx9.1).1) (cx_R (kx9.1).1) (cx_T (kx9.1).1) (cx_s (kx9.1).1) (cx_Q (kx9.1).1) (cx_E (kx9.1).1) (kx9.2.1) (kx9.2.2) (cx_tok kx9.1 0) (cx_tok kx9.1 1) (cx_tok kx9.1 2) st form pick size
  generalize (cx_w (kx9.1).1) = w, (cx_p (kx9.1).1) = p, (cx_loose (kx9.1).1) = loose, (cx_mean (kx9.1).1) = mean, (cx_mg (kx9.1).1) = mg, (cx_mb (kx9.1).1) = mb, (cx_dp (kx9.1).1) = dp, (cx_un (kx9.1).1) = un, (cx_gd (kx9.1).1) = gd, (cx_cn (kx9.1).1) = cn, (cx_cs (kx9.1).1) = cs, (cx_a (kx9.1).1) = a, (cx_ccd (kx9.1).1) = ccd, (cx_cl (kx9.1).1) = cl, (cx_outer (kx9.1).1) = outer, (cx_A₀ (kx9.1).1) = A₀, (cx_base (kx9.1).1) = base, (cx_h₀ (kx9.1).1) = h₀, (cx_L (kx9.1).1) = L, (cx_m (kx9.1).1) = m, (cx_R (kx9.1).1) = R, (cx_T (kx9.1).1) = T, (cx_s (kx9.1).1) = s, (cx_Q (kx9.1).1) = Q, (cx_E (kx9.1).1) = E, (kx9.2.1) = a0, (kx9.2.2) = v0, (cx_tok kx9.1 0) = tf, (cx_tok kx9.1 1) = tp, (cx_tok kx9.1 2) = tz
  intro st form pick size
  delta St
  intro B F X N Tp hk XB TB D I S hf1 h12 hz0 hz1 hdl hTR hdp hun ret
  obtain ⟨hW, hE1, hE2, hle, hlb, hvd, hva, hvk, hvl, hfl, hw1, hw2⟩ := id I
  have hOw := wtail_off (w := w) (st := st) S
  have N0 : News h₀ L s.heap ((a0.wD, v0.oW) :: (a0.x, instObj 180 a0.dx) :: (a0.dx, outD w v0.t1 v0.t2 v0.t3 (.bytes st.data v0.tdd) v0.vdue v0.vack) :: wtail w a0 v0 st R) := fun p hp => N p (sub_ix (wled w a0 v0 st []) [0, 1, 2, 1, 2, 3, 4, 5, 6, 7, 8, 9] p hp)
  clear N
  have nwx := hOw _ (.head _) _ (.head _)
  have nwdx := hOw _ (.tail _ (.head _)) _ (.head _)
  generalize hZ : wtail w a0 v0 st R = Z at N0 hOw
  refine wpAny_call ?_
  k_dflt (walk_at "mine enterSC")
  rename (∀ p ∈ (a0.wD, v0.oW) :: _, _) => l1
  obtain ⟨Lq, rfl⟩ := ex_eq l1
  have lZ : ∀ p ∈ wled w a0 v0 st [], @Ne Nat p.1 (Lq + 1) := fun p hp => by
    refine Ne.symm (cell_ne (l1 p ?_))
    rcases List.mem_cons.mp hp with h | h
    · exact h ▸ .head _
    · exact .tail _ (.tail _ (.tail _ (hZ ▸ (List.mem_append.mpr (.inl h) : p ∈ wtail w a0 v0 st [] ++ R))))
  have hcw : @Ne Nat (Lq + 1) a0.wD := cell_ne (l1 _ (.head _))
  clear l1
  k_steps
  unfold Held
  k_dflt (refine LCg.ListComp_U (F₀ := by k_asm) (by with_unfolding_all rfl) (by decide) (by rfl) (by decide) (by rfl) ?_)
  k_steps
  rename Fr _ _ _ _ => F2
  rename News _ _ _ _ => N2
  generalize hmore : byteArr _ = more at F2 ⊢
  have hms : (more.size : Int) = 1 + size := by
    rw [← hmore, byteArr_size, List.length_map, rangeKs_length]
    lia
  clear hmore
  replace N2 := news_drop1 N2
  unfold Held
  subst hZ
  have S5 : ∀ oc : Obj, WSep a0 v0 ((Lq + 1, oc) :: R) := fun _ => wsep_cons S lZ
  have N6 := cell_in N2
  clear N2
  k_dflt (refine' put_w (T := T) (more := more) ?Ba F2 ?Xa N6 ?Tpa rfl I (S5 _) hdl ?hm1 ?hm2 ?hTa ?hda ?hua ?_)
  case Ba => k_asm
  case Xa => k_asm
  case Tpa => k_asm
  case hm1 => lia
  case hm2 => lia
  case hTa => exact fun p hp => .tail _ (hTR p hp)
  case hda => walk_at "mine room"
  case hua => walk_at "mine room"
  intro vd td tl5 h5 tk5 F5 N7 A5 hvd5 S6
  clear N6 F2 hOw
  replace N7 := cell_out N7
  have S7 : WSep a0 { v0 with vdue := vd, tdd := td } (tl5 ++ R) := wsep_sub (R := tl5 ++ ((Lq + 1, _) :: R)) ⟨S6.nd, S6.lf9, S6.hO, S6.hOf⟩ fun p hp => (List.mem_append.mp hp).elim (fun h => List.mem_append.mpr (.inl h)) fun h => List.mem_append.mpr (.inr (.tail _ h))
  have hA5 : Apart R tl5 := fun q hq => A5 q (.tail _ hq)
  have hOw := wtail_off (w := w) (st := putS st more) S7
  generalize hZ : wtail w a0 { v0 with vdue := vd, tdd := td } (putS st more) (tl5 ++ R) = Z at N7 hOw
  dsimp only at N7
  k_steps
  rename Fr _ _ _ _ => kF
  rename News _ _ _ _ => kN
  rename Obj.IsDictOf _ _ _ => hdd
  subst hZ
  have sT : ∀ p ∈ T, p ∈ tl5 ++ T := sub_up
  exact ret more hms { v0 with oW := _, vdue := vd, tdd := td, tp := _ } tl5 _ _ kF (fun p hp => kN p (.tail _ hp)) hA5 ⟨hdd, hE1, hE2, sT _ hle, sT _ hlb, hvd5, hva.mono sT, hvk.mono sT, hvl.mono sT, hfl.mono sT, hw1.mono sT, hw2.mono sT⟩ ⟨S7.nd, S7.lf9, S7.hO, S7.hOf⟩
end deed_put_k
section
variable {w : World} {p : Program} {loose : List Str} {mean : ExcName → Option Value} {mg mb : Str → Option Value} {dp un : Nat} {gd : Option (List Code)} {cn : Str} {cs : Scope} {a : Addr} {ccd : Value} {cl : List (Str × Addr)} {outer : List Env} {A₀ : Around} {base h₀ : Heap} {L : Addr} {m : Str → Option Value} {R T : List (Addr × Obj)} {s : Shared} {v : Value} {Q E : Value → Shared → Prop}
theorem deed_put {a0 : WAdr} {v0 : WVal} {st : WSt} {tf tp tz : Tok} {form pick size : Int} :
  deed_put_k.St w p loose mean mg mb dp un gd cn cs a ccd cl outer A₀ base h₀ L m R T s Q E a0 v0 tf tp tz st form pick size := all_eps (S := deed_put_k.S) deed_put_k.walk (((w, p, loose, mean, mg, mb, dp, un, gd, cn, cs, a, ccd, cl, outer, A₀, base, h₀, L, m, R, T, s, (cx_v cx0), Q, E), fn [tf, tp, tz] default, fn [] default, fn [] default, fn [] default, fn [] [], fn [] #[], fn [] []), (a0, v0)) st form pick size
end
end Mine

namespace Mine
/-! the plain law: span lists as sets of places -/
noncomputable def MemS (sp : List (Int × Int)) (i : Int) : Prop := ∃ q ∈ sp, q.1 ≤ i ∧ i < q.2
/-- normal form: each span opens behind b and behind its forerunner's end, with a gap, and holds a place -/
noncomputable def NF : Int → List (Int × Int) → Prop
  | _, [] => True
  | b, q :: r => b < q.1 ∧ q.1 < q.2 ∧ NF q.2 r
theorem memS_nil {i : Int} : ¬ MemS [] i := fun ⟨_, h, _⟩ => nomatch h
theorem memS_cons {q : Int × Int} {r : List (Int × Int)} {i : Int} : MemS (q :: r) i ↔ (q.1 ≤ i ∧ i < q.2) ∨ MemS r i := by
  constructor
  · rintro ⟨p, hp, h⟩
    rcases List.mem_cons.mp hp with rfl | hp
    · exact .inl h
    · exact .inr ⟨p, hp, h⟩
  · rintro (h | ⟨p, hp, h⟩)
    · exact ⟨q, .head _, h⟩
    · exact ⟨p, .tail _ hp, h⟩
theorem NF.weaken {b c : Int} {sp : List (Int × Int)} (h : NF b sp) (hc : c ≤ b) : NF c sp := by
  cases sp with
  | nil => trivial
  | cons q r => exact ⟨by have := h.1; lia, h.2⟩
theorem NF.mem_gt {sp : List (Int × Int)} : ∀ {b i : Int}, NF b sp → MemS sp i → b < i := by
  induction sp with
  | nil => intro b i _ h; exact absurd h memS_nil
  | cons q r ih =>
    intro b i h hm
    rcases memS_cons.mp hm with h1 | h1
    · have := h.1; lia
    · have := ih h.2.2 h1
      have := h.1; have := h.2.1; lia
theorem NF.pos {sp : List (Int × Int)} : ∀ {b : Int}, NF b sp → ∀ q ∈ sp, b < q.1 ∧ q.1 < q.2 := by
  induction sp with
  | nil => intro b _ q hq; exact nomatch hq
  | cons p r ih =>
    intro b h q hq
    rcases List.mem_cons.mp hq with rfl | hq
    · exact ⟨h.1, h.2.1⟩
    · have h9 := ih h.2.2 q hq
      have := h.1; have := h.2.1
      exact ⟨by lia, h9.2⟩
theorem NF.ext {xs : List (Int × Int)} : ∀ {ys : List (Int × Int)} {b : Int}, NF b xs → NF b ys → (∀ i, MemS xs i ↔ MemS ys i) → xs = ys := by
  induction xs with
  | nil =>
    intro ys b _ hy h
    cases ys with
    | nil => rfl
    | cons q r => exact absurd ((h q.1).mpr (memS_cons.mpr (.inl ⟨Int.le_refl _, hy.2.1⟩))) memS_nil
  | cons p r ih =>
    intro ys b hx hy h
    cases ys with
    | nil => exact absurd ((h p.1).mp (memS_cons.mpr (.inl ⟨Int.le_refl _, hx.2.1⟩))) memS_nil
    | cons q t =>
      have low : ∀ {u v : Int × Int} {us vs : List (Int × Int)} {c : Int}, NF c (u :: us) → NF c (v :: vs) → (∀ i, MemS (u :: us) i ↔ MemS (v :: vs) i) → u.1 ≤ v.1 := by
        intro u v us vs c hu hv hh
        rcases memS_cons.mp ((hh v.1).mpr (memS_cons.mpr (.inl ⟨Int.le_refl _, hv.2.1⟩))) with h1 | h1
        · exact h1.1
        · have := hu.2.2.mem_gt h1
          have := hu.2.1; lia
      have e1 : p.1 = q.1 := Int.le_antisymm (low hx hy h) (low hy hx fun i => (h i).symm)
      have top : ∀ {u v : Int × Int} {us vs : List (Int × Int)} {c : Int}, u.1 = v.1 → NF c (u :: us) → NF c (v :: vs) → (∀ i, MemS (u :: us) i ↔ MemS (v :: vs) i) → u.2 ≤ v.2 := by
        intro u v us vs c e hu hv hh
        cases Int.lt_or_le v.2 u.2 with
        | inr h => exact h
        | inl hl =>
          have h2 := hv.2.1
          rcases memS_cons.mp ((hh v.2).mp (memS_cons.mpr (.inl ⟨by lia, hl⟩))) with h1 | h1
          · lia
          · have := hv.2.2.mem_gt h1; lia
      have e2 : p.2 = q.2 := Int.le_antisymm (top e1 hx hy h) (top e1.symm hy hx fun i => (h i).symm)
      obtain rfl : p = q := Prod.ext e1 e2
      congr 1
      refine ih hx.2.2 hy.2.2 fun i => ?_
      have hi := h i
      rw [memS_cons, memS_cons] at hi
      constructor
      · intro hm
        have := hx.2.2.mem_gt hm
        rcases hi.mp (.inr hm) with h1 | h1
        · lia
        · exact h1
      · intro hm
        have := hy.2.2.mem_gt hm
        rcases hi.mpr (.inr hm) with h1 | h1
        · lia
        · exact h1
end Mine

namespace Mine
theorem memS_append {xs ys : List (Int × Int)} {i : Int} : MemS (xs ++ ys) i ↔ MemS xs i ∨ MemS ys i := by
  constructor
  · rintro ⟨q, hq, h⟩
    rcases List.mem_append.mp hq with hq | hq
    · exact .inl ⟨q, hq, h⟩
    · exact .inr ⟨q, hq, h⟩
  · rintro (⟨q, hq, h⟩ | ⟨q, hq, h⟩)
    · exact ⟨q, List.mem_append.mpr (.inl hq), h⟩
    · exact ⟨q, List.mem_append.mpr (.inr hq), h⟩
theorem memS_one {a b i : Int} : MemS [(a, b)] i ↔ a ≤ i ∧ i < b := by
  rw [memS_cons]
  exact ⟨fun h => h.elim id fun h => absurd h memS_nil, .inl⟩
theorem pmin_eq (a b : Int) : pmin a b = min a b := by unfold pmin; split <;> lia
theorem pmax_eq (a b : Int) : pmax a b = max a b := by unfold pmax; split <;> lia
theorem memS_if {a m i : Int} : MemS (if a < m then [(a, m)] else []) i ↔ a ≤ i ∧ i < m := by
  split
  · exact memS_one
  · exact ⟨fun h => absurd h memS_nil, fun h => absurd (Int.lt_of_le_of_lt h.1 h.2) (by assumption)⟩
theorem mem_if {a m : Int} {p : Int × Int} (h : p ∈ if a < m then [(a, m)] else []) : p = (a, m) := by
  split at h
  · exact List.mem_singleton.mp h
  · exact nomatch h
theorem cut_key {a b lo hi i : Int} : (a ≤ i ∧ i < min b lo) ∨ (max a hi ≤ i ∧ i < b) ↔ (a ≤ i ∧ i < b) ∧ ¬ (lo ≤ i ∧ i < hi) :=
  ⟨fun h => h.elim (fun h => ⟨⟨h.1, (Int.lt_min.mp h.2).1⟩, fun k => Int.not_le.mpr (Int.lt_min.mp h.2).2 k.1⟩) fun h => ⟨⟨(Int.max_le.mp h.1).1, h.2⟩, fun k => Int.not_lt.mpr (Int.max_le.mp h.1).2 k.2⟩,
    fun h => (Int.lt_or_le i lo).elim (fun hl => .inl ⟨h.1.1, Int.lt_min.mpr ⟨h.1.2, hl⟩⟩) fun hl => .inr ⟨Int.max_le.mpr ⟨h.1.1, Int.not_lt.mp fun k => h.2 ⟨hl, k⟩⟩, h.1.2⟩⟩
theorem cutL_cons {q : Int × Int} {r : List (Int × Int)} {lo hi : Int} : cutL (q :: r) lo hi = ((if q.1 < min q.2 lo then [(q.1, min q.2 lo)] else []) ++ (if max q.1 hi < q.2 then [(max q.1 hi, q.2)] else [])) ++ cutL r lo hi := by
  rw [← pmin_eq, ← pmax_eq]; rfl
theorem cut_mem {lo hi : Int} (hlt : lo < hi) : ∀ {sp : List (Int × Int)} {i : Int}, MemS (cutL sp lo hi) i ↔ MemS sp i ∧ ¬ (lo ≤ i ∧ i < hi) := by
  intro sp
  induction sp with
  | nil => intro i; exact ⟨fun h => absurd h memS_nil, fun h => absurd h.1 memS_nil⟩
  | cons q r ih =>
    intro i
    rw [cutL_cons, memS_append, memS_append, ih, memS_cons, memS_if, memS_if, cut_key]
    exact or_and_right.symm
theorem nf_app {xs ys : List (Int × Int)} : ∀ {b c : Int}, NF b xs → (∀ q ∈ xs, q.2 ≤ c) → b ≤ c → NF c ys → NF b (xs ++ ys) := by
  induction xs with
  | nil => intro b c _ _ hbc hy; exact hy.weaken hbc
  | cons q r ih =>
    intro b c hx hc hbc hy
    exact ⟨hx.1, hx.2.1, ih hx.2.2 (fun p hp => hc p (.tail _ hp)) (hc q (.head _)) hy⟩
theorem nf_if {b a m : Int} (h : b < a) : NF b (if a < m then [(a, m)] else []) := by
  split
  · exact ⟨h, by assumption, trivial⟩
  · trivial
theorem cut_nf {lo hi : Int} (hlt : lo < hi) : ∀ {sp : List (Int × Int)} {b : Int}, NF b sp → NF b (cutL sp lo hi) := by
  intro sp
  induction sp with
  | nil => intro b _; trivial
  | cons q r ih =>
    intro b h
    rw [cutL_cons]
    have hm : min q.2 lo < max q.1 hi := Int.lt_of_le_of_lt (Int.min_le_right _ _) (Int.lt_of_lt_of_le hlt (Int.le_max_right _ _))
    have hb : b < max q.1 hi := Int.lt_of_lt_of_le h.1 (Int.le_max_left _ _)
    refine nf_app (c := q.2) (nf_app (c := max q.1 hi - 1) (nf_if h.1) (fun p hp => ?_) (Int.le_sub_one_of_lt hb) (nf_if (Int.sub_one_lt_of_le (Int.le_refl _)))) (fun p hp => ?_) (Int.le_of_lt (Int.lt_trans h.1 h.2.1)) (ih h.2.2)
    · rw [mem_if hp]; exact Int.le_sub_one_of_lt hm
    · rcases List.mem_append.mp hp with hp | hp
      · rw [mem_if hp]; exact Int.min_le_left _ _
      · rw [mem_if hp]; exact Int.le_refl _
end Mine

namespace Mine
/-! the plain law: cuts of the octets -/
noncomputable def ex (d : Array UInt8) (lo hi : Int) : Array UInt8 := d.extract lo.toNat hi.toNat
theorem ex_size {d : Array UInt8} {lo hi : Int} (h0 : 0 ≤ lo) (h1 : lo ≤ hi) (h2 : hi ≤ (d.size : Int)) : ((ex d lo hi).size : Int) = hi - lo := by
  unfold ex
  rw [Array.size_extract, Nat.min_eq_left (Int.toNat_le.mpr h2), Int.ofNat_sub (Int.toNat_le_toNat h1), Int.toNat_of_nonneg (Int.le_trans h0 h1), Int.toNat_of_nonneg h0]
theorem ex_le {d : Array UInt8} {lo hi : Int} : (ex d lo hi).size ≤ d.size := by
  unfold ex
  rw [Array.size_extract]
  exact Nat.le_trans (Nat.sub_le _ _) (Nat.min_le_right _ _)
theorem ex_nil {d : Array UInt8} {lo hi : Int} (h : hi ≤ lo) : ex d lo hi = #[] := by
  unfold ex
  exact Array.extract_empty_of_stop_le_start (Int.toNat_le_toNat h)
theorem ex_app {d : Array UInt8} {lo mid hi : Int} (h1 : lo ≤ mid) (h2 : mid ≤ hi) : ex d lo mid ++ ex d mid hi = ex d lo hi := by
  unfold ex
  rw [Array.extract_append_extract, Nat.min_eq_left (Int.toNat_le_toNat h1), Nat.max_eq_right (Int.toNat_le_toNat h2)]
theorem ex_grow {d more : Array UInt8} {lo hi : Int} (h : hi ≤ (d.size : Int)) : ex (d ++ more) lo hi = ex d lo hi := by
  unfold ex
  rw [Array.extract_append, Array.extract_empty_of_stop_le_start (xs := more) (by rw [Nat.sub_eq_zero_of_le (Int.toNat_le.mpr h)]; exact Nat.zero_le _), Array.append_empty]
theorem ex_all {d : Array UInt8} : ex d 0 (d.size : Int) = d := by
  unfold ex
  show d.extract 0 _ = d
  rw [Int.toNat_natCast, Array.extract_size]
theorem picked_ex (b : Array UInt8) (lo hi : Option Int) : KBy.picked b lo hi = b.extract (lo.elim 0 (clipAt b.size)) (hi.elim b.size (clipAt b.size)) := by
  rw [KBc.picked_eq]
  apply Array.toList_inj.mp
  simp only [Array.toList_extract, List.extract_eq_take_drop]
theorem picked_mid {d : Array UInt8} {lo hi : Int} (h0 : 0 ≤ lo) (h1 : lo ≤ hi) (h2 : hi ≤ (d.size : Int)) : KBy.picked d (some lo) (some hi) = ex d lo hi := by
  rw [picked_ex]
  show d.extract (clipAt d.size lo) (clipAt d.size hi) = _
  rw [clipAt_in h0 (by lia), clipAt_in (by lia) h2]
  rfl
theorem picked_to {d : Array UInt8} {k : Int} (h0 : 0 ≤ k) (h2 : k ≤ (d.size : Int)) : KBy.picked d none (some k) = ex d 0 k := by
  rw [picked_ex]
  show d.extract 0 (clipAt d.size k) = _
  rw [clipAt_in h0 h2]
  rfl
theorem picked_from {d : Array UInt8} {k : Int} (h0 : 0 ≤ k) (h2 : k ≤ (d.size : Int)) : KBy.picked d (some k) none = ex d k d.size := by
  rw [picked_ex]
  show d.extract (clipAt d.size k) d.size = _
  rw [clipAt_in h0 h2]
  unfold ex
  rw [Int.toNat_natCast]
theorem picked_past {d : Array UInt8} {k : Int} (h2 : (d.size : Int) ≤ k) : KBy.picked d (some k) none = #[] := by
  rw [picked_ex]
  show d.extract (clipAt d.size k) d.size = _
  have h := clipAt_min (n := d.size) (y := k) (by lia)
  have e : clipAt d.size k = d.size := by
    split at h <;> lia
  rw [e]
  exact Array.extract_empty_of_stop_le_start (Nat.le_refl _)
theorem ex_ex {d : Array UInt8} {lo hi a b : Int} (h0 : 0 ≤ lo) (h1 : lo ≤ hi) (h2 : hi ≤ (d.size : Int)) (ha : 0 ≤ a) (hb : b ≤ hi - lo) : ex (ex d lo hi) a b = ex d (lo + a) (lo + b) := by
  unfold ex
  rw [Array.extract_extract]
  cases Int.lt_or_le b 0 with
  | inr hb1 => rw [← Int.toNat_add h0 ha, ← Int.toNat_add h0 hb1, Nat.min_eq_left (Int.toNat_le_toNat (Int.add_comm lo b ▸ Int.add_le_of_le_sub_right hb))]
  | inl hb1 =>
    have hb2 := Int.le_of_lt hb1
    rw [Array.extract_empty_of_stop_le_start (Nat.le_trans (Nat.min_le_left _ _) (by rw [Int.toNat_of_nonpos hb2]; exact Nat.le_add_right _ _)), Array.extract_empty_of_stop_le_start (Int.toNat_le_toNat (Int.add_le_add_left (Int.le_trans hb2 ha) lo))]
/-- the piece of d at a span -/
noncomputable def cutD (d : Array UInt8) (q : Int × Int) : Int × Array UInt8 := (q.1, ex d q.1 q.2)
theorem merge_ex {d : Array UInt8} {lo hi x y : Int} (h0 : 0 ≤ lo) (h1 : lo ≤ hi) (h2 : hi ≤ (d.size : Int)) (k0 : 0 ≤ x) (k1 : x ≤ y) (k2 : y ≤ (d.size : Int)) (t1 : lo ≤ y) (t2 : x ≤ hi) :
    (KBy.picked (ex d lo hi) none (some (pmax 0 (x - lo))) ++ ex d x y) ++ KBy.picked (ex d lo hi) (some (y - lo)) none = ex d (min lo x) (max hi y) := by
  have hs := ex_size (d := d) h0 h1 h2
  have head : KBy.picked (ex d lo hi) none (some (pmax 0 (x - lo))) = ex d lo x := by
    unfold pmax
    cases Int.lt_or_le lo x with
    | inl hx =>
      have hx1 : 0 < x - lo := Int.sub_pos_of_lt hx
      have hx2 := Int.sub_le_sub_right t2 lo
      rw [if_pos hx1, picked_to (Int.le_of_lt hx1) (hs ▸ hx2), ex_ex h0 h1 h2 (Int.le_refl 0) hx2, Int.add_zero, Int.add_comm lo, Int.sub_add_cancel]
    | inr hx => rw [if_neg (Int.not_lt.mpr (Int.sub_nonpos_of_le hx)), picked_to (Int.le_refl 0) (Int.natCast_nonneg _), ex_nil (Int.le_refl 0), ex_nil hx]
  have tail : KBy.picked (ex d lo hi) (some (y - lo)) none = ex d y hi := by
    cases Int.lt_or_le hi y with
    | inr hy => rw [picked_from (Int.sub_nonneg_of_le t1) (hs ▸ Int.sub_le_sub_right hy lo), hs, ex_ex h0 h1 h2 (Int.sub_nonneg_of_le t1) (Int.le_refl _), Int.add_comm lo, Int.sub_add_cancel, Int.add_comm lo, Int.sub_add_cancel]
    | inl hy => rw [picked_past (hs ▸ Int.sub_le_sub_right (Int.le_of_lt hy) lo), ex_nil (Int.le_of_lt hy)]
  rw [head, tail]
  have e1 : ex d lo x ++ ex d x y = ex d (min lo x) y := by
    cases Int.lt_or_le lo x with
    | inl hx => rw [Int.min_eq_left (Int.le_of_lt hx), ex_app (Int.le_of_lt hx) k1]
    | inr hx => rw [ex_nil hx, Array.empty_append, Int.min_eq_right hx]
  rw [e1]
  cases Int.lt_or_le y hi with
  | inl hy => rw [Int.max_eq_left (Int.le_of_lt hy), ex_app (Int.le_trans (Int.min_le_left _ _) t1) (Int.le_of_lt hy)]
  | inr hy => rw [ex_nil hy, Array.append_empty, Int.max_eq_right hy]
end Mine

namespace Mine
/-! the plain law: add_span and add_piece put in one and the same way -/
theorem nn {b x : Int} (h : -1 ≤ b) (h1 : b < x) : 0 ≤ x := Int.add_one_le_of_lt (Int.lt_of_le_of_lt h h1)
theorem ex_end {d : Array UInt8} {lo hi : Int} (h0 : 0 ≤ lo) (h1 : lo ≤ hi) (h2 : hi ≤ (d.size : Int)) : lo + ((ex d lo hi).size : Int) = hi := by
  rw [ex_size h0 h1 h2, Int.add_comm, Int.sub_add_cancel]
theorem lt2 {c a b : Int} (h : c < a) (h2 : a < b) : c ≤ b := Int.le_of_lt (Int.lt_trans h h2)
theorem merge_key {lo hi x y i : Int} (t1 : lo ≤ y) (t2 : x ≤ hi) : (min lo x ≤ i ∧ i < max hi y) ↔ (x ≤ i ∧ i < y) ∨ (lo ≤ i ∧ i < hi) := by
  constructor
  · intro h
    cases Int.lt_or_le i hi with
    | inl h1 =>
      cases Int.lt_or_le i lo with
      | inr h2 => exact .inr ⟨h2, h1⟩
      | inl h2 => exact .inl ⟨Int.not_lt.mp fun h3 => Int.not_lt.mpr h.1 (Int.lt_min.mpr ⟨h2, h3⟩), Int.lt_of_lt_of_le h2 t1⟩
    | inr h1 => exact .inl ⟨Int.le_trans t2 h1, Int.not_le.mp fun h3 => Int.not_le.mpr h.2 (Int.max_le.mpr ⟨h1, h3⟩)⟩
  · exact fun h => h.elim (fun h => ⟨Int.le_trans (Int.min_le_right _ _) h.1, Int.lt_of_lt_of_le h.2 (Int.le_max_right _ _)⟩) fun h => ⟨Int.le_trans (Int.min_le_left _ _) h.1, Int.lt_of_lt_of_le h.2 (Int.le_max_left _ _)⟩
noncomputable def addR (st : AddSt) : List (Int × Int) := if st.put then st.found else st.found ++ [(st.lo, st.hi)]
theorem add_put {lo hi : Int} : ∀ {sp : List (Int × Int)} {fd : List (Int × Int)} {c : Int}, NF c sp → hi ≤ c → sp.foldl addStep ⟨fd, true, lo, hi⟩ = ⟨fd ++ sp, true, lo, hi⟩ := by
  intro sp
  induction sp with
  | nil => intro fd c _ _; rw [List.append_nil]; rfl
  | cons q r ih =>
    intro fd c h hc
    have h1 := h.1; have h2 := h.2.1
    rw [List.foldl_cons]
    have e : addStep ⟨fd, true, lo, hi⟩ q = ⟨fd ++ [q], true, lo, hi⟩ := by
      obtain ⟨x, y⟩ := q
      by_cases hy : y < lo
      · exact addStep_1 hy
      · exact addStep_2 hy (Int.lt_of_le_of_lt hc h1)
    rw [e, ih h.2.2 (Int.le_trans hc (lt2 h1 h2)), List.append_assoc]
    rfl
theorem piece_put {d : Array UInt8} {lo hi : Int} (l0 : 0 ≤ lo) (l1 : lo ≤ hi) (l2 : hi ≤ (d.size : Int)) : ∀ {sp : List (Int × Int)} {fd : List (Int × Array UInt8)} {c : Int}, NF c sp → hi ≤ c →
    (sp.map (cutD d)).foldl pieceStep ⟨fd, lo, ex d lo hi⟩ = ⟨fd ++ sp.map (cutD d), lo, ex d lo hi⟩ := by
  intro sp
  induction sp with
  | nil => intro fd c _ _; rw [List.map_nil, List.append_nil]; rfl
  | cons q r ih =>
    intro fd c h hc
    have h1 := h.1; have h2 := h.2.1
    rw [List.map_cons, List.foldl_cons]
    have e : pieceStep ⟨fd, lo, ex d lo hi⟩ (cutD d q) = ⟨fd ++ [cutD d q], lo, ex d lo hi⟩ := by
      unfold cutD
      exact pieceStep_2 (by rw [ex_end l0 l1 l2]; exact Int.lt_of_le_of_lt hc h1)
    rw [e, ih h.2.2 (Int.le_trans hc (lt2 h1 h2)), List.append_assoc]
    rfl
noncomputable abbrev AddGo (d : Array UInt8) (sp : List (Int × Int)) (b lo hi : Int) (fd : List (Int × Int)) (fp : List (Int × Array UInt8)) (pre post : List (Int × Int)) (lo' hi' : Int) : Prop :=
  addR (sp.foldl addStep ⟨fd, false, lo, hi⟩) = fd ++ (pre ++ (lo', hi') :: post) ∧
    (sp.map (cutD d)).foldl pieceStep ⟨fp, lo, ex d lo hi⟩ = ⟨fp ++ (pre ++ post).map (cutD d), lo', ex d lo' hi'⟩ ∧
    NF b (pre ++ (lo', hi') :: post) ∧ (∀ i, MemS (pre ++ (lo', hi') :: post) i ↔ MemS sp i ∨ lo ≤ i ∧ i < hi) ∧ (∀ q ∈ pre ++ (lo', hi') :: post, q.2 ≤ (d.size : Int)) ∧ lo' ≤ lo ∧ hi ≤ hi'
theorem add_go {d : Array UInt8} : ∀ {sp : List (Int × Int)} {b lo hi : Int} {fd : List (Int × Int)} {fp : List (Int × Array UInt8)}, NF b sp → (∀ q ∈ sp, q.2 ≤ (d.size : Int)) → -1 ≤ b → b < lo → lo < hi → hi ≤ (d.size : Int) →
    ∃ pre post lo' hi', AddGo d sp b lo hi fd fp pre post lo' hi' := by
  intro sp
  induction sp with
  | nil =>
    intro b lo hi fd fp _ _ hb0 hb hl hz
    refine ⟨[], [], lo, hi, rfl, ?_, ⟨hb, hl, trivial⟩, fun i => ?_, fun q hq => ?_, Int.le_refl _, Int.le_refl _⟩
    · show PcSt.mk fp _ _ = ⟨fp ++ [], _, _⟩
      rw [List.append_nil]
    · exact memS_cons.trans ⟨fun h => h.elim .inr fun h => absurd h memS_nil, fun h => h.elim (fun h => absurd h memS_nil) .inl⟩
    · rw [List.mem_singleton.mp hq]; exact hz
  | cons q r ih =>
    intro b lo hi fd fp h hq hb0 hb hl hz
    obtain ⟨x, y⟩ := q
    obtain ⟨h1, h2, h3⟩ := h
    dsimp only at h1 h2 h3
    have hy9 : y ≤ (d.size : Int) := hq _ (.head _)
    have hqr : ∀ q ∈ r, q.2 ≤ (d.size : Int) := fun q h => hq q (.tail _ h)
    have hlh := Int.le_of_lt hl
    have hxy := Int.le_of_lt h2
    have l0 := nn hb0 hb
    have x0 := nn hb0 h1
    have hs := ex_end l0 hlh hz
    have hs2 := ex_end x0 hxy hy9
    have hyb := nn hb0 (Int.lt_trans h1 h2)
    by_cases hyl : y < lo
    · obtain ⟨pre, post, lo', hi', e1, e2, n1, m1, z1, b1, b2⟩ := ih (b := y) (lo := lo) (hi := hi) (fd := fd ++ [(x, y)]) (fp := fp ++ [(x, ex d x y)]) h3 hqr (Int.le_trans (by decide) hyb) hyl hl hz
      refine ⟨(x, y) :: pre, post, lo', hi', ?_, ?_, ⟨h1, h2, n1⟩, fun i => ?_, fun q hq2 => ?_, b1, b2⟩
      · show addR (r.foldl addStep (addStep _ (x, y))) = _
        rw [addStep_1 hyl, e1, List.append_assoc]; rfl
      · show (r.map (cutD d)).foldl pieceStep (pieceStep _ (x, ex d x y)) = _
        rw [pieceStep_1 (by rw [hs2]; exact hyl), e2, List.append_assoc]; rfl
      · rw [List.cons_append, memS_cons, m1, memS_cons, or_assoc]
      · rcases List.mem_cons.mp hq2 with rfl | h9
        · exact hy9
        · exact z1 q h9
    · by_cases hxh : hi < x
      · refine ⟨[], (x, y) :: r, lo, hi, ?_, ?_, ⟨hb, hl, hxh, h2, h3⟩, fun i => ?_, fun q hq2 => ?_, Int.le_refl _, Int.le_refl _⟩
        · show addR (r.foldl addStep (addStep _ (x, y))) = _
          rw [addStep_3 hyl hxh, add_put h3 (lt2 hxh h2)]
          show ((fd ++ [(lo, hi)]) ++ [(x, y)]) ++ r = _
          rw [List.append_assoc, List.append_assoc]; rfl
        · show (r.map (cutD d)).foldl pieceStep (pieceStep _ (x, ex d x y)) = _
          rw [pieceStep_2 (by rw [hs]; exact hxh), piece_put l0 hlh hz h3 (lt2 hxh h2), List.append_assoc]; rfl
        · show MemS ((lo, hi) :: (x, y) :: r) i ↔ _
          rw [memS_cons]
          exact or_comm
        · rcases List.mem_cons.mp hq2 with rfl | h9
          · exact hz
          · exact hq q h9
      · have t1 := Int.not_lt.mp hyl
        have t2 := Int.not_lt.mp hxh
        obtain ⟨pre, post, lo', hi', e1, e2, n1, m1, z1, b1, b2⟩ := ih (b := b) (lo := min lo x) (hi := max hi y) (fd := fd) (fp := fp) (h3.weaken (lt2 h1 h2)) hqr hb0 (Int.lt_min.mpr ⟨hb, h1⟩) (Int.lt_of_le_of_lt (Int.min_le_left _ _) (Int.lt_of_lt_of_le hl (Int.le_max_left _ _))) (Int.max_le.mpr ⟨hz, hy9⟩)
        refine ⟨pre, post, lo', hi', ?_, ?_, n1, fun i => ?_, z1, Int.le_trans b1 (Int.min_le_left _ _), Int.le_trans (Int.le_max_left _ _) b2⟩
        · show addR (r.foldl addStep (addStep _ (x, y))) = _
          rw [addStep_4 hyl hxh, pmin_eq, pmax_eq, e1]
        · show (r.map (cutD d)).foldl pieceStep (pieceStep _ (x, ex d x y)) = _
          rw [pieceStep_3 (by rw [hs2]; exact hyl) (by rw [hs]; exact hxh), hs2, merge_ex l0 hlh hz x0 hxy hy9 t1 t2, pmin_eq, e2]
        rw [m1, memS_cons, merge_key t1 t2, ← or_assoc, or_comm (a := MemS r i)]
theorem addL_eq {sp : List (Int × Int)} {lo hi : Int} (h : lo < hi) : addL sp lo hi = addR (sp.foldl addStep ⟨[], false, lo, hi⟩) := by
  unfold addL addR
  rw [if_neg (Int.not_le.mpr h)]
/-- spans within the first n places, in normal form -/
structure In (n : Int) (b : Int) (sp : List (Int × Int)) : Prop where
  nf : NF b sp
  hi : ∀ q ∈ sp, q.2 ≤ n
theorem In.len {n : Int} : ∀ {sp : List (Int × Int)} {b : Int}, In n b sp → b ≤ n → 2 * (sp.length : Int) ≤ n - b := by
  intro sp
  induction sp with
  | nil => intro b _ h; simp; lia
  | cons q r ih =>
    intro b h hb
    have h1 := h.nf.1; have h2 := h.nf.2.1
    have := ih ⟨h.nf.2.2, fun p hp => h.hi p (.tail _ hp)⟩ (h.hi _ (.head _))
    rw [List.length_cons]
    push_cast
    lia
theorem In.mem {n b i : Int} {sp : List (Int × Int)} (h : In n b sp) (hm : MemS sp i) : b < i ∧ i < n := by
  obtain ⟨q, hq, _, h2⟩ := id hm
  exact ⟨h.nf.mem_gt hm, Int.lt_of_lt_of_le h2 (h.hi q hq)⟩
theorem In.nil {n b : Int} : In n b [] := ⟨trivial, fun _ h => nomatch h⟩
theorem In.add {n b lo hi : Int} {sp : List (Int × Int)} (h : In n b sp) (hb : -1 ≤ b) (hl : b < lo) (hh : hi ≤ n) : In n b (addL sp lo hi) ∧ ∀ i, MemS (addL sp lo hi) i ↔ MemS sp i ∨ lo ≤ i ∧ i < hi := by
  by_cases hlt : lo < hi
  · have en : (((Array.replicate n.toNat (0 : UInt8)).size : Nat) : Int) = n := by rw [Array.size_replicate]; exact Int.toNat_of_nonneg (Int.le_trans (nn hb hl) (Int.le_trans (Int.le_of_lt hlt) hh))
    obtain ⟨pre, post, lo', hi', e1, _, n1, m1, z1, _⟩ := add_go (d := Array.replicate n.toNat 0) (fd := []) (fp := []) h.nf (by rw [en]; exact h.hi) hb hl hlt (by rw [en]; exact hh)
    rw [en] at z1
    rw [addL_eq hlt, e1]
    exact ⟨⟨n1, z1⟩, m1⟩
  · have e : addL sp lo hi = sp := by unfold addL; rw [if_pos (Int.not_lt.mp hlt)]
    rw [e]
    exact ⟨h, fun i => ⟨.inl, fun h => h.elim id fun h => absurd (Int.lt_of_le_of_lt h.1 h.2) hlt⟩⟩
theorem NF.append_left {ys : List (Int × Int)} : ∀ {xs : List (Int × Int)} {b : Int}, NF b (xs ++ ys) → NF b xs := by
  intro xs
  induction xs with
  | nil => intro b _; trivial
  | cons q r ih => intro b h; exact ⟨h.1, h.2.1, ih h.2.2⟩
theorem In.take {n b : Int} {sp : List (Int × Int)} (h : In n b sp) (i : Nat) : In n b (sp.take i) :=
  ⟨NF.append_left (ys := sp.drop i) (by rw [List.take_append_drop]; exact h.nf), fun q hq => h.hi q (List.mem_of_mem_take hq)⟩
theorem cut_hi {lo hi n : Int} : ∀ {sp : List (Int × Int)}, (∀ q ∈ sp, q.2 ≤ n) → ∀ q ∈ cutL sp lo hi, q.2 ≤ n
  | [], _, _, hq => nomatch hq
  | p :: r, h, q, hq => by
    rw [cutL_cons] at hq
    rcases List.mem_append.mp hq with hq | hq
    · refine Int.le_trans ?_ (h p (.head _))
      rcases List.mem_append.mp hq with hq | hq
      · rw [mem_if hq]; exact Int.min_le_left _ _
      · rw [mem_if hq]; exact Int.le_refl _
    · exact cut_hi (fun q hq => h q (.tail _ hq)) q hq
theorem In.cut {n b lo hi : Int} {sp : List (Int × Int)} (h : In n b sp) (hl : lo < hi) : In n b (cutL sp lo hi) := ⟨cut_nf hl h.nf, cut_hi h.hi⟩
theorem In.ext {n b : Int} {xs ys : List (Int × Int)} (hx : In n b xs) (hy : In n b ys) (h : ∀ i, MemS xs i ↔ MemS ys i) : xs = ys := hx.nf.ext hy.nf h
/-- withoutL: what the others hold is cut -/
theorem In.without {n b : Int} : ∀ {ot : List (Int × Int)} {sp : List (Int × Int)}, In n b sp → (∀ q ∈ ot, q.1 < q.2) → In n b (withoutL sp ot) ∧ ∀ i, MemS (withoutL sp ot) i ↔ MemS sp i ∧ ¬ MemS ot i := by
  intro ot
  induction ot with
  | nil => intro sp h _; exact ⟨h, fun i => ⟨fun h => ⟨h, memS_nil⟩, fun h => h.1⟩⟩
  | cons q r ih =>
    intro sp h ho
    have hq := ho q (.head _)
    obtain ⟨h1, h2⟩ := ih (h.cut hq) fun p hp => ho p (.tail _ hp)
    refine ⟨h1, fun i => ?_⟩
    show MemS (withoutL (cutL sp q.1 q.2) r) i ↔ _
    rw [h2, cut_mem hq, memS_cons]
    constructor
    · rintro ⟨⟨a, b⟩, c⟩
      exact ⟨a, fun h => h.elim b c⟩
    · rintro ⟨a, b⟩
      exact ⟨⟨a, fun h => b (.inl h)⟩, fun h => b (.inr h)⟩
theorem In.adds {n b : Int} (hb : -1 ≤ b) : ∀ {ot : List (Int × Int)} {sp : List (Int × Int)}, In n b sp → (∀ q ∈ ot, b < q.1 ∧ q.2 ≤ n) → In n b (lostL sp ot) ∧ ∀ i, MemS (lostL sp ot) i ↔ MemS sp i ∨ MemS ot i := by
  intro ot
  induction ot with
  | nil => intro sp h _; exact ⟨h, fun i => ⟨.inl, fun h => h.elim id fun h => absurd h memS_nil⟩⟩
  | cons q r ih =>
    intro sp h ho
    have hq := ho q (.head _)
    obtain ⟨a1, a2⟩ := h.add hb hq.1 hq.2
    obtain ⟨h1, h2⟩ := ih a1 fun p hp => ho p (.tail _ hp)
    refine ⟨h1, fun i => ?_⟩
    show MemS (lostL (addL sp q.1 q.2) r) i ↔ _
    rw [h2, a2, memS_cons, or_assoc]
end Mine

namespace Mine
/-! the plain law: what arrives at an end -/
structure EInv (d : Array UInt8) (lim : Int) (st : EndSt) (sp : List (Int × Int)) : Prop where
  ps : st.ps = sp.map (cutD d)
  nf : NF st.told sp
  hn : ∀ q ∈ sp, q.2 ≤ (d.size : Int)
  hl : ∀ q ∈ sp, q.2 ≤ st.told + lim
  t0 : 0 ≤ st.told
  tn : st.told ≤ (d.size : Int)
  td : st.td = ex d 0 st.told
noncomputable def Has (st : EndSt) (sp : List (Int × Int)) (i : Int) : Prop := (0 ≤ i ∧ i < st.told) ∨ MemS sp i
structure RowOk (d : Array UInt8) (r : Int × Array UInt8) : Prop where
  r0 : 0 ≤ r.1
  rs : 0 < r.2.size
  rn : r.1 + (r.2.size : Int) ≤ (d.size : Int)
  re : r.2 = ex d r.1 (r.1 + (r.2.size : Int))
theorem NF.sorted {sp : List (Int × Int)} : ∀ {b : Int}, NF b sp → (sp.map (·.1)).Pairwise (· < ·) := by
  induction sp with
  | nil => intro b _; exact .nil
  | cons q r ih =>
    intro b h
    refine List.pairwise_cons.mpr ⟨fun x hx => ?_, ih h.2.2⟩
    obtain ⟨p, hp, rfl⟩ := List.mem_map.mp hx
    exact Int.lt_trans h.2.1 (h.2.2.pos p hp).1
theorem cut_map1 {d : Array UInt8} {sp : List (Int × Int)} : (sp.map (cutD d)).map (·.1) = sp.map (·.1) := by
  rw [List.map_map]; rfl
theorem covered_cut {d : Array UInt8} : ∀ {sp : List (Int × Int)} {b : Int}, NF b sp → -1 ≤ b → (∀ q ∈ sp, q.2 ≤ (d.size : Int)) → coveredL (sp.map (cutD d)) = sp := by
  intro sp
  induction sp with
  | nil => intro b _ _ _; rfl
  | cons q r ih =>
    intro b h hb hn
    have h0 := nn hb h.1
    have h2 := Int.le_of_lt h.2.1
    have e := ih h.2.2 (Int.le_trans (by decide) (Int.le_trans h0 h2)) fun p hp => hn p (.tail _ hp)
    unfold coveredL at e ⊢
    rw [List.map_cons, List.map_cons, e]
    congr 1
    exact Prod.ext rfl (ex_end h0 h2 (hn q (.head _)))
theorem take_gt {d : Array UInt8} {told : Int} : ∀ {sp : List (Int × Int)} {c : Int} {fd : Array UInt8} {lf : List (Int × Array UInt8)}, NF c sp → told ≤ c → (sp.map (cutD d)).foldl (takeStep told) (fd, lf) = (fd, lf ++ sp.map (cutD d)) := by
  intro sp
  induction sp with
  | nil => intro c fd lf _ _; rw [List.map_nil, List.append_nil]; rfl
  | cons q r ih =>
    intro c fd lf h hc
    have h1 := h.1; have h2 := h.2.1
    rw [List.map_cons, List.foldl_cons]
    have e : takeStep told (fd, lf) (cutD d q) = (fd, lf ++ [cutD d q]) := by
      unfold cutD
      have hx := Int.lt_of_le_of_lt hc h1
      exact takeStep_2 (fun k => Int.not_lt.mpr k.1 hx) hx
    rw [e, ih h.2.2 (Int.le_trans hc (lt2 h1 h2)), List.append_assoc]
    rfl
theorem take_ms {d : Array UInt8} {told : Int} {ms : List (Int × Int)} (h : NF (told - 1) ms) (hn : ∀ q ∈ ms, q.2 ≤ (d.size : Int)) (h0 : 0 ≤ told) (h1 : told ≤ (d.size : Int)) :
    ∃ t' ms', takeL (ms.map (cutD d)) told = (ex d told t', ms'.map (cutD d)) ∧ told ≤ t' ∧ t' ≤ (d.size : Int) ∧ NF t' ms' ∧ (∀ q ∈ ms', q ∈ ms) ∧ ∀ i, 0 ≤ i → ((i < told ∨ MemS ms i) ↔ (i < t' ∨ MemS ms' i)) := by
  cases ms with
  | nil =>
    refine ⟨told, [], ?_, Int.le_refl _, h1, trivial, (fun _ h => nomatch h), fun i _ => Iff.rfl⟩
    rw [ex_nil (Int.le_refl _)]; rfl
  | cons q r =>
    obtain ⟨k1, k2, k3⟩ := h
    have k4 := Int.le_of_sub_one_lt k1
    cases Int.lt_or_le told q.1 with
    | inr e =>
      have hq := hn q (.head _)
      obtain rfl := Int.le_antisymm k4 e
      have hs := ex_size (d := d) h0 (Int.le_of_lt k2) hq
      refine ⟨q.2, r, ?_, Int.le_of_lt k2, hq, k3, fun p hp => .tail _ hp, fun i _ => ?_⟩
      · show (r.map (cutD d)).foldl (takeStep q.1) (takeStep q.1 (#[], []) (q.1, ex d q.1 q.2)) = _
        have hz : (0 : Int) ≤ ((ex d q.1 q.2).size : Int) := Int.natCast_nonneg _
        rw [takeStep_1 (Int.le_refl _) (by rw [ex_end h0 (Int.le_of_lt k2) hq]; exact k2), Int.sub_self, picked_from (Int.le_refl _) hz, ex_all, take_gt k3 (Int.le_of_lt k2)]
        rfl
      · rw [memS_cons, ← or_assoc]
        exact ⟨fun h => h.imp (fun h => h.elim (fun h => Int.lt_trans h k2) (·.2)) id, fun h => h.imp (fun h => (Int.lt_or_le i q.1).imp id fun k => ⟨k, h⟩) id⟩
    | inl e =>
      refine ⟨told, q :: r, ?_, Int.le_refl _, h1, ⟨e, k2, k3⟩, fun p hp => hp, fun i _ => Iff.rfl⟩
      unfold takeL
      rw [ex_nil (Int.le_refl _), take_gt (c := told) (sp := q :: r) (show NF told (q :: r) from ⟨e, k2, k3⟩) (Int.le_refl _)]
      rfl
theorem filter_lt {d : Array UInt8} {lo hi : Int} {pre post : List (Int × Int)} (h : ((pre ++ (lo, hi) :: post).map (·.1)).Pairwise (· < ·)) :
    ((pre ++ post).map (cutD d)).filter (fun q => decide (q.1 < lo)) = pre.map (cutD d) ∧ ((pre ++ post).map (cutD d)).filter (fun q => decide (lo < q.1)) = post.map (cutD d) ∧
    (∀ q ∈ pre.map (cutD d), q.1 < lo) ∧ (∀ q ∈ post.map (cutD d), lo < q.1) := by
  rw [List.map_append, List.map_cons, List.pairwise_append, List.pairwise_cons] at h
  obtain ⟨_, ⟨h2, _⟩, h3⟩ := h
  have a1 : ∀ q ∈ pre.map (cutD d), q.1 < lo := fun q hq => by
    obtain ⟨p, hp, rfl⟩ := List.mem_map.mp hq
    exact h3 p.1 (List.mem_map.mpr ⟨p, hp, rfl⟩) lo (.head _)
  have a2 : ∀ q ∈ post.map (cutD d), lo < q.1 := fun q hq => by
    obtain ⟨p, hp, rfl⟩ := List.mem_map.mp hq
    exact h2 p.1 (List.mem_map.mpr ⟨p, hp, rfl⟩)
  refine ⟨?_, ?_, a1, a2⟩
  · rw [List.map_append, List.filter_append, List.filter_eq_self.mpr fun q hq => decide_eq_true (a1 q hq), List.filter_eq_nil_iff.mpr fun q hq k => Int.lt_asymm (a2 q hq) (of_decide_eq_true k), List.append_nil]
  · rw [List.map_append, List.filter_append, List.filter_eq_nil_iff.mpr fun q hq k => Int.lt_asymm (a1 q hq) (of_decide_eq_true k), List.filter_eq_self.mpr fun q hq => decide_eq_true (a2 q hq), List.nil_append]
theorem EInv.ps_le {d : Array UInt8} {lim : Int} {st : EndSt} {sp : List (Int × Int)} (h : EInv d lim st sp) (hd : d.size ≤ 15) : st.ps.length ≤ 8 ∧ ∀ q ∈ st.ps, q.2.size ≤ 15 := by
  have h9 := In.len (n := (d.size : Int)) ⟨h.nf, h.hn⟩ h.tn
  have := h.t0
  rw [h.ps, List.length_map]
  refine ⟨by lia, fun q hq => ?_⟩
  obtain ⟨p, _, rfl⟩ := List.mem_map.mp hq
  exact Nat.le_trans ex_le hd
theorem arrOff_le {told off i : Int} (h1 : told ≤ i) (h2 : off ≤ i) : arrOff told off ≤ i := by unfold arrOff; split <;> assumption
theorem arrOff_lt {told off i : Int} (h1 : told < i) (h2 : off < i) : arrOff told off < i := by unfold arrOff; split <;> assumption
theorem told_le {told off : Int} : told ≤ arrOff told off := by
  unfold arrOff
  split
  · exact Int.le_refl _
  · exact Int.not_lt.mp (by assumption)
theorem off_le {told off : Int} : off ≤ arrOff told off := by
  unfold arrOff
  split
  · exact Int.le_of_lt (by assumption)
  · exact Int.le_refl _
theorem lt_size {off : Int} {dt : Array UInt8} (rs : 0 < dt.size) : off < off + (dt.size : Int) := Int.lt_add_of_pos_right _ (Int.natCast_pos.mpr rs)
theorem arr_dt {d : Array UInt8} {told off : Int} {dt : Array UInt8} (hr : RowOk d (off, dt)) (c2 : told ≤ off + (dt.size : Int)) : arrDt told off dt = ex d (arrOff told off) (off + (dt.size : Int)) := by
  unfold arrDt arrOff
  have re : dt = ex d off (off + (dt.size : Int)) := hr.re
  have r0 : 0 ≤ off := hr.r0
  have hk : (off + (dt.size : Int)) - off = dt.size := by rw [Int.add_comm, Int.add_sub_cancel]
  split
  · rename_i ho
    have h0 : 0 ≤ told - off := Int.sub_nonneg_of_le (Int.le_of_lt ho)
    rw [picked_from h0 (hk ▸ Int.sub_le_sub_right c2 off)]
    refine (congrArg (fun x => ex x (told - off) dt.size) re).trans ?_
    rw [ex_ex r0 (Int.le_of_lt (lt_size hr.rs)) hr.rn h0 (Int.le_of_eq hk.symm), Int.add_comm off (told - off), Int.sub_add_cancel]
  · exact re
theorem arr_go {d : Array UInt8} {lim told off : Int} {td dt : Array UInt8} {ps : List (Int × Array UInt8)} {sp : List (Int × Int)} (h : EInv d lim ⟨told, td, ps⟩ sp) (hr : RowOk d (off, dt)) (c2 : told < off + (dt.size : Int)) (sq : List (Int × Int)) (n : NF told sq) (z : ∀ q ∈ sq, q ∈ sp) :
    ∃ pre post lo' hi', AddGo d sq (told - 1) (arrOff told off) (off + (dt.size : Int)) [] [] pre post lo' hi' ∧ (sq.map (cutD d)).foldl pieceStep ⟨[], arrOff told off, arrDt told off dt⟩ = ⟨(pre ++ post).map (cutD d), lo', ex d lo' hi'⟩ := by
  have t1 : told - 1 < told := Int.sub_one_lt_of_le (Int.le_refl _)
  obtain ⟨pre, post, lo', hi', g⟩ := add_go (d := d) (fd := []) (fp := []) (n.weaken (Int.le_of_lt t1)) (fun q hq => h.hn q (z q hq)) (Int.sub_le_sub_right h.t0 1) (Int.lt_of_lt_of_le t1 (told_le (off := off))) (arrOff_lt c2 (lt_size hr.rs)) hr.rn
  refine ⟨pre, post, lo', hi', g, ?_⟩
  rw [arr_dt hr (Int.le_of_lt c2)]
  exact g.2.1
theorem mid_ok {d : Array UInt8} {b lo' hi' : Int} {pre post : List (Int × Int)} {F : PcSt} (eF : F = ⟨(pre ++ post).map (cutD d), lo', ex d lo' hi'⟩) (n1 : NF b (pre ++ (lo', hi') :: post)) (z1 : ∀ q ∈ pre ++ (lo', hi') :: post, q.2 ≤ (d.size : Int)) (hb : -1 ≤ b) (hbn : b ≤ (d.size : Int)) (hd : d.size ≤ 15) :
    F = ⟨befL F ++ aftL F, F.beg, F.joined⟩ ∧ ((befL F ++ aftL F).map (·.1)).Pairwise (· < ·) ∧ (∀ q ∈ befL F, q.1 < F.beg) ∧ (∀ q ∈ aftL F, F.beg < q.1) ∧ (befL F ++ aftL F).length ≤ 8 ∧ (∀ q ∈ befL F ++ (F.beg, F.joined) :: aftL F, q.2.size ≤ 1000) ∧ befL F ++ (F.beg, F.joined) :: aftL F = (pre ++ (lo', hi') :: post).map (cutD d) := by
  refine hide fun G9 k9 => ?_
  obtain ⟨f1, f2, f3, f4⟩ := filter_lt (d := d) n1.sorted
  have eB : befL F = pre.map (cutD d) := by unfold befL; rw [eF]; exact f1
  have eA : aftL F = post.map (cutD d) := by unfold aftL; rw [eF]; exact f2
  have eb : F.beg = lo' := by rw [eF]
  have eM : befL F ++ (F.beg, F.joined) :: aftL F = (pre ++ (lo', hi') :: post).map (cutD d) := by rw [eB, eA, List.map_append, eF]; rfl
  refine k9 ⟨?_, ?_, ?_, ?_, ?_, ?_, eM⟩
  · rw [eB, eA, ← List.map_append, eF]
  · rw [eB, eA, ← List.map_append, cut_map1]
    exact n1.sorted.sublist ((List.Sublist.append (List.Sublist.refl _) (List.sublist_cons_self _ _)).map _)
  · rw [eB, eb]; exact f3
  · rw [eA, eb]; exact f4
  · have h9 := In.len (n := (d.size : Int)) ⟨n1, z1⟩ hbn
    rw [eB, eA, List.length_append, List.length_map, List.length_map]
    rw [List.length_append, List.length_cons] at h9
    clear n1 z1 f3 f4
    lia
  · rw [eM]
    intro q hq
    obtain ⟨p, _, rfl⟩ := List.mem_map.mp hq
    exact Nat.le_trans ex_le (Nat.le_trans hd (by decide))
theorem arr_has {lim told off e t' i : Int} {sp md ms' : List (Int × Int)} (t0 : 0 ≤ told) (g1 : told ≤ t') (r0 : 0 ≤ off) (hnf : NF told sp) (g3 : NF t' ms') (g5 : 0 ≤ i → ((i < told ∨ MemS md i) ↔ (i < t' ∨ MemS ms' i))) (m1 : MemS md i ↔ MemS sp i ∨ arrOff told off ≤ i ∧ i < e) (c3 : e ≤ told + lim) :
    (0 ≤ i ∧ i < t') ∨ MemS ms' i ↔ ((0 ≤ i ∧ i < told) ∨ MemS sp i) ∨ (e ≤ told + lim ∧ off ≤ i ∧ i < e) := by
  constructor
  · intro h
    have i0 : 0 ≤ i := h.elim (·.1) fun h => Int.le_trans (Int.le_trans t0 g1) (Int.le_of_lt (g3.mem_gt h))
    rcases (g5 i0).mpr (h.imp (·.2) id) with h | h
    · exact .inl (.inl ⟨i0, h⟩)
    · exact (m1.mp h).elim (fun h => .inl (.inr h)) fun h => .inr ⟨c3, Int.le_trans off_le h.1, h.2⟩
  · intro h
    have i0 : 0 ≤ i := h.elim (fun h => h.elim (·.1) fun h => Int.le_trans t0 (Int.le_of_lt (hnf.mem_gt h))) fun h => Int.le_trans r0 h.2.1
    refine ((g5 i0).mp ?_).imp (fun h => ⟨i0, h⟩) id
    rcases h with (h | h) | h
    · exact .inl h.2
    · exact .inr (m1.mpr (.inl h))
    · exact (Int.lt_or_le i told).imp id fun k => m1.mpr (.inr ⟨arrOff_le k h.2.1, h.2.2⟩)
theorem arr_mk {d : Array UInt8} {lim told off : Int} {td dt : Array UInt8} {ps : List (Int × Array UInt8)} {sp : List (Int × Int)} (h : EInv d lim ⟨told, td, ps⟩ sp) (hr : RowOk d (off, dt)) (hd : d.size ≤ 15) :
    EndOk lim ⟨told, td, ps⟩ (off, dt) ∧ ∃ sp', EInv d lim (arrS lim ⟨told, td, ps⟩ (off, dt)) sp' ∧ ∀ i, Has (arrS lim ⟨told, td, ps⟩ (off, dt)) sp' i ↔ Has ⟨told, td, ps⟩ sp i ∨ (off + (dt.size : Int) ≤ told + lim ∧ off ≤ i ∧ i < off + (dt.size : Int)) := by
  refine hide fun G9 k9 => ?_
  obtain ⟨p8, ps15⟩ := h.ps_le hd
  have hd9 : d.size ≤ 1000 := Nat.le_trans hd (by decide)
  have htz : td.size ≤ 1000 := by rw [show td = _ from h.td]; exact Nat.le_trans ex_le hd9
  have hdt : dt.size ≤ 1000 := by rw [show dt = _ from hr.re]; exact Nat.le_trans ex_le hd9
  have hps9 : ps.length ≤ 1000 := Nat.le_trans p8 (by decide)
  have hsz9 : ∀ q ∈ ps, q.2.size ≤ 1000 := fun q hq => Nat.le_trans (ps15 q hq) (by decide)
  cases Int.lt_or_le (told + lim) (off + (dt.size : Int)) with
  | inl c1 =>
    have eS : arrS lim ⟨told, td, ps⟩ (off, dt) = ⟨told, td, ps⟩ := by unfold arrS endStep; exact if_pos c1
    refine k9 ?_
    rw [eS]
    exact ⟨⟨⟨hdt, hps9, hsz9, fun a _ => absurd c1 (Int.not_lt.mpr a)⟩, htz⟩, sp, h, fun i => ⟨.inl, fun h => h.elim id fun h => absurd c1 (Int.not_lt.mpr h.1)⟩⟩
  | inr c3 =>
  cases Int.lt_or_le told (off + (dt.size : Int)) with
  | inr c2 =>
    have eS : arrS lim ⟨told, td, ps⟩ (off, dt) = ⟨told, td, ps⟩ := by unfold arrS endStep; exact (if_neg (Int.not_lt.mpr c3)).trans (if_pos c2)
    refine k9 ?_
    rw [eS]
    exact ⟨⟨⟨hdt, hps9, hsz9, fun _ a => absurd a (Int.not_lt.mpr c2)⟩, htz⟩, sp, h, fun i => ⟨.inl, fun k => k.elim id fun k => .inl ⟨Int.le_trans hr.r0 k.2.1, Int.lt_of_lt_of_le k.2.2 c2⟩⟩⟩
  | inl c2 =>
    have hps : ps = sp.map (cutD d) := h.ps
    have nf : NF told sp := h.nf
    have t0 : 0 ≤ told := h.t0
    have tn : told ≤ (d.size : Int) := h.tn
    have htd : td = ex d 0 told := h.td
    have hb : -1 ≤ told - 1 := Int.sub_le_sub_right t0 1
    obtain ⟨pre, post, lo', hi', f, e2⟩ := arr_go h hr c2 sp nf fun _ h => h
    rw [← hps] at e2
    have q := mid_ok (F := arrFold told off ps dt) e2 f.2.2.1 f.2.2.2.2.1 hb (Int.le_trans (Int.sub_le_self _ (by decide)) tn) hd
    obtain ⟨t', ms', g⟩ := take_ms (d := d) f.2.2.1 f.2.2.2.2.1 t0 tn
    have hj : ∀ i, ((ps.take i).foldl pieceStep ⟨[], arrOff told off, arrDt told off dt⟩).joined.size ≤ 1000 := fun i => by
      obtain ⟨pre, post, lo', hi', _, e2⟩ := arr_go h hr c2 (sp.take i) (NF.append_left (ys := sp.drop i) (by rw [List.take_append_drop]; exact nf)) fun _ h => List.mem_of_mem_take h
      rw [hps, ← List.map_take, e2]
      exact Nat.le_trans ex_le hd9
    have lt := arrOff_lt c2 (lt_size (off := off) hr.rs)
    have e9 := ex_end t0 g.2.1 g.2.2.1
    have hz : 0 < (arrDt told off dt).size := by
      rw [arr_dt hr (Int.le_of_lt c2)]
      refine Int.natCast_pos.mp ?_
      rw [ex_size (Int.le_trans t0 told_le) (Int.le_of_lt lt) hr.rn]
      exact Int.sub_pos_of_lt lt
    have eS : arrS lim ⟨told, td, ps⟩ (off, dt) = ⟨t', ex d 0 t', ms'.map (cutD d)⟩ := by
      unfold arrS endStep
      refine (if_neg (Int.not_lt.mpr c3)).trans ((if_neg (Int.not_le.mpr c2)).trans ?_)
      dsimp only
      rw [q.2.2.2.2.2.2, g.1, e9, htd, ex_app t0 g.2.1]
    refine k9 ⟨⟨⟨hdt, hps9, hsz9, fun _ _ => ⟨hz, hj, q.1, q.2.1, q.2.2.1, q.2.2.2.1, q.2.2.2.2.1, q.2.2.2.2.2.1, ?_⟩⟩, htz⟩, ms', ?_, fun i => ?_⟩
    · show (takeL (befL (arrFold told off ps dt) ++ ((arrFold told off ps dt).beg, (arrFold told off ps dt).joined) :: aftL (arrFold told off ps dt)) told).1.size ≤ 1000
      rw [q.2.2.2.2.2.2, g.1]
      exact Nat.le_trans ex_le hd9
    · rw [eS]
      refine ⟨rfl, g.2.2.2.1, fun q hq => f.2.2.2.2.1 q (g.2.2.2.2.1 q hq), fun q hq => ?_, Int.le_trans t0 g.2.1, g.2.2.1, rfl⟩
      refine Int.le_trans ?_ (Int.add_le_add_right g.2.1 lim)
      have hp := (g.2.2.2.1.pos q hq).2
      rcases (f.2.2.2.1 (q.2 - 1)).mp ⟨q, g.2.2.2.2.1 q hq, Int.le_sub_one_of_lt hp, Int.sub_one_lt_of_le (Int.le_refl _)⟩ with k | k
      · obtain ⟨p, hp, _, k2⟩ := k
        exact Int.le_trans (Int.le_of_sub_one_lt k2) (h.hl p hp)
      · exact Int.le_trans (Int.le_of_sub_one_lt k.2) c3
    · rw [eS]
      exact arr_has t0 g.2.1 hr.r0 nf g.2.2.2.1 (g.2.2.2.2.2 i) (f.2.2.2.1 i) c3
theorem arr_end {d : Array UInt8} {lim : Int} {st : EndSt} {sp : List (Int × Int)} {r : Int × Array UInt8} (h : EInv d lim st sp) (hr : RowOk d r) (hd : d.size ≤ 15) :
    EndOk lim st r ∧ ∃ sp', EInv d lim (arrS lim st r) sp' ∧ ∀ i, Has (arrS lim st r) sp' i ↔ Has st sp i ∨ (r.1 + (r.2.size : Int) ≤ st.told + lim ∧ r.1 ≤ i ∧ i < r.1 + (r.2.size : Int)) :=
  arr_mk (told := st.told) (td := st.td) (ps := st.ps) (off := r.1) (dt := r.2) h hr hd
end Mine

namespace Mine
/-! the plain law: what holds between the deeds; X: places that are in the hand -/
structure Inv (l1 l2 : Int) (st : WSt) (p1 p2 : List (Int × Int)) (X : Int → Prop) : Prop where
  n1 : st.data.size ≤ 15
  due : In (st.data.size : Int) (-1) st.due
  ack : In (st.data.size : Int) (-1) st.ack
  dis : ∀ i, MemS st.due i → ¬ MemS st.ack i
  fly : ∀ r ∈ st.fly, RowOk st.data r
  eld : ∀ r ∈ st.eld, RowOk st.data r
  fe : ∀ r ∈ st.fly, r ∈ st.eld
  cov : ∀ i, 0 ≤ i → i < (st.data.size : Int) → X i ∨ MemS st.due i ∨ (∃ r ∈ st.fly, r.1 ≤ i ∧ i < r.1 + (r.2.size : Int)) ∨ MemS st.ack i
  e1 : EInv st.data l1 st.s1 p1
  e2 : EInv st.data l2 st.s2 p2
  a1 : ∀ i, MemS st.ack i → Has st.s1 p1 i
  a2 : ∀ i, Has st.s1 p1 i → Has st.s2 p2 i
  l0 : 0 < l1
  ll : l1 ≤ l2
section
variable {l1 l2 : Int} {st : WSt} {p1 p2 : List (Int × Int)} {X : Int → Prop}
theorem Inv.told (h : Inv l1 l2 st p1 p2 X) : st.s1.told ≤ st.s2.told := by
  cases Int.lt_or_le st.s2.told st.s1.told with
  | inr h => exact h
  | inl hl =>
    rcases h.a2 st.s2.told (.inl ⟨h.e2.t0, hl⟩) with h1 | h1
    · exact absurd h1.2 (Int.lt_irrefl _)
    · exact absurd (h.e2.nf.mem_gt h1) (Int.lt_irrefl _)
theorem In.len15 {d : Array UInt8} {sp : List (Int × Int)} (h : In (d.size : Int) (-1) sp) (hd : d.size ≤ 15) : sp.length ≤ 1000 := by
  have := h.len (Int.le_trans (by decide) (Int.natCast_nonneg _))
  clear h
  lia
theorem RowOk.span {d : Array UInt8} {r : Int × Array UInt8} (h : RowOk d r) : In (d.size : Int) (-1) [(r.1, r.1 + (r.2.size : Int))] := by
  refine ⟨⟨Int.lt_of_lt_of_le (by decide) h.r0, lt_size h.rs, trivial⟩, fun q hq => ?_⟩
  rw [List.mem_singleton.mp hq]
  exact h.rn
theorem NF.lt {b : Int} {sp : List (Int × Int)} (h : NF b sp) : ∀ q ∈ sp, q.1 < q.2 := fun q hq => (h.pos q hq).2
theorem In.bnd {n b : Int} {sp : List (Int × Int)} (h : In n b sp) : ∀ q ∈ sp, b < q.1 ∧ q.2 ≤ n := fun q hq => ⟨(h.nf.pos q hq).1, h.hi q hq⟩
theorem lost_ok (h : Inv l1 l2 st p1 p2 X) {r : Int × Array UInt8} (hr : RowOk st.data r) : LostOk st r := by
  have w : ∀ i, In (st.data.size : Int) (-1) (withoutL [(r.1, r.1 + (r.2.size : Int))] (st.ack.take i)) := fun i => (hr.span.without (h.ack.take i).nf.lt).1
  refine ⟨h.ack.nf.lt, fun i => (w i).len15 h.n1, fun i => ?_, ?_⟩
  · have w0 := (hr.span.without h.ack.nf.lt).1
    exact (h.due.adds (Int.le_refl _) (w0.take i).bnd).1.len15 h.n1
  · rw [hr.re]; exact Nat.le_trans ex_le (Nat.le_trans h.n1 (by decide))
theorem lost_due (h : Inv l1 l2 st p1 p2 X) {r : Int × Array UInt8} (hr : RowOk st.data r) :
    In (st.data.size : Int) (-1) (lostL st.due (withoutL [(r.1, r.1 + (r.2.size : Int))] st.ack)) ∧ ∀ i, MemS (lostL st.due (withoutL [(r.1, r.1 + (r.2.size : Int))] st.ack)) i ↔ MemS st.due i ∨ ((r.1 ≤ i ∧ i < r.1 + (r.2.size : Int)) ∧ ¬ MemS st.ack i) := by
  obtain ⟨w1, w2⟩ := hr.span.without h.ack.nf.lt
  obtain ⟨a1, a2⟩ := h.due.adds (Int.le_refl _) w1.bnd
  refine ⟨a1, fun i => ?_⟩
  rw [a2, w2, memS_one]
theorem lost_inv (h : Inv l1 l2 st p1 p2 X) {r : Int × Array UInt8} (hr : RowOk st.data r) (hX : ∀ i, X i → r.1 ≤ i ∧ i < r.1 + (r.2.size : Int)) : Inv l1 l2 (lostS st r) p1 p2 (fun _ => False) := by
  obtain ⟨d1, d2⟩ := lost_due h hr
  refine ⟨h.n1, d1, h.ack, fun i hi ha => ?_, h.fly, h.eld, h.fe, fun i h0 h1 => .inr ?_, h.e1, h.e2, h.a1, h.a2, h.l0, h.ll⟩
  · rcases (d2 i).mp hi with hd | hd
    · exact h.dis i hd ha
    · exact hd.2 ha
  · by_cases ha : MemS st.ack i
    · exact .inr (.inr ha)
    · rcases h.cov i h0 h1 with hx | hx | hx | hx
      · exact .inl ((d2 i).mpr (.inr ⟨hX i hx, ha⟩))
      · exact .inl ((d2 i).mpr (.inl hx))
      · exact .inr (.inl hx)
      · exact absurd hx ha
theorem come_ok (h : Inv l1 l2 st p1 p2 X) {r : Int × Array UInt8} (hr : RowOk st.data r) (hX : ∀ i, X i → r.1 ≤ i ∧ i < r.1 + (r.2.size : Int)) : ComeOk l1 l2 st r ∧ ∃ q1 q2, Inv l1 l2 (comeS l1 l2 st r) q1 q2 (fun _ => False) := by
  have ht := h.told
  have hl := h.ll
  refine hide fun G9 k9 => ?_
  obtain ⟨k1, q1, E1, H1⟩ := arr_end h.e1 hr h.n1
  obtain ⟨k2, q2, E2, H2⟩ := arr_end h.e2 hr h.n1
  refine k9 ⟨⟨k1, k2, lost_ok h hr, h.due.len15 h.n1, h.ack.len15 h.n1, hr.rs, fun k => Int.le_trans k (Int.add_le_add ht hl)⟩, q1, q2, ?_⟩
  clear k9
  refine hide fun G9 k9 => ?_
  by_cases c : r.1 + (r.2.size : Int) ≤ st.s1.told + l1
  · have hlt : r.1 < r.1 + (r.2.size : Int) := lt_size hr.rs
    obtain ⟨b1, b2⟩ := h.ack.add (lo := r.1) (hi := r.1 + (r.2.size : Int)) (Int.le_refl _) (Int.lt_of_lt_of_le (by decide) hr.r0) hr.rn
    have eD : (comeS l1 l2 st r).due = cutL st.due r.1 (r.1 + (r.2.size : Int)) := by unfold comeS; exact if_pos c
    have eA : (comeS l1 l2 st r).ack = addL st.ack r.1 (r.1 + (r.2.size : Int)) := by unfold comeS; exact if_pos c
    refine k9 ⟨h.n1, eD ▸ h.due.cut hlt, eA ▸ b1, fun i hi ha => ?_, h.fly, h.eld, h.fe, fun i h0 h1 => .inr ?_, E1, E2, fun i hi => ?_, fun i hi => ?_, h.l0, hl⟩
    · rw [eD, cut_mem hlt] at hi
      rw [eA, b2] at ha
      rcases ha with ha | ha
      · exact h.dis i hi.1 ha
      · exact hi.2 ha
    · rw [eD, eA, cut_mem hlt, b2]
      by_cases hb : r.1 ≤ i ∧ i < r.1 + (r.2.size : Int)
      · exact .inr (.inr (.inr hb))
      · rcases h.cov i h0 h1 with hx | hx | hx | hx
        · exact absurd (hX i hx) hb
        · exact .inl ⟨hx, hb⟩
        · exact .inr (.inl hx)
        · exact .inr (.inr (.inl hx))
    · rw [eA, b2] at hi
      refine (H1 i).mpr ?_
      rcases hi with hi | hi
      · exact .inl (h.a1 i hi)
      · exact .inr ⟨c, hi⟩
    · refine (H2 i).mpr ?_
      rcases (H1 i).mp hi with hi | hi
      · exact .inl (h.a2 i hi)
      · exact .inr ⟨Int.le_trans hi.1 (Int.add_le_add ht hl), hi.2⟩
  · obtain ⟨d1, d2⟩ := lost_due h hr
    have eD : (comeS l1 l2 st r).due = lostL st.due (withoutL [(r.1, r.1 + (r.2.size : Int))] st.ack) := by unfold comeS; exact if_neg c
    have eA : (comeS l1 l2 st r).ack = st.ack := by unfold comeS; exact if_neg c
    refine k9 ⟨h.n1, eD ▸ d1, eA ▸ h.ack, fun i hi ha => ?_, h.fly, h.eld, h.fe, fun i h0 h1 => .inr ?_, E1, E2, fun i hi => ?_, fun i hi => ?_, h.l0, hl⟩
    · rw [eD, d2] at hi
      rw [eA] at ha
      rcases hi with hi | hi
      · exact h.dis i hi ha
      · exact hi.2 ha
    · rw [eD, eA, d2]
      by_cases ha : MemS st.ack i
      · exact .inr (.inr ha)
      · rcases h.cov i h0 h1 with hx | hx | hx | hx
        · exact .inl (.inr ⟨hX i hx, ha⟩)
        · exact .inl (.inl hx)
        · exact .inr (.inl hx)
        · exact absurd hx ha
    · rw [eA] at hi
      exact (H1 i).mpr (.inl (h.a1 i hi))
    · refine (H2 i).mpr ?_
      rcases (H1 i).mp hi with hi | hi
      · exact .inl (h.a2 i hi)
      · exact absurd hi.1 c
theorem RowOk.grow {d more : Array UInt8} {r : Int × Array UInt8} (h : RowOk d r) : RowOk (d ++ more) r := by
  refine ⟨h.r0, h.rs, ?_, ?_⟩
  · rw [Array.size_append]; exact Int.le_trans h.rn (Int.ofNat_le.mpr (Nat.le_add_right _ _))
  · rw [ex_grow h.rn]; exact h.re
theorem EInv.grow {d more : Array UInt8} {lim : Int} {e : EndSt} {sp : List (Int × Int)} (h : EInv d lim e sp) : EInv (d ++ more) lim e sp := by
  have hz : (d.size : Int) ≤ ((d ++ more).size : Int) := by rw [Array.size_append]; exact Int.ofNat_le.mpr (Nat.le_add_right _ _)
  refine ⟨?_, h.nf, fun q hq => Int.le_trans (h.hn q hq) hz, h.hl, h.t0, Int.le_trans h.tn hz, ?_⟩
  · rw [h.ps]
    refine List.map_congr_left fun q hq => ?_
    unfold cutD
    rw [ex_grow (h.hn q hq)]
  · rw [ex_grow h.tn]; exact h.td
theorem In.grow {n n' b : Int} {sp : List (Int × Int)} (h : In n b sp) (hn : n ≤ n') : In n' b sp := ⟨h.nf, fun q hq => Int.le_trans (h.hi q hq) hn⟩
theorem put_inv (h : Inv l1 l2 st p1 p2 (fun _ => False)) {more : Array UInt8} (h1 : (st.data.size : Int) + (more.size : Int) ≤ 15) : Inv l1 l2 (putS st more) p1 p2 (fun _ => False) := by
  have hz : ((st.data ++ more).size : Int) = st.data.size + more.size := by rw [Array.size_append]; rfl
  have hz2 : (st.data.size : Int) ≤ ((st.data ++ more).size : Int) := hz ▸ Int.le_add_of_nonneg_right (Int.natCast_nonneg _)
  obtain ⟨b1, b2⟩ := (h.due.grow (n' := ((st.data ++ more).size : Int)) hz2).add (lo := (st.data.size : Int)) (hi := (st.data.size : Int) + (more.size : Int)) (Int.le_refl _) (Int.lt_of_lt_of_le (by decide) (Int.natCast_nonneg _)) (Int.le_of_eq hz.symm)
  refine ⟨?_, b1, h.ack.grow hz2, fun i hi ha => ?_, fun r hr => (h.fly r hr).grow, fun r hr => (h.eld r hr).grow, h.fe, fun i i0 i1 => .inr ?_, h.e1.grow, h.e2.grow, h.a1, h.a2, h.l0, h.ll⟩
  · exact Int.ofNat_le.mp (hz ▸ h1)
  · rcases (b2 i).mp hi with hd | hd
    · exact h.dis i hd ha
    · exact absurd hd.1 (Int.not_le.mpr (h.ack.mem ha).2)
  · show MemS (addL _ _ _) i ∨ _
    rw [b2]
    by_cases hi : i < (st.data.size : Int)
    · rcases h.cov i i0 hi with hx | hx | hx
      · exact hx.elim
      · exact .inl (.inl hx)
      · exact .inr hx
    · exact .inl (.inr ⟨Int.not_lt.mp hi, hz ▸ i1⟩)
/-- the next chunk -/
theorem chunk_row (h : Inv l1 l2 st p1 p2 X) {lo hi : Int} {rest : List (Int × Int)} (hd : st.due = (lo, hi) :: rest) {k : Int} (hk : 0 < k) :
    RowOk st.data (lo, KBy.picked st.data (some lo) (some (pmin hi (lo + k)))) ∧ (((KBy.picked st.data (some lo) (some (pmin hi (lo + k)))).size : Int) = min hi (lo + k) - lo) ∧ lo < hi ∧ 0 ≤ lo := by
  have hn := h.due.nf; rw [hd] at hn
  have hh := h.due.hi (lo, hi) (by rw [hd]; exact .head _)
  obtain ⟨k1, k2, _⟩ := hn
  dsimp only at hh k1 k2
  have l0 : 0 ≤ lo := nn (Int.le_refl _) k1
  have hm : lo < min hi (lo + k) := Int.lt_min.mpr ⟨k2, Int.lt_add_of_pos_right _ hk⟩
  have hm1 := Int.le_of_lt hm
  have hm2 := Int.le_trans (Int.min_le_left hi (lo + k)) hh
  rw [pmin_eq, picked_mid l0 hm1 hm2]
  have hs := ex_size (d := st.data) l0 hm1 hm2
  have he := ex_end (d := st.data) l0 hm1 hm2
  exact ⟨⟨l0, Int.natCast_pos.mp (hs ▸ Int.sub_pos_of_lt hm), by rw [he]; exact hm2, by rw [he]⟩, hs, k2, l0⟩
/-- a chunk taken off what is due is in the hand -/
theorem chunk_hand (h : Inv l1 l2 st p1 p2 (fun _ => False)) {lo hi : Int} {rest : List (Int × Int)} (hd : st.due = (lo, hi) :: rest) {k : Int} (hk : 0 < k) :
    Inv l1 l2 { st with due := cutL st.due lo (pmin hi (lo + k)) } p1 p2 (fun i => lo ≤ i ∧ i < lo + ((KBy.picked st.data (some lo) (some (pmin hi (lo + k)))).size : Int)) := by
  obtain ⟨r1, r2, r3, r4⟩ := chunk_row h hd hk
  have hlt : lo < min hi (lo + k) := Int.lt_min.mpr ⟨r3, Int.lt_add_of_pos_right _ hk⟩
  refine ⟨h.n1, ?_, h.ack, fun i hm ha => ?_, h.fly, h.eld, h.fe, fun i h0 h1 => ?_, h.e1, h.e2, h.a1, h.a2, h.l0, h.ll⟩
  · show In _ _ (cutL _ _ _)
    rw [pmin_eq]; exact h.due.cut hlt
  · have hm' : MemS (cutL st.due lo (pmin hi (lo + k))) i := hm
    rw [pmin_eq, cut_mem hlt] at hm'
    exact h.dis i hm'.1 ha
  · show _ ∨ MemS (cutL st.due lo (pmin hi (lo + k))) i ∨ _
    rw [r2, pmin_eq, cut_mem hlt]
    rcases h.cov i h0 h1 with hx | hx | hx
    · exact hx.elim
    · by_cases hb : lo ≤ i ∧ i < min hi (lo + k)
      · exact .inl ⟨hb.1, by rw [Int.add_comm, Int.sub_add_cancel]; exact hb.2⟩
      · exact .inr (.inl ⟨hx, hb⟩)
    · exact .inr (.inr hx)
theorem chunk_inv (h : Inv l1 l2 st p1 p2 (fun _ => False)) {lo hi : Int} {rest : List (Int × Int)} (hd : st.due = (lo, hi) :: rest) {k : Int} (hk : 0 < k) : Inv l1 l2 (chunkS st lo (pmin hi (lo + k))) p1 p2 (fun _ => False) := by
  obtain ⟨r1, _⟩ := chunk_row h hd hk
  have hh := chunk_hand h hd hk
  refine ⟨hh.n1, hh.due, hh.ack, hh.dis, fun r hr => ?_, fun r hr => ?_, fun r hr => ?_, fun i h0 h1 => .inr ?_, hh.e1, hh.e2, hh.a1, hh.a2, hh.l0, hh.ll⟩
  · rcases List.mem_append.mp hr with hr | hr
    · exact h.fly r hr
    · rw [List.mem_singleton.mp hr]; exact r1
  · rcases List.mem_append.mp hr with hr | hr
    · exact h.eld r hr
    · rw [List.mem_singleton.mp hr]; exact r1
  · rcases List.mem_append.mp hr with hr | hr
    · exact List.mem_append.mpr (.inl (h.fe r hr))
    · exact List.mem_append.mpr (.inr hr)
  · rcases hh.cov i h0 h1 with hx | hx | ⟨r, hr, hx⟩ | hx
    · exact .inr (.inl ⟨_, List.mem_append.mpr (.inr (.head _)), hx⟩)
    · exact .inl hx
    · exact .inr (.inl ⟨r, List.mem_append.mpr (.inl hr), hx⟩)
    · exact .inr (.inr hx)
theorem mem_erase {α : Type} : ∀ {l : List α} {k : Nat} {x y : α}, l[k]? = some y → x ∈ l → x = y ∨ x ∈ l.eraseIdx k
  | [], _, _, _, h, _ => by simp at h
  | a :: r, 0, x, y, h, hx => by
    obtain rfl : a = y := by simpa using h
    rcases List.mem_cons.mp hx with rfl | hx
    · exact .inl rfl
    · exact .inr hx
  | a :: r, k + 1, x, y, h, hx => by
    rcases List.mem_cons.mp hx with rfl | hx
    · exact .inr (.head _)
    · rcases mem_erase (l := r) (k := k) (by simpa using h) hx with h1 | h1
      · exact .inl h1
      · exact .inr (.tail _ h1)
theorem pop_hand (h : Inv l1 l2 st p1 p2 (fun _ => False)) {k : Nat} {r : Int × Array UInt8} (hk : st.fly[k]? = some r) : RowOk st.data r ∧ Inv l1 l2 { st with fly := st.fly.eraseIdx k } p1 p2 (fun i => r.1 ≤ i ∧ i < r.1 + (r.2.size : Int)) := by
  have sub : ∀ q ∈ st.fly.eraseIdx k, q ∈ st.fly := fun q hq => (List.eraseIdx_sublist st.fly k).mem hq
  refine ⟨h.fly r (List.mem_of_getElem? hk), h.n1, h.due, h.ack, h.dis, fun q hq => h.fly q (sub q hq), h.eld, fun q hq => h.fe q (sub q hq), fun i h0 h1 => ?_, h.e1, h.e2, h.a1, h.a2, h.l0, h.ll⟩
  rcases h.cov i h0 h1 with hx | hx | ⟨q, hq, hx⟩ | hx
  · exact hx.elim
  · exact .inr (.inl hx)
  · rcases mem_erase hk hq with rfl | hq
    · exact .inl hx
    · exact .inr (.inr (.inl ⟨q, hq, hx⟩))
  · exact .inr (.inr (.inr hx))
end
end Mine

namespace Mine
/-! the plain law: _law_stands answers true; the flush -/
theorem fly_in {d : Array UInt8} : ∀ {fly : List (Int × Array UInt8)} {sp : List (Int × Int)}, In (d.size : Int) (-1) sp → (∀ r ∈ fly, RowOk d r) →
    In (d.size : Int) (-1) (flyL fly sp) ∧ ∀ i, MemS (flyL fly sp) i ↔ MemS sp i ∨ ∃ r ∈ fly, r.1 ≤ i ∧ i < r.1 + (r.2.size : Int) := by
  intro fly
  induction fly with
  | nil => intro sp h _; exact ⟨h, fun i => ⟨.inl, fun h => h.elim id fun ⟨_, h, _⟩ => nomatch h⟩⟩
  | cons q r ih =>
    intro sp h ho
    have hq := ho q (.head _)
    obtain ⟨a1, a2⟩ := h.add (lo := q.1) (hi := q.1 + (q.2.size : Int)) (Int.le_refl _) (Int.lt_of_lt_of_le (by decide) hq.r0) hq.rn
    obtain ⟨h1, h2⟩ := ih a1 fun p hp => ho p (.tail _ hp)
    refine ⟨h1, fun i => ?_⟩
    show MemS (flyL r (addL sp q.1 (q.1 + (q.2.size : Int)))) i ↔ _
    rw [h2, a2]
    constructor
    · rintro ((h | h) | ⟨p, hp, h⟩)
      · exact .inl h
      · exact .inr ⟨q, .head _, h⟩
      · exact .inr ⟨p, .tail _ hp, h⟩
    · rintro (h | ⟨p, hp, h⟩)
      · exact .inl (.inl h)
      · rcases List.mem_cons.mp hp with rfl | hp
        · exact .inl (.inr h)
        · exact .inr ⟨p, hp, h⟩
theorem had_in {d : Array UInt8} {lim : Int} {e : EndSt} {sp : List (Int × Int)} (h : EInv d lim e sp) : In (d.size : Int) (-1) (hadL e) ∧ ∀ i, MemS (hadL e) i ↔ Has e sp i := by
  have t1 : -1 ≤ e.told := Int.le_trans (by decide) h.t0
  have e1 : hadL e = addL sp 0 e.told := by unfold hadL; rw [h.ps, covered_cut h.nf t1 h.hn]
  have h1 : In (d.size : Int) (-1) sp := ⟨h.nf.weaken t1, h.hn⟩
  obtain ⟨a1, a2⟩ := h1.add (lo := 0) (hi := e.told) (Int.le_refl _) (by decide) h.tn
  rw [e1]
  exact ⟨a1, fun i => (a2 i).trans or_comm⟩
theorem EInv.cov {d : Array UInt8} {lim : Int} {e : EndSt} {sp : List (Int × Int)} (h : EInv d lim e sp) : coveredL e.ps = sp := by
  rw [h.ps, covered_cut h.nf (Int.le_trans (by decide) h.t0) h.hn]
theorem EInv.tz {d : Array UInt8} {lim : Int} {e : EndSt} {sp : List (Int × Int)} (h : EInv d lim e sp) : (e.td.size : Int) = e.told := by
  rw [h.td, ex_size (Int.le_refl 0) h.t0 h.tn, Int.sub_zero]
section
variable {l1 l2 : Int} {st : WSt} {p1 p2 : List (Int × Int)}
theorem stands_ok (h : Inv l1 l2 st p1 p2 (fun _ => False)) (hz : 0 < st.data.size) : StandsOk l1 l2 st.data st.due st.ack st.fly st.s1 st.s2 := by
  have hn := h.n1
  have h15 : ∀ {n : Nat}, n ≤ 15 → n ≤ 1000 := fun h => Nat.le_trans h (by decide)
  have h8 : ∀ {n : Nat}, n ≤ 8 → n ≤ 1000 := fun h => Nat.le_trans h (by decide)
  refine hide fun G9 k9 => ?_
  have F := fun i => fly_in (fly := st.fly.take i) h.ack fun r hr => h.fly r (List.mem_of_mem_take hr)
  obtain ⟨F1, F2⟩ := fly_in h.ack h.fly
  obtain ⟨D1, D2⟩ := F1.adds (Int.le_refl _) h.due.bnd
  obtain ⟨A1, A2⟩ := had_in h.e1
  obtain ⟨B1, B2⟩ := had_in h.e2
  refine k9 ⟨h15 hn, h.ack.len15 hn, fun q hq => ?_, fun i => (F i).1.len15 hn, fun i => (F1.adds (Int.le_refl _) (h.due.take i).bnd).1.len15 hn, fun q hq => ⟨h.due.nf.lt q hq, ?_⟩, ?_, hz, ?_, ?_, h.e1.tz, ?_, ?_, ?_, h.e2.tz, ?_, h.told, fun i => ?_, A1.nf.lt, ?_, fun i => ?_, B1.nf.lt, ?_, ?_, ?_, ?_, ?_⟩
  · rw [(h.fly q hq).re]; exact h15 (Nat.le_trans ex_le hn)
  · refine (h.ack.cut (h.due.nf.lt q hq)).ext h.ack fun i => ?_
    rw [cut_mem (h.due.nf.lt q hq)]
    exact ⟨fun h => h.1, fun ha => ⟨ha, fun hb => h.dis i ⟨q, hq, hb⟩ ha⟩⟩
  · refine D1.ext ⟨⟨(by decide : (-1 : Int) < 0), Int.natCast_pos.mpr hz, trivial⟩, fun q hq => ?_⟩ fun i => ?_
    · rw [List.mem_singleton.mp hq]; exact Int.le_refl _
    · refine (D2 i).trans ?_
      rw [F2, memS_one]
      constructor
      · rintro ((hm | ⟨r, hr, hm⟩) | hm)
        · exact ⟨nn (Int.le_refl _) (h.ack.mem hm).1, (h.ack.mem hm).2⟩
        · exact ⟨Int.le_trans (h.fly r hr).r0 hm.1, Int.lt_of_lt_of_le hm.2 (h.fly r hr).rn⟩
        · exact ⟨nn (Int.le_refl _) (h.due.mem hm).1, (h.due.mem hm).2⟩
      · rintro ⟨i0, i1⟩
        rcases h.cov i i0 i1 with hx | hx | hx | hx
        · exact hx.elim
        · exact .inr hx
        · exact .inl (.inr hx)
        · exact .inl (.inl hx)
  · rw [picked_to h.e1.t0 h.e1.tn]; exact h.e1.td
  · rw [h.e1.td]; exact h15 (Nat.le_trans ex_le hn)
  · rw [h.e1.cov]; exact h.e1.hl
  · rw [picked_to h.e2.t0 h.e2.tn]; exact h.e2.td
  · rw [h.e2.td]; exact h15 (Nat.le_trans ex_le hn)
  · rw [h.e2.cov]; exact h.e2.hl
  · exact (h.ack.without (A1.take i).nf.lt).1.len15 hn
  · obtain ⟨w1, w2⟩ := h.ack.without A1.nf.lt
    refine w1.ext In.nil fun i => ⟨fun hi => ?_, fun hi => absurd hi memS_nil⟩
    obtain ⟨a, b⟩ := (w2 i).mp hi
    exact absurd ((A2 i).mpr (h.a1 i a)) b
  · exact (A1.without (B1.take i).nf.lt).1.len15 hn
  · obtain ⟨w1, w2⟩ := A1.without B1.nf.lt
    refine w1.ext In.nil fun i => ⟨fun hi => ?_, fun hi => absurd hi memS_nil⟩
    obtain ⟨a, b⟩ := (w2 i).mp hi
    exact absurd ((B2 i).mpr (h.a2 i ((A2 i).mp a))) b
  · exact h8 (h.e1.ps_le hn).1
  · exact fun q hq => h15 ((h.e1.ps_le hn).2 q hq)
  · exact h8 (h.e2.ps_le hn).1
  · exact fun q hq => h15 ((h.e2.ps_le hn).2 q hq)
/-- all rows told lost -/
noncomputable def lostAll (st : WSt) (rows : List (Int × Array UInt8)) : WSt := rows.foldl lostS st
theorem lost_all : ∀ {rows : List (Int × Array UInt8)} {st : WSt}, Inv l1 l2 st p1 p2 (fun _ => False) → (∀ r ∈ rows, RowOk st.data r) →
    Inv l1 l2 (lostAll st rows) p1 p2 (fun _ => False) ∧ (lostAll st rows).data = st.data ∧ (lostAll st rows).ack = st.ack ∧ (lostAll st rows).fly = st.fly ∧ (∀ i, MemS st.due i → MemS (lostAll st rows).due i) ∧
      ∀ r ∈ rows, ∀ i, r.1 ≤ i → i < r.1 + (r.2.size : Int) → MemS (lostAll st rows).due i ∨ MemS st.ack i := by
  intro rows
  induction rows with
  | nil => intro st h _; exact ⟨h, rfl, rfl, rfl, fun _ h => h, fun _ h => nomatch h⟩
  | cons q r ih =>
    intro st h hr
    have hq := hr q (.head _)
    obtain ⟨d1, d2⟩ := lost_due h hq
    obtain ⟨i1, i2, i3, i4, i5, i6⟩ := ih (lost_inv h hq fun _ h => h.elim) fun p hp => hr p (.tail _ hp)
    refine ⟨i1, i2, i3, i4, fun i hi => i5 i ((d2 i).mpr (.inl hi)), fun p hp i k0 k1 => ?_⟩
    rcases List.mem_cons.mp hp with rfl | hp
    · by_cases ha : MemS st.ack i
      · exact .inr ha
      · exact .inl (i5 i ((d2 i).mpr (.inr ⟨⟨k0, k1⟩, ha⟩)))
    · exact i6 p hp i k0 k1
theorem flush_inv (h : Inv l1 l2 st p1 p2 (fun _ => False)) : Inv l1 l2 { lostAll st st.fly with fly := [] } p1 p2 (fun _ => False) := by
  obtain ⟨i1, i2, i3, i4, i5, i6⟩ := lost_all h h.fly
  refine ⟨i1.n1, i1.due, i1.ack, i1.dis, (fun _ h => nomatch h), i1.eld, (fun _ h => nomatch h), fun i k0 k1 => ?_, i1.e1, i1.e2, i1.a1, i1.a2, i1.l0, i1.ll⟩
  rcases i1.cov i k0 k1 with hx | hx | ⟨r, hr, hx⟩ | hx
  · exact hx.elim
  · exact .inr (.inl hx)
  · rw [i4] at hr
    rcases i6 r hr i hx.1 hx.2 with hy | hy
    · exact .inr (.inl hy)
    · refine .inr (.inr (.inr ?_))
      show MemS (lostAll st st.fly).ack i
      rw [i3]; exact hy
  · exact .inr (.inr (.inr hx))
theorem countL_cons {q : Int × Int} {r : List (Int × Int)} : countL (q :: r) = (q.2 - q.1) + countL r := by unfold countL; rw [List.map_cons, List.sum_cons]
theorem count_pos : ∀ {sp : List (Int × Int)} {b : Int}, NF b sp → 0 ≤ countL sp ∧ (countL sp = 0 → sp = []) := by
  intro sp
  induction sp with
  | nil => intro b _; exact ⟨Int.le_refl _, fun _ => rfl⟩
  | cons q r ih =>
    intro b h
    have h1 := (ih h.2.2).1
    have h2 := Int.sub_pos_of_lt h.2.1
    rw [countL_cons]
    have h3 := Int.add_pos_of_pos_of_nonneg h2 h1
    exact ⟨Int.le_of_lt h3, fun e => absurd e (Int.ne_of_gt h3)⟩
theorem cut_first {n lo hi k : Int} {rest : List (Int × Int)} (h : In n (-1) ((lo, hi) :: rest)) (h1 : lo < k) (h2 : k ≤ hi) : countL (cutL ((lo, hi) :: rest) lo k) + (k - lo) = countL ((lo, hi) :: rest) := by
  have hc := h.cut h1
  obtain ⟨n1, n2, n3⟩ := h.nf
  have n1' : -1 < lo := n1
  cases Int.lt_or_le k hi with
  | inl hk =>
    have e2 : cutL ((lo, hi) :: rest) lo k = (k, hi) :: rest := by
      refine hc.ext ⟨⟨Int.lt_trans n1' h1, hk, n3⟩, List.forall_mem_cons.mpr ⟨h.hi (lo, hi) (.head _), fun q hq => h.hi q (.tail _ hq)⟩⟩ fun i => ?_
      rw [cut_mem h1, memS_cons, memS_cons]
      constructor
      · rintro ⟨hm | hm, hb⟩
        · exact .inl ⟨Int.not_lt.mp fun q => hb ⟨hm.1, q⟩, hm.2⟩
        · exact .inr hm
      · rintro (hm | hm)
        · exact ⟨.inl ⟨Int.le_trans (Int.le_of_lt h1) hm.1, hm.2⟩, fun q => Int.not_lt.mpr hm.1 q.2⟩
        · exact ⟨.inr hm, fun q => Int.lt_irrefl _ (Int.lt_trans (Int.lt_trans hk (n3.mem_gt hm)) q.2)⟩
    rw [e2, countL_cons, countL_cons]
    show (hi - k) + countL rest + (k - lo) = (hi - lo) + countL rest
    clear hc e2 h n1 n2 n3
    lia
  | inr hk =>
    obtain rfl := Int.le_antisymm h2 hk
    have e2 : cutL ((lo, k) :: rest) lo k = rest := by
      refine hc.ext ⟨n3.weaken (Int.le_of_lt (Int.lt_trans n1' h1)), fun q hq => h.hi _ (.tail _ hq)⟩ fun i => ?_
      rw [cut_mem h1, memS_cons]
      exact ⟨fun ⟨hm, hb⟩ => hm.elim (fun hm => absurd hm hb) id, fun hm => ⟨.inr hm, fun q => Int.lt_irrefl _ (Int.lt_trans (n3.mem_gt hm) q.2)⟩⟩
    rw [e2, countL_cons]
    exact Int.add_comm _ _
/-- a step of the flush -/
theorem flush_step (h : Inv l1 l2 st p1 p2 (fun _ => False)) (hf : st.fly = []) {lo hi : Int} {rest : List (Int × Int)} (hd : st.due = (lo, hi) :: rest) :
    ComeOk l1 l2 { st with due := cutL st.due lo (pmin hi (lo + l1)) } (lo, KBy.picked st.data (some lo) (some (pmin hi (lo + l1)))) ∧
    ∃ q1 q2, Inv l1 l2 (comeS l1 l2 { st with due := cutL st.due lo (pmin hi (lo + l1)) } (lo, KBy.picked st.data (some lo) (some (pmin hi (lo + l1))))) q1 q2 (fun _ => False) ∧
      countL (comeS l1 l2 { st with due := cutL st.due lo (pmin hi (lo + l1)) } (lo, KBy.picked st.data (some lo) (some (pmin hi (lo + l1))))).due + 1 ≤ countL st.due := by
  refine hide fun G9 k9 => ?_
  obtain ⟨r1, r2, r3, r4⟩ := chunk_row h hd h.l0
  have hh := chunk_hand h hd h.l0
  obtain ⟨ok, q1, q2, I⟩ := come_ok hh r1 fun i hi => hi
  refine k9 ⟨ok, q1, q2, I, ?_⟩
  clear k9
  have l0 := h.l0
  have hlt : lo < min hi (lo + l1) := Int.lt_min.mpr ⟨r3, Int.lt_add_of_pos_right _ l0⟩
  have t1 : lo ≤ st.s1.told := by
    cases Int.lt_or_le st.s1.told lo with
    | inr h => exact h
    | inl hl =>
      have t0 := h.e1.t0
      have hn := h.due; rw [hd] at hn
      have hhi := hn.hi _ (.head _)
      have hlh : lo < hi := hn.nf.2.1
      rcases h.cov st.s1.told t0 (Int.lt_of_lt_of_le hl (Int.le_trans (Int.le_of_lt hlh) hhi)) with hx | hx | ⟨r, hr, _⟩ | hx
      · exact hx.elim
      · rw [hd, memS_cons] at hx
        rcases hx with hx | hx
        · exact hx.1
        · exact Int.le_of_lt (Int.lt_trans hlh (hn.nf.2.2.mem_gt hx))
      · rw [hf] at hr; exact nomatch hr
      · rcases h.a1 _ hx with hy | hy
        · exact absurd hy.2 (Int.lt_irrefl _)
        · exact absurd (h.e1.nf.mem_gt hy) (Int.lt_irrefl _)
  have e9 : lo + ((KBy.picked st.data (some lo) (some (pmin hi (lo + l1)))).size : Int) = min hi (lo + l1) := by rw [r2, Int.add_comm, Int.sub_add_cancel]
  have c : lo + ((KBy.picked st.data (some lo) (some (pmin hi (lo + l1)))).size : Int) ≤ st.s1.told + l1 := e9 ▸ Int.le_trans (Int.min_le_right _ _) (Int.add_le_add_right t1 l1)
  have e1 : (comeS l1 l2 { st with due := cutL st.due lo (pmin hi (lo + l1)) } (lo, KBy.picked st.data (some lo) (some (pmin hi (lo + l1))))).due = cutL st.due lo (min hi (lo + l1)) := by
    have e2 : (comeS l1 l2 { st with due := cutL st.due lo (pmin hi (lo + l1)) } (lo, KBy.picked st.data (some lo) (some (pmin hi (lo + l1))))).due = cutL (cutL st.due lo (pmin hi (lo + l1))) lo (lo + ((KBy.picked st.data (some lo) (some (pmin hi (lo + l1)))).size : Int)) := by unfold comeS; exact if_pos c
    rw [e2, e9, pmin_eq]
    refine ((h.due.cut hlt).cut hlt).ext (h.due.cut hlt) fun i => ?_
    rw [cut_mem hlt, cut_mem hlt]
    exact ⟨fun h => h.1, fun h => ⟨h, h.2⟩⟩
  have hn := h.due; rw [hd] at hn
  rw [e1, hd, ← cut_first hn hlt (Int.min_le_left _ _)]
  exact Int.add_le_add_left (Int.add_one_le_of_lt (Int.sub_pos_of_lt hlt)) _
/-- the end -/
theorem flush_end (h : Inv l1 l2 st p1 p2 (fun _ => False)) (hf : st.fly = []) (hd : st.due = []) (hz : 0 < st.data.size) :
    st.ack = [(0, (st.data.size : Int))] ∧ st.s1.td = st.data ∧ st.s1.ps = [] ∧ st.s2.td = st.data ∧ st.s2.ps = [] := by
  have all : ∀ i, 0 ≤ i → i < (st.data.size : Int) → MemS st.ack i := fun i i0 i1 => by
    rcases h.cov i i0 i1 with hx | hx | ⟨r, hr, _⟩ | hx
    · exact hx.elim
    · rw [hd] at hx; exact absurd hx memS_nil
    · rw [hf] at hr; exact nomatch hr
    · exact hx
  have e1 : st.ack = [(0, (st.data.size : Int))] := by
    refine h.ack.ext ⟨⟨(by decide : (-1 : Int) < 0), Int.natCast_pos.mpr hz, trivial⟩, fun q hq => ?_⟩ fun i => ?_
    · rw [List.mem_singleton.mp hq]; exact Int.le_refl _
    · rw [memS_one]
      exact ⟨fun hm => ⟨nn (Int.le_refl _) (h.ack.mem hm).1, (h.ack.mem hm).2⟩, fun hm => all i hm.1 hm.2⟩
  have t0 := h.e1.t0
  have t1 : st.s1.told = (st.data.size : Int) := by
    have tn := h.e1.tn
    cases Int.lt_or_le st.s1.told (st.data.size : Int) with
    | inr k => exact Int.le_antisymm tn k
    | inl hl =>
      rcases h.a1 _ (all _ t0 hl) with hy | hy
      · exact absurd hy.2 (Int.lt_irrefl _)
      · exact absurd (h.e1.nf.mem_gt hy) (Int.lt_irrefl _)
  have t2 : st.s2.told = (st.data.size : Int) := by
    exact Int.le_antisymm h.e2.tn (t1 ▸ h.told)
  have emp : ∀ {lim : Int} {e : EndSt} {sp : List (Int × Int)}, EInv st.data lim e sp → e.told = (st.data.size : Int) → e.td = st.data ∧ e.ps = [] := by
    intro lim e sp he ht
    refine ⟨by rw [he.td, ht, ex_all], ?_⟩
    have : sp = [] := by
      cases sp with
      | nil => rfl
      | cons q r =>
        exact absurd (Int.lt_of_lt_of_le (Int.lt_trans he.nf.1 he.nf.2.1) (he.hn q (.head _))) (ht ▸ Int.lt_irrefl _)
    rw [he.ps, this]; rfl
  exact ⟨e1, (emp h.e1 t1).1, (emp h.e1 t1).2, (emp h.e2 t2).1, (emp h.e2 t2).2⟩
/-- before the first deed -/
noncomputable def st0 : WSt := ⟨#[], [], [], [], [], ⟨0, #[], []⟩, ⟨0, #[], []⟩⟩
theorem inv0 (h1 : 0 < l1) (h2 : l1 ≤ l2) : Inv l1 l2 st0 [] [] (fun _ => False) := by
  have e : ∀ {lim : Int}, EInv #[] lim ⟨0, #[], []⟩ [] := ⟨rfl, trivial, (fun _ h => nomatch h), (fun _ h => nomatch h), Int.le_refl _, Int.le_refl _, (ex_nil (Int.le_refl _)).symm⟩
  refine ⟨by decide, In.nil, In.nil, fun i hi => absurd hi memS_nil, (fun _ h => nomatch h), (fun _ h => nomatch h), (fun _ h => nomatch h), fun i i0 i1 => ?_, e, e, fun i hi => absurd hi memS_nil, fun i hi => hi, h1, h2⟩
  exact absurd i1 (by show ¬ i < 0; lia)
end
end Mine

namespace Mine
/-- the law's record, read off the head's type -/
noncomputable def recOf {q : Program} {loose : List Str} {XP : (Str → Option Value) → Heap → Prop} {YP : World → Heap → Prop} {r : RowW} {d : DefRec} {kwd : List (Str × PySem.Expr)} {run : Value → List Value → Sem Value} {P : Prop} (_ : WalkO q loose XP YP r d kwd run → P) : DefRec := d
noncomputable def lawRec : DefRec := recOf hd
noncomputable def stAt : List Stmt → Nat → List Stmt
  | [], _ => []
  | x :: _, 0 => [x]
  | _ :: r, k + 1 => stAt r k
noncomputable abbrev lawEnv (L a : Addr) (ccd : Value) : Env := envX (Str.ofString "law") lawRec.scope L a ccd []
noncomputable abbrev lawTop (dp un : Nat) (gd : Option (List Code)) (L a : Addr) (ccd : Value) : Around := ktrTop dp un gd (Str.ofString "law") lawRec.scope L a ccd [] []
theorem law_kind : lawRec.scope.kind = .function := rfl
end Mine

namespace Mine
section
variable {prog : Program} {w : World} {A : Around} {E : Value → Shared → Prop} {s : Shared} {env : Env} {h₀ : Heap} {body : List Stmt} {Q : Flow → Shared → Prop} {x : Str}
/-! for x in range(n), for x in a list of the ledger: what holds of the frame and the ledger between the turns -/
theorem range_loop {r : Addr} {a₀ b₀ : Int} {t₀ u₀ v₀ : Tok} {n : Nat} {m₀ : Str → Option Value} {news : List (Addr × Obj)} (J : Nat → (Str → Option Value) → List (Addr × Obj) → Prop)
    (hh : A.handled = none) (hr : IsRange s.heap r a₀ b₀ 1 t₀ u₀ v₀) (hsmall : Builtin.Range.small a₀ b₀ 1 = true) (hn : Builtin.Range.rangeSize a₀ b₀ 1 = (n : Int))
    (F : Fr h₀ env.locals s.heap m₀) (N : News h₀ env.locals s.heap news) (hj : J 0 m₀ news)
    (turn : ∀ i t m₁ news₁ h tk I oI, i < n → (∀ p ∈ news₁, p.1 ≠ I) → J i m₁ news₁ → Fr h₀ env.locals h (fun y => if y = x then some (.int (a₀ + (i : Int)) t) else m₁ y) → News h₀ env.locals h ((I, oI) :: news₁) →
      wpAny (model prog w) A (execs body env) (LEnd h₀ env.locals (J (i + 1)) I oI { s with heap := h, toks := tk }) E { s with heap := h, toks := tk })
    (done : ∀ m₁ news₁ h tk, J n m₁ news₁ → Fr h₀ env.locals h m₁ → News h₀ env.locals h news₁ → Q .next { s with heap := h, toks := tk }) :
    wpAny (model prog w) A (pyIter (.ref r)) (fun it s₂ => LoopAtV prog w A h₀ env x body Q E it s₂) E s := by
  refine wpAny_pyIter_range hr hsmall ?_
  have W : Walks prog w A s.heap.objs.size [s.heap.objs.size] [s.heap.objs.size] n (fun i v => i < n ∧ ∃ t, v = .int (a₀ + i * 1) t)
      (fun i h => IsRangeIter h s.heap.objs.size (a₀ + (i : Nat) * 1) ((n : Int) - (i : Nat)) 1) := (Walks.range hh _ a₀ 1 n).bound
  refine ⟨_, _, _, n, _, _, m₀, news, J, rfl, W, ?_, ?_, ?_, (by show IsRangeIter _ _ _ _ _; rw [hn]; simpa using Heap.get?_push_size _ rfl), F.push _, (fun p hp => ⟨Heap.get?_push_of_some _ (N p hp).1, (N p hp).2⟩), hj, ?_, ?_⟩
  · intro hm
    exact absurd F.ns.lt ((List.mem_singleton.mp hm) ▸ Nat.lt_irrefl _)
  · intro b hb
    rw [List.mem_singleton.mp hb]
    exact next_is_new F
  · intro p hp hI
    exact absurd (Heap.lt_size (N p hp).1) ((List.mem_singleton.mp hI) ▸ Nat.lt_irrefl _)
  · rintro i v m₁ news₁ s₁ own ⟨h, tk, rfl⟩ hin hP hJ hoff hown hget hfp hst F₁ N₁
    obtain ⟨_, t, rfl⟩ := hP
    have hI0 : h₀.get? s.heap.objs.size = none := next_is_new F
    have hIs : IsRangeIter h s.heap.objs.size (a₀ + ((i + 1 : Nat) : Int) * 1) ((n : Int) - ((i + 1 : Nat) : Int)) 1 := hst
    have hoI : h.get? s.heap.objs.size = some _ := hIs
    generalize hg : ({ cls := _, data := _ } : Obj) = oI at hoI
    have hIown : (s.heap.objs.size, oI) ∈ own := hfp _ (.head _) hI0 _ hoI
    rw [Int.mul_one] at F₁
    refine wpAny_mono (turn i t m₁ news₁ h tk s.heap.objs.size oI hin (fun p hp e => hoff p hp (by rw [e]; exact .head _)) hJ F₁ fun p hp => ?_) (fun f s₂ q => ?_) fun _ _ e => e
    · rcases List.mem_cons.mp hp with rfl | hp
      · exact N₁ _ (List.mem_append.mpr (.inl hIown))
      · exact N₁ _ (List.mem_append.mpr (.inr hp))
    · obtain ⟨rfl, h₂, tk₂, m₂, news₂, nx, rfl, F₃, N₄, hn4, hI, ha, hj₂⟩ := q
      refine .ofU ⟨rfl, h₂, tk₂, m₂, nx, rfl, F₃, fun p hp => ?_, fun p hp e => ha p hp (List.mem_singleton.mp e), hj₂⟩
      rcases List.mem_append.mp hp with hp | hp
      · have g1 := hget p hp
        have e := List.mem_singleton.mp (hown p hp)
        have e2 : p = (s.heap.objs.size, oI) := Prod.ext e (by
          have g2 : h.get? p.1 = some p.2 := g1
          rw [e, hoI] at g2; exact (Option.some.inj g2).symm)
        rw [e2]; exact N₄ _ hI
      · exact N₄ _ (hn4 _ hp)
  · rintro h' tk m' news' F' N' _ hJ
    exact done m' news' h' tk hJ F' N'
theorem list_loop {l : Addr} {vs : List Value} {nn : Nat} {m₀ : Str → Option Value} {news : List (Addr × Obj)} (J : Nat → (Str → Option Value) → List (Addr × Obj) → Prop)
    (hh : A.handled = none) (hJl : ∀ i m nx, J i m nx → (l, W.listOf vs.toArray nn) ∈ nx)
    (F : Fr h₀ env.locals s.heap m₀) (N : News h₀ env.locals s.heap news) (hj : J 0 m₀ news)
    (turn : ∀ i v m₁ news₁ h tk I oI, vs[i]? = some v → (∀ p ∈ news₁, p.1 ≠ I) → J i m₁ news₁ → Fr h₀ env.locals h (fun y => if y = x then some v else m₁ y) → News h₀ env.locals h ((I, oI) :: news₁) →
      wpAny (model prog w) A (execs body env) (LEnd h₀ env.locals (J (i + 1)) I oI { s with heap := h, toks := tk }) E { s with heap := h, toks := tk })
    (done : ∀ m₁ news₁ h tk, J vs.length m₁ news₁ → Fr h₀ env.locals h m₁ → News h₀ env.locals h news₁ → Q .next { s with heap := h, toks := tk }) :
    wpAny (model prog w) A (pyIter (.ref l)) (fun it s₂ => LoopAtV prog w A h₀ env x body Q E it s₂) E s := by
  have hln := hJl _ _ _ hj
  have hol : s.heap.get? l = some (W.listOf vs.toArray nn) := (N _ hln).1
  have hls : s.heap.IsList l vs.toArray := ⟨_, hol, rfl, nn, rfl⟩
  have hne : l ≠ s.heap.objs.size := Nat.ne_of_lt (Heap.lt_size hol)
  refine wpAny_pyIter_list hls ?_
  have Wk := Walks.list (prog := prog) (w := w) hh s.heap.objs.size l hne vs.toArray
  have hlen : vs.toArray.size = vs.length := by simp
  rw [hlen] at Wk
  refine ⟨_, _, _, vs.length, _, _, m₀, news, J, rfl, Wk, ?_, ?_, ?_, ⟨⟨_, Heap.get?_push_size _ rfl, rfl, rfl⟩, hls.at fun o e => Heap.get?_push_of_some _ e⟩, F.push _, (fun p hp => ⟨Heap.get?_push_of_some _ (N p hp).1, (N p hp).2⟩), hj, ?_, ?_⟩
  · intro hm
    rcases List.mem_cons.mp hm with e | hm
    · exact absurd F.ns.lt (e ▸ Nat.lt_irrefl _)
    · exact (N _ hln).2.1 ((List.mem_singleton.mp hm).symm)
  · intro b hb
    rw [List.mem_singleton.mp hb]
    exact next_is_new F
  · intro p hp hI
    exact absurd (Heap.lt_size (N p hp).1) ((List.mem_singleton.mp hI) ▸ Nat.lt_irrefl _)
  · rintro i v m₁ news₁ s₁ own ⟨h, tk, rfl⟩ hin hP hJ hoff hown hget hfp hst F₁ N₁
    have hP' : vs[i]? = some v := by simpa using hP
    have hI0 : h₀.get? s.heap.objs.size = none := next_is_new F
    obtain ⟨⟨oI, hoI, _⟩, _⟩ := id hst
    have hIown : (s.heap.objs.size, oI) ∈ own := hfp _ (.head _) hI0 _ hoI
    refine wpAny_mono (turn i v m₁ news₁ h tk s.heap.objs.size oI hP' (fun p hp e => hoff p hp (by rw [e]; exact .head _)) hJ F₁ fun p hp => ?_) (fun f s₂ q => ?_) fun _ _ e => e
    · rcases List.mem_cons.mp hp with rfl | hp
      · exact N₁ _ (List.mem_append.mpr (.inl hIown))
      · exact N₁ _ (List.mem_append.mpr (.inr hp))
    · obtain ⟨rfl, h₂, tk₂, m₂, news₂, nx, rfl, F₃, N₄, hn4, hI, ha, hj₂⟩ := q
      refine .ofU ⟨rfl, h₂, tk₂, m₂, nx, rfl, F₃, fun p hp => ?_, fun p hp e => ha p hp (List.mem_singleton.mp e), hj₂⟩
      rcases List.mem_append.mp hp with hp | hp
      · have g1 : h.get? p.1 = some p.2 := hget p hp
        rcases List.mem_cons.mp (hown p hp) with e | e
        · have e2 : p = (s.heap.objs.size, oI) := Prod.ext e (by
            have g2 : h.get? s.heap.objs.size = some oI := hoI
            rw [e, g2] at g1; exact (Option.some.inj g1).symm)
          rw [e2]; exact N₄ _ hI
        · have e1 := List.mem_singleton.mp e
          have g2 : h.get? l = some (W.listOf vs.toArray nn) := (N₁ _ (List.mem_append.mpr (.inr (hJl _ _ _ hJ)))).1
          have e2 : p = (l, W.listOf vs.toArray nn) := Prod.ext e1 (by rw [e1, g2] at g1; exact (Option.some.inj g1).symm)
          rw [e2]; exact N₄ _ (hn4 _ (hJl _ _ _ hj₂))
      · exact N₄ _ (hn4 _ hp)
  · rintro h' tk m' news' F' N' _ hJ
    exact done m' news' h' tk hJ F' N'
theorem list_loopU {l : Addr} {vs : List Value} {nn : Nat} {m₀ : Str → Option Value} {news : List (Addr × Obj)} (J : Nat → (Str → Option Value) → List (Addr × Obj) → Prop)
    (hh : A.handled = none) (hJl : ∀ i m nx, J i m nx → (l, W.listOf vs.toArray nn) ∈ nx)
    (F : Fr h₀ env.locals s.heap m₀) (N : News h₀ env.locals s.heap news) (hj : J 0 m₀ news)
    (turn : ∀ i v m₁ news₁ (s₁ : Shared) h tk I oI, vs[i]? = some v → (∀ p ∈ news₁, p.1 ≠ I) → J i m₁ news₁ → Fr h₀ env.locals h (fun y => if y = x then some v else m₁ y) → News h₀ env.locals h ((I, oI) :: news₁) →
      wpAny (model prog w) A (execs body env) (LEnd h₀ env.locals (J (i + 1)) I oI { s₁ with heap := h, toks := tk }) E { s₁ with heap := h, toks := tk })
    (done : ∀ m₁ news₁ h tk, J vs.length m₁ news₁ → Fr h₀ env.locals h m₁ → News h₀ env.locals h news₁ → Q .next { s with heap := h, toks := tk }) :
    wpAny (model prog w) A (pyIter (.ref l)) (fun it s₂ => LoopAtU prog w A h₀ env x body Q E it s₂) E s := by
  have hln := hJl _ _ _ hj
  have hol : s.heap.get? l = some (W.listOf vs.toArray nn) := (N _ hln).1
  have hls : s.heap.IsList l vs.toArray := ⟨_, hol, rfl, nn, rfl⟩
  have hne : l ≠ s.heap.objs.size := Nat.ne_of_lt (Heap.lt_size hol)
  refine wpAny_pyIter_list hls ?_
  have Wk := Walks.list (prog := prog) (w := w) hh s.heap.objs.size l hne vs.toArray
  have hlen : vs.toArray.size = vs.length := by simp
  rw [hlen] at Wk
  refine ⟨_, _, _, vs.length, _, _, m₀, news, J, rfl, Wk, ?_, ?_, ?_, ⟨⟨_, Heap.get?_push_size _ rfl, rfl, rfl⟩, hls.at fun o e => Heap.get?_push_of_some _ e⟩, F.push _, (fun p hp => ⟨Heap.get?_push_of_some _ (N p hp).1, (N p hp).2⟩), hj, ?_, ?_⟩
  · intro hm
    rcases List.mem_cons.mp hm with e | hm
    · exact absurd F.ns.lt (e ▸ Nat.lt_irrefl _)
    · exact (N _ hln).2.1 ((List.mem_singleton.mp hm).symm)
  · intro b hb
    rw [List.mem_singleton.mp hb]
    exact next_is_new F
  · intro p hp hI
    exact absurd (Heap.lt_size (N p hp).1) ((List.mem_singleton.mp hI) ▸ Nat.lt_irrefl _)
  · rintro i v m₁ news₁ s₁ own hin hP hJ hoff hown hget hfp hst F₁ N₁
    have hP' : vs[i]? = some v := by simpa using hP
    have hI0 : h₀.get? s.heap.objs.size = none := next_is_new F
    obtain ⟨⟨oI, hoI, _⟩, _⟩ := id hst
    have hIown : (s.heap.objs.size, oI) ∈ own := hfp _ (.head _) hI0 _ hoI
    refine wpAny_mono (turn i v m₁ news₁ s₁ s₁.heap s₁.toks s.heap.objs.size oI hP' (fun p hp e => hoff p hp (by rw [e]; exact .head _)) hJ F₁ fun p hp => ?_) (fun f s₂ q => ?_) fun _ _ e => e
    · rcases List.mem_cons.mp hp with rfl | hp
      · exact N₁ _ (List.mem_append.mpr (.inl hIown))
      · exact N₁ _ (List.mem_append.mpr (.inr hp))
    · obtain ⟨rfl, h₂, tk₂, m₂, news₂, nx, rfl, F₃, N₄, hn4, hI, ha, hj₂⟩ := q
      refine ⟨rfl, h₂, tk₂, m₂, nx, rfl, F₃, fun p hp => ?_, fun p hp e => ha p hp (List.mem_singleton.mp e), hj₂⟩
      rcases List.mem_append.mp hp with hp | hp
      · have g1 : s₁.heap.get? p.1 = some p.2 := hget p hp
        rcases List.mem_cons.mp (hown p hp) with e | e
        · have e2 : p = (s.heap.objs.size, oI) := Prod.ext e (by
            have g2 : s₁.heap.get? s.heap.objs.size = some oI := hoI
            rw [e, g2] at g1; exact (Option.some.inj g1).symm)
          rw [e2]; exact N₄ _ hI
        · have e1 := List.mem_singleton.mp e
          have g2 : s₁.heap.get? l = some (W.listOf vs.toArray nn) := (N₁ _ (List.mem_append.mpr (.inr (hJl _ _ _ hJ)))).1
          have e2 : p = (l, W.listOf vs.toArray nn) := Prod.ext e1 (by rw [e1, g2] at g1; exact (Option.some.inj g1).symm)
          rw [e2]; exact N₄ _ (hn4 _ (hJl _ _ _ hj₂))
      · exact N₄ _ (hn4 _ hp)
  · rintro h' tk m' news' F' N' _ hJ
    exact done m' news' h' tk hJ F' N'
end
end Mine

namespace Mine
section
variable {h₀ h₀' h : Heap} {L : Addr} {m : Str → Option Value} {R : List (Addr × Obj)}
theorem fr_nil (T : KtsTurn [] h₀ h₀') (F : Fr h₀' L h m) : Fr h₀ L h m :=
  ⟨F.ns, fun b o e => F.keep b o (T.other b o e (fun q => nomatch q)), by rw [← T.size]; exact F.above⟩
theorem news_nil (T : KtsTurn [] h₀ h₀') (N : News h₀' L h R) : News h₀ L h R := fun p hp => by
  refine ⟨(N p hp).1, (N p hp).2.1, ?_⟩
  cases e : h₀.get? p.1 with
  | none => rfl
  | some o => have := T.other _ o e (fun q => nomatch q); rw [(N p hp).2.2] at this; cases this
end
theorem fmod_at {α : Type} {l : List α} {k : Int} (h : l ≠ []) : ∃ r, l[(k.fmod (l.length : Int)).toNat]? = some r := by
  have hl : 0 < (l.length : Int) := Int.natCast_pos.mpr (List.length_pos_iff.mpr h)
  have q0 := fmod_lo0 (x := k) hl
  have q1 := fmod_hi0 (x := k) hl
  exact ⟨_, List.getElem?_eq_getElem (by lia)⟩
section
variable {w : World} {p : Program} {loose : List Str} {mean : ExcName → Option Value} {mg mb : Str → Option Value} {dp un : Nat} {gd : Option (List Code)} {cn : Str} {cs : Scope} {a : Addr} {ccd : Value} {cl : List (Str × Addr)} {outer : List Env} {A₀ : Around} {base h₀ : Heap} {L : Addr} {m : Str → Option Value} {R T : List (Addr × Obj)} {s : Shared} {v : Value} {Q E : Value → Shared → Prop}
theorem deed_u {a0 : WAdr} {v0 : WVal} {st : WSt} {p1 p2 : List (Int × Int)} {tf tp tz : Tok} {form pick size : Int} (c : Nat)
  (B : Below A₀ h₀ [] h₀) (F : Fr h₀ L s.heap m) (X : (hd.heap_1 w.params).In h₀) (N : News h₀ L s.heap (wled w a0 v0 st R)) (Tp : Top p loose mean mg mb h₀) (hk : cs.kind = .function)
  (I : WIs w T a0 v0 st) (S : WSep a0 v0 R) (V : Inv a0.lim1 a0.lim2 st p1 p2 (fun _ => False)) (hz : 0 < st.data.size) (hfc : st.fly.length ≤ c) (hec : st.eld.length ≤ c) (hc : c ≤ 100)
  (hf0 : 0 ≤ form) (hf8 : form < 8) (hp0 : 0 ≤ pick) (hp5 : pick < 5) (hz0 : 0 ≤ size) (hz4 : size < 4)
  (hTR : ∀ p ∈ T, p ∈ R) (hdp : dp + 10 < recursionLimit) (hun : un + 1000 < cLine)
  (ret : ∀ v' st' q1 q2 tl h' tk', Fr h₀ L h' m → News h₀ L h' (wled w a0 v' st' (tl ++ R)) → Apart R tl → WIs w (tl ++ T) a0 v' st' → WSep a0 v' (tl ++ R) → Inv a0.lim1 a0.lim2 st' q1 q2 (fun _ => False) → 0 < st'.data.size → st'.fly.length ≤ c + 1 → st'.eld.length ≤ c + 1 →
    Q (.bool true) { s with heap := h', toks := tk' }) :
  wpAny (model P0 w) (ktrTop dp un gd cn cs L a ccd cl []) (call (.ref 220) [.ref a0.wD, .int form tf, .int pick tp, .int size tz]) Q E s := by
  have hn := V.n1
  have D0 : KtsDicts (([] : List Env).filterMap (·.frame)) h₀ := ktsDicts_nil
  by_cases g1 : form < 1 ∧ (st.data.size : Int) < 12
  · refine deed_put B F X N Tp hk X Tp D0 I S g1.1 g1.2 hz0 (by lia) (V.due.len15 hn) hTR hdp hun ?_
    intro more hm v' tl h' tk' F' N' A' I' S'
    refine ret v' (putS st more) p1 p2 tl h' tk' F' N' A' I' S' (put_inv V (by lia)) ?_ (Nat.le_succ_of_le hfc) (Nat.le_succ_of_le hec)
    show 0 < (st.data ++ more).size
    rw [Array.size_append]; exact Nat.lt_of_lt_of_le hz (Nat.le_add_right _ _)
  by_cases g4 : form < 4
  · refine deed_chunk B F X N Tp hk X Tp D0 I S hf0 g4 (fun e => by have := g1; lia) hz0 (by lia) (V.due.len15 hn) V.due.nf.lt (by lia) (by lia) (by lia) hTR hdp hun ?_ ?_
    · intro _ v' tl h' tk' F' N' A' I' S'
      exact ret v' st p1 p2 tl h' tk' F' N' A' I' S' V hz (Nat.le_succ_of_le hfc) (Nat.le_succ_of_le hec)
    · intro lo hi rest he v' tl h' tk' F' N' A' I' S'
      refine ret v' _ p1 p2 tl h' tk' F' N' A' I' S' (chunk_inv V he (by lia)) hz ?_ ?_
      · show (st.fly ++ [_]).length ≤ c + 1
        exact (List.length_append (as := st.fly)).symm ▸ Nat.succ_le_succ hfc
      · show (st.eld ++ [_]).length ≤ c + 1
        exact (List.length_append (as := st.eld)).symm ▸ Nat.succ_le_succ hec
  by_cases g7 : form = 7 ∧ st.eld ≠ []
  · obtain ⟨rfl, he⟩ := g7
    obtain ⟨r, hr⟩ := fmod_at (k := pick) he
    obtain ⟨ok, q1, q2, V'⟩ := come_ok V (V.eld r (List.mem_of_getElem? hr)) fun _ h => h.elim
    refine deed_again B F X N Tp hk X Tp D0 I S hr hp0 (by lia) (by lia) ok hTR hdp hun ?_
    intro h₀' v' tl h' tk' tr F' N' A' I' S'
    exact ret v' _ q1 q2 tl h' tk' (fr_nil tr.1 F') (news_nil tr.1 N') A' I' S' V' hz (Nat.le_succ_of_le hfc) (Nat.le_succ_of_le hec)
  by_cases gf : st.fly = []
  · refine deed_idle B F X N Tp hk X Tp D0 I (by lia) (fun e => ?_) gf hTR hdp hun ?_
    · cases he : st.eld with
      | nil => rfl
      | cons x r => exact absurd ⟨e, fun q => by rw [he] at q; cases q⟩ g7
    · intro h' tk' F' N'
      exact ret v0 st p1 p2 [] h' tk' F' N' Apart.nil I S V hz (Nat.le_succ_of_le hfc) (Nat.le_succ_of_le hec)
  · have h7 : form ≠ 7 := fun e => g7 ⟨e, fun q => by
      cases hf : st.fly with
      | nil => exact gf hf
      | cons x r => have := V.fe x (by rw [hf]; exact .head _); rw [q] at this; exact nomatch this⟩
    obtain ⟨r, hr⟩ := fmod_at (k := pick) gf
    obtain ⟨hro, hh⟩ := pop_hand V hr
    obtain ⟨ok, q1, q2, V'⟩ := come_ok hh hro fun _ h => h
    have hle : (st.fly.eraseIdx (pick.fmod (st.fly.length : Int)).toNat).length ≤ c + 1 := Nat.le_trans (List.eraseIdx_sublist st.fly (pick.fmod (st.fly.length : Int)).toNat).length_le (Nat.le_succ_of_le hfc)
    refine deed_pop B F X N Tp hk X Tp D0 I S (by lia) h7 hr hp0 (by lia) (by lia) (fun _ => ok) (fun _ => lost_ok V hro) hTR hdp hun ?_ ?_
    · intro _ h₀' v' tl h' tk' tr F' N' A' I' S'
      exact ret v' _ q1 q2 tl h' tk' (fr_nil tr.1 F') (news_nil tr.1 N') A' I' S' V' hz hle (Nat.le_succ_of_le hec)
    · intro _ v' tl h' tk' F' N' A' I' S'
      exact ret v' _ p1 p2 tl h' tk' F' N' A' I' S' (lost_inv hh hro fun _ h => h) hz hle (Nat.le_succ_of_le hec)
theorem stands_u {a0 : WAdr} {v0 : WVal} {st : WSt} {p1 p2 : List (Int × Int)}
  (B : Below A₀ h₀ [] h₀) (F : Fr h₀ L s.heap m) (X : (hd.heap_1 w.params).In h₀) (N : News h₀ L s.heap (wled w a0 v0 st R)) (Tp : Top p loose mean mg mb h₀) (hk : cs.kind = .function)
  (I : WIs w T a0 v0 st) (V : Inv a0.lim1 a0.lim2 st p1 p2 (fun _ => False)) (hz : 0 < st.data.size)
  (hTR : ∀ p ∈ T, p ∈ R) (hdp : dp + 9 < recursionLimit) (hun : un + 900 < cLine)
  (ret : ∀ h' tk', Fr h₀ L h' m → News h₀ L h' (wled w a0 v0 st R) → Q (.bool true) { s with heap := h', toks := tk' }) :
  wpAny (model P0 w) (ktrTop dp un gd cn cs L a ccd cl []) (call (.ref 215) [.ref a0.wD]) Q E s := by
  have D0 : KtsDicts (([] : List Env).filterMap (·.frame)) h₀ := ktsDicts_nil
  have up : ∀ p ∈ T, p ∈ (v0.lf, W.listOf v0.fs.toArray v0.nf) :: T := fun p hp => .tail _ hp
  refine law_stands_c (Z := wled w a0 v0 st R) (T := (v0.lf, W.listOf v0.fs.toArray v0.nf) :: T) (fly := st.fly) st.s1 st.s2 B F X N mem_w1 mem_x1 mem_d1 (.tail _ (.tail _ (.tail _ (.head _)))) (.tail _ (.tail _ (.tail _ (.tail _ (.head _))))) (.tail _ (.tail _ (.tail _ (.tail _ (.tail _ (.head _)))))) (mem6 (.head _)) (.tail _ (mem6 (.head _))) (mem8 (.head _)) Tp hk X Tp D0 I.hW I.hE1 I.hE2 (up _ I.hle) (up _ I.hlb) (I.hvd.mono up) (I.hvk.mono up) (DatIn.list (.head _) (I.hfl.mono up)) (I.hw1.mono up) (I.hw2.mono up) (stands_ok V hz) ?_ hdp hun ret
  intro p hp
  rcases List.mem_cons.mp hp with rfl | hp
  · exact mem_lf
  · exact mem10 (hTR p hp)
end
end Mine

namespace Mine
/-- the law's state between its statements: the box, the world -/
noncomputable def LW (w : World) (a0 : WAdr) (ab sl : Addr) (T R0 : List (Addr × Obj)) (c : Nat) (nx : List (Addr × Obj)) : Prop :=
  ∃ st v tl t n q1 q2, nx = (ab, W.listOf [Value.ref sl, Value.int (2 + 3 * (c : Int)) t].toArray n) :: wled w a0 v st (tl ++ R0) ∧ WIs w (tl ++ T) a0 v st ∧ WSep a0 v (tl ++ R0) ∧ (∀ p ∈ wled w a0 v st (tl ++ R0), @Ne Nat p.1 ab) ∧ Apart R0 tl ∧
    Inv a0.lim1 a0.lim2 st q1 q2 (fun _ => False) ∧ 0 < st.data.size ∧ st.fly.length ≤ c ∧ st.eld.length ≤ c
noncomputable def lfr (a0 : WAdr) (ab : Addr) (tf : Tok) : List (Str × Value) := [(Str.ofString "box", Value.ref ab), (Str.ofString "world", Value.ref a0.wD), (Str.ofString "first", Value.int a0.lim1 tf)]
local macro_rules | `(tactic| walk_at "exec For") => `(tactic| ((with_reducible show wpAny _ _ (exec (Stmt.For _ _ _ _ _) _) _ _ _); refine Mine.held ?_))
local macro_rules | `(tactic| walk_at "pyIter ref") => `(tactic| ((with_reducible show wpAny _ _ (pyIter (Value.ref _)) _ _ _); refine Mine.held ?_))
local macro_rules | `(tactic| walk_at "law drawn") => `(tactic| (k_dflt (refine' Mine.drawn_c ?B ?F ?X ?N ?Tp rfl ?h0 ?hi ?hns ?hO ?k0 ?k1 ?m0 ?m1 ?hd ?hu ?_); (case B => k_asm); (case F => k_asm); (case X => k_asm); (case N => k_asm); (case Tp => k_asm); (case h0 => assumption); (case hi => assumption); (case hns => lia); (case hO => assumption); (case k0 => lia); (case k1 => lia); (case m0 => lia); (case m1 => lia); (case hd => first | decide | walk_at "mine room"); (case hu => first | decide | walk_at "mine room")))
section
variable {w : World} {p : Program} {loose : List Str} {mean : ExcName → Option Value} {mg mb : Str → Option Value} {dp un : Nat} {gd : Option (List Code)} {cn : Str} {cs : Scope} {a : Addr} {ccd : Value} {cl : List (Str × Addr)} {outer : List Env} {A₀ : Around} {base h₀ : Heap} {L : Addr} {m : Str → Option Value} {R T : List (Addr × Obj)} {s : Shared} {v : Value} {Q E : Value → Shared → Prop}
end
namespace turns_c_k
noncomputable def St (w : World) (p : Program) (loose : List Str) (mean : ExcName → Option Value) (mg : Str → Option Value) (mb : Str → Option Value) (dp : Nat) (un : Nat) (gd : Option (List Code)) (a : Addr) (ccd : Value) (A₀ : Around) (h₀ : Heap) (L : Addr) (m : Str → Option Value) (T : List (Addr × Obj)) (s : Shared) (E : Value → Shared → Prop) (a0 : WAdr) (ab : Addr) (sl : Addr) (R0 : List (Addr × Obj)) (nx : List (Addr × Obj)) (vs : List Value) (ns : List Int) (tf : Tok) (Q : Flow → Shared → Prop) (n0 : Nat) (x9 : Stmt) : Prop := ∀ (B : Below A₀ h₀ [] h₀) (F : Fr h₀ L s.heap m) (X : (hd.heap_1 w.params).In h₀) (N : News h₀ L s.heap nx) (Tp : Top p loose mean mg mb h₀) (hW : LW w a0 ab sl T R0 0 nx) (hsl : (sl, W.listOf vs.toArray n0) ∈ R0) (hi : IntsAre vs ns) (hns : ns.length ≤ 1000) (hTR : ∀ p ∈ T, p ∈ R0) (hm : ∀ p ∈ lfr a0 ab tf, m p.1 = some p.2) (hst : stAt lawRec.body 5 = [x9]) (hE : PassesOwn (model P0 w) (lawTop dp un gd L a ccd) (lawEnv L a ccd) E) (hdp : dp + 20 < recursionLimit) (hun : un + 2000 < cLine) (ret : ∀ m' nx' h' tk', Fr h₀ L h' m' → News h₀ L h' nx' → LW w a0 ab sl T R0 12 nx' → (∀ p ∈ lfr a0 ab tf, m' p.1 = some p.2) → Q .next { s with heap := h', toks := tk' }),
  wpAny (model P0 w) (lawTop dp un gd L a ccd) (exec x9 (lawEnv L a ccd)) Q E s
noncomputable def S (c : CxF × (((((WAdr) × (List (Addr × Obj))) × (List (Addr × Obj))) × (((List Value) × (List Int)) × (Flow → Shared → Prop))))) : Prop := ∀ (n0 : Nat) (x9 : Stmt), St (cx_w (c.1).1) (cx_p (c.1).1) (cx_loose (c.1).1) (cx_mean (c.1).1) (cx_mg (c.1).1) (cx_mb (c.1).1) (cx_dp (c.1).1) (cx_un (c.1).1) (cx_gd (c.1).1) (cx_a (c.1).1) (cx_ccd (c.1).1) (cx_A₀ (c.1).1) (cx_h₀ (c.1).1) (cx_L (c.1).1) (cx_m (c.1).1) (cx_T (c.1).1) (cx_s (c.1).1) (cx_E (c.1).1) (c.2.1.1.1) (cx_adr c.1 0) (cx_adr c.1 1) (c.2.1.1.2) (c.2.1.2) (c.2.2.1.1) (c.2.2.1.2) (cx_tok c.1 0) (c.2.2.2) n0 x9
noncomputable def kx9 : CxF × (((((WAdr) × (List (Addr × Obj))) × (List (Addr × Obj))) × (((List Value) × (List Int)) × (Flow → Shared → Prop)))) := @Classical.epsilon (CxF × (((((WAdr) × (List (Addr × Obj))) × (List (Addr × Obj))) × (((List Value) × (List Int)) × (Flow → Shared → Prop))))) (ne_cxf.elim fun b => ⟨(b, (((wadr0, default), default), ((default, default), default)))⟩) fun c => ¬ S c
set_option maxRecDepth 100000 in
set_option maxHeartbeats 8000000 in
theorem walk : S kx9 := by
  show ∀ (n0 : Nat) (x9 : Stmt), St (cx_w (kx9.1).1) (cx_p (kx9.1).1) (cx_loose (kx9.1).1) (cx_mean (kx9.1).1) (cx_mg (kx9.1).1) (cx_mb (kx9.1).1) (cx_dp (kx9.1).1) (cx_un (kx9.1).1) (cx_gd (kx9.1).1) (cx_a (kx9.1).1) (cx_ccd (kx9.1).1) (cx_A₀ (kx9.1).1) (cx_h₀ (kx9.1).1) (cx_L (kx9.1).1) (cx_m (kx9.1).1) (cx_T (kx9.1).1) (cx_s (kx9.1).1) (cx_E (kx9.1).1) (kx9.2.1.1.1) (cx_adr kx9.1 0) (cx_adr kx9.1 1) (kx9.2.1.1.2) (kx9.2.1.2) (kx9.2.2.1.1) (kx9.2.2.1.2) (cx_tok kx9.1 0) (kx9.2.2.2) n0 x9
  generalize (cx_w (kx9.1).1) = w, (cx_p (kx9.1).1) = p, (cx_loose (kx9.1).1) = loose, (cx_mean (kx9.1).1) = mean, (cx_mg (kx9.1).1) = mg, (cx_mb (kx9.1).1) = mb, (cx_dp (kx9.1).1) = dp, (cx_un (kx9.1).1) = un, (cx_gd (kx9.1).1) = gd, (cx_a (kx9.1).1) = a, (cx_ccd (kx9.1).1) = ccd, (cx_A₀ (kx9.1).1) = A₀, (cx_h₀ (kx9.1).1) = h₀, (cx_L (kx9.1).1) = L, (cx_m (kx9.1).1) = m, (cx_T (kx9.1).1) = T, (cx_s (kx9.1).1) = s, (cx_E (kx9.1).1) = E, (kx9.2.1.1.1) = a0, (cx_adr kx9.1 0) = ab, (cx_adr kx9.1 1) = sl, (kx9.2.1.1.2) = R0, (kx9.2.1.2) = nx, (kx9.2.2.1.1) = vs, (kx9.2.2.1.2) = ns, (cx_tok kx9.1 0) = tf, (kx9.2.2.2) = Q
  intro n0 x9
  delta St
  intro B F X N Tp hW hsl hi hns hTR hm hst hE hdp hun ret
  have hk : lawRec.scope.kind = .function := rfl
  unfold lawRec recOf at hst
  dsimp only [stAt] at hst
  obtain rfl := (List.cons.inj hst).1
  clear hst
  unfold lawTop lawEnv lawRec recOf at hE ⊢
  k_steps
  unfold Held
  clear hE
  rename Fr _ _ _ _ => F2
  rename News _ _ _ _ => N2
  rename IsRange _ _ _ _ _ _ _ _ => hr
  try unfold Held
  refine' range_loop (fun i m nx => LW w a0 ab sl T R0 i nx ∧ ∀ p ∈ lfr a0 ab tf, m p.1 = some p.2) rfl hr (n := 12) rfl rfl F2 N2 ⟨hW, hm⟩ ?turn ?done
  case done =>
    rintro m₁ news₁ h tk ⟨hW9, hm9⟩ F3 N3
    (try dsimp only)
    (try k_steps)
    exact ret _ _ _ _ F3 N3 hW9 hm9
  case turn =>
    rintro i t m₁ news₁ h tk I oI hi9 hI ⟨⟨st, v, tl, t9, n9, q1, q2, rfl, I9, S9, hoff, hA, V, hz, hfc, hec⟩, hps⟩ F3 N3
    clear F2 N2 hm hW hr
    unfold lfr at hps
    replace F3 := fr_kv1 hps F3
    have hIb : @Ne Nat ab I := hI _ (.head _)
    have hIw : ∀ p ∈ wled w a0 v st (tl ++ R0), @Ne Nat p.1 I := fun p hp => hI p (.tail _ hp)
    generalize hR1 : (I, oI) :: wled w a0 v st (tl ++ R0) = R1
    have N4 : News h₀ L h ((ab, W.listOf [Value.ref sl, Value.int (2 + 3 * (i : Int)) t9].toArray n9) :: R1) := fun p hp => N3 p (by
      subst hR1
      simp only [List.mem_cons] at hp ⊢
      rcases hp with h | h | h <;> simp only [h, true_or, or_true])
    clear N3 hI
    have hsl1 : (sl, W.listOf vs.toArray n0) ∈ R1 := by
      subst hR1
      exact .tail _ (wled_mem.mpr (.inr (List.mem_append.mpr (.inr hsl))))
    have hO1 : ∀ p ∈ R1, @Ne Nat p.1 ab := by
      subst hR1
      intro p hp
      rcases List.mem_cons.mp hp with rfl | hp
      · exact Ne.symm hIb
      · exact hoff p hp
    have hi12 : (i : Int) ≤ 12 := by lia
    have hi0 : (0 : Int) ≤ (i : Int) := Int.natCast_nonneg i
    k_steps
    unfold Held
    walk_at "law drawn"
    intro r1 h' tk' t' t'' n' hr10 hr11 F5 N5
    clear N4
    k_steps
    unfold Held
    walk_at "law drawn"
    intro r2 h' tk' t' t'' n' hr20 hr21 F6 N6
    clear N5
    k_steps
    unfold Held
    walk_at "law drawn"
    intro r3 h' tk' t' t'' n' hr30 hr31 F7 N7
    clear N6
    k_steps
    unfold Held
    rename Fr _ _ _ _ => F8
    rename News _ _ _ _ => N8
    have hIw0 : ∀ p ∈ wled w a0 v st [], @Ne Nat p.1 I := fun p hp => hIw p (wled_mem.mpr (.inl hp))
    have hbw0 : ∀ p ∈ wled w a0 v st [], @Ne Nat p.1 ab := fun p hp => hoff p (wled_mem.mpr (.inl hp))
    have hbox : ∃ oB, oB = W.listOf [Value.ref sl, Value.int (2 + 3 * ((i + 1 : Nat) : Int)) t'].toArray n' := ⟨_, rfl⟩
    obtain ⟨oB, hoB⟩ := hbox
    have N9 : News h₀ L _ (wled w a0 v st ((ab, oB) :: (I, oI) :: (tl ++ R0))) := fun p hp => N8 p (by
      subst hR1 hoB
      rw [show 2 + 3 * (i : Int) + 1 + 1 + 1 = 2 + 3 * ((i + 1 : Nat) : Int) by push_cast; lia]
      rcases wled_mem.mp hp with h | h
      · exact .tail _ (.tail _ (.tail _ (wled_mem.mpr (.inl h))))
      · rcases List.mem_cons.mp h with rfl | h
        · exact .tail _ (.head _)
        · rcases List.mem_cons.mp h with rfl | h
          · exact .tail _ (.tail _ (.head _))
          · exact .tail _ (.tail _ (.tail _ (wled_mem.mpr (.inr h)))))
    clear N8 hsl1 hO1
    have S9' : WSep a0 v ((ab, oB) :: (I, oI) :: (tl ++ R0)) := wsep_cons (wsep_cons S9 hIw0) hbw0
    have hTR9 : ∀ p ∈ tl ++ T, p ∈ (ab, oB) :: (I, oI) :: (tl ++ R0) := fun p hp => .tail _ (.tail _ (sub_mv hTR p hp))
    k_dflt (refine' deed_u i ?B F8 ?X N9 ?Tp rfl I9 S9' V hz hfc hec (by lia) hr10 hr11 hr20 hr21 hr30 hr31 hTR9 ?hd ?hu ?_)
    case B => k_asm
    case X => k_asm
    case Tp => k_asm
    case hd => walk_at "mine room"
    case hu => walk_at "mine room"
    intro v' st' q1' q2' tl2 h9 tk9 F10 N10 A10 I10 S10 V10 hz10 hfc10 hec10
    clear F8 N9 I9 S9 S9' V hz hfc hec
    have hTR10 : ∀ p ∈ tl2 ++ (tl ++ T), p ∈ tl2 ++ ((ab, oB) :: (I, oI) :: (tl ++ R0)) := sub_mv hTR9
    k_steps
    unfold Held
    rename Fr _ _ _ _ => F11
    rename News _ _ _ _ => N11
    k_dflt (refine' stands_u ?B F11 ?X N11 ?Tp rfl I10 V10 hz10 hTR10 ?hd ?hu ?_)
    case B => k_asm
    case X => k_asm
    case Tp => k_asm
    case hd => walk_at "mine room"
    case hu => walk_at "mine room"
    intro h10 tk10 F12 N12
    clear F11 N11
    k_steps
    rename Fr _ _ _ _ => F13
    rename News _ _ _ _ => N13
    have mB : (ab, oB) ∈ tl2 ++ ((ab, oB) :: (I, oI) :: (tl ++ R0)) := List.mem_append.mpr (.inr (.head _))
    have mI : (I, oI) ∈ tl2 ++ ((ab, oB) :: (I, oI) :: (tl ++ R0)) := List.mem_append.mpr (.inr (.tail _ (.head _)))
    refine ⟨rfl, h10, tk10, _, _, (ab, oB) :: wled w a0 v' st' ((tl2 ++ tl) ++ R0), rfl, F13, N13, ?_, wled_mem.mpr (.inr mI), ?_, ⟨st', v', tl2 ++ tl, t', n', q1', q2', by rw [hoB], by rw [List.append_assoc]; exact I10, wsep_sub S10 ?_, ?_, ?_, V10, hz10, hfc10, hec10⟩, ?_⟩
    · intro p hp
      rcases List.mem_cons.mp hp with rfl | hp
      · exact wled_mem.mpr (.inr mB)
      · rcases wled_mem.mp hp with h | h
        · exact wled_mem.mpr (.inl h)
        · rw [List.append_assoc] at h
          rcases List.mem_append.mp h with h | h
          · exact wled_mem.mpr (.inr (List.mem_append.mpr (.inl h)))
          · exact wled_mem.mpr (.inr (List.mem_append.mpr (.inr (.tail _ (.tail _ h)))))
    · intro p hp
      rcases List.mem_cons.mp hp with rfl | hp
      · exact hIb
      · rcases wled_mem.mp hp with h | h
        · exact wled_off S10 mI p h
        · rw [List.append_assoc] at h
          rcases List.mem_append.mp h with h | h
          · exact Ne.symm (A10 (I, oI) (.tail _ (.head _)) p h)
          · exact hIw p (wled_mem.mpr (.inr h))
    · intro p hp
      rw [List.append_assoc] at hp
      rcases List.mem_append.mp hp with h | h
      · exact List.mem_append.mpr (.inl h)
      · exact List.mem_append.mpr (.inr (.tail _ (.tail _ h)))
    · intro p hp
      rcases wled_mem.mp hp with h | h
      · exact wled_off S10 mB p h
      · rw [List.append_assoc] at h
        rcases List.mem_append.mp h with h | h
        · exact Ne.symm (A10 (ab, oB) (.head _) p h)
        · exact hoff p (wled_mem.mpr (.inr h))
    · intro q hq p hp
      rcases List.mem_append.mp hp with hp | hp
      · exact A10 q (.tail _ (.tail _ (List.mem_append.mpr (.inr hq)))) p hp
      · exact hA q hq p hp
    · unfold lfr
      walk_at "mine fr"
end turns_c_k
section
variable {w : World} {p : Program} {loose : List Str} {mean : ExcName → Option Value} {mg mb : Str → Option Value} {dp un : Nat} {gd : Option (List Code)} {cn : Str} {cs : Scope} {a : Addr} {ccd : Value} {cl : List (Str × Addr)} {outer : List Env} {A₀ : Around} {base h₀ : Heap} {L : Addr} {m : Str → Option Value} {R T : List (Addr × Obj)} {s : Shared} {v : Value} {Q E : Value → Shared → Prop}
theorem turns_c {a0 : WAdr} {ab sl : Addr} {R0 nx : List (Addr × Obj)} {vs : List Value} {ns : List Int} {n0 : Nat} {tf : Tok} {Q : Flow → Shared → Prop} {x9 : Stmt} :
  turns_c_k.St w p loose mean mg mb dp un gd a ccd A₀ h₀ L m T s E a0 ab sl R0 nx vs ns tf Q n0 x9 := all_eps (S := turns_c_k.S) turns_c_k.walk (((w, p, loose, mean, mg, mb, dp, un, gd, (cx_cn cx0), (cx_cs cx0), a, ccd, (cx_cl cx0), (cx_outer cx0), A₀, (cx_base cx0), h₀, L, m, (cx_R cx0), T, s, (cx_v cx0), (cx_Q cx0), E), fn [tf] default, fn [ab, sl] default, fn [] default, fn [] default, fn [] [], fn [] #[], fn [] []), (((a0, R0), nx), ((vs, ns), Q))) n0 x9
end
end Mine

namespace Mine
local macro_rules | `(tactic| walk_at "pyIter ref") => `(tactic| ((with_reducible show wpAny _ _ (pyIter (Value.ref _)) _ _ _); refine Mine.held ?_))
section
variable {w : World} {p : Program} {loose : List Str} {mean : ExcName → Option Value} {mg mb : Str → Option Value} {dp un : Nat} {gd : Option (List Code)} {cn : Str} {cs : Scope} {a : Addr} {ccd : Value} {cl : List (Str × Addr)} {outer : List Env} {A₀ : Around} {base h₀ : Heap} {L : Addr} {m : Str → Option Value} {R T : List (Addr × Obj)} {s : Shared} {v : Value} {Q E : Value → Shared → Prop}
end
namespace flush1_c_k
noncomputable def St (w : World) (p : Program) (loose : List Str) (mean : ExcName → Option Value) (mg : Str → Option Value) (mb : Str → Option Value) (dp : Nat) (un : Nat) (gd : Option (List Code)) (a : Addr) (ccd : Value) (A₀ : Around) (h₀ : Heap) (L : Addr) (m : Str → Option Value) (R : List (Addr × Obj)) (T : List (Addr × Obj)) (s : Shared) (E : Value → Shared → Prop) (a0 : WAdr) (v0 : WVal) (st : WSt) (p1 : List (Int × Int)) (p2 : List (Int × Int)) (ab : Addr) (tf : Tok) (Q : Flow → Shared → Prop) (x9 : Stmt) : Prop := ∀ (B : Below A₀ h₀ [] h₀) (F : Fr h₀ L s.heap m) (X : (hd.heap_1 w.params).In h₀) (N : News h₀ L s.heap (wled w a0 v0 st R)) (Tp : Top p loose mean mg mb h₀) (I0 : WIs w T a0 v0 st) (S0 : WSep a0 v0 R) (V0 : Inv a0.lim1 a0.lim2 st p1 p2 (fun _ => False)) (hTR : ∀ p ∈ T, p ∈ R) (hm : ∀ p ∈ lfr a0 ab tf, m p.1 = some p.2) (hst : stAt lawRec.body 6 = [x9]) (hE : PassesOwn (model P0 w) (lawTop dp un gd L a ccd) (lawEnv L a ccd) E) (hdp : dp + 20 < recursionLimit) (hun : un + 2000 < cLine) (ret : ∀ m' vd tl h' tk', Fr h₀ L h' m' → News h₀ L h' (wled w a0 { v0 with vdue := vd } (lostAll st st.fly) (tl ++ R)) → Apart R tl → WIs w (tl ++ T) a0 { v0 with vdue := vd } (lostAll st st.fly) → WSep a0 v0 (tl ++ R) → (∀ p ∈ lfr a0 ab tf, m' p.1 = some p.2) → Q .next { s with heap := h', toks := tk' }),
  wpAny (model P0 w) (lawTop dp un gd L a ccd) (exec x9 (lawEnv L a ccd)) Q E s
noncomputable def S (c : CxF × ((((WAdr) × (WVal)) × ((WSt) × (Flow → Shared → Prop))))) : Prop := ∀ (x9 : Stmt), St (cx_w (c.1).1) (cx_p (c.1).1) (cx_loose (c.1).1) (cx_mean (c.1).1) (cx_mg (c.1).1) (cx_mb (c.1).1) (cx_dp (c.1).1) (cx_un (c.1).1) (cx_gd (c.1).1) (cx_a (c.1).1) (cx_ccd (c.1).1) (cx_A₀ (c.1).1) (cx_h₀ (c.1).1) (cx_L (c.1).1) (cx_m (c.1).1) (cx_R (c.1).1) (cx_T (c.1).1) (cx_s (c.1).1) (cx_E (c.1).1) (c.2.1.1) (c.2.1.2) (c.2.2.1) (cx_sps c.1 0) (cx_sps c.1 1) (cx_adr c.1 0) (cx_tok c.1 0) (c.2.2.2) x9
noncomputable def kx9 : CxF × ((((WAdr) × (WVal)) × ((WSt) × (Flow → Shared → Prop)))) := @Classical.epsilon (CxF × ((((WAdr) × (WVal)) × ((WSt) × (Flow → Shared → Prop))))) (ne_cxf.elim fun b => ⟨(b, ((wadr0, wval0), (wst0, default)))⟩) fun c => ¬ S c
set_option maxRecDepth 100000 in
set_option maxHeartbeats 8000000 in
theorem walk : S kx9 := by
  show ∀ (x9 : Stmt), St (cx_w (kx9.1).1) (cx_p (kx9.1).1) (cx_loose (kx9.1).1) (cx_mean (kx9.1).1) (cx_mg (kx9.1).1) (cx_mb (kx9.1).1) (cx_dp (kx9.1).1) (cx_un (kx9.1).1) (cx_gd (kx9.1).1) (cx_a (kx9.1).1) (cx_ccd (kx9.1).1) (cx_A₀ (kx9.1).1) (cx_h₀ (kx9.1).1) (cx_L (kx9.1).1) (cx_m (kx9.1).1) (cx_R (kx9.1).1) (cx_T (kx9.1).1) (cx_s (kx9.1).1) (cx_E (kx9.1).1) (kx9.2.1.1) (kx9.2.1.2) (kx9.2.2.1) (cx_sps kx9.1 0) (cx_sps kx9.1 1) (cx_adr kx9.1 0) (cx_tok kx9.1 0) (kx9.2.2.2) x9
  generalize (cx_w (kx9.1).1) = w, (cx_p (kx9.1).1) = p, (cx_loose (kx9.1).1) = loose, (cx_mean (kx9.1).1) = mean, (cx_mg (kx9.1).1) = mg, (cx_mb (kx9.1).1) = mb, (cx_dp (kx9.1).1) = dp, (cx_un (kx9.1).1) = un, (cx_gd (kx9.1).1) = gd, (cx_a (kx9.1).1) = a, (cx_ccd (kx9.1).1) = ccd, (cx_A₀ (kx9.1).1) = A₀, (cx_h₀ (kx9.1).1) = h₀, (cx_L (kx9.1).1) = L, (cx_m (kx9.1).1) = m, (cx_R (kx9.1).1) = R, (cx_T (kx9.1).1) = T, (cx_s (kx9.1).1) = s, (cx_E (kx9.1).1) = E, (kx9.2.1.1) = a0, (kx9.2.1.2) = v0, (kx9.2.2.1) = st, (cx_sps kx9.1 0) = p1, (cx_sps kx9.1 1) = p2, (cx_adr kx9.1 0) = ab, (cx_tok kx9.1 0) = tf, (kx9.2.2.2) = Q
  intro x9
  delta St
  intro B F X N Tp I0 S0 V0 hTR hm hst hE hdp hun ret
  have hk : lawRec.scope.kind = .function := rfl
  have hW := I0.hW
  unfold lawRec recOf at hst
  dsimp only [stAt] at hst
  obtain rfl := (List.cons.inj hst).1
  clear hst
  unfold lawTop lawEnv lawRec recOf at hE ⊢
  replace N := news_plus N mem_w1
  have F1 : Fr h₀ L s.heap (kv (lfr a0 ab tf) m) := fr_kv0 hm F
  unfold lfr at F1
  clear F
  generalize hZ : wled w a0 v0 st R = Z at N
  k_steps
  rename Fr _ _ _ _ => F2
  rename News _ _ _ _ => N2
  try unfold Held
  subst hZ
  clear hE
  have N3 := news_drop1 N2
  refine' list_loopU (vs := v0.fs) (nn := v0.nf) (news := wled w a0 v0 st R) (fun i m nx => (∃ vd tl, nx = wled w a0 { v0 with vdue := vd } (lostAll st (st.fly.take i)) (tl ++ R) ∧ WIs w (tl ++ T) a0 { v0 with vdue := vd } (lostAll st (st.fly.take i)) ∧ WSep a0 v0 (tl ++ R) ∧ Apart R tl) ∧ ∀ p ∈ lfr a0 ab tf, m p.1 = some p.2) rfl ?hJl ?hF9 ?hN9 ?hj ?turn ?done
  case hF9 => exact F2
  case hN9 => exact N3
  case hJl =>
    rintro i m nx ⟨⟨vd, tl, rfl, _⟩, _⟩
    exact mem_lf
  case hj =>
    refine ⟨⟨v0.vdue, [], rfl, I0, S0, Apart.nil⟩, ?_⟩
    unfold lfr
    walk_at "mine fr"
  case done =>
    rintro m₁ news₁ h tk ⟨⟨vd, tl, rfl, I9, S9, A9⟩, hm9⟩ F4 N4
    clear F2 N2 N3
    dsimp only
    have e : st.fly.take v0.fs.length = st.fly := by
      rw [I0.hfl.length, List.length_map, List.take_length]
    rw [e] at I9 N4
    generalize hZ : wled w a0 { v0 with vdue := vd } (lostAll st st.fly) (tl ++ R) = Z at N4
    k_steps
    subst hZ
    exact ret _ vd tl _ _ F4 N4 A9 I9 S9 hm9
  case turn =>
    rintro i v m₁ news₁ s₁ h tk I oI hv hI ⟨⟨vd, tl, rfl, I9, S9, A9⟩, hps⟩ F4 N4
    clear F2 N2 N3
    have hlt : i < (st.fly.map pcD).length := by
      have h1 := I0.hfl.length
      have h2 : i < v0.fs.length := by
        cases Nat.lt_or_ge i v0.fs.length with
        | inl h => exact h
        | inr h => rw [List.getElem?_eq_none h] at hv; cases hv
      lia
    have hlt' : i < st.fly.length := by rw [List.length_map] at hlt; exact hlt
    obtain ⟨v', hv', hD⟩ := I0.hfl.get hlt
    obtain rfl : v' = v := by rw [hv'] at hv; exact Option.some.inj hv
    rw [List.getElem_map] at hD
    obtain ⟨ra, t8, tz8, n8, rfl, hra⟩ := dat_row hD
    generalize hr9 : st.fly[i] = r at hra
    have ht : st.fly.take (i + 1) = st.fly.take i ++ [r] := by rw [List.take_add_one, List.getElem?_eq_getElem hlt', hr9]; rfl
    have hrok : RowOk st.data r := V0.fly r (hr9 ▸ List.getElem_mem hlt')
    have hLA := lost_all (l1 := a0.lim1) (l2 := a0.lim2) (p1 := p1) (p2 := p2) (rows := st.fly.take i) V0 fun q hq => V0.fly q (List.mem_of_mem_take hq)
    have hnext : lostAll st (st.fly.take (i + 1)) = lostS (lostAll st (st.fly.take i)) r := by rw [ht]; unfold lostAll; rw [List.foldl_append]; rfl
    have hdat : (lostAll st (st.fly.take i)).data = st.data := hLA.2.1
    generalize lostAll st (st.fly.take i) = st9 at *
    obtain ⟨V9, _⟩ := hLA
    have hrok9 : RowOk st9.data r := by rw [hdat]; exact hrok
    have okl := lost_ok V9 hrok9
    have hsz := okl.hsz
    have hIw : ∀ p ∈ wled w a0 { v0 with vdue := vd } st9 [], @Ne Nat p.1 I := fun p hp => hI p (wled_mem.mpr (.inl hp))
    have S10 : WSep a0 { v0 with vdue := vd } ((I, oI) :: (tl ++ R)) := wsep_cons (v := { v0 with vdue := vd }) ⟨S9.nd, S9.lf9, S9.hO, S9.hOf⟩ hIw
    replace N4 := wled_pull N4
    have hraZ : (ra, ({ cls := .type "tuple", data := .seq [Value.int r.1 t8, Value.bytes r.2 tz8].toArray n8 } : Obj)) ∈ wled w a0 { v0 with vdue := vd } st9 ((I, oI) :: (tl ++ R)) := wled_mem.mpr (.inr (.tail _ (List.mem_append.mpr (.inr (hTR _ hra)))))
    have N5 := wled_plus3 N4
    clear N4
    generalize hZ : wled w a0 { v0 with vdue := vd } st9 ((I, oI) :: (tl ++ R)) = Z at N5 hraZ
    dsimp only at N5
    unfold lfr at hps
    replace F4 := fr_kv1 hps F4
    k_steps
    unfold Held
    rename Fr _ _ _ _ => F6
    rename News _ _ _ _ => N6
    replace N6 := news_sub N6 (R' := Z) fun p hp => .tail _ (.tail _ (.tail _ hp))
    subst hZ
    have hTR9 : ∀ p ∈ tl ++ T, p ∈ (I, oI) :: (tl ++ R) := fun p hp => .tail _ (sub_mv hTR p hp)
    k_dflt (refine' lost_w (r := r) ?B F6 ?X N6 ?Tp rfl I9 S10 okl hTR9 ?hd ?hu ?_)
    case B => k_asm
    case X => k_asm
    case Tp => k_asm
    case hd => walk_at "mine room"
    case hu => walk_at "mine room"
    intro vd' tl2 h7 tk7 F7 N7 A7 I7 S7
    clear F6 N6
    generalize hZ : wled w a0 _ _ _ = Z at N7
    k_steps
    rename Fr _ _ _ _ => F8
    rename News _ _ _ _ => N8
    subst hZ
    have mI : (I, oI) ∈ tl2 ++ ((I, oI) :: (tl ++ R)) := List.mem_append.mpr (.inr (.head _))
    refine ⟨rfl, _, _, _, _, wled w a0 { v0 with vdue := vd' } (lostS st9 r) ((tl2 ++ tl) ++ R), rfl, F8, N8, ?_, wled_mem.mpr (.inr mI), ?_, ⟨vd', tl2 ++ tl, by rw [hnext], ?_, ?_, ?_⟩, ?_⟩
    · intro p hp
      rcases wled_mem.mp hp with h | h
      · exact wled_mem.mpr (.inl h)
      · rw [List.append_assoc] at h
        rcases List.mem_append.mp h with h | h
        · exact wled_mem.mpr (.inr (List.mem_append.mpr (.inl h)))
        · exact wled_mem.mpr (.inr (List.mem_append.mpr (.inr (.tail _ h))))
    · intro p hp
      rcases wled_mem.mp hp with h | h
      · exact wled_off (v := { v0 with vdue := vd' }) ⟨S7.nd, S7.lf9, S7.hO, S7.hOf⟩ mI p h
      · rw [List.append_assoc] at h
        rcases List.mem_append.mp h with h | h
        · exact Ne.symm (A7 (I, oI) (.head _) p h)
        · exact hI p (wled_mem.mpr (.inr h))
    · rw [hnext, List.append_assoc]; exact I7
    · refine wsep_sub (R := tl2 ++ ((I, oI) :: (tl ++ R))) ⟨S7.nd, S7.lf9, S7.hO, S7.hOf⟩ fun p hp => ?_
      rw [List.append_assoc] at hp
      rcases List.mem_append.mp hp with h | h
      · exact List.mem_append.mpr (.inl h)
      · exact List.mem_append.mpr (.inr (.tail _ h))
    · intro q hq p hp
      rcases List.mem_append.mp hp with hp | hp
      · exact A7 q (.tail _ (List.mem_append.mpr (.inr hq))) p hp
      · exact A9 q hq p hp
    · unfold lfr
      walk_at "mine fr"
end flush1_c_k
section
variable {w : World} {p : Program} {loose : List Str} {mean : ExcName → Option Value} {mg mb : Str → Option Value} {dp un : Nat} {gd : Option (List Code)} {cn : Str} {cs : Scope} {a : Addr} {ccd : Value} {cl : List (Str × Addr)} {outer : List Env} {A₀ : Around} {base h₀ : Heap} {L : Addr} {m : Str → Option Value} {R T : List (Addr × Obj)} {s : Shared} {v : Value} {Q E : Value → Shared → Prop}
theorem flush1_c {a0 : WAdr} {v0 : WVal} {st : WSt} {p1 p2 : List (Int × Int)} {ab : Addr} {tf : Tok} {Q : Flow → Shared → Prop} {x9 : Stmt} :
  flush1_c_k.St w p loose mean mg mb dp un gd a ccd A₀ h₀ L m R T s E a0 v0 st p1 p2 ab tf Q x9 := all_eps (S := flush1_c_k.S) flush1_c_k.walk (((w, p, loose, mean, mg, mb, dp, un, gd, (cx_cn cx0), (cx_cs cx0), a, ccd, (cx_cl cx0), (cx_outer cx0), A₀, (cx_base cx0), h₀, L, m, R, T, s, (cx_v cx0), (cx_Q cx0), E), fn [tf] default, fn [ab] default, fn [] default, fn [] default, fn [p1, p2] [], fn [] #[], fn [] []), ((a0, v0), (st, Q))) x9
end
end Mine

namespace Mine
noncomputable def wtl (w : World) (a : WAdr) (v : WVal) (st : WSt) (R : List (Addr × Obj)) : List (Addr × Obj) :=
  (a.x, instObj 180 a.dx) :: (a.dx, outD w v.t1 v.t2 v.t3 (.bytes st.data v.tdd) v.vdue v.vack) ::
  (a.e1, v.o1) :: (a.x1, instObj 124 a.d1) :: (a.d1, inD w v.t11 v.t12 v.t13 (.int a.lim1 v.tl1) (.int st.s1.told v.tt1) v.vw1) ::
  (a.e2, v.o2) :: (a.x2, instObj 124 a.d2) :: (a.d2, inD w v.t21 v.t22 v.t23 (.int a.lim2 v.tl2) (.int st.s2.told v.tt2) v.vw2) ::
  R
section
variable {w : World} {p : Program} {loose : List Str} {mean : ExcName → Option Value} {mg mb : Str → Option Value} {dp un : Nat} {gd : Option (List Code)} {cn : Str} {cs : Scope} {a : Addr} {ccd : Value} {cl : List (Str × Addr)} {outer : List Env} {A₀ : Around} {base h₀ : Heap} {L : Addr} {m : Str → Option Value} {R T : List (Addr × Obj)} {s : Shared} {v : Value} {Q E : Value → Shared → Prop}
end
namespace flush2_c_k
noncomputable def St (w : World) (p : Program) (loose : List Str) (mean : ExcName → Option Value) (mg : Str → Option Value) (mb : Str → Option Value) (dp : Nat) (un : Nat) (gd : Option (List Code)) (a : Addr) (ccd : Value) (A₀ : Around) (h₀ : Heap) (L : Addr) (m : Str → Option Value) (R : List (Addr × Obj)) (T : List (Addr × Obj)) (s : Shared) (E : Value → Shared → Prop) (a0 : WAdr) (v0 : WVal) (st : WSt) (ab : Addr) (tf : Tok) (Q : Flow → Shared → Prop) (x9 : Stmt) : Prop := ∀ (B : Below A₀ h₀ [] h₀) (F : Fr h₀ L s.heap m) (X : (hd.heap_1 w.params).In h₀) (N : News h₀ L s.heap (wled w a0 v0 st R)) (Tp : Top p loose mean mg mb h₀) (I0 : WIs w T a0 v0 st) (S0 : WSep a0 v0 R) (hdl : st.due.length ≤ 1000) (hTR : ∀ p ∈ T, p ∈ R) (hm : ∀ p ∈ lfr a0 ab tf, m p.1 = some p.2) (hst : stAt lawRec.body 7 = [x9]) (hE : PassesOwn (model P0 w) (lawTop dp un gd L a ccd) (lawEnv L a ccd) E) (hdp : dp + 20 < recursionLimit) (hun : un + 2000 < cLine) (ret : ∀ m' oW' l n ts tl h' tk', Fr h₀ L h' m' → News h₀ L h' (wled w a0 { v0 with oW := oW', lf := l, fs := [], nf := n } { st with fly := [] } (tl ++ R)) → Apart R tl → WIs w (tl ++ T) a0 { v0 with oW := oW', lf := l, fs := [], nf := n } { st with fly := [] } → WSep a0 { v0 with oW := oW', lf := l, fs := [], nf := n } (tl ++ R) →
    (∀ p ∈ (Str.ofString "steps", Value.int (countL st.due) ts) :: lfr a0 ab tf, m' p.1 = some p.2) → Q .next { s with heap := h', toks := tk' }),
  wpAny (model P0 w) (lawTop dp un gd L a ccd) (exec x9 (lawEnv L a ccd)) Q E s
noncomputable def S (c : CxF × ((((WAdr) × (WVal)) × ((WSt) × (Flow → Shared → Prop))))) : Prop := ∀ (x9 : Stmt), St (cx_w (c.1).1) (cx_p (c.1).1) (cx_loose (c.1).1) (cx_mean (c.1).1) (cx_mg (c.1).1) (cx_mb (c.1).1) (cx_dp (c.1).1) (cx_un (c.1).1) (cx_gd (c.1).1) (cx_a (c.1).1) (cx_ccd (c.1).1) (cx_A₀ (c.1).1) (cx_h₀ (c.1).1) (cx_L (c.1).1) (cx_m (c.1).1) (cx_R (c.1).1) (cx_T (c.1).1) (cx_s (c.1).1) (cx_E (c.1).1) (c.2.1.1) (c.2.1.2) (c.2.2.1) (cx_adr c.1 0) (cx_tok c.1 0) (c.2.2.2) x9
noncomputable def kx9 : CxF × ((((WAdr) × (WVal)) × ((WSt) × (Flow → Shared → Prop)))) := @Classical.epsilon (CxF × ((((WAdr) × (WVal)) × ((WSt) × (Flow → Shared → Prop))))) (ne_cxf.elim fun b => ⟨(b, ((wadr0, wval0), (wst0, default)))⟩) fun c => ¬ S c
set_option maxRecDepth 100000 in
set_option maxHeartbeats 8000000 in
theorem walk : S kx9 := by
  show ∀ (x9 : Stmt), St (cx_w (kx9.1).1) (cx_p (kx9.1).1) (cx_loose (kx9.1).1) (cx_mean (kx9.1).1) (cx_mg (kx9.1).1) (cx_mb (kx9.1).1) (cx_dp (kx9.1).1) (cx_un (kx9.1).1) (cx_gd (kx9.1).1) (cx_a (kx9.1).1) (cx_ccd (kx9.1).1) (cx_A₀ (kx9.1).1) (cx_h₀ (kx9.1).1) (cx_L (kx9.1).1) (cx_m (kx9.1).1) (cx_R (kx9.1).1) (cx_T (kx9.1).1) (cx_s (kx9.1).1) (cx_E (kx9.1).1) (kx9.2.1.1) (kx9.2.1.2) (kx9.2.2.1) (cx_adr kx9.1 0) (cx_tok kx9.1 0) (kx9.2.2.2) x9
  generalize (cx_w (kx9.1).1) = w, (cx_p (kx9.1).1) = p, (cx_loose (kx9.1).1) = loose, (cx_mean (kx9.1).1) = mean, (cx_mg (kx9.1).1) = mg, (cx_mb (kx9.1).1) = mb, (cx_dp (kx9.1).1) = dp, (cx_un (kx9.1).1) = un, (cx_gd (kx9.1).1) = gd, (cx_a (kx9.1).1) = a, (cx_ccd (kx9.1).1) = ccd, (cx_A₀ (kx9.1).1) = A₀, (cx_h₀ (kx9.1).1) = h₀, (cx_L (kx9.1).1) = L, (cx_m (kx9.1).1) = m, (cx_R (kx9.1).1) = R, (cx_T (kx9.1).1) = T, (cx_s (kx9.1).1) = s, (cx_E (kx9.1).1) = E, (kx9.2.1.1) = a0, (kx9.2.1.2) = v0, (kx9.2.2.1) = st, (cx_adr kx9.1 0) = ab, (cx_tok kx9.1 0) = tf, (kx9.2.2.2) = Q
  intro x9
  delta St
  intro B F X N Tp I0 S0 hdl hTR hm hst hE hdp hun ret
  have hk : lawRec.scope.kind = .function := rfl
  have hW := I0.hW
  have hOw : OwnOff (wtl w a0 v0 st R) [a0.wD] := by
    have hndx := S0.nd
    unfold nine at hndx
    simp only [List.nodup_cons, List.mem_cons, not_or, List.not_mem_nil, not_false_eq_true, and_true, List.nodup_nil] at hndx
    obtain ⟨⟨nwx, nwdx, nwe1, nwx1, nwd1, nwe2, nwx2, nwd2⟩, _⟩ := hndx
    refine ownoff_cons (one_c (Ne.symm nwx)) (ownoff_cons (one_c (Ne.symm nwdx)) (ownoff_cons (one_c (Ne.symm nwe1)) (ownoff_cons (one_c (Ne.symm nwx1)) (ownoff_cons (one_c (Ne.symm nwd1)) (ownoff_cons (one_c (Ne.symm nwe2)) (ownoff_cons (one_c (Ne.symm nwx2)) (ownoff_cons (one_c (Ne.symm nwd2)) (off_sub S0.hO (.head _)))))))))
  have nwx := hOw _ (.head _) _ (.head _)
  have nwdx := hOw _ (.tail _ (.head _)) _ (.head _)
  have N1 : News h₀ L s.heap ((a0.wD, v0.oW) :: (a0.x, instObj 180 a0.dx) :: (a0.dx, outD w v0.t1 v0.t2 v0.t3 (.bytes st.data v0.tdd) v0.vdue v0.vack) :: wtl w a0 v0 st R) := fun p hp => N p (by
    unfold wtl at hp
    unfold wled
    simp only [List.mem_cons] at hp ⊢
    rcases hp with h | h | h | h | h | h | h | h | h | h | h | h <;> simp only [h, true_or, or_true])
  clear N
  have hTZ : ∀ p ∈ T, p ∈ wtl w a0 v0 st R := fun p hp => mem8 (hTR p hp)
  have hRZ : ∀ p ∈ R, p ∈ wtl w a0 v0 st R := fun p hp => mem8 hp
  generalize hZ : wtl w a0 v0 st R = Z at N1 hOw hTZ
  obtain ⟨ds, dvs, nd, hvd9, hdm, hdall⟩ : ∃ ds dvs nd, v0.vdue = Value.ref ds ∧ (ds, W.listOf (List.toArray dvs) nd) ∈ T ∧ DatAll T dvs (st.due.map prD) := by
    have := I0.hvd
    unfold spD at this
    exact dat_list this
  have hvd1 : DatIn T (Value.ref ds) (spD st.due) := hvd9 ▸ I0.hvd
  rw [hvd9] at N1
  unfold lawRec recOf at hst
  dsimp only [stAt] at hst
  obtain rfl := (List.cons.inj hst).1
  clear hst
  unfold lawTop lawEnv lawRec recOf at hE ⊢
  replace F : Fr h₀ L s.heap (kv (lfr a0 ab tf) m) := fr_kv0 hm F
  unfold lfr at F
  k_steps
  rename Fr _ _ _ _ => F2
  rename News _ _ _ _ => N2
  unfold Held
  k_dflt (refine' span_count_c (T := T) ?B F2 ?X N2 ?Tp rfl ?hT hvd1 hdl ?hd ?hu ?_)
  case B => k_asm
  case X => k_asm
  case Tp => k_asm
  case hT => exact fun p hp => .tail _ (.tail _ (.tail _ (.tail _ (hTZ p hp))))
  case hd => walk_at "mine room"
  case hu => walk_at "mine room"
  intro tl5 h5 tk5 t5 F5 N5 A5
  clear N2 F2
  rename (_ < _ ∧ _) => l1
  obtain ⟨lw, lx, ldx, lZ⟩ := l1
  rename_i l' h'
  have hlw : @Ne Nat l' a0.wD := Nat.ne_of_gt lw
  have N6 : News h₀ L h5 ((a0.wD, v0.oW) :: (l', W.listOf ([] : List Value).toArray 0) :: (tl5 ++ ((a0.x, instObj 180 a0.dx) :: (a0.dx, outD w v0.t1 v0.t2 v0.t3 (.bytes st.data v0.tdd) (Value.ref ds) v0.vack) :: Z))) := fun p hp => N5 p (by
    simp only [List.mem_cons, List.mem_append] at hp ⊢
    rcases hp with h | h | h | h | h | h <;> simp only [h, true_or, or_true])
  have hYw : OwnOff (tl5 ++ ((a0.x, instObj 180 a0.dx) :: (a0.dx, outD w v0.t1 v0.t2 v0.t3 (.bytes st.data v0.tdd) (Value.ref ds) v0.vack) :: Z)) [a0.wD] := fun p hp c hc => by
    rw [List.mem_singleton.mp hc]
    rcases List.mem_append.mp hp with hp | hp
    · exact Ne.symm (A5 _ (.tail _ (.head _)) p hp)
    · rcases List.mem_cons.mp hp with rfl | hp
      · exact nwx
      · rcases List.mem_cons.mp hp with rfl | hp
        · exact nwdx
        · exact hOw p hp _ (.head _)
  clear N5
  generalize hY : tl5 ++ ((a0.x, instObj 180 a0.dx) :: (a0.dx, outD w v0.t1 v0.t2 v0.t3 (.bytes st.data v0.tdd) (Value.ref ds) v0.vack) :: Z) = Y at N6 hYw
  k_steps
  rename Fr _ _ _ _ => F7
  rename News _ _ _ _ => N7
  rename Obj.IsDictOf _ _ _ => hdd
  rename_i hx1 hx2 hx3 hx4 hx5
  clear hW
  have kZ := allLt_mem lZ
  rw [← hvd9] at hY A5
  subst hY hZ
  have l9 : ∀ c ∈ nine a0, c < l' := by
    intro c hc
    unfold wtl at kZ
    unfold nine at hc
    simp only [List.mem_cons, List.not_mem_nil, or_false] at hc
    rcases hc with rfl | rfl | rfl | rfl | rfl | rfl | rfl | rfl | rfl
    · exact lw
    · exact lx
    · exact ldx
    · exact kZ _ (.tail _ (.tail _ (.head _)))
    · exact kZ _ (.tail _ (.tail _ (.tail _ (.head _))))
    · exact kZ _ (.tail _ (.tail _ (.tail _ (.tail _ (.head _)))))
    · exact kZ _ (.tail _ (.tail _ (.tail _ (.tail _ (.tail _ (.head _))))))
    · exact kZ _ (mem6 (.head _))
    · exact kZ _ (.tail _ (mem6 (.head _)))
  have c9 : ∀ c ∈ nine a0, ∀ p ∈ tl5, @Ne Nat p.1 c := by
    intro c hc p hp
    unfold wtl at A5
    unfold nine at hc
    simp only [List.mem_cons, List.not_mem_nil, or_false] at hc
    rcases hc with rfl | rfl | rfl | rfl | rfl | rfl | rfl | rfl | rfl
    · exact Ne.symm (A5 _ (.tail _ (.head _)) p hp)
    · exact Ne.symm (A5 _ (.tail _ (.tail _ (.head _))) p hp)
    · exact Ne.symm (A5 _ (.tail _ (.tail _ (.tail _ (.head _)))) p hp)
    · exact Ne.symm (A5 _ (mem6 (.head _)) p hp)
    · exact Ne.symm (A5 _ (.tail _ (mem6 (.head _))) p hp)
    · exact Ne.symm (A5 _ (mem8 (.head _)) p hp)
    · exact Ne.symm (A5 _ (mem9 (.head _)) p hp)
    · exact Ne.symm (A5 _ (mem10 (.head _)) p hp)
    · exact Ne.symm (A5 _ (mem11 (.head _)) p hp)
  have sub : ∀ p ∈ T, p ∈ tl5 ++ T := fun p hp => List.mem_append.mpr (.inr hp)
  refine ret _ _ l' 0 t5 tl5 _ _ F7 (fun p hp => N7 p ?_) (fun q hq => A5 q (.tail _ (.tail _ (.tail _ (.tail _ (hRZ q hq)))))) ⟨hdd, I0.hE1, I0.hE2, sub _ I0.hle, sub _ I0.hlb, I0.hvd.mono sub, I0.hva.mono sub, I0.hvk.mono sub, I0.hvl.mono sub, DatAll.nil, I0.hw1.mono sub, I0.hw2.mono sub⟩ ⟨S0.nd, fun c hc => Nat.ne_of_gt (l9 c hc), fun p hp c hc => ?_, fun p hp c hc => ?_⟩ ?_
  · unfold wled at hp
    unfold wtl
    simp only [List.mem_cons, List.mem_append] at hp ⊢
    rcases hp with h | h | h | h | h | h | h | h | h | h | h | h <;> simp only [h, true_or, or_true]
  · rcases List.mem_append.mp hp with hp | hp
    · exact c9 c hc p hp
    · exact S0.hO p hp c hc
  · rw [List.mem_singleton.mp hc]
    rcases List.mem_append.mp hp with hp | hp
    · exact Ne.symm (A5 _ (.head _) p hp)
    · exact Nat.ne_of_lt (kZ p (hRZ p hp))
  · unfold lfr
    walk_at "mine fr"
end flush2_c_k
section
variable {w : World} {p : Program} {loose : List Str} {mean : ExcName → Option Value} {mg mb : Str → Option Value} {dp un : Nat} {gd : Option (List Code)} {cn : Str} {cs : Scope} {a : Addr} {ccd : Value} {cl : List (Str × Addr)} {outer : List Env} {A₀ : Around} {base h₀ : Heap} {L : Addr} {m : Str → Option Value} {R T : List (Addr × Obj)} {s : Shared} {v : Value} {Q E : Value → Shared → Prop}
theorem flush2_c {a0 : WAdr} {v0 : WVal} {st : WSt} {ab : Addr} {tf : Tok} {Q : Flow → Shared → Prop} {x9 : Stmt} :
  flush2_c_k.St w p loose mean mg mb dp un gd a ccd A₀ h₀ L m R T s E a0 v0 st ab tf Q x9 := all_eps (S := flush2_c_k.S) flush2_c_k.walk (((w, p, loose, mean, mg, mb, dp, un, gd, (cx_cn cx0), (cx_cs cx0), a, ccd, (cx_cl cx0), (cx_outer cx0), A₀, (cx_base cx0), h₀, L, m, R, T, s, (cx_v cx0), (cx_Q cx0), E), fn [tf] default, fn [ab] default, fn [] default, fn [] default, fn [] [], fn [] #[], fn [] []), ((a0, v0), (st, Q))) x9
end
end Mine

namespace Mine
local macro_rules | `(tactic| walk_at "pyIter ref") => `(tactic| ((with_reducible show wpAny _ _ (pyIter (Value.ref _)) _ _ _); refine Mine.held ?_))
theorem In.count {n : Int} : ∀ {sp : List (Int × Int)} {b : Int}, In n b sp → b ≤ n → countL sp ≤ n - b := by
  intro sp
  induction sp with
  | nil => intro b _ h; show (0 : Int) ≤ _; lia
  | cons q r ih =>
    intro b h hb
    have h1 := h.nf.1; have h2 := h.nf.2.1
    have h3 := ih ⟨h.nf.2.2, fun p hp => h.hi p (.tail _ hp)⟩ (h.hi _ (.head _))
    have e : countL (q :: r) = (q.2 - q.1) + countL r := by unfold countL; rw [List.map_cons, List.sum_cons]
    rw [e]; lia
/-- the state in the last loop -/
noncomputable def LZ (w : World) (a0 : WAdr) (T R : List (Addr × Obj)) (i : Nat) (n : Int) (nx : List (Addr × Obj)) : Prop :=
  ∃ st v tl q1 q2, nx = wled w a0 v st (tl ++ R) ∧ WIs w (tl ++ T) a0 v st ∧ WSep a0 v (tl ++ R) ∧ Apart R tl ∧ Inv a0.lim1 a0.lim2 st q1 q2 (fun _ => False) ∧ 0 < st.data.size ∧ st.fly = [] ∧ (st.due = [] ∨ countL st.due + (i : Int) ≤ n)
theorem lz_end {w : World} {a0 : WAdr} {v' : WVal} {st' : WSt} {T R X tl : List (Addr × Obj)} {I ab : Addr} {oI : Obj} {tf : Tok} {h₀ h' : Heap} {L : Addr} {m' : Str → Option Value} {q1 q2 : List (Int × Int)} {i : Nat} {n : Int} {s₁ : Shared} {tk' : Nat}
    (F : Fr h₀ L h' m') (N : News h₀ L h' (wled w a0 v' st' (X ++ ((I, oI) :: (tl ++ R))))) (I5 : WIs w (X ++ (tl ++ T)) a0 v' st') (S5 : WSep a0 v' (X ++ ((I, oI) :: (tl ++ R)))) (A5 : Apart ((I, oI) :: (tl ++ R)) X) (hI : ∀ p ∈ tl ++ R, @Ne Nat p.1 I) (A9 : Apart R tl)
    (V : Inv a0.lim1 a0.lim2 st' q1 q2 (fun _ => False)) (hz : 0 < st'.data.size) (hf : st'.fly = []) (hc : st'.due = [] ∨ countL st'.due + ((i + 1 : Nat) : Int) ≤ n) (hfr : ∀ p ∈ lfr a0 ab tf, m' p.1 = some p.2) :
    LEnd h₀ L (fun m nx => LZ w a0 T R (i + 1) n nx ∧ ∀ p ∈ lfr a0 ab tf, m p.1 = some p.2) I oI s₁ .next { s₁ with heap := h', toks := tk' } := by
  have mI : (I, oI) ∈ X ++ ((I, oI) :: (tl ++ R)) := List.mem_append.mpr (.inr (.head _))
  refine ⟨rfl, h', tk', m', _, wled w a0 v' st' ((X ++ tl) ++ R), rfl, F, N, fun p hp => ?_, wled_mem.mpr (.inr mI), fun p hp => ?_, ⟨st', v', X ++ tl, q1, q2, rfl, by rw [List.append_assoc]; exact I5, wsep_sub S5 fun p hp => ?_, fun q hq p hp => ?_, V, hz, hf, hc⟩, hfr⟩
  · rcases wled_mem.mp hp with h | h
    · exact wled_mem.mpr (.inl h)
    · rw [List.append_assoc] at h
      rcases List.mem_append.mp h with h | h
      · exact wled_mem.mpr (.inr (List.mem_append.mpr (.inl h)))
      · exact wled_mem.mpr (.inr (List.mem_append.mpr (.inr (.tail _ h))))
  · rcases wled_mem.mp hp with h | h
    · exact wled_off S5 mI p h
    · rw [List.append_assoc] at h
      rcases List.mem_append.mp h with h | h
      · exact Ne.symm (A5 (I, oI) (.head _) p h)
      · exact hI p h
  · rw [List.append_assoc] at hp
    rcases List.mem_append.mp hp with h | h
    · exact List.mem_append.mpr (.inl h)
    · exact List.mem_append.mpr (.inr (.tail _ h))
  · rcases List.mem_append.mp hp with hp | hp
    · exact A5 q (.tail _ (List.mem_append.mpr (.inr hq))) p hp
    · exact A9 q hq p hp
section
variable {w : World} {p : Program} {loose : List Str} {mean : ExcName → Option Value} {mg mb : Str → Option Value} {dp un : Nat} {gd : Option (List Code)} {cn : Str} {cs : Scope} {a : Addr} {ccd : Value} {cl : List (Str × Addr)} {outer : List Env} {A₀ : Around} {base h₀ : Heap} {L : Addr} {m : Str → Option Value} {R T : List (Addr × Obj)} {s : Shared} {v : Value} {Q E : Value → Shared → Prop}
end
namespace flush3_c_k
noncomputable def St (w : World) (p : Program) (loose : List Str) (mean : ExcName → Option Value) (mg : Str → Option Value) (mb : Str → Option Value) (dp : Nat) (un : Nat) (gd : Option (List Code)) (a : Addr) (ccd : Value) (A₀ : Around) (h₀ : Heap) (L : Addr) (m : Str → Option Value) (R : List (Addr × Obj)) (T : List (Addr × Obj)) (s : Shared) (E : Value → Shared → Prop) (a0 : WAdr) (nx : List (Addr × Obj)) (ab : Addr) (tf : Tok) (ts : Tok) (Q : Flow → Shared → Prop) (n : Int) (x9 : Stmt) : Prop := ∀ (B : Below A₀ h₀ [] h₀) (F : Fr h₀ L s.heap m) (X : (hd.heap_1 w.params).In h₀) (N : News h₀ L s.heap nx) (Tp : Top p loose mean mg mb h₀) (W0 : LZ w a0 T R 0 n nx) (hn0 : 0 ≤ n) (hn1 : n ≤ 1000) (hTR : ∀ p ∈ T, p ∈ R) (hm : ∀ p ∈ (Str.ofString "steps", Value.int n ts) :: lfr a0 ab tf, m p.1 = some p.2) (hst : stAt lawRec.body 8 = [x9]) (hE : PassesOwn (model P0 w) (lawTop dp un gd L a ccd) (lawEnv L a ccd) E) (hdp : dp + 20 < recursionLimit) (hun : un + 2000 < cLine) (ret : ∀ m' nx' h' tk', Fr h₀ L h' m' → News h₀ L h' nx' → LZ w a0 T R n.toNat n nx' → (∀ p ∈ lfr a0 ab tf, m' p.1 = some p.2) → Q .next { s with heap := h', toks := tk' }),
  wpAny (model P0 w) (lawTop dp un gd L a ccd) (exec x9 (lawEnv L a ccd)) Q E s
noncomputable def S (c : CxF × ((((WAdr) × (List (Addr × Obj))) × (Flow → Shared → Prop)))) : Prop := ∀ (n : Int) (x9 : Stmt), St (cx_w (c.1).1) (cx_p (c.1).1) (cx_loose (c.1).1) (cx_mean (c.1).1) (cx_mg (c.1).1) (cx_mb (c.1).1) (cx_dp (c.1).1) (cx_un (c.1).1) (cx_gd (c.1).1) (cx_a (c.1).1) (cx_ccd (c.1).1) (cx_A₀ (c.1).1) (cx_h₀ (c.1).1) (cx_L (c.1).1) (cx_m (c.1).1) (cx_R (c.1).1) (cx_T (c.1).1) (cx_s (c.1).1) (cx_E (c.1).1) (c.2.1.1) (c.2.1.2) (cx_adr c.1 0) (cx_tok c.1 0) (cx_tok c.1 1) (c.2.2) n x9
noncomputable def kx9 : CxF × ((((WAdr) × (List (Addr × Obj))) × (Flow → Shared → Prop))) := @Classical.epsilon (CxF × ((((WAdr) × (List (Addr × Obj))) × (Flow → Shared → Prop)))) (ne_cxf.elim fun b => ⟨(b, ((wadr0, default), default))⟩) fun c => ¬ S c
set_option maxRecDepth 100000 in
set_option maxHeartbeats 8000000 in
theorem walk : S kx9 := by
  show ∀ (n : Int) (x9 : Stmt), St (cx_w (kx9.1).1) (cx_p (kx9.1).1) (cx_loose (kx9.1).1) (cx_mean (kx9.1).1) (cx_mg (kx9.1).1) (cx_mb (kx9.1).1) (cx_dp (kx9.1).1) (cx_un (kx9.1).1) (cx_gd (kx9.1).1) (cx_a (kx9.1).1) (cx_ccd (kx9.1).1) (cx_A₀ (kx9.1).1) (cx_h₀ (kx9.1).1) (cx_L (kx9.1).1) (cx_m (kx9.1).1) (cx_R (kx9.1).1) (cx_T (kx9.1).1) (cx_s (kx9.1).1) (cx_E (kx9.1).1) (kx9.2.1.1) (kx9.2.1.2) (cx_adr kx9.1 0) (cx_tok kx9.1 0) (cx_tok kx9.1 1) (kx9.2.2) n x9
  generalize (cx_w (kx9.1).1) = w, (cx_p (kx9.1).1) = p, (cx_loose (kx9.1).1) = loose, (cx_mean (kx9.1).1) = mean, (cx_mg (kx9.1).1) = mg, (cx_mb (kx9.1).1) = mb, (cx_dp (kx9.1).1) = dp, (cx_un (kx9.1).1) = un, (cx_gd (kx9.1).1) = gd, (cx_a (kx9.1).1) = a, (cx_ccd (kx9.1).1) = ccd, (cx_A₀ (kx9.1).1) = A₀, (cx_h₀ (kx9.1).1) = h₀, (cx_L (kx9.1).1) = L, (cx_m (kx9.1).1) = m, (cx_R (kx9.1).1) = R, (cx_T (kx9.1).1) = T, (cx_s (kx9.1).1) = s, (cx_E (kx9.1).1) = E, (kx9.2.1.1) = a0, (kx9.2.1.2) = nx, (cx_adr kx9.1 0) = ab, (cx_tok kx9.1 0) = tf, (cx_tok kx9.1 1) = ts, (kx9.2.2) = Q
  intro n x9
  delta St
  intro B F X N Tp W0 hn0 hn1 hTR hm hst hE hdp hun ret
  have hk : lawRec.scope.kind = .function := rfl
  unfold lawRec recOf at hst
  dsimp only [stAt] at hst
  obtain rfl := (List.cons.inj hst).1
  clear hst
  unfold lawTop lawEnv lawRec recOf at hE ⊢
  replace F : Fr h₀ L s.heap (kv ((Str.ofString "steps", Value.int n ts) :: lfr a0 ab tf) m) := fr_kv0 hm F
  unfold lfr at F
  k_steps
  unfold Held
  rename Fr _ _ _ _ => F2
  rename News _ _ _ _ => N2
  rename IsRange _ _ _ _ _ _ _ _ => hr
  clear hE
  have hm0 : ∀ p ∈ lfr a0 ab tf, m p.1 = some p.2 := fun p hp => hm p (.tail _ hp)
  have hnn : Builtin.Range.rangeSize 0 n 1 = (n.toNat : Int) := by rw [rangeSize_nat, Int.sub_zero]
  have hsm : Builtin.Range.small 0 n 1 = true := small_one (by lia) (by lia) (by lia) (by lia)
  have hm4 : ∀ p ∈ [(Str.ofString "steps", Value.int n ts), (Str.ofString "box", Value.ref ab), (Str.ofString "world", Value.ref a0.wD), (Str.ofString "first", Value.int a0.lim1 tf)], m p.1 = some p.2 := hm
  rw [kv_eq hm4] at F2
  clear hm4
  refine' range_loop (fun i m nx => LZ w a0 T R i n nx ∧ ∀ p ∈ lfr a0 ab tf, m p.1 = some p.2) ?hh9 hr (n := n.toNat) hsm hnn ?hF9 ?hN9 ⟨W0, hm0⟩ ?turn ?done
  case hh9 => rfl
  case hF9 => exact F2
  case hN9 => exact N2
  case done =>
    rintro m₁ news₁ h tk ⟨hW9, hm9⟩ F3 N3
    (try dsimp only)
    (try k_steps)
    exact ret _ _ _ _ F3 N3 hW9 hm9
  case turn =>
    rintro i t m₁ news₁ h tk I oI hi9 hI ⟨⟨st, v, tl, q1, q2, rfl, I9, S9, A9, V, hz, hf, hcn⟩, hps⟩ F3 N3
    clear N2 F2 hr hm hm0 W0
    unfold lfr at hps
    replace F3 := fr_kv1 hps F3
    have hIw : ∀ p ∈ wled w a0 v st [], @Ne Nat p.1 I := fun p hp => hI p (wled_mem.mpr (.inl hp))
    have S10 : WSep a0 v ((I, oI) :: (tl ++ R)) := wsep_cons S9 hIw
    replace N3 := wled_plus3 (wled_pull N3)
    have hTR9 : ∀ p ∈ tl ++ T, p ∈ (I, oI) :: (tl ++ R) := fun p hp => .tail _ (sub_mv hTR p hp)
    have hW := I9.hW
    generalize hZ : wled w a0 v st ((I, oI) :: (tl ++ R)) = Z at N3
    k_steps
    unfold Held
    rename Fr _ _ _ _ => F4
    rename News _ _ _ _ => N4
    replace N4 := news_sub N4 (R' := Z) fun p hp => .tail _ (.tail _ (.tail _ hp))
    subst hZ
    k_dflt (refine' chunk_w ?B F4 ?X N4 ?Tp rfl I9 S10 (V.due.len15 V.n1) V.due.nf.lt ?hdz V.l0 hTR9 ?hd ?hu ?r0 ?r1)
    case B => k_asm
    case X => k_asm
    case Tp => k_asm
    case hdz => have := V.n1; lia
    case hd => walk_at "mine room"
    case hu => walk_at "mine room"
    case r0 =>
      intro he h5 tk5 F5 N5
      clear N4 F4
      k_steps
      rename Fr _ _ _ _ => F6
      rename News _ _ _ _ => N6
      exact lz_end (X := []) F6 N6 I9 S10 Apart.nil (fun p hp => hI p (wled_mem.mpr (.inr hp))) A9 V hz hf (.inl he) (by unfold lfr; walk_at "mine fr")
    case r1 =>
      intro lo hi rest he ra to tz n8 vd tl2 h5 tk5 F5 N5 A5 I5 S5 hra
      clear N4 F4
      obtain ⟨ok, e1, e2, V6, hcount⟩ := flush_step V hf he
      k_steps
      unfold Held
      rename Fr _ _ _ _ => F6
      rename News _ _ _ _ => N6
      have hTR5 : ∀ p ∈ tl2 ++ (tl ++ T), p ∈ tl2 ++ ((I, oI) :: (tl ++ R)) := sub_mv hTR9
      have D0 : KtsDicts (([] : List Env).filterMap (·.frame)) h₀ := ktsDicts_nil
      k_dflt (refine' law_come_w (r := (lo, KBy.picked st.data (some lo) (some (pmin hi (lo + a0.lim1))))) ?B F6 ?X N6 ?Tp rfl ?XB ?TB D0 I5 ⟨S5.nd, S5.lf9, S5.hO, S5.hOf⟩ hra ok hTR5 ?hd ?hu ?_)
      case B => k_asm
      case X => k_asm
      case Tp => k_asm
      case XB => k_asm
      case TB => k_asm
      case hd => walk_at "mine room"
      case hu => walk_at "mine room"
      intro g7 v7 tl7 h7 tk7 tr F7 N7 A7 I7 S7
      replace F7 := fr_nil tr.1 F7
      replace N7 := news_nil tr.1 N7
      clear F6 N6 tr
      have hTR7 : ∀ p ∈ tl7 ++ (tl2 ++ (tl ++ T)), p ∈ tl7 ++ (tl2 ++ ((I, oI) :: (tl ++ R))) := sub_mv hTR5
      generalize hst7 : comeS a0.lim1 a0.lim2 _ _ = st7 at N7 I7 V6 hcount
      have hz7 : 0 < st7.data.size := by rw [← hst7]; exact hz
      have hf7 : st7.fly = [] := by rw [← hst7]; exact hf
      k_steps
      unfold Held
      rename Fr _ _ _ _ => F8
      rename News _ _ _ _ => N8
      k_dflt (refine' stands_u ?B F8 ?X N8 ?Tp rfl I7 V6 hz7 hTR7 ?hd ?hu ?_)
      case B => k_asm
      case X => k_asm
      case Tp => k_asm
      case hd => walk_at "mine room"
      case hu => walk_at "mine room"
      intro h9 tk9 F9 N9
      clear F8 N8
      k_steps
      rename Fr _ _ _ _ => F10
      rename News _ _ _ _ => N10
      have hcd : countL st.due + (i : Int) ≤ n := by
        rcases hcn with h | h
        · rw [h] at he; cases he
        · exact h
      rw [← List.append_assoc] at N10 I7 S7
      refine lz_end (X := tl7 ++ tl2) F10 N10 I7 S7 (fun q hq p hp => ?_) (fun p hp => hI p (wled_mem.mpr (.inr hp))) A9 V6 hz7 hf7 (.inr (by push_cast; lia)) (by unfold lfr; walk_at "mine fr")
      rcases List.mem_append.mp hp with hp | hp
      · exact A7 q (List.mem_append.mpr (.inr hq)) p hp
      · exact A5 q hq p hp
end flush3_c_k
section
variable {w : World} {p : Program} {loose : List Str} {mean : ExcName → Option Value} {mg mb : Str → Option Value} {dp un : Nat} {gd : Option (List Code)} {cn : Str} {cs : Scope} {a : Addr} {ccd : Value} {cl : List (Str × Addr)} {outer : List Env} {A₀ : Around} {base h₀ : Heap} {L : Addr} {m : Str → Option Value} {R T : List (Addr × Obj)} {s : Shared} {v : Value} {Q E : Value → Shared → Prop}
theorem flush3_c {a0 : WAdr} {n : Int} {nx : List (Addr × Obj)} {ab : Addr} {tf ts : Tok} {Q : Flow → Shared → Prop} {x9 : Stmt} :
  flush3_c_k.St w p loose mean mg mb dp un gd a ccd A₀ h₀ L m R T s E a0 nx ab tf ts Q n x9 := all_eps (S := flush3_c_k.S) flush3_c_k.walk (((w, p, loose, mean, mg, mb, dp, un, gd, (cx_cn cx0), (cx_cs cx0), a, ccd, (cx_cl cx0), (cx_outer cx0), A₀, (cx_base cx0), h₀, L, m, R, T, s, (cx_v cx0), (cx_Q cx0), E), fn [tf, ts] default, fn [ab] default, fn [] default, fn [] default, fn [] [], fn [] #[], fn [] []), ((a0, nx), Q)) n x9
end
end Mine

namespace Mine
local macro_rules | `(tactic| walk_at "pyIter ref") => `(tactic| ((with_reducible show wpAny _ _ (pyIter (Value.ref _)) _ _ _); refine Mine.held ?_))
section
variable {w : World} {p : Program} {loose : List Str} {mean : ExcName → Option Value} {mg mb : Str → Option Value} {dp un : Nat} {gd : Option (List Code)} {cn : Str} {cs : Scope} {a : Addr} {ccd : Value} {cl : List (Str × Addr)} {outer : List Env} {A₀ : Around} {base h₀ : Heap} {L : Addr} {m : Str → Option Value} {R T : List (Addr × Obj)} {s : Shared} {v : Value} {Q E : Value → Shared → Prop}
end
namespace ends_c_k
noncomputable def St (w : World) (p : Program) (loose : List Str) (mean : ExcName → Option Value) (mg : Str → Option Value) (mb : Str → Option Value) (dp : Nat) (un : Nat) (gd : Option (List Code)) (a : Addr) (ccd : Value) (A₀ : Around) (h₀ : Heap) (L : Addr) (m : Str → Option Value) (R : List (Addr × Obj)) (T : List (Addr × Obj)) (s : Shared) (E : Value → Shared → Prop) (a0 : WAdr) (v : WVal) (st : WSt) (ab : Addr) (tf : Tok) (Q : Flow → Shared → Prop) (x9 : Stmt) : Prop := ∀ (B : Below A₀ h₀ [] h₀) (F : Fr h₀ L s.heap m) (X : (hd.heap_1 w.params).In h₀) (N : News h₀ L s.heap (wled w a0 v st R)) (Tp : Top p loose mean mg mb h₀) (I0 : WIs w T a0 v st) (hdz : st.data.size ≤ 1000) (ht1 : st.s1.td = st.data) (hp1 : st.s1.ps = []) (ht2 : st.s2.td = st.data) (hp2 : st.s2.ps = []) (hTR : ∀ p ∈ T, p ∈ R) (hm : ∀ p ∈ lfr a0 ab tf, m p.1 = some p.2) (hst : stAt lawRec.body 9 = [x9]) (hE : PassesOwn (model P0 w) (lawTop dp un gd L a ccd) (lawEnv L a ccd) E) (hdp : dp + 20 < recursionLimit) (hun : un + 2000 < cLine) (ret : ∀ m' h' tk', Fr h₀ L h' m' → News h₀ L h' (wled w a0 v st R) → (∀ p ∈ lfr a0 ab tf, m' p.1 = some p.2) → Q .next { s with heap := h', toks := tk' }),
  wpAny (model P0 w) (lawTop dp un gd L a ccd) (exec x9 (lawEnv L a ccd)) Q E s
noncomputable def S (c : CxF × ((((WAdr) × (WVal)) × ((WSt) × (Flow → Shared → Prop))))) : Prop := ∀ (x9 : Stmt), St (cx_w (c.1).1) (cx_p (c.1).1) (cx_loose (c.1).1) (cx_mean (c.1).1) (cx_mg (c.1).1) (cx_mb (c.1).1) (cx_dp (c.1).1) (cx_un (c.1).1) (cx_gd (c.1).1) (cx_a (c.1).1) (cx_ccd (c.1).1) (cx_A₀ (c.1).1) (cx_h₀ (c.1).1) (cx_L (c.1).1) (cx_m (c.1).1) (cx_R (c.1).1) (cx_T (c.1).1) (cx_s (c.1).1) (cx_E (c.1).1) (c.2.1.1) (c.2.1.2) (c.2.2.1) (cx_adr c.1 0) (cx_tok c.1 0) (c.2.2.2) x9
noncomputable def kx9 : CxF × ((((WAdr) × (WVal)) × ((WSt) × (Flow → Shared → Prop)))) := @Classical.epsilon (CxF × ((((WAdr) × (WVal)) × ((WSt) × (Flow → Shared → Prop))))) (ne_cxf.elim fun b => ⟨(b, ((wadr0, wval0), (wst0, default)))⟩) fun c => ¬ S c
set_option maxRecDepth 100000 in
set_option maxHeartbeats 8000000 in
theorem walk : S kx9 := by
  show ∀ (x9 : Stmt), St (cx_w (kx9.1).1) (cx_p (kx9.1).1) (cx_loose (kx9.1).1) (cx_mean (kx9.1).1) (cx_mg (kx9.1).1) (cx_mb (kx9.1).1) (cx_dp (kx9.1).1) (cx_un (kx9.1).1) (cx_gd (kx9.1).1) (cx_a (kx9.1).1) (cx_ccd (kx9.1).1) (cx_A₀ (kx9.1).1) (cx_h₀ (kx9.1).1) (cx_L (kx9.1).1) (cx_m (kx9.1).1) (cx_R (kx9.1).1) (cx_T (kx9.1).1) (cx_s (kx9.1).1) (cx_E (kx9.1).1) (kx9.2.1.1) (kx9.2.1.2) (kx9.2.2.1) (cx_adr kx9.1 0) (cx_tok kx9.1 0) (kx9.2.2.2) x9
  generalize (cx_w (kx9.1).1) = w, (cx_p (kx9.1).1) = p, (cx_loose (kx9.1).1) = loose, (cx_mean (kx9.1).1) = mean, (cx_mg (kx9.1).1) = mg, (cx_mb (kx9.1).1) = mb, (cx_dp (kx9.1).1) = dp, (cx_un (kx9.1).1) = un, (cx_gd (kx9.1).1) = gd, (cx_a (kx9.1).1) = a, (cx_ccd (kx9.1).1) = ccd, (cx_A₀ (kx9.1).1) = A₀, (cx_h₀ (kx9.1).1) = h₀, (cx_L (kx9.1).1) = L, (cx_m (kx9.1).1) = m, (cx_R (kx9.1).1) = R, (cx_T (kx9.1).1) = T, (cx_s (kx9.1).1) = s, (cx_E (kx9.1).1) = E, (kx9.2.1.1) = a0, (kx9.2.1.2) = v, (kx9.2.2.1) = st, (cx_adr kx9.1 0) = ab, (cx_tok kx9.1 0) = tf, (kx9.2.2.2) = Q
  intro x9
  delta St
  intro B F X N Tp I0 hdz ht1 hp1 ht2 hp2 hTR hm hst hE hdp hun ret
  have hk : lawRec.scope.kind = .function := rfl
  have hW := I0.hW
  unfold lawRec recOf at hst
  dsimp only [stAt] at hst
  obtain rfl := (List.cons.inj hst).1
  clear hst
  unfold lawTop lawEnv lawRec recOf at hE ⊢
  have F1 : Fr h₀ L s.heap (kv (lfr a0 ab tf) m) := fr_kv0 hm F
  unfold lfr at F1
  clear F
  replace N := news_plus N mem_w1
  generalize hZ : wled w a0 v st R = Z at N
  k_steps
  rename Fr _ _ _ _ => F2
  rename News _ _ _ _ => N2
  unfold Held
  clear hE
  replace N2 := news_drop1 N2
  have hleZ : (a0.le, W.listOf [Value.ref a0.e1, Value.ref a0.e2].toArray a0.ne) ∈ Z := by
    subst hZ
    exact wled_mem.mpr (.inr (hTR _ I0.hle))
  refine' list_loopU (vs := [Value.ref a0.e1, Value.ref a0.e2]) (nn := a0.ne) (news := Z) (fun i m nx => nx = Z ∧ ∀ p ∈ lfr a0 ab tf, m p.1 = some p.2) ?hh9 ?hJl ?hF9 ?hN9 ?hj ?turn ?done
  case hh9 => rfl
  case hJl =>
    rintro i m nx ⟨rfl, _⟩
    exact hleZ
  case hF9 => exact F2
  case hN9 => exact N2
  case hj =>
    refine ⟨rfl, ?_⟩
    unfold lfr
    walk_at "mine fr"
  case done =>
    rintro m₁ news₁ h tk ⟨rfl, hm9⟩ F4 N4
    clear F2 N2
    (try dsimp only)
    (try k_steps)
    subst hZ
    exact ret _ _ _ F4 N4 hm9
  case turn =>
    rintro i v9 m₁ news₁ s₁ h tk I oI hv hI ⟨rfl, hps⟩ F4 N4
    clear F2 N2
    unfold lfr at hps
    have hE1 := I0.hE1
    have hE2 := I0.hE2
    rw [ht1] at hE1
    rw [ht2] at hE2
    have hw1 := I0.hw1
    have hw2 := I0.hw2
    rw [hp1] at hw1
    rw [hp2] at hw2
    have hTI : ∀ p ∈ T, p ∈ (I, oI) :: news₁ := fun p hp => .tail _ (by subst hZ; exact wled_mem.mpr (.inr (hTR p hp)))
    have m1 : (a0.wD, v.oW) ∈ (I, oI) :: news₁ := .tail _ (by subst hZ; exact mem_w1)
    have m2 : (a0.e1, v.o1) ∈ (I, oI) :: news₁ := .tail _ (by subst hZ; exact .tail _ (.tail _ (.tail _ (.head _))))
    have m3 : (a0.x1, instObj 124 a0.d1) ∈ (I, oI) :: news₁ := .tail _ (by subst hZ; exact .tail _ (.tail _ (.tail _ (.tail _ (.head _)))))
    have m4 : (a0.d1, inD w v.t11 v.t12 v.t13 (.int a0.lim1 v.tl1) (.int st.s1.told v.tt1) v.vw1) ∈ (I, oI) :: news₁ := .tail _ (by subst hZ; exact .tail _ (.tail _ (.tail _ (.tail _ (.tail _ (.head _))))))
    have m5 : (a0.e2, v.o2) ∈ (I, oI) :: news₁ := .tail _ (by subst hZ; exact mem6 (.head _))
    have m6 : (a0.x2, instObj 124 a0.d2) ∈ (I, oI) :: news₁ := .tail _ (by subst hZ; exact .tail _ (mem6 (.head _)))
    have m7 : (a0.d2, inD w v.t21 v.t22 v.t23 (.int a0.lim2 v.tl2) (.int st.s2.told v.tt2) v.vw2) ∈ (I, oI) :: news₁ := .tail _ (by subst hZ; exact mem8 (.head _))
    have hback : ∀ h', News h₀ L h' ((I, oI) :: news₁) → News h₀ L h' ((I, oI) :: news₁) := fun _ h => h
    generalize hY : (I, oI) :: news₁ = Y at N4 hTI m1 m2 m3 m4 m5 m6 m7
    have hi : i = 0 ∨ i = 1 := by
      have : i < 2 := by
        cases Nat.lt_or_ge i 2 with
        | inl h => exact h
        | inr h => rw [List.getElem?_eq_none h] at hv; cases hv
      lia
    rcases hi with rfl | rfl
    · obtain rfl : Value.ref a0.e1 = v9 := by simpa using hv
      replace F4 := fr_kv1 hps F4
      replace N4 := news_plus (news_plus (news_plus (news_plus N4 m1) (.tail _ m2)) (.tail _ (.tail _ m4))) (.tail _ (.tail _ (.tail _ m3)))
      k_steps
      all_goals first | (rename (_ != _) = true => hq; exact absurd hq (ne_same rfl)) | skip
      unfold Held
      rename Fr _ _ _ _ => F5
      rename News _ _ _ _ => N5
      k_dflt (refine' has_waiting_c (T := T) ?B F5 ?X N5 ?Tp rfl ?hT hw1 ?hd ?hu ?_)
      case B => k_asm
      case X => k_asm
      case Tp => k_asm
      case hT => exact fun p hp => .tail _ (.tail _ (hTI p hp))
      case hd => walk_at "mine room"
      case hu => walk_at "mine room"
      intro h6 tk6 F6 N6
      clear F5 N5
      k_steps
      rename Fr _ _ _ _ => F7
      rename News _ _ _ _ => N7
      subst hY
      refine ⟨rfl, _, _, _, (I, oI) :: news₁, news₁, rfl, F7, fun p hp => N7 p (.tail _ (.tail _ (.tail _ (.tail _ hp)))), fun p hp => .tail _ hp, .head _, hI, rfl, ?_⟩
      unfold lfr
      walk_at "mine fr"
    · obtain rfl : Value.ref a0.e2 = v9 := by simpa using hv
      replace F4 := fr_kv1 hps F4
      replace N4 := news_plus (news_plus (news_plus (news_plus N4 m1) (.tail _ m5)) (.tail _ (.tail _ m7))) (.tail _ (.tail _ (.tail _ m6)))
      k_steps
      all_goals first | (rename (_ != _) = true => hq; exact absurd hq (ne_same rfl)) | skip
      unfold Held
      rename Fr _ _ _ _ => F5
      rename News _ _ _ _ => N5
      k_dflt (refine' has_waiting_c (T := T) ?B F5 ?X N5 ?Tp rfl ?hT hw2 ?hd ?hu ?_)
      case B => k_asm
      case X => k_asm
      case Tp => k_asm
      case hT => exact fun p hp => .tail _ (.tail _ (hTI p hp))
      case hd => walk_at "mine room"
      case hu => walk_at "mine room"
      intro h6 tk6 F6 N6
      clear F5 N5
      k_steps
      rename Fr _ _ _ _ => F7
      rename News _ _ _ _ => N7
      subst hY
      refine ⟨rfl, _, _, _, (I, oI) :: news₁, news₁, rfl, F7, fun p hp => N7 p (.tail _ (.tail _ (.tail _ (.tail _ hp)))), fun p hp => .tail _ hp, .head _, hI, rfl, ?_⟩
      unfold lfr
      walk_at "mine fr"
end ends_c_k
section
variable {w : World} {p : Program} {loose : List Str} {mean : ExcName → Option Value} {mg mb : Str → Option Value} {dp un : Nat} {gd : Option (List Code)} {cn : Str} {cs : Scope} {a : Addr} {ccd : Value} {cl : List (Str × Addr)} {outer : List Env} {A₀ : Around} {base h₀ : Heap} {L : Addr} {m : Str → Option Value} {R T : List (Addr × Obj)} {s : Shared} {v : Value} {Q E : Value → Shared → Prop}
theorem ends_c {a0 : WAdr} {v : WVal} {st : WSt} {ab : Addr} {tf : Tok} {Q : Flow → Shared → Prop} {x9 : Stmt} :
  ends_c_k.St w p loose mean mg mb dp un gd a ccd A₀ h₀ L m R T s E a0 v st ab tf Q x9 := all_eps (S := ends_c_k.S) ends_c_k.walk (((w, p, loose, mean, mg, mb, dp, un, gd, (cx_cn cx0), (cx_cs cx0), a, ccd, (cx_cl cx0), (cx_outer cx0), A₀, (cx_base cx0), h₀, L, m, R, T, s, (cx_v cx0), (cx_Q cx0), E), fn [tf] default, fn [ab] default, fn [] default, fn [] default, fn [] [], fn [] #[], fn [] []), ((a0, v), (st, Q))) x9
end
end Mine

end
namespace Mine
section
variable {w : World} {p : Program} {loose : List Str} {mean : ExcName → Option Value} {mg mb : Str → Option Value} {dp un : Nat} {gd : Option (List Code)} {cn : Str} {cs : Scope} {a : Addr} {ccd : Value} {cl : List (Str × Addr)} {outer : List Env} {A₀ : Around} {base h₀ : Heap} {L : Addr} {m : Str → Option Value} {R T : List (Addr × Obj)} {s : Shared} {v : Value} {Q E : Value → Shared → Prop}
end
namespace last_c_k
noncomputable def St (w : World) (p : Program) (loose : List Str) (mean : ExcName → Option Value) (mg : Str → Option Value) (mb : Str → Option Value) (dp : Nat) (un : Nat) (gd : Option (List Code)) (a : Addr) (ccd : Value) (A₀ : Around) (h₀ : Heap) (L : Addr) (m : Str → Option Value) (R : List (Addr × Obj)) (T : List (Addr × Obj)) (s : Shared) (E : Value → Shared → Prop) (a0 : WAdr) (v : WVal) (st : WSt) (ab : Addr) (tf : Tok) (Q : Flow → Shared → Prop) (x9 : Stmt) : Prop := ∀ (B : Below A₀ h₀ [] h₀) (F : Fr h₀ L s.heap m) (X : (hd.heap_1 w.params).In h₀) (N : News h₀ L s.heap (wled w a0 v st R)) (Tp : Top p loose mean mg mb h₀) (I0 : WIs w T a0 v st) (S0 : WSep a0 v R) (hz : 0 < st.data.size) (hdz : st.data.size ≤ 1000) (hack : st.ack = [(0, (st.data.size : Int))]) (hdue : st.due = []) (hTR : ∀ p ∈ T, p ∈ R) (hm : ∀ p ∈ lfr a0 ab tf, m p.1 = some p.2) (hst : stAt lawRec.body 10 = [x9]) (hE : PassesOwn (model P0 w) (lawTop dp un gd L a ccd) (lawEnv L a ccd) E) (hdp : dp + 20 < recursionLimit) (hun : un + 2000 < cLine) (ret : ∀ m' nx h' tk', Fr h₀ L h' m' → News h₀ L h' nx → Q (.ret (.bool true)) { s with heap := h', toks := tk' }),
  wpAny (model P0 w) (lawTop dp un gd L a ccd) (exec x9 (lawEnv L a ccd)) Q E s
noncomputable def S (c : CxF × ((((WAdr) × (WVal)) × ((WSt) × (Flow → Shared → Prop))))) : Prop := ∀ (x9 : Stmt), St (cx_w (c.1).1) (cx_p (c.1).1) (cx_loose (c.1).1) (cx_mean (c.1).1) (cx_mg (c.1).1) (cx_mb (c.1).1) (cx_dp (c.1).1) (cx_un (c.1).1) (cx_gd (c.1).1) (cx_a (c.1).1) (cx_ccd (c.1).1) (cx_A₀ (c.1).1) (cx_h₀ (c.1).1) (cx_L (c.1).1) (cx_m (c.1).1) (cx_R (c.1).1) (cx_T (c.1).1) (cx_s (c.1).1) (cx_E (c.1).1) (c.2.1.1) (c.2.1.2) (c.2.2.1) (cx_adr c.1 0) (cx_tok c.1 0) (c.2.2.2) x9
noncomputable def kx9 : CxF × ((((WAdr) × (WVal)) × ((WSt) × (Flow → Shared → Prop)))) := @Classical.epsilon (CxF × ((((WAdr) × (WVal)) × ((WSt) × (Flow → Shared → Prop))))) (ne_cxf.elim fun b => ⟨(b, ((wadr0, wval0), (wst0, default)))⟩) fun c => ¬ S c
set_option maxRecDepth 100000 in
set_option maxHeartbeats 8000000 in
theorem walk : S kx9 := by
  show ∀ (x9 : Stmt), St (cx_w (kx9.1).1) (cx_p (kx9.1).1) (cx_loose (kx9.1).1) (cx_mean (kx9.1).1) (cx_mg (kx9.1).1) (cx_mb (kx9.1).1) (cx_dp (kx9.1).1) (cx_un (kx9.1).1) (cx_gd (kx9.1).1) (cx_a (kx9.1).1) (cx_ccd (kx9.1).1) (cx_A₀ (kx9.1).1) (cx_h₀ (kx9.1).1) (cx_L (kx9.1).1) (cx_m (kx9.1).1) (cx_R (kx9.1).1) (cx_T (kx9.1).1) (cx_s (kx9.1).1) (cx_E (kx9.1).1) (kx9.2.1.1) (kx9.2.1.2) (kx9.2.2.1) (cx_adr kx9.1 0) (cx_tok kx9.1 0) (kx9.2.2.2) x9
  generalize (cx_w (kx9.1).1) = w, (cx_p (kx9.1).1) = p, (cx_loose (kx9.1).1) = loose, (cx_mean (kx9.1).1) = mean, (cx_mg (kx9.1).1) = mg, (cx_mb (kx9.1).1) = mb, (cx_dp (kx9.1).1) = dp, (cx_un (kx9.1).1) = un, (cx_gd (kx9.1).1) = gd, (cx_a (kx9.1).1) = a, (cx_ccd (kx9.1).1) = ccd, (cx_A₀ (kx9.1).1) = A₀, (cx_h₀ (kx9.1).1) = h₀, (cx_L (kx9.1).1) = L, (cx_m (kx9.1).1) = m, (cx_R (kx9.1).1) = R, (cx_T (kx9.1).1) = T, (cx_s (kx9.1).1) = s, (cx_E (kx9.1).1) = E, (kx9.2.1.1) = a0, (kx9.2.1.2) = v, (kx9.2.2.1) = st, (cx_adr kx9.1 0) = ab, (cx_tok kx9.1 0) = tf, (kx9.2.2.2) = Q
  intro x9
  delta St
  intro B F X N Tp I0 S0 hz hdz hack hdue hTR hm hst hE hdp hun ret
  have hk : lawRec.scope.kind = .function := rfl
  have hW := I0.hW
  obtain ⟨ks, kvs, nk, hvk9, hkm, hkall⟩ : ∃ ks kvs nk, v.vak = Value.ref ks ∧ (ks, W.listOf (List.toArray kvs) nk) ∈ T ∧ DatAll T kvs (st.ack.map prD) := by
    have := I0.hvk
    unfold spD at this
    exact dat_list this
  have hvk1 : DatIn T (Value.ref ks) (spD [(0, (st.data.size : Int))]) := by rw [← hvk9, ← hack]; exact I0.hvk
  rw [hvk9] at hW
  unfold lawRec recOf at hst
  dsimp only [stAt] at hst
  obtain rfl := (List.cons.inj hst).1
  clear hst
  unfold lawTop lawEnv lawRec recOf at hE ⊢
  have F1 : Fr h₀ L s.heap (kv (lfr a0 ab tf) m) := fr_kv0 hm F
  unfold lfr at F1
  clear F
  replace N := wled_plus3 N
  generalize hZ : wled w a0 v st R = Z at N
  k_steps
  unfold Held
  rename Fr _ _ _ _ => F2
  rename News _ _ _ _ => N2
  replace N2 := news_sub N2 (R' := Z) fun p hp => .tail _ (.tail _ (.tail _ hp))
  subst hZ
  k_dflt (refine' is_done_c (T := T) ?B F2 ?X (x_front N2) ?Tp rfl ?hT (x_dx S0) (wrest_off S0) ?hva hz hdz ?hd ?hu ?_)
  case B => k_asm
  case X => k_asm
  case Tp => k_asm
  case hT => exact fun p hp => wrest_sub p (hTR p hp)
  case hva => rw [← hack]; exact I0.hva
  case hd => walk_at "mine room"
  case hu => walk_at "mine room"
  intro tl3 h3 tk3 F3 N3 E3
  clear F2 N2
  replace N3 : News h₀ L h3 (wled w a0 v st (tl3 ++ R)) := x_back (vd := v.vdue) (du := st.due) N3
  have S3 : WSep a0 v (tl3 ++ R) := wsep_ext S0 E3
  have I3 : WIs w (tl3 ++ T) a0 v st := wis_due (vd := v.vdue) (du := st.due) I0 (I0.hvd.mono fun p hp => List.mem_append.mpr (.inr hp))
  have hTR3 : ∀ p ∈ tl3 ++ T, p ∈ tl3 ++ R := sub_mv hTR
  replace N3 := wled_plus3 N3
  have hkZ : ∀ p ∈ T, p ∈ wled w a0 v st (tl3 ++ R) := fun p hp => wled_mem.mpr (.inr (List.mem_append.mpr (.inr (hTR p hp))))
  generalize hZ : wled w a0 v st (tl3 ++ R) = Z at N3 hkZ
  k_steps
  unfold Held
  rename Fr _ _ _ _ => F4
  rename News _ _ _ _ => N4
  k_dflt (refine' has_span_c (T := T) (x := 0) (y := (st.data.size : Int)) ?B F4 ?X N4 ?Tp rfl ?hT hvk1 ?hlh ?hx ?hy ?hd ?hu ?_)
  case B => k_asm
  case X => k_asm
  case Tp => k_asm
  case hT => exact fun p hp => .tail _ (.tail _ (.tail _ (hkZ p hp)))
  case hlh => lia
  case hx => lia
  case hy => lia
  case hd => walk_at "mine room"
  case hu => walk_at "mine room"
  intro h5 tk5 F5 N5
  clear F4 N4
  k_steps
  unfold Held
  rename Fr _ _ _ _ => F6
  rename News _ _ _ _ => N6
  replace N6 := news_sub N6 (R' := Z) fun p hp => .tail _ (.tail _ (.tail _ hp))
  subst hZ
  k_dflt (refine' chunk_w ?B F6 ?X N6 ?Tp rfl I3 S3 ?hsp ?hpos hdz ?hmo hTR3 ?hd ?hu ?r0 ?r1)
  case B => k_asm
  case X => k_asm
  case Tp => k_asm
  case hsp => rw [hdue]; exact Nat.zero_le _
  case hpos => rw [hdue]; exact fun _ h => nomatch h
  case hmo => decide
  case hd => walk_at "mine room"
  case hu => walk_at "mine room"
  case r1 =>
    intro lo hi rest he
    rw [hdue] at he
    cases he
  case r0 =>
    intro _ h7 tk7 F7 N7
    clear F6 N6
    k_steps
    rename Fr _ _ _ _ => F8
    rename News _ _ _ _ => N8
    exact ret _ _ _ _ F8 N8
end last_c_k
section
variable {w : World} {p : Program} {loose : List Str} {mean : ExcName → Option Value} {mg mb : Str → Option Value} {dp un : Nat} {gd : Option (List Code)} {cn : Str} {cs : Scope} {a : Addr} {ccd : Value} {cl : List (Str × Addr)} {outer : List Env} {A₀ : Around} {base h₀ : Heap} {L : Addr} {m : Str → Option Value} {R T : List (Addr × Obj)} {s : Shared} {v : Value} {Q E : Value → Shared → Prop}
theorem last_c {a0 : WAdr} {v : WVal} {st : WSt} {ab : Addr} {tf : Tok} {Q : Flow → Shared → Prop} {x9 : Stmt} :
  last_c_k.St w p loose mean mg mb dp un gd a ccd A₀ h₀ L m R T s E a0 v st ab tf Q x9 := all_eps (S := last_c_k.S) last_c_k.walk (((w, p, loose, mean, mg, mb, dp, un, gd, (cx_cn cx0), (cx_cs cx0), a, ccd, (cx_cl cx0), (cx_outer cx0), A₀, (cx_base cx0), h₀, L, m, R, T, s, (cx_v cx0), (cx_Q cx0), E), fn [tf] default, fn [ab] default, fn [] default, fn [] default, fn [] [], fn [] #[], fn [] []), ((a0, v), (st, Q))) x9
end
end Mine

namespace Mine
/-- rising addresses, named by their places -/
theorem rise {c : Nat → Nat} {n : Nat} (h : ∀ i, i < n → c i < c (i + 1)) : ∀ {i j : Nat}, i < j → j ≤ n → c i < c j := by
  intro i j hij
  induction hij with
  | refl => intro hj; exact h i hj
  | step _ ih => intro hj; exact Nat.lt_trans (ih (Nat.le_of_succ_le hj)) (h _ hj)
theorem rise_ne {c : Nat → Nat} {n : Nat} (h : ∀ i, i < n → c i < c (i + 1)) {i j : Nat} (hi : i ≤ n) (hj : j ≤ n) (hij : i ≠ j) : c i ≠ c j := fun e => by
  rcases Nat.lt_or_gt_of_ne hij with q | q
  · exact absurd e (Nat.ne_of_lt (rise h q hj))
  · exact absurd e (Nat.ne_of_gt (rise h q hi))
theorem rise_all {c : Nat → Nat} {n : Nat} (h : ∀ i, i < n → c i < c (i + 1)) {i : Nat} {l : List Nat} (hi : i ≤ n) (hl : (l.all fun j => Nat.ble j n && !Nat.beq i j) = true) : ∀ b ∈ l.map c, c i ≠ b := by
  intro b hb
  obtain ⟨j, hj, rfl⟩ := List.mem_map.mp hb
  have q := List.all_eq_true.mp hl j hj
  rw [Bool.and_eq_true, Bool.not_eq_true'] at q
  exact rise_ne h hi (Nat.le_of_ble_eq_true q.1) fun e => by
    rw [e, Nat.beq_refl] at q; exact absurd q.2 (by decide)
theorem rise_nodup {c : Nat → Nat} {n : Nat} (h : ∀ i, i < n → c i < c (i + 1)) : ∀ {l : List Nat}, (l.all fun j => Nat.ble j n) = true → l.Nodup → (l.map c).Nodup := by
  intro l
  induction l with
  | nil => intro _ _; exact .nil
  | cons i r ih =>
    intro hl hn
    have q := List.all_eq_true.mp hl
    obtain ⟨n1, n2⟩ := List.nodup_cons.mp hn
    refine List.nodup_cons.mpr ⟨fun hm => ?_, ih (List.all_eq_true.mpr fun j hj => q j (.tail _ hj)) n2⟩
    obtain ⟨j, hj, e⟩ := List.mem_map.mp hm
    exact rise_ne h (Nat.le_of_ble_eq_true (q j (.tail _ hj))) (Nat.le_of_ble_eq_true (q i (.head _))) (fun e => n1 (e ▸ hj)) e
theorem ne_all {b : Nat} : ∀ {l : List Nat}, (∀ c ∈ l, c ≠ b) → ∀ c ∈ l, b ≠ c := fun h c hc e => h c hc e.symm
noncomputable def chain (l : List Nat) (i : Nat) : Nat := (l[i]?).getD 0
theorem chain_rise : ∀ {l : List Nat}, l.Pairwise (· < ·) → ∀ i, i + 1 < l.length → chain l i < chain l (i + 1) := by
  intro l h i hi
  have := List.pairwise_iff_getElem.mp h i (i + 1) (by lia) hi (Nat.lt_succ_self i)
  unfold chain
  rw [List.getElem?_eq_getElem hi, List.getElem?_eq_getElem (Nat.lt_of_succ_lt hi)]
  exact this
theorem rise_cons {a b : Nat} {l : List Nat} (h : a < b) (hl : (b :: l).Pairwise (· < ·)) : (a :: b :: l).Pairwise (· < ·) :=
  List.pairwise_cons.mpr ⟨fun x hx => by
    rcases List.mem_cons.mp hx with rfl | hx
    · exact h
    · exact Nat.lt_trans h ((List.pairwise_cons.mp hl).1 x hx), hl⟩
theorem first_pack {sl bx wd d0 x0 y1 y2 lf le la lb e1 d1 x1 w1 e2 d2 x2 w2 Dl : Nat} (q2 : sl < bx) (q3 : bx < wd) (q4 : wd < d0) (q5 : d0 < x0) (q6 : x0 < y1) (q7 : y1 < y2) (q8 : y2 < lf) (q9 : lf < le) (q10 : le < la) (q11 : la < lb) (q12 : lb < e1) (q13 : e1 < d1) (q14 : d1 < x1) (q15 : x1 < w1) (q16 : w1 < e2) (q17 : e2 < d2) (q18 : d2 < x2) (q19 : x2 < w2)
    (o1 : e2 ≠ Dl) (o2 : x2 ≠ Dl) (o3 : d2 ≠ Dl) (o5 : e1 ≠ Dl) (o6 : x1 ≠ Dl) (o7 : d1 ≠ Dl) (o9 : wd ≠ Dl) (o10 : lf ≠ Dl) (o11 : x0 ≠ Dl) (o12 : d0 ≠ Dl) (o13 : bx ≠ Dl) :
    [wd, x0, d0, e1, x1, d1, e2, x2, d2].Nodup ∧ (∀ c ∈ [wd, x0, d0, e1, x1, d1, e2, x2, d2], lf ≠ c) ∧
    (∀ b ∈ [bx, Dl, w1, w2, lb, la, le, y1, y2, sl], (∀ c ∈ [wd, x0, d0, e1, x1, d1, e2, x2, d2], b ≠ c) ∧ b ≠ lf) ∧ (∀ b ∈ [Dl, w1, w2, lb, la, le, y1, y2, sl], b ≠ bx) ∧ (∀ c ∈ [wd, x0, d0, e1, x1, d1, e2, x2, d2], c ≠ bx) ∧ lf ≠ bx := by
  have P := rise_cons q2 (rise_cons q3 (rise_cons q4 (rise_cons q5 (rise_cons q6 (rise_cons q7 (rise_cons q8 (rise_cons q9 (rise_cons q10 (rise_cons q11 (rise_cons q12 (rise_cons q13 (rise_cons q14 (rise_cons q15 (rise_cons q16 (rise_cons q17 (rise_cons q18 (rise_cons q19 (List.pairwise_singleton _ _))))))))))))))))))
  have H : ∀ i, i < 18 → chain [sl, bx, wd, d0, x0, y1, y2, lf, le, la, lb, e1, d1, x1, w1, e2, d2, x2, w2] i < chain [sl, bx, wd, d0, x0, y1, y2, lf, le, la, lb, e1, d1, x1, w1, e2, d2, x2, w2] (i + 1) := fun i hi => chain_rise P i (Nat.succ_lt_succ hi)
  have A : ∀ i, i ≤ 18 → (([2, 4, 3, 11, 13, 12, 15, 17, 16].all fun j => Nat.ble j 18 && !Nat.beq i j) = true) → ∀ c ∈ [wd, x0, d0, e1, x1, d1, e2, x2, d2], chain [sl, bx, wd, d0, x0, y1, y2, lf, le, la, lb, e1, d1, x1, w1, e2, d2, x2, w2] i ≠ c := fun i hi hl => rise_all (l := [2, 4, 3, 11, 13, 12, 15, 17, 16]) H hi hl
  have O : ∀ c ∈ [wd, x0, d0, e1, x1, d1, e2, x2, d2], Dl ≠ c := ne_all (List.forall_mem_cons.mpr ⟨o9, List.forall_mem_cons.mpr ⟨o11, List.forall_mem_cons.mpr ⟨o12, List.forall_mem_cons.mpr ⟨o5, List.forall_mem_cons.mpr ⟨o6, List.forall_mem_cons.mpr ⟨o7, List.forall_mem_cons.mpr ⟨o1, List.forall_mem_cons.mpr ⟨o2, List.forall_mem_cons.mpr ⟨o3, List.forall_mem_nil _⟩⟩⟩⟩⟩⟩⟩⟩⟩)
  have E : ∀ i j, i ≤ 18 → j ≤ 18 → i ≠ j → chain [sl, bx, wd, d0, x0, y1, y2, lf, le, la, lb, e1, d1, x1, w1, e2, d2, x2, w2] i ≠ chain [sl, bx, wd, d0, x0, y1, y2, lf, le, la, lb, e1, d1, x1, w1, e2, d2, x2, w2] j := fun i j hi hj => rise_ne H hi hj
  have L : ∀ i, i ≤ 18 → i ≠ 7 → chain [sl, bx, wd, d0, x0, y1, y2, lf, le, la, lb, e1, d1, x1, w1, e2, d2, x2, w2] i ≠ lf := fun i hi h => E i 7 hi (by decide) h
  have U : ∀ i, i ≤ 18 → i ≠ 1 → chain [sl, bx, wd, d0, x0, y1, y2, lf, le, la, lb, e1, d1, x1, w1, e2, d2, x2, w2] i ≠ bx := fun i hi h => E i 1 hi (by decide) h
  refine ⟨rise_nodup (l := [2, 4, 3, 11, 13, 12, 15, 17, 16]) H (by decide) (by decide), A 7 (by decide) (by decide), ?_, ?_, ?_, U 7 (by decide) (by decide)⟩
  · refine List.forall_mem_cons.mpr ⟨⟨A 1 (by decide) (by decide), L 1 (by decide) (by decide)⟩, List.forall_mem_cons.mpr ⟨⟨O, Ne.symm o10⟩, List.forall_mem_cons.mpr ⟨⟨A 14 (by decide) (by decide), L 14 (by decide) (by decide)⟩, List.forall_mem_cons.mpr ⟨⟨A 18 (by decide) (by decide), L 18 (by decide) (by decide)⟩, List.forall_mem_cons.mpr ⟨⟨A 10 (by decide) (by decide), L 10 (by decide) (by decide)⟩, List.forall_mem_cons.mpr ⟨⟨A 9 (by decide) (by decide), L 9 (by decide) (by decide)⟩, List.forall_mem_cons.mpr ⟨⟨A 8 (by decide) (by decide), L 8 (by decide) (by decide)⟩, List.forall_mem_cons.mpr ⟨⟨A 5 (by decide) (by decide), L 5 (by decide) (by decide)⟩, List.forall_mem_cons.mpr ⟨⟨A 6 (by decide) (by decide), L 6 (by decide) (by decide)⟩, List.forall_mem_cons.mpr ⟨⟨A 0 (by decide) (by decide), L 0 (by decide) (by decide)⟩, List.forall_mem_nil _⟩⟩⟩⟩⟩⟩⟩⟩⟩⟩
  · exact List.forall_mem_cons.mpr ⟨Ne.symm o13, List.forall_mem_cons.mpr ⟨U 14 (by decide) (by decide), List.forall_mem_cons.mpr ⟨U 18 (by decide) (by decide), List.forall_mem_cons.mpr ⟨U 10 (by decide) (by decide), List.forall_mem_cons.mpr ⟨U 9 (by decide) (by decide), List.forall_mem_cons.mpr ⟨U 8 (by decide) (by decide), List.forall_mem_cons.mpr ⟨U 5 (by decide) (by decide), List.forall_mem_cons.mpr ⟨U 6 (by decide) (by decide), List.forall_mem_cons.mpr ⟨U 0 (by decide) (by decide), List.forall_mem_nil _⟩⟩⟩⟩⟩⟩⟩⟩⟩
  · exact fun c hc e => A 1 (by decide) (by decide) c hc e.symm
section
variable {w : World} {p : Program} {loose : List Str} {mean : ExcName → Option Value} {mg mb : Str → Option Value} {dp un : Nat} {gd : Option (List Code)} {cn : Str} {cs : Scope} {a : Addr} {ccd : Value} {cl : List (Str × Addr)} {outer : List Env} {A₀ : Around} {base h₀ : Heap} {L : Addr} {m : Str → Option Value} {R T : List (Addr × Obj)} {s : Shared} {v : Value} {Q E : Value → Shared → Prop}
end
namespace first_deed_c_k
noncomputable def St (w : World) (p : Program) (loose : List Str) (mean : ExcName → Option Value) (mg : Str → Option Value) (mb : Str → Option Value) (dp : Nat) (un : Nat) (gd : Option (List Code)) (cn : Str) (cs : Scope) (a : Addr) (ccd : Value) (cl : List (Str × Addr)) (A₀ : Around) (h₀ : Heap) (L : Addr) (m : Str → Option Value) (s : Shared) (Q : Value → Shared → Prop) (E : Value → Shared → Prop) (sl : Addr) (bx : Addr) (wd : Addr) (d0 : Addr) (x0 : Addr) (y1 : Addr) (y2 : Addr) (lf : Addr) (le : Addr) (la : Addr) (lb : Addr) (e1 : Addr) (d1 : Addr) (x1 : Addr) (w1 : Addr) (e2 : Addr) (d2 : Addr) (x2 : Addr) (w2 : Addr) (Dl : Addr) (oW : Obj) (oE1 : Obj) (oE2 : Obj) (vs : List Value) (t' : Tok) (tkr : Tok) (tb2 : Tok) (t01 : Tok) (t02 : Tok) (t03 : Tok) (tb0 : Tok) (tput : Tok) (t11 : Tok) (t12 : Tok) (t13 : Tok) (tt1 : Tok) (t21 : Tok) (t22 : Tok) (t23 : Tok) (tt2 : Tok) (tq1 : Tok) (tq2 : Tok) (tf : Tok) (tp : Tok) (tz : Tok) (r : Int) (r2 : Int) (csl : Nat) (n' : Nat) (n01 : Nat) (n02 : Nat) (nw1 : Nat) (nw2 : Nat) : Prop := ∀ (q2 : @LT.lt Nat _ sl bx) (q3 : @LT.lt Nat _ bx wd) (q4 : @LT.lt Nat _ wd d0) (q5 : @LT.lt Nat _ d0 x0) (q6 : @LT.lt Nat _ x0 y1) (q7 : @LT.lt Nat _ y1 y2) (q8 : @LT.lt Nat _ y2 lf) (q9 : @LT.lt Nat _ lf le) (q10 : @LT.lt Nat _ le la) (q11 : @LT.lt Nat _ la lb) (q12 : @LT.lt Nat _ lb e1) (q13 : @LT.lt Nat _ e1 d1) (q14 : @LT.lt Nat _ d1 x1) (q15 : @LT.lt Nat _ x1 w1) (q16 : @LT.lt Nat _ w1 e2) (q17 : @LT.lt Nat _ e2 d2) (q18 : @LT.lt Nat _ d2 x2) (q19 : @LT.lt Nat _ x2 w2) (o1 : @Ne Nat e2 Dl) (o2 : @Ne Nat x2 Dl) (o3 : @Ne Nat d2 Dl) (o5 : @Ne Nat e1 Dl) (o6 : @Ne Nat x1 Dl) (o7 : @Ne Nat d1 Dl) (o9 : @Ne Nat wd Dl) (o10 : @Ne Nat lf Dl) (o11 : @Ne Nat x0 Dl) (o12 : @Ne Nat d0 Dl) (o13 : @Ne Nat bx Dl) (B : Below A₀ h₀ [] h₀) (F : Fr h₀ L s.heap m) (X : (hd.heap_1 w.params).In h₀) (Tp : Top p loose mean mg mb h₀) (hk : cs.kind = .function) (N : News h₀ L s.heap ((wd, oW) :: (Dl, W.listOf [Value.ref e1, Value.ref e2].toArray 2) :: (e2, oE2) :: (x2, instObj 124 d2) :: (d2, inD w t21 t22 t23 (Value.int (1 + r + r2) tb2) (Value.int 0 tt2) (Value.ref w2)) :: (w2, W.listOf ([] : List Value).toArray nw2) :: (e1, oE1) :: (x1, instObj 124 d1) ::
      (d1, inD w t11 t12 t13 (Value.int (1 + r) tkr) (Value.int 0 tt1) (Value.ref w1)) :: (w1, W.listOf ([] : List Value).toArray nw1) :: (lb, W.listOf [Value.int (1 + r) tkr, Value.int (1 + r + r2) tb2].toArray 0) :: (la, W.listOf ([] : List Value).toArray 0) :: (le, W.listOf ([] : List Value).toArray 0) :: (lf, W.listOf ([] : List Value).toArray 0) ::
      (x0, instObj 180 d0) :: (d0, outD w t01 t02 t03 (Value.bytes #[] tb0) (Value.ref y1) (Value.ref y2)) :: (y1, W.listOf ([] : List Value).toArray n01) :: (y2, W.listOf ([] : List Value).toArray n02) :: (bx, W.listOf [Value.ref sl, Value.int (2 + 3 * ((0 : Nat) : Int)) t'].toArray n') :: (sl, W.listOf vs.toArray csl) :: [])) (hW : oW.IsDictOf (PySem.strKind P0 w) [(Str.ofString "out", Value.ref x0), (Str.ofString "put", Value.bytes #[] tput), (Str.ofString "flying", Value.ref lf), (Str.ofString "elder", Value.ref le), (Str.ofString "acked", Value.ref la), (Str.ofString "bounds", Value.ref lb), (Str.ofString "ends", Value.ref Dl)]) (hE1 : oE1.IsDictOf (PySem.strKind P0 w) [(Str.ofString "in", Value.ref x1), (Str.ofString "told", Value.bytes #[] tq1)]) (hE2 : oE2.IsDictOf (PySem.strKind P0 w) [(Str.ofString "in", Value.ref x2), (Str.ofString "told", Value.bytes #[] tq2)]) (hr0 : 0 ≤ r) (hr2 : 0 ≤ r2) (hdp : dp + 10 < recursionLimit) (hun : un + 1000 < cLine) (ret : ∀ (a0 : WAdr) R0 T0 nx h' tk', a0.wD = wd → a0.lim1 = 1 + r → (sl, W.listOf vs.toArray csl) ∈ R0 → (∀ p ∈ T0, p ∈ R0) → Fr h₀ L h' m → News h₀ L h' nx → LW w a0 bx sl T0 R0 0 nx → Q (.bool true) { s with heap := h', toks := tk' }),
  wpAny (model P0 w) (ktrTop dp un gd cn cs L a ccd cl []) (call (.ref 220) [.ref wd, .int 0 tf, .int 0 tp, .int 4 tz]) Q E s
noncomputable def S (c : CxF × ((List Value))) : Prop := ∀ (r : Int) (r2 : Int) (csl : Nat) (n' : Nat) (n01 : Nat) (n02 : Nat) (nw1 : Nat) (nw2 : Nat), St (cx_w (c.1).1) (cx_p (c.1).1) (cx_loose (c.1).1) (cx_mean (c.1).1) (cx_mg (c.1).1) (cx_mb (c.1).1) (cx_dp (c.1).1) (cx_un (c.1).1) (cx_gd (c.1).1) (cx_cn (c.1).1) (cx_cs (c.1).1) (cx_a (c.1).1) (cx_ccd (c.1).1) (cx_cl (c.1).1) (cx_A₀ (c.1).1) (cx_h₀ (c.1).1) (cx_L (c.1).1) (cx_m (c.1).1) (cx_s (c.1).1) (cx_Q (c.1).1) (cx_E (c.1).1) (cx_adr c.1 0) (cx_adr c.1 1) (cx_adr c.1 2) (cx_adr c.1 3) (cx_adr c.1 4) (cx_adr c.1 5) (cx_adr c.1 6) (cx_adr c.1 7) (cx_adr c.1 8) (cx_adr c.1 9) (cx_adr c.1 10) (cx_adr c.1 11) (cx_adr c.1 12) (cx_adr c.1 13) (cx_adr c.1 14) (cx_adr c.1 15) (cx_adr c.1 16) (cx_adr c.1 17) (cx_adr c.1 18) (cx_adr c.1 19) (cx_obj c.1 0) (cx_obj c.1 1) (cx_obj c.1 2) (c.2) (cx_tok c.1 0) (cx_tok c.1 1) (cx_tok c.1 2) (cx_tok c.1 3) (cx_tok c.1 4) (cx_tok c.1 5) (cx_tok c.1 6) (cx_tok c.1 7) (cx_tok c.1 8) (cx_tok c.1 9) (cx_tok c.1 10) (cx_tok c.1 11) (cx_tok c.1 12) (cx_tok c.1 13) (cx_tok c.1 14) (cx_tok c.1 15) (cx_tok c.1 16) (cx_tok c.1 17) (cx_tok c.1 18) (cx_tok c.1 19) (cx_tok c.1 20) r r2 csl n' n01 n02 nw1 nw2
noncomputable def kx9 : CxF × ((List Value)) := @Classical.epsilon (CxF × ((List Value))) (ne_cxf.elim fun b => ⟨(b, default)⟩) fun c => ¬ S c
theorem walk : S kx9 := by
  show ∀ (r : Int) (r2 : Int) (csl : Nat) (n' : Nat) (n01 : Nat) (n02 : Nat) (nw1 : Nat) (nw2 : Nat), St (cx_w (kx9.1).1) (cx_p (kx9.1).1) (cx_loose (kx9.1).1) (cx_mean (kx9.1).1) (cx_mg (kx9.1).1) (cx_mb (kx9.1).1) (cx_dp (kx9.1).1) (cx_un (kx9.1).1) (cx_gd (kx9.1).1) (cx_cn (kx9.1).1) (cx_cs (kx9.1).1) (cx_a (kx9.1).1) (cx_ccd (kx9.1).1) (cx_cl (kx9.1).1) (cx_A₀ (kx9.1).1) (cx_h₀ (kx9.1).1) (cx_L (kx9.1).1) (cx_m (kx9.1).1) (cx_s (kx9.1).1) (cx_Q (kx9.1).1) (cx_E (kx9.1).1) (cx_adr kx9.1 0) (cx_adr kx9.1 1) (cx_adr kx9.1 2) (cx_adr kx9.1 3) (cx_adr kx9.1 4) (cx_adr kx9.1 5) (cx_adr kx9.1 6) (cx_adr kx9.1 7) (cx_adr kx9.1 8) (cx_adr kx9.1 9) (cx_adr kx9.1 10) (cx_adr kx9.1 11) (cx_adr kx9.1 12) (cx_adr kx9.1 13) (cx_adr kx9.1 14) (cx_adr kx9.1 15) (cx_adr kx9.1 16) (cx_adr kx9.1 17) (cx_adr kx9.1 18) (cx_adr kx9.1 19) (cx_obj kx9.1 0) (cx_obj kx9.1 1) (cx_obj kx9.1 2) (kx9.2) (cx_tok kx9.1 0) (cx_tok kx9.1 1) (cx_tok kx9.1 2) (cx_tok kx9.1 3) (cx_tok kx9.1 4) (cx_tok kx9.1 5) (cx_tok kx9.1 6) (cx_tok kx9.1 7) (cx_tok kx9.1 8) (cx_tok kx9.1 9) (cx_tok kx9.1 10) (cx_tok kx9.1 11) (cx_tok kx9.1 12) (cx_tok kx9.1 13) (cx_tok kx9.1 14) (cx_tok kx9.1 15) (cx_tok kx9.1 16) (cx_tok kx9.1 17) (cx_tok kx9.1 18) (cx_tok kx9.1 19) (cx_tok kx9.1 20) r r2 csl n' n01 n02 nw1 nw2
  generalize (cx_w (kx9.1).1) = w, (cx_p (kx9.1).1) = p, (cx_loose (kx9.1).1) = loose, (cx_mean (kx9.1).1) = mean, (cx_mg (kx9.1).1) = mg, (cx_mb (kx9.1).1) = mb, (cx_dp (kx9.1).1) = dp, (cx_un (kx9.1).1) = un, (cx_gd (kx9.1).1) = gd, (cx_cn (kx9.1).1) = cn, (cx_cs (kx9.1).1) = cs, (cx_a (kx9.1).1) = a, (cx_ccd (kx9.1).1) = ccd, (cx_cl (kx9.1).1) = cl, (cx_A₀ (kx9.1).1) = A₀, (cx_h₀ (kx9.1).1) = h₀, (cx_L (kx9.1).1) = L, (cx_m (kx9.1).1) = m, (cx_s (kx9.1).1) = s, (cx_Q (kx9.1).1) = Q, (cx_E (kx9.1).1) = E, (cx_adr kx9.1 0) = sl, (cx_adr kx9.1 1) = bx, (cx_adr kx9.1 2) = wd, (cx_adr kx9.1 3) = d0, (cx_adr kx9.1 4) = x0, (cx_adr kx9.1 5) = y1, (cx_adr kx9.1 6) = y2, (cx_adr kx9.1 7) = lf, (cx_adr kx9.1 8) = le, (cx_adr kx9.1 9) = la, (cx_adr kx9.1 10) = lb, (cx_adr kx9.1 11) = e1, (cx_adr kx9.1 12) = d1, (cx_adr kx9.1 13) = x1, (cx_adr kx9.1 14) = w1, (cx_adr kx9.1 15) = e2, (cx_adr kx9.1 16) = d2, (cx_adr kx9.1 17) = x2, (cx_adr kx9.1 18) = w2, (cx_adr kx9.1 19) = Dl, (cx_obj kx9.1 0) = oW, (cx_obj kx9.1 1) = oE1, (cx_obj kx9.1 2) = oE2, (kx9.2) = vs, (cx_tok kx9.1 0) = t', (cx_tok kx9.1 1) = tkr, (cx_tok kx9.1 2) = tb2, (cx_tok kx9.1 3) = t01, (cx_tok kx9.1 4) = t02, (cx_tok kx9.1 5) = t03, (cx_tok kx9.1 6) = tb0, (cx_tok kx9.1 7) = tput, (cx_tok kx9.1 8) = t11, (cx_tok kx9.1 9) = t12, (cx_tok kx9.1 10) = t13, (cx_tok kx9.1 11) = tt1, (cx_tok kx9.1 12) = t21, (cx_tok kx9.1 13) = t22, (cx_tok kx9.1 14) = t23, (cx_tok kx9.1 15) = tt2, (cx_tok kx9.1 16) = tq1, (cx_tok kx9.1 17) = tq2, (cx_tok kx9.1 18) = tf, (cx_tok kx9.1 19) = tp, (cx_tok kx9.1 20) = tz
  intro r r2 csl n' n01 n02 nw1 nw2
  delta St
  intro q2 q3 q4 q5 q6 q7 q8 q9 q10 q11 q12 q13 q14 q15 q16 q17 q18 q19 o1 o2 o3 o5 o6 o7 o9 o10 o11 o12 o13 B F X Tp hk N hW hE1 hE2 hr0 hr2 hdp hun ret
  obtain ⟨P1, P2, P3, P4, P5, P6⟩ := first_pack q2 q3 q4 q5 q6 q7 q8 q9 q10 q11 q12 q13 q14 q15 q16 q17 q18 q19 o1 o2 o3 o5 o6 o7 o9 o10 o11 o12 o13
  have D0 : KtsDicts (([] : List Env).filterMap (·.frame)) h₀ := ktsDicts_nil
  obtain ⟨R0, hR0⟩ : ∃ R0 : List (Addr × Obj), R0 = [(Dl, W.listOf [Value.ref e1, Value.ref e2].toArray 2), (w1, W.listOf ([] : List Value).toArray nw1), (w2, W.listOf ([] : List Value).toArray nw2), (lb, W.listOf [Value.int (1 + r) tkr, Value.int (1 + r + r2) tb2].toArray 0), (la, W.listOf ([] : List Value).toArray 0), (le, W.listOf ([] : List Value).toArray 0), (y1, W.listOf ([] : List Value).toArray n01), (y2, W.listOf ([] : List Value).toArray n02), (sl, W.listOf vs.toArray csl)] := ⟨_, rfl⟩
  have mDl : (Dl, W.listOf [Value.ref e1, Value.ref e2].toArray 2) ∈ R0 := by rw [hR0]; exact .head _
  have mw1 : (w1, W.listOf ([] : List Value).toArray nw1) ∈ R0 := by rw [hR0]; exact .tail _ (.head _)
  have mw2 : (w2, W.listOf ([] : List Value).toArray nw2) ∈ R0 := by rw [hR0]; exact .tail _ (.tail _ (.head _))
  have mlb : (lb, W.listOf [Value.int (1 + r) tkr, Value.int (1 + r + r2) tb2].toArray 0) ∈ R0 := by rw [hR0]; exact .tail _ (.tail _ (.tail _ (.head _)))
  have mla : (la, W.listOf ([] : List Value).toArray 0) ∈ R0 := by rw [hR0]; exact .tail _ (.tail _ (.tail _ (.tail _ (.head _))))
  have mle : (le, W.listOf ([] : List Value).toArray 0) ∈ R0 := by rw [hR0]; exact .tail _ (.tail _ (.tail _ (.tail _ (.tail _ (.head _)))))
  have my1 : (y1, W.listOf ([] : List Value).toArray n01) ∈ R0 := by rw [hR0]; exact mem6 (.head _)
  have my2 : (y2, W.listOf ([] : List Value).toArray n02) ∈ R0 := by rw [hR0]; exact .tail _ (mem6 (.head _))
  have msl : (sl, W.listOf vs.toArray csl) ∈ R0 := by rw [hR0]; exact mem8 (.head _)
  have hadr : ∀ p ∈ R0, p.1 ∈ [Dl, w1, w2, lb, la, le, y1, y2, sl] := by
    rw [hR0]
    intro p hp
    exact List.mem_map.mpr ⟨p, hp, rfl⟩
  obtain ⟨a0, ha0⟩ : ∃ a0 : WAdr, a0 = ⟨wd, x0, d0, e1, x1, d1, e2, x2, d2, Dl, lb, 2, 0, 1 + r, 1 + r + r2, tkr, tb2⟩ := ⟨_, rfl⟩
  obtain ⟨v0, hv0⟩ : ∃ v0 : WVal, v0 = ⟨oW, oE1, oE2, t01, t02, t03, tb0, t11, t12, t13, tkr, tt1, t21, t22, t23, tb2, tt2, tq1, tq2, tput, .ref y1, .ref y2, .ref le, .ref la, .ref w1, .ref w2, lf, [], 0⟩ := ⟨_, rfl⟩
  obtain ⟨oB, hoB⟩ : ∃ oB : Obj, oB = W.listOf [Value.ref sl, Value.int (2 + 3 * ((0 : Nat) : Int)) t'].toArray n' := ⟨_, rfl⟩
  rw [← hoB] at N
  have N1 : News h₀ L s.heap (wled w a0 v0 st0 ((bx, oB) :: R0)) := fun p hp => N p (by
    rw [ha0, hv0, hR0] at hp
    unfold wled st0 at hp
    simp only [List.mem_cons, List.not_mem_nil, or_false] at hp ⊢
    rcases hp with h | h | h | h | h | h | h | h | h | h | h | h | h | h | h | h | h | h | h | h <;> simp only [h, true_or, or_true])
  have hnine : nine a0 = [wd, x0, d0, e1, x1, d1, e2, x2, d2] := by rw [ha0]; rfl
  have hlf : v0.lf = lf := by rw [hv0]
  have S1 : WSep a0 v0 ((bx, oB) :: R0) := by
    refine ⟨by rw [hnine]; exact P1, by rw [hnine, hlf]; exact P2, fun p hp c hc => ?_, fun p hp c hc => ?_⟩
    · rw [hnine] at hc
      rcases List.mem_cons.mp hp with rfl | hp
      · exact (P3 _ (.head _)).1 c hc
      · exact (P3 _ (.tail _ (hadr p hp))).1 c hc
    · rw [hlf] at hc
      rw [List.mem_singleton.mp hc]
      rcases List.mem_cons.mp hp with rfl | hp
      · exact (P3 _ (.head _)).2
      · exact (P3 _ (.tail _ (hadr p hp))).2
  have I1 : WIs w R0 a0 v0 st0 := by
    rw [ha0, hv0]
    exact ⟨hW, hE1, hE2, mDl, mlb, DatIn.list (vs := []) my1 .nil, DatIn.list (vs := []) my2 .nil, DatIn.list (vs := []) mla .nil, DatIn.list (vs := []) mle .nil, DatAll.nil, DatIn.list (vs := []) mw1 .nil, DatIn.list (vs := []) mw2 .nil⟩
  have hwD : a0.wD = wd := by rw [ha0]
  have hl1 : a0.lim1 = 1 + r := by rw [ha0]
  have hl2 : a0.lim2 = 1 + r + r2 := by rw [ha0]
  have hbw : ∀ p ∈ wled w a0 v0 st0 [], @Ne Nat p.1 bx := fun p hp => by
    rcases wled_adr hp with h | h
    · rw [hnine] at h; exact P5 _ h
    · rw [h, hlf]; exact P6
  rw [← hwD]
  refine deed_put (T := R0) (st := st0) B F X N1 Tp hk X Tp D0 I1 S1 (by decide) (by decide) (by decide) (by decide) (by decide) (fun p hp => .tail _ hp) hdp hun ?_
  intro more hms v' tl h' tk' F' N' A' I' S'
  have mB : (bx, oB) ∈ tl ++ ((bx, oB) :: R0) := List.mem_append.mpr (.inr (.head _))
  refine ret a0 R0 R0 ((bx, oB) :: wled w a0 v' (putS st0 more) (tl ++ R0)) h' tk' hwD hl1 msl (fun p hp => hp) F' (fun p hp => N' p ?_) ⟨putS st0 more, v', tl, t', n', [], [], by rw [hoB], I', wsep_sub S' fun p hp => ?_, fun p hp => ?_, fun q hq => A' q (.tail _ hq), ?_, ?_, Nat.le_refl _, Nat.le_refl _⟩
  · rcases List.mem_cons.mp hp with rfl | hp
    · exact wled_mem.mpr (.inr mB)
    · rcases wled_mem.mp hp with h | h
      · exact wled_mem.mpr (.inl h)
      · rcases List.mem_append.mp h with h | h
        · exact wled_mem.mpr (.inr (List.mem_append.mpr (.inl h)))
        · exact wled_mem.mpr (.inr (List.mem_append.mpr (.inr (.tail _ h))))
  · rcases List.mem_append.mp hp with h | h
    · exact List.mem_append.mpr (.inl h)
    · exact List.mem_append.mpr (.inr (.tail _ h))
  · rcases wled_mem.mp hp with h | h
    · exact wled_off S' mB p h
    · rcases List.mem_append.mp h with h | h
      · exact Ne.symm (A' (bx, oB) (.head _) p h)
      · exact P4 _ (hadr p h)
  · rw [hl1, hl2]
    refine put_inv (inv0 (by lia) (by lia)) ?_
    show ((0 : Nat) : Int) + (more.size : Int) ≤ 15
    lia
  · show 0 < ((#[] : Array UInt8) ++ more).size
    rw [Array.size_append]; lia
end first_deed_c_k
section
variable {w : World} {p : Program} {loose : List Str} {mean : ExcName → Option Value} {mg mb : Str → Option Value} {dp un : Nat} {gd : Option (List Code)} {cn : Str} {cs : Scope} {a : Addr} {ccd : Value} {cl : List (Str × Addr)} {outer : List Env} {A₀ : Around} {base h₀ : Heap} {L : Addr} {m : Str → Option Value} {R T : List (Addr × Obj)} {s : Shared} {v : Value} {Q E : Value → Shared → Prop}
theorem first_deed_c {sl bx wd d0 x0 y1 y2 lf le la lb e1 d1 x1 w1 e2 d2 x2 w2 Dl : Addr} {oW oE1 oE2 : Obj} {r r2 : Int} {vs : List Value} {csl n' n01 n02 nw1 nw2 : Nat} {t' tkr tb2 t01 t02 t03 tb0 tput t11 t12 t13 tt1 t21 t22 t23 tt2 tq1 tq2 tf tp tz : Tok} :
  first_deed_c_k.St w p loose mean mg mb dp un gd cn cs a ccd cl A₀ h₀ L m s Q E sl bx wd d0 x0 y1 y2 lf le la lb e1 d1 x1 w1 e2 d2 x2 w2 Dl oW oE1 oE2 vs t' tkr tb2 t01 t02 t03 tb0 tput t11 t12 t13 tt1 t21 t22 t23 tt2 tq1 tq2 tf tp tz r r2 csl n' n01 n02 nw1 nw2 := all_eps (S := first_deed_c_k.S) first_deed_c_k.walk (((w, p, loose, mean, mg, mb, dp, un, gd, cn, cs, a, ccd, cl, (cx_outer cx0), A₀, (cx_base cx0), h₀, L, m, (cx_R cx0), (cx_T cx0), s, (cx_v cx0), Q, E), fn [t', tkr, tb2, t01, t02, t03, tb0, tput, t11, t12, t13, tt1, t21, t22, t23, tt2, tq1, tq2, tf, tp, tz] default, fn [sl, bx, wd, d0, x0, y1, y2, lf, le, la, lb, e1, d1, x1, w1, e2, d2, x2, w2, Dl] default, fn [] default, fn [oW, oE1, oE2] default, fn [] [], fn [] #[], fn [] []), vs) r r2 csl n' n01 n02 nw1 nw2
end
end Mine

section
local macro_rules | `(tactic| intro $x:ident $xs:ident*) => `(tactic| intros $x:ident $xs*)
namespace Mine
theorem grow4 {a b c d : Addr × Obj} {R : List (Addr × Obj)} : ∀ p ∈ a :: b :: c :: d :: R, p ∈ [a, b, c, d] ∨ p ∈ R := fun p hp => List.mem_append.mp (show p ∈ [a, b, c, d] ++ R from hp)
theorem sub_end1 {I C D x d w e : Addr × Obj} {R : List (Addr × Obj)} : ∀ p ∈ I :: C :: D :: (e :: x :: d :: w :: R), p ∈ x :: d :: w :: e :: I :: C :: D :: R := sub_ix [x, d, w, e, I, C, D] [4, 5, 6, 3, 0, 1, 2]
local macro_rules | `(tactic| walk_at "exec For Name Call cons nil") => `(tactic| ((with_reducible show wpAny _ _ (exec (Stmt.For _ _ _ _ _) _) _ _ _); refine Mine.held ?_))
local macro_rules | `(tactic| walk_at "exec For Name Subscript cons nil") => `(tactic| ((with_reducible show wpAny _ _ (exec (Stmt.For _ _ _ _ _) _) _ _ _); refine Mine.held ?_))
local macro_rules | `(tactic| walk_at "exec For") => `(tactic| ((with_reducible show wpAny _ _ (exec (Stmt.For _ _ _ _ _) _) _ _ _); refine Mine.held ?_))
local macro_rules | `(tactic| walk_at "call ref") => `(tactic| ((with_reducible show wpAny _ _ (call (Value.ref 180) _) _ _ _); refine Mine.held ?_))
local macro_rules | `(tactic| walk_at "exec Assign") => `(tactic| ((with_reducible show wpAny _ _ (exec (Stmt.Assign [Expr.Tuple [Expr.Subscript _ _ _, _] _ _] _ _) _) _ _ _); refine Mine.held ?_))
local macro_rules | `(tactic| walk_at "exec Return some") => `(tactic| ((with_reducible show wpAny _ _ (exec (Stmt.Return (some (Expr.BoolOp _ _ _)) _) _) _ _ _); refine Mine.held ?_))
local macro_rules | `(tactic| walk_at "law part") => `(tactic| ((case Bp => k_asm); (case Xp => k_asm); (case Tpp => k_asm); (case hdp => walk_at "mine room"); (case hup => walk_at "mine room")))
section
variable {w : World} {p : Program} {loose : List Str} {mean : ExcName → Option Value} {mg mb : Str → Option Value} {dp un : Nat} {gd : Option (List Code)} {cn : Str} {cs : Scope} {a : Addr} {ccd : Value} {cl : List (Str × Addr)} {outer : List Env} {A₀ : Around} {base h₀ : Heap} {L : Addr} {m : Str → Option Value} {R T : List (Addr × Obj)} {s : Shared} {v : Value} {Q E : Value → Shared → Prop}
end
namespace law_body_c_k
noncomputable def St (w : World) (p : Program) (loose : List Str) (mean : ExcName → Option Value) (mg : Str → Option Value) (mb : Str → Option Value) (dp : Nat) (un : Nat) (gd : Option (List Code)) (a : Addr) (ccd : Value) (A₀ : Around) (h₀ : Heap) (L : Addr) (s : Shared) (E : Value → Shared → Prop) (sc : Addr) (vs : List Value) (ns : List Int) (Q : Flow → Shared → Prop) : Prop := ∀ (B : Below A₀ h₀ [] h₀) (F : Fr h₀ L s.heap (fun y => List.lookup y [(Str.ofString "script", Value.ref sc)])) (X : (hd.heap_1 w.params).In h₀) (Tp : Top p loose mean mg mb h₀) (hL : h₀.IsList sc vs.toArray) (hi : IntsAre vs ns) (hns : ns.length ≤ 63) (hE : PassesOwn (model P0 w) (lawTop dp un gd L a ccd) (lawEnv L a ccd) E) (hdp : dp + 20 < recursionLimit) (hun : un + 2000 < cLine) (ret : ∀ m' nx h' tk', Fr h₀ L h' m' → News h₀ L h' nx → Q (.ret (.bool true)) { s with heap := h', toks := tk' }),
  wpAny (model P0 w) (lawTop dp un gd L a ccd) (execs lawRec.body (lawEnv L a ccd)) Q E s
noncomputable def S (c : CxF × ((((List Value) × (List Int)) × (Flow → Shared → Prop)))) : Prop := St (cx_w (c.1).1) (cx_p (c.1).1) (cx_loose (c.1).1) (cx_mean (c.1).1) (cx_mg (c.1).1) (cx_mb (c.1).1) (cx_dp (c.1).1) (cx_un (c.1).1) (cx_gd (c.1).1) (cx_a (c.1).1) (cx_ccd (c.1).1) (cx_A₀ (c.1).1) (cx_h₀ (c.1).1) (cx_L (c.1).1) (cx_s (c.1).1) (cx_E (c.1).1) (cx_adr c.1 0) (c.2.1.1) (c.2.1.2) (c.2.2)
noncomputable def kx9 : CxF × ((((List Value) × (List Int)) × (Flow → Shared → Prop))) := @Classical.epsilon (CxF × ((((List Value) × (List Int)) × (Flow → Shared → Prop)))) (ne_cxf.elim fun b => ⟨(b, ((default, default), default))⟩) fun c => ¬ S c
set_option maxRecDepth 100000 in
set_option maxHeartbeats 8000000 in
theorem walk : S kx9 := by
  show St (cx_w (kx9.1).1) (cx_p (kx9.1).1) (cx_loose (kx9.1).1) (cx_mean (kx9.1).1) (cx_mg (kx9.1).1) (cx_mb (kx9.1).1) (cx_dp (kx9.1).1) (cx_un (kx9.1).1) (cx_gd (kx9.1).1) (cx_a (kx9.1).1) (cx_ccd (kx9.1).1) (cx_A₀ (kx9.1).1) (cx_h₀ (kx9.1).1) (cx_L (kx9.1).1) (cx_s (kx9.1).1) (cx_E (kx9.1).1) (cx_adr kx9.1 0) (kx9.2.1.1) (kx9.2.1.2) (kx9.2.2)
  generalize (cx_w (kx9.1).1) = w, (cx_p (kx9.1).1) = p, (cx_loose (kx9.1).1) = loose, (cx_mean (kx9.1).1) = mean, (cx_mg (kx9.1).1) = mg, (cx_mb (kx9.1).1) = mb, (cx_dp (kx9.1).1) = dp, (cx_un (kx9.1).1) = un, (cx_gd (kx9.1).1) = gd, (cx_a (kx9.1).1) = a, (cx_ccd (kx9.1).1) = ccd, (cx_A₀ (kx9.1).1) = A₀, (cx_h₀ (kx9.1).1) = h₀, (cx_L (kx9.1).1) = L, (cx_s (kx9.1).1) = s, (cx_E (kx9.1).1) = E, (cx_adr kx9.1 0) = sc, (kx9.2.1.1) = vs, (kx9.2.1.2) = ns, (kx9.2.2) = Q
  delta St
  intro B F X Tp hL hi hns hE hdp hun ret
  have hk : lawRec.scope.kind = .function := rfl
  have N : News h₀ L s.heap [] := fun _ h => nomatch h
  have hE0 := hE
  unfold lawTop lawEnv lawRec recOf at hE ⊢
  dsimp only
  k_steps
  unfold Held
  rename (List.take 38 _).length = _ => hl1'
  (k_dflt (refine' Mine.drawn_c ?B ?F ?X ?N ?Tp rfl ?h0 ?hi ?hns ?hO ?k0 ?k1 ?m0 ?m1 ?hd ?hu ?_); (case B => k_asm); (case F => k_asm); (case X => k_asm); (case N => k_asm); (case Tp => k_asm); (case h0 => first | k_mem | kst_mem); (case hi => assumption); (case hns => lia); (case hO => walk_at "mine nes"); (case k0 => lia); (case k1 => lia); (case m0 => lia); (case m1 => lia); (case hd => first | decide | walk_at "mine room"); (case hu => first | decide | walk_at "mine room"))
  rename News _ _ _ _ => N1
  intro r h' tk' t' t'' n' hr0 hr1 F2 N2
  clear N1
  k_steps
  unfold Held
  (k_dflt (refine' Mine.drawn_c ?B ?F ?X ?N ?Tp rfl ?h0 ?hi ?hns ?hO ?k0 ?k1 ?m0 ?m1 ?hd ?hu ?_); (case B => k_asm); (case F => k_asm); (case X => k_asm); (case N => k_asm); (case Tp => k_asm); (case h0 => first | k_mem | kst_mem); (case hi => assumption); (case hns => lia); (case hO => walk_at "mine nes"); (case k0 => lia); (case k1 => lia); (case m0 => lia); (case m1 => lia); (case hd => first | decide | walk_at "mine room"); (case hu => first | decide | walk_at "mine room"))
  rename News _ _ _ _ => N1
  intro r2 h' tk' t' t'' n' hr2 hr3 F2 N2
  clear N1
  k_steps
  unfold Held
  rename Fr _ _ _ _ => F3
  rename News _ _ _ _ => N3
  k_dflt (refine' crypto_out_c ?B0 F3 ?X0 N3 ?Tp0 rfl ?hd0 ?hu0 ?_)
  case B0 => k_asm
  case X0 => k_asm
  case Tp0 => k_asm
  case hd0 => first | decide | walk_at "mine room"
  case hu0 => first | decide | walk_at "mine room"
  intro x0 d0 y1 y2 t01 t02 t03 tb0 n01 n02 h03 tk03 F4 N4 ox od oy1 oy2 odx oxy oyy
  clear N3 F3
  simp only [AllLt, and_true] at ox od oy1 oy2
  k_steps
  rename_i s0 ws hh1 hIw hLw lT sl csl hh2 c_sl bx hh3 c_bx hh4 ktk1 hh5 tkr t'1 t''1 n'1 tu hh6 c_tu hh7 hh8 hh9 ktk2 wd hh10 oW0 hlo hdW0 c_wd lf hh11 c_lf le hh12 c_le la hh13 c_la lb hh14 c_lb hh15 oW hdW hh16 FW NW
  have q1 : @LT.lt Nat _ s0 sl := c_sl
  have q2 : @LT.lt Nat _ sl bx := c_bx.1
  have q3 : @LT.lt Nat _ bx wd := c_wd.2.1
  have q4 : @LT.lt Nat _ wd d0 := od.1
  have q5 : @LT.lt Nat _ d0 x0 := odx
  have q6 : @LT.lt Nat _ x0 y1 := oxy
  have q7 : @LT.lt Nat _ y1 y2 := oyy
  have q8 : @LT.lt Nat _ y2 lf := c_lf.2.2.2.1
  have q9 : @LT.lt Nat _ lf le := c_le.1
  have q10 : @LT.lt Nat _ le la := c_la.1
  have q11 : @LT.lt Nat _ la lb := c_lb.1
  clear c_sl c_bx c_tu c_wd od odx oxy oyy ox oy1 oy2 c_lf c_le c_la c_lb lT hdW0 hlo
  have v0 := Nat.lt_trans q4 q5
  have v1 := Nat.lt_trans v0 q6
  have v2 := Nat.lt_trans v1 q7
  have v3 := Nat.lt_trans v2 q8
  have v4 := Nat.lt_trans v3 q9
  have v5 := Nat.lt_trans v4 q10
  have hbd := Nat.lt_trans v5 q11
  have N9 : News h₀ L hh16 ((lb, W.listOf #[Value.int (1 + r) tkr, Value.int (1 + r + r2) (tk03 + 1 + 1 + 1 + 1 + 1 + 1)] 0) :: (wd, oW) :: [(la, W.listOf #[] 0), (le, W.listOf #[] 0), (lf, W.listOf #[] 0), (x0, instObj 180 d0), (d0, outD w t01 t02 t03 (Value.bytes #[] tb0) (Value.ref y1) (Value.ref y2)), (y1, W.listOf #[] n01), (y2, W.listOf #[] n02), (bx, W.listOf #[Value.ref sl, Value.int (0 + 1 + 1) t'] n'), (sl, W.listOf ws.toArray csl)]) := fun p hp => NW p (picks_sub [0, 8, 1, 2, 3, 4, 5, 6, 7, 10, 11] p hp)
  have hZw : OwnOff [(la, W.listOf #[] 0), (le, W.listOf #[] 0), (lf, W.listOf #[] 0), (x0, instObj 180 d0), (d0, outD w t01 t02 t03 (Value.bytes #[] tb0) (Value.ref y1) (Value.ref y2)), (y1, W.listOf #[] n01), (y2, W.listOf #[] n02), (bx, W.listOf #[Value.ref sl, Value.int (0 + 1 + 1) t'] n'), (sl, W.listOf ws.toArray csl)] [wd] := by
    exact ownoff_cons (one_c (Nat.ne_of_gt v5)) (ownoff_cons (one_c (Nat.ne_of_gt v4)) (ownoff_cons (one_c (Nat.ne_of_gt v3)) (ownoff_cons (one_c (Nat.ne_of_gt v0)) (ownoff_cons (one_c (Nat.ne_of_gt q4)) (ownoff_cons (one_c (Nat.ne_of_gt v1)) (ownoff_cons (one_c (Nat.ne_of_gt v2)) (ownoff_cons (one_c (Nat.ne_of_lt q3)) (ownoff_cons (one_c (Nat.ne_of_lt (Nat.lt_trans q2 q3))) fun _ h => nomatch h))))))))
  clear NW v0 v1 v2 v3 v4 v5
  generalize hZ : [(la, W.listOf #[] 0), (le, W.listOf #[] 0), (lf, W.listOf #[] 0), (x0, instObj 180 d0), (d0, outD w t01 t02 t03 (Value.bytes #[] tb0) (Value.ref y1) (Value.ref y2)), (y1, W.listOf #[] n01), (y2, W.listOf #[] n02), (bx, W.listOf #[Value.ref sl, Value.int (0 + 1 + 1) t'] n'), (sl, W.listOf ws.toArray csl)] = Z at N9 hZw
  unfold Held
  k_dflt (refine LCg.ListComp_U (F₀ := by k_asm) (by with_unfolding_all rfl) (by decide) (by rfl) (by decide) (by rfl) ?_)
  iterate 4 (first | (k_unfold; (try dsimp only)) | walk1 | (dsimp only; walk1))
  rename Fr _ _ _ _ => F3
  rename News _ _ _ _ => N3
  refine LCg.CompSrc.ledger (k := 0) rfl F3 N3 (.head _) ?hz1 ?zf1
  case' zf1 => intro g
  case hz1 => size_fits
  clear F3 N3
  refine succ_at (val := Value.int (1 + r) _) (fun v hv => Option.some.inj hv) ?zf2
  case' zf2 => intro I oI C oC D9 m₂ h9 tk9 E' hC hx F4 N4 off ne
  k_steps
  rename News _ _ _ _ => N5
  rename Fr _ _ _ _ => F5
  rename_i e1 hh17 oE0 hlo1 hdE0 le1 cE1
  unfold Held
  k_dflt (refine' crypto_in_c ?B1 F5 ?X1 N5 ?Tp1 rfl ?hd1 ?hu1 ?_)
  case B1 => k_asm
  case X1 => k_asm
  case Tp1 => k_asm
  case hd1 => first | decide | walk_at "mine room"
  case hu1 => first | decide | walk_at "mine room"
  intro x1 d1 w1 t11 t12 t13 tt1 nw1 h10 tk10 F6 N6 ax ad aw adx axw
  clear F4 N4 F5 N5
  simp only [AllLt] at ax ad aw
  k_steps
  rename Fr _ _ _ _ => F7
  rename News _ _ _ _ => N7
  rename Obj.IsDictOf _ _ _ => hd1
  rename_i hh18 oE1
  have q12 : @LT.lt Nat _ lb e1 := le1.2.2.2.1
  have q13 : @LT.lt Nat _ e1 d1 := ad.1
  have q14 : @LT.lt Nat _ d1 x1 := adx
  have q15 : @LT.lt Nat _ x1 w1 := axw
  refine LCg.CompEnd.intro F7 N7 _ (sub_end1) ?off1 ?S1 ?rest1
  case off1 =>
    clear ne
    refine off3_grow off grow4 ?_
    clear off
    have u1 : @LT.lt Nat _ I e1 := le1.1
    have u2 : @LT.lt Nat _ C e1 := le1.2.1
    have u3 : @LT.lt Nat _ D9 e1 := le1.2.2.1
    exact List.forall_mem_cons.mpr ⟨⟨Nat.ne_of_gt (u1), Nat.ne_of_gt (u2), Nat.ne_of_gt (u3)⟩, List.forall_mem_cons.mpr ⟨⟨Nat.ne_of_gt (Nat.lt_trans (Nat.lt_trans u1 q13) q14), Nat.ne_of_gt (Nat.lt_trans (Nat.lt_trans u2 q13) q14), Nat.ne_of_gt (Nat.lt_trans (Nat.lt_trans u3 q13) q14)⟩, List.forall_mem_cons.mpr ⟨⟨Nat.ne_of_gt (Nat.lt_trans u1 q13), Nat.ne_of_gt (Nat.lt_trans u2 q13), Nat.ne_of_gt (Nat.lt_trans u3 q13)⟩, List.forall_mem_cons.mpr ⟨⟨Nat.ne_of_gt (Nat.lt_trans (Nat.lt_trans (Nat.lt_trans u1 q13) q14) q15), Nat.ne_of_gt (Nat.lt_trans (Nat.lt_trans (Nat.lt_trans u2 q13) q14) q15), Nat.ne_of_gt (Nat.lt_trans (Nat.lt_trans (Nat.lt_trans u3 q13) q14) q15)⟩, List.forall_mem_nil _⟩⟩⟩⟩
  case S1 => exact .inr ⟨_, .tail _ (.tail _ (.tail _ (.tail _ (.head _)))), rfl, _, rfl⟩
  clear F7 N7 F6 N6 off ne le1 ax ad aw cE1 hdE0 hC hx
  refine succ_at (val := Value.int (1 + r + r2) _) (fun v hv => Option.some.inj hv) ?zf3
  case' zf3 => intro I2 oI2 C2 oC2 D2 m3 h11 tk11 E2 hC2 hx2 F4 N4 off2 ne2
  try dsimp only [List.cons_append, List.nil_append] at N4 off2
  k_steps
  rename News _ _ _ _ => N5
  rename Fr _ _ _ _ => F5
  rename_i e2 hh19 oE2 hlo2 hdE2 le2 cE2 
  unfold Held
  k_dflt (refine' crypto_in_c ?B2 F5 ?X2 N5 ?Tp2 rfl ?hd2 ?hu2 ?_)
  case B2 => k_asm
  case X2 => k_asm
  case Tp2 => k_asm
  case hd2 => first | decide | walk_at "mine room"
  case hu2 => first | decide | walk_at "mine room"
  intro x2 d2 w2 t21 t22 t23 tt2 nw2 h12 tk12 F6 N6 bx2 bd2 bw2 bdx bxw
  clear F4 N4 F5 N5
  simp only [AllLt] at bx2 bd2 bw2
  k_steps
  rename Fr _ _ _ _ => F7
  rename News _ _ _ _ => N7
  rename Obj.IsDictOf _ _ _ => hd2
  rename_i hh20 oE3
  have q16 : @LT.lt Nat _ w1 e2 := le2.2.2.2.2.2.2.1
  have q17 : @LT.lt Nat _ e2 d2 := bd2.1
  have q18 : @LT.lt Nat _ d2 x2 := bdx
  have q19 : @LT.lt Nat _ x2 w2 := bxw
  refine LCg.CompEnd.intro F7 N7 _ (sub_end1) ?off2 ?S2 ?rest2
  case off2 =>
    clear ne2
    refine off3_grow off2 grow4 ?_
    clear off2
    have u1 : @LT.lt Nat _ I2 e2 := le2.1
    have u2 : @LT.lt Nat _ C2 e2 := le2.2.1
    have u3 : @LT.lt Nat _ D2 e2 := le2.2.2.1
    exact List.forall_mem_cons.mpr ⟨⟨Nat.ne_of_gt (u1), Nat.ne_of_gt (u2), Nat.ne_of_gt (u3)⟩, List.forall_mem_cons.mpr ⟨⟨Nat.ne_of_gt (Nat.lt_trans (Nat.lt_trans u1 q17) q18), Nat.ne_of_gt (Nat.lt_trans (Nat.lt_trans u2 q17) q18), Nat.ne_of_gt (Nat.lt_trans (Nat.lt_trans u3 q17) q18)⟩, List.forall_mem_cons.mpr ⟨⟨Nat.ne_of_gt (Nat.lt_trans u1 q17), Nat.ne_of_gt (Nat.lt_trans u2 q17), Nat.ne_of_gt (Nat.lt_trans u3 q17)⟩, List.forall_mem_cons.mpr ⟨⟨Nat.ne_of_gt (Nat.lt_trans (Nat.lt_trans (Nat.lt_trans u1 q17) q18) q19), Nat.ne_of_gt (Nat.lt_trans (Nat.lt_trans (Nat.lt_trans u2 q17) q18) q19), Nat.ne_of_gt (Nat.lt_trans (Nat.lt_trans (Nat.lt_trans u3 q17) q18) q19)⟩, List.forall_mem_nil _⟩⟩⟩⟩
  case S2 => exact .inr ⟨_, .tail _ (.tail _ (.tail _ (.tail _ (.tail _ (.tail _ (.tail _ (.tail _ (.head _)))))))), rfl, _, rfl⟩
  clear F7 N7 F6 N6 off2 ne2 le2 bx2 bd2 bw2 cE2 hdE2 hC2 hx2
  refine LCg.CompRest.zero ?zf4
  case' zf4 => intro Dl h13 tk13 F8 N8 off3
  try dsimp only [List.nil_append, List.cons_append] at N8
  dsimp only
  have u1 := Nat.lt_trans hbd q12
  have u2 := Nat.lt_trans u1 q13
  have u3 := Nat.lt_trans u2 q14
  have u4 := Nat.lt_trans u3 q15
  have u5 := Nat.lt_trans u4 q16
  have u6 := Nat.lt_trans u5 q17
  have u7 := Nat.lt_trans u6 q18
  have u8 := Nat.lt_trans u7 q19
  have hY : OwnOff ((Dl, LCg.lst [Value.ref e1, Value.ref e2]) :: (e2, oE3) :: (x2, instObj 124 d2) :: (d2, inD w t21 t22 t23 (Value.int (1 + r + r2) (tk03 + 1 + 1 + 1 + 1 + 1 + 1)) (Value.int 0 tt2) (Value.ref w2)) :: (w2, W.listOf #[] nw2) :: (e1, oE1) :: (x1, instObj 124 d1) ::
      (d1, inD w t11 t12 t13 (Value.int (1 + r) tkr) (Value.int 0 tt1) (Value.ref w1)) :: (w1, W.listOf #[] nw1) :: (lb, W.listOf #[Value.int (1 + r) tkr, Value.int (1 + r + r2) (tk03 + 1 + 1 + 1 + 1 + 1 + 1)] 0) :: Z) [wd] := by
    exact ownoff_cons (one_c (Ne.symm off3.2.2.2.2.2.2.2.2.2.1)) (ownoff_cons (one_c (Nat.ne_of_gt u5)) (ownoff_cons (one_c (Nat.ne_of_gt u7)) (ownoff_cons (one_c (Nat.ne_of_gt u6)) (ownoff_cons (one_c (Nat.ne_of_gt u8)) (ownoff_cons (one_c (Nat.ne_of_gt u1)) (ownoff_cons (one_c (Nat.ne_of_gt u3)) (ownoff_cons (one_c (Nat.ne_of_gt u2)) (ownoff_cons (one_c (Nat.ne_of_gt u4)) (ownoff_cons (one_c (Nat.ne_of_gt hbd)) hZw)))))))))
  clear u1 u2 u3 u4 u5 u6 u7 u8
  have N9 : News h₀ L h13 ((wd, oW) :: (Dl, LCg.lst [Value.ref e1, Value.ref e2]) :: (e2, oE3) :: (x2, instObj 124 d2) :: (d2, inD w t21 t22 t23 (Value.int (1 + r + r2) (tk03 + 1 + 1 + 1 + 1 + 1 + 1)) (Value.int 0 tt2) (Value.ref w2)) :: (w2, W.listOf #[] nw2) :: (e1, oE1) :: (x1, instObj 124 d1) ::
      (d1, inD w t11 t12 t13 (Value.int (1 + r) tkr) (Value.int 0 tt1) (Value.ref w1)) :: (w1, W.listOf #[] nw1) :: (lb, W.listOf #[Value.int (1 + r) tkr, Value.int (1 + r + r2) (tk03 + 1 + 1 + 1 + 1 + 1 + 1)] 0) :: Z) := fun p hp => N8 p (sub_ix [_, _, _, _, _, _, _, _, _, _, _] [10, 0, 1, 2, 3, 4, 5, 6, 7, 8, 9] p hp)
  clear N8
  obtain ⟨tq1, hd1'⟩ : ∃ tq1, oE1.IsDictOf (PySem.strKind P0 w) [(Str.ofString "in", Value.ref x1), (Str.ofString "told", Value.bytes #[] tq1)] := ⟨_, hd1⟩
  obtain ⟨tq2, hd2'⟩ : ∃ tq2, oE3.IsDictOf (PySem.strKind P0 w) [(Str.ofString "in", Value.ref x2), (Str.ofString "told", Value.bytes #[] tq2)] := ⟨_, hd2⟩
  clear hd1 hd2
  have hdW' : oW.IsDictOf (PySem.strKind P0 w) [(Str.ofString "out", Value.ref x0), (Str.ofString "put", Value.bytes #[] (tk03 + 1)), (Str.ofString "flying", Value.ref lf), (Str.ofString "elder", Value.ref le), (Str.ofString "acked", Value.ref la), (Str.ofString "bounds", Value.ref lb)] := hdW
  clear hdW hZw
  generalize tk03 + 1 + 1 + 1 + 1 + 1 + 1 = tb2 at hY N9
  generalize hYY : ((Dl, LCg.lst [Value.ref e1, Value.ref e2]) :: (e2, oE3) :: _ : List (Addr × Obj)) = Y at N9 hY
  k_steps
  unfold Held
  rename Fr _ _ _ _ => F9
  rename News _ _ _ _ => N10
  rename Obj.IsDictOf _ _ _ => hdd
  have e2' : (0 + 1 + 1 : Int) = 2 + 3 * ((0 : Nat) : Int) := by decide
  rw [e2'] at hZ
  subst hYY
  subst hZ
  clear F8 hdW' hY
  k_dflt (refine' first_deed_c q2 q3 q4 q5 q6 q7 q8 q9 q10 q11 q12 q13 q14 q15 q16 q17 q18 q19 off3.1 off3.2.1 off3.2.2.1 off3.2.2.2.2.1 off3.2.2.2.2.2.1 off3.2.2.2.2.2.2.1 off3.2.2.2.2.2.2.2.2.2.1 off3.2.2.2.2.2.2.2.2.2.2.2.2.1 off3.2.2.2.2.2.2.2.2.2.2.2.2.2.1 off3.2.2.2.2.2.2.2.2.2.2.2.2.2.2.1 off3.2.2.2.2.2.2.2.2.2.2.2.2.2.2.2.2.2.1 ?Bf F9 ?Xf ?Tpf rfl N10 hdd hd1' hd2' hr0 hr2 ?hdf ?huf ?_)
  case Bf => k_asm
  case Xf => k_asm
  case Tpf => k_asm
  case hdf => walk_at "mine room"
  case huf => walk_at "mine room"
  intro a0 R0 T0 nx ha tka hwD hl1 hsl hTR0 Fa Na Wa
  clear F9 N10
  k_steps
  unfold Held
  have hm1 : ∀ p ∈ lfr a0 bx tkr, (fun y => if y = Str.ofString "world" then some (Value.ref wd) else if y = Str.ofString "first" then some (Value.int (1 + r) tkr) else if y = Str.ofString "more" then some (Value.int r2 t'') else if y = Str.ofString "box" then some (Value.ref bx) else List.lookup y [(Str.ofString "script", Value.ref sc)]) p.1 = some p.2 := by
    unfold lfr
    rw [hwD, hl1]
    walk_at "mine fr"
  k_dflt (refine' turns_c (tf := tkr) ?Bp Fa ?Xp Na ?Tpp Wa hsl hIw ?hns hTR0 hm1 (by rfl) hE0 ?hdp ?hup ?_)
  case hns => (rw [hl1']; lia)
  walk_at "law part"
  intro m2 nx2 hb tkb Fb Nb Wb hm2
  clear Fa Na Wa
  k_steps
  unfold Held
  refine hide fun G9 k9 => ?_
  obtain ⟨st, v, tl, t9, n9, e1', e2'', rfl, Ib, Sb, hoffb, Ab, Vb, hzb, hfb, heb⟩ := Wb
  refine k9 ?_
  clear k9
  replace Nb := news_drop1 Nb
  have hTRb : ∀ p ∈ tl ++ T0, p ∈ tl ++ R0 := sub_mv hTR0
  k_dflt (refine' flush1_c ?Bp Fb ?Xp Nb ?Tpp Ib Sb Vb hTRb hm2 (by rfl) hE0 ?hdp ?hup ?_)
  walk_at "law part"
  intro m3 vd tlc hc tkc Fc Nc Ac Ic Sc hm3
  clear Fb Nb
  obtain ⟨Vc, hdc, _, _, _, _⟩ := lost_all Vb Vb.fly
  have Vd := flush_inv Vb
  have hTRc : ∀ p ∈ tlc ++ (tl ++ T0), p ∈ tlc ++ (tl ++ R0) := sub_mv hTRb
  generalize hstc : lostAll st st.fly = stc at *
  have hzc : 0 < stc.data.size := by rw [hdc]; exact hzb
  k_steps
  unfold Held
  k_dflt (refine' flush2_c (st := stc) ?Bp Fc ?Xp Nc ?Tpp Ic ⟨Sc.nd, Sc.lf9, Sc.hO, Sc.hOf⟩ (Vc.due.len15 Vc.n1) hTRc hm3 (by rfl) hE0 ?hdp ?hup ?_)
  walk_at "law part"
  intro m4 oWd ld nd ts tld hd tkd Fd Nd Ad Id Sd hm4
  clear Fc Nc
  have hTRd : ∀ p ∈ tld ++ (tlc ++ (tl ++ T0)), p ∈ tld ++ (tlc ++ (tl ++ R0)) := sub_mv hTRc
  have hcp := count_pos Vc.due.nf
  have hcn := Vc.due.count (by lia)
  have hn15 := Vc.n1
  k_steps
  unfold Held
  k_dflt (refine' flush3_c (n := countL stc.due) (T := tld ++ (tlc ++ (tl ++ T0))) (R := tld ++ (tlc ++ (tl ++ R0))) ?Bp Fd ?Xp Nd ?Tpp ⟨_, _, [], _, _, rfl, Id, Sd, Apart.nil, Vd, hzc, rfl, .inr (by show countL stc.due + ((0 : Nat) : Int) ≤ countL stc.due; lia)⟩ hcp.1 (by lia) hTRd hm4 (by rfl) hE0 ?hdp ?hup ?_)
  walk_at "law part"
  intro m5 nx5 he tke Fe Ne9 We hm5
  clear Fd Nd
  refine hide fun G9 k9 => ?_
  obtain ⟨ste, ve, tle, f1, f2, rfl, Ie, Se, Ae, Ve, hze, hfe, hde⟩ := We
  have hdue : ste.due = [] := by
    rcases hde with h | h
    · exact h
    · have h2 := count_pos Ve.due.nf
      exact h2.2 (by lia)
  obtain ⟨g1, g2, g3, g4, g5⟩ := flush_end Ve hfe hdue hze
  have hTRe : ∀ p ∈ tle ++ (tld ++ (tlc ++ (tl ++ T0))), p ∈ tle ++ (tld ++ (tlc ++ (tl ++ R0))) := sub_mv hTRd
  have hdz : ste.data.size ≤ 1000 := Nat.le_trans Ve.n1 (by decide)
  refine k9 ?_
  clear k9
  k_steps
  unfold Held
  k_dflt (refine' ends_c ?Bp Fe ?Xp Ne9 ?Tpp Ie hdz g2 g3 g4 g5 hTRe hm5 (by rfl) hE0 ?hdp ?hup ?_)
  walk_at "law part"
  intro m6 hf tkf Ff Nf hm6
  clear Fe Ne9
  k_steps
  unfold Held
  k_dflt (refine' last_c ?Bp Ff ?Xp Nf ?Tpp Ie Se hze hdz g1 hdue hTRe hm6 (by rfl) hE0 ?hdp ?hup ?_)
  walk_at "law part"
  intro m7 nx7 hg tkg Fg Ng
  clear Ff Nf
  exact ret _ _ _ _ Fg Ng
end law_body_c_k
section
variable {w : World} {p : Program} {loose : List Str} {mean : ExcName → Option Value} {mg mb : Str → Option Value} {dp un : Nat} {gd : Option (List Code)} {cn : Str} {cs : Scope} {a : Addr} {ccd : Value} {cl : List (Str × Addr)} {outer : List Env} {A₀ : Around} {base h₀ : Heap} {L : Addr} {m : Str → Option Value} {R T : List (Addr × Obj)} {s : Shared} {v : Value} {Q E : Value → Shared → Prop}
theorem law_body_c {sc : Addr} {vs : List Value} {ns : List Int} {Q : Flow → Shared → Prop} :
  law_body_c_k.St w p loose mean mg mb dp un gd a ccd A₀ h₀ L s E sc vs ns Q := all_eps (S := law_body_c_k.S) law_body_c_k.walk (((w, p, loose, mean, mg, mb, dp, un, gd, (cx_cn cx0), (cx_cs cx0), a, ccd, (cx_cl cx0), (cx_outer cx0), A₀, (cx_base cx0), h₀, L, (cx_m cx0), (cx_R cx0), (cx_T cx0), s, (cx_v cx0), (cx_Q cx0), E), fn [] default, fn [sc] default, fn [] default, fn [] default, fn [] [], fn [] #[], fn [] []), ((vs, ns), Q))
end
end Mine

set_option maxRecDepth 100000 in
set_option maxHeartbeats 8000000 in
theorem PySem.Challenge.cw_sj0108_01_holds : PySem.Challenge.rw_sj0108_01.Holds :=
  Mine.hd (by
  w_strict (
    k_go0
    rename ¬ _ < _ => hc
    k_dflt (refine' Mine.law_body_c ?B ?F ?X ?Tp ?hL ?hi ?hns ?hE ?hdp ?hun ?_)
    case B => k_asm
    case F => k_asm
    case X => k_asm
    case Tp => k_asm
    case hL => assumption
    case hi => assumption
    case hns => lia
    case hE => passes_own
    case hdp => decide
    case hun => decide
    intro m' nx h' tk' F' N'
    first | (k_end; wrow_close) | wrow_close | (dsimp only; wrow_close) | k_steps
    ))

end
