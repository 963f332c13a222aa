import PyProof.Rows.All
import Wide.All
import OpenK.AllK
import Wide.FinOn
import HandS.ForMost
import HandS.ForExc
import HandS.Wide
import HandS.EndBits
import HandS.TryMany
import HandS.TryElse
import HandS.Strs
import HandS.IsInst
import HandS.More
import HandS.Conv
import PySem.Challenge.RW_tallyveil_k01_names_and_numbers
set_option Elab.async false
set_option linter.all false
set_option maxRecDepth 100000
/-! A layer over HandS: values told by plain Lean data, a def's body by a plain function in Option. -/
namespace M
open PySem PySem.Spec PyProof.Rows L2

/-! ### weakening of the readings -/
section
variable {X : Cx} {e : Expr} {es : List Expr} {st : Stmt} {sts : List Stmt}
theorem pe_le {t t' : TE} (h : PE X e t) (i : ∀ σ H Q, t' σ H Q → t σ H Q) : PE X e t' := ⟨fun pins s σ H Q I q => h.run pins s σ H Q I (i _ _ _ q)⟩
theorem pt_le {t t' : TT} (h : PT X e t) (i : ∀ σ H Q, t' σ H Q → t σ H Q) : PT X e t' := ⟨fun pins s σ H Q I q => h.run pins s σ H Q I (i _ _ _ q)⟩
theorem pa_le {t t' : TA} (h : PA X es t) (i : ∀ σ H Q, t' σ H Q → t σ H Q) : PA X es t' := ⟨fun pos pins s σ H Q I q => h.run pos pins s σ H Q I (i _ _ _ q)⟩
theorem ps_le {t t' : TS} (h : PS X st t) (i : ∀ D σ H, t' D σ H → t D σ H) : PS X st t' := ⟨fun pins s σ H D I q => h.run pins s σ H D I (i _ _ _ q)⟩
theorem pss_le {t t' : TS} (h : PSs X sts t) (i : ∀ D σ H, t' D σ H → t D σ H) : PSs X sts t' := ⟨fun pins s σ H D I q => h.run pins s σ H D I (i _ _ _ q)⟩
theorem pe_ex {ι : Sort _} {t : ι → TE} (h : ∀ i, PE X e (t i)) : PE X e (fun σ H Q => ∃ i, t i σ H Q) := ⟨fun pins s σ H Q I ⟨i, q⟩ => (h i).run pins s σ H Q I q⟩
theorem pt_ex {ι : Sort _} {t : ι → TT} (h : ∀ i, PT X e (t i)) : PT X e (fun σ H Q => ∃ i, t i σ H Q) := ⟨fun pins s σ H Q I ⟨i, q⟩ => (h i).run pins s σ H Q I q⟩
theorem pss_ex {ι : Sort _} {t : ι → TS} (h : ∀ i, PSs X sts (t i)) : PSs X sts (fun D σ H => ∃ i, t i D σ H) := ⟨fun pins s σ H D I ⟨i, q⟩ => (h i).run pins s σ H D I q⟩
end

/-! ### heaps -/
def isDct : HO → Bool
  | .dK _ => true
  | .dT _ => true
  | _ => false
def plainO : HO → Bool
  | .dK _ => false
  | .dT _ => false
  | .frz _ (.dK _) => false
  | .frz _ (.dT _) => false
  | _ => true
/-- all that is read in H is read so in H' (a dict may be locked or let go) -/
def Up (H H' : Hp) : Prop := (∀ a u, plainO u = true → H a = some u → H' a = some u) ∧ ∀ a u, isDct u = true → Rd H a u → Rd H' a u
theorem Up.refl (H : Hp) : Up H H := ⟨fun _ _ _ h => h, fun _ _ _ h => h⟩
theorem Up.trans {H H1 H2 : Hp} (a : Up H H1) (b : Up H1 H2) : Up H H2 := ⟨fun x u p h => b.1 x u p (a.1 x u p h), fun x u p h => b.2 x u p (a.2 x u p h)⟩
theorem Up.same {H H' : Hp} (s : Same H H') : Up H H' := ⟨fun a u _ h => s a u h, fun a u _ h => by
  rcases h with h | ⟨o, h⟩
  · exact .inl (s a u h)
  · exact .inr ⟨o, s a _ h⟩⟩
def cut (H : Hp) (A : List Addr) : Hp := fun a => if a ∈ A then none else H a
theorem cut_out {H : Hp} {A : List Addr} {a : Addr} (h : a ∉ A) : cut H A a = H a := if_neg h
theorem cut_in {H : Hp} {A : List Addr} {a : Addr} (h : a ∈ A) : cut H A a = none := if_pos h
theorem cut_nil (H : Hp) : cut H [] = H := funext fun a => cut_out (by simp)
theorem cut_le {H : Hp} {A : List Addr} {a : Addr} {o : HO} (h : cut H A a = some o) : H a = some o ∧ a ∉ A := by
  by_cases m : a ∈ A
  · rw [cut_in m] at h; cases h
  · rw [cut_out m] at h; exact ⟨h, m⟩
theorem Up.cut {H H' : Hp} (u : Up H H') (A : List Addr) : Up (cut H A) (cut H' A) := by
  refine ⟨fun a o p h => ?_, fun a o p h => ?_⟩
  · obtain ⟨h1, h2⟩ := cut_le h
    rw [cut_out h2]; exact u.1 a o p h1
  · have : Rd H a o ∧ a ∉ A := by
      rcases h with h | ⟨q, h⟩
      · exact ⟨.inl (cut_le h).1, (cut_le h).2⟩
      · exact ⟨.inr ⟨q, (cut_le h).1⟩, (cut_le h).2⟩
    rcases u.2 a o p this.1 with h' | ⟨q, h'⟩
    · exact .inl (by rw [cut_out this.2]; exact h')
    · exact .inr ⟨q, by rw [cut_out this.2]; exact h'⟩
theorem same_cut {H H' : Hp} (s : Same H H') (A : List Addr) : Up (M.cut H A) (M.cut H' A) := (Up.same s).cut A
theorem cut_sub {H : Hp} {A A' : List Addr} (h : ∀ a ∈ A', a ∈ A) : Same (cut H A) (cut H A') := fun a o e => by
  obtain ⟨h1, h2⟩ := cut_le e
  rw [cut_out fun m => h2 (h a m)]; exact h1
theorem cut_same {H : Hp} {A : List Addr} : Same (cut H A) H := fun a o e => (cut_le e).1

/-! ### data and what tells it -/
class Py (α : Type) where
  rep : PySem.W.Frag → Hp → V → α → Prop
  up : ∀ {K : PySem.W.Frag} {H H' : Hp} {v : V} {x : α}, Up H H' → rep K H v x → rep K H' v x
/-- nothing of it is ever changed -/
class Imm (α : Type) [Py α] : Prop where
  imm : ∀ {K : PySem.W.Frag} {H : Hp} {v : V} {x : α} {A : List Addr}, (∀ p ∈ A, Mut (H p)) → Py.rep K H v x → Py.rep K (cut H A) v x
/-- a container: what stands at its address -/
class Own (α : Type) extends Py α where
  cont : PySem.W.Frag → Hp → HO → α → Prop
  cup : ∀ {K : PySem.W.Frag} {H H' : Hp} {o : HO} {x : α}, Up H H' → cont K H o x → cont K H' o x
  cmut : ∀ {K : PySem.W.Frag} {H : Hp} {o : HO} {x : α}, cont K H o x → Mut (some o)
  crep : ∀ {K : PySem.W.Frag} {H : Hp} {p : Addr} {o : HO} {x : α}, H p = some o → cont K H o x → rep K H (.ref p) x
/-- a container of what is never changed -/
class Flat (α : Type) [Own α] : Prop where
  flat : ∀ {K : PySem.W.Frag} {H : Hp} {o : HO} {x : α} {A : List Addr}, (∀ p ∈ A, Mut (H p)) → Own.cont K H o x → Own.cont K (cut H A) o x

instance : Py Int := ⟨fun _ _ v x => v = .int x, fun _ h => h⟩
instance : Imm Int := ⟨fun _ h => h⟩
instance : Py Bool := ⟨fun _ _ v x => v = .bl x, fun _ h => h⟩
instance : Imm Bool := ⟨fun _ h => h⟩
instance : Py Str := ⟨fun _ _ v x => v = .str x, fun _ h => h⟩
instance : Imm Str := ⟨fun _ h => h⟩
instance : Py Unit := ⟨fun _ _ v _ => v = .non, fun _ h => h⟩
instance : Imm Unit := ⟨fun _ h => h⟩
theorem imm_tup {H : Hp} {A : List Addr} {a : Addr} {vs : List V} (m : ∀ p ∈ A, Mut (H p)) (h : H a = some (.tup vs)) : cut H A a = some (.tup vs) := by
  rw [cut_out fun q => by have := m a q; rw [h] at this; exact this]; exact h
instance {α β : Type} [Py α] [Py β] : Py (α × β) := ⟨fun K H v x => ∃ a v1 v2, v = .ref a ∧ H a = some (.tup [v1, v2]) ∧ Py.rep K H v1 x.1 ∧ Py.rep K H v2 x.2, fun u ⟨a, v1, v2, e, h, r1, r2⟩ => ⟨a, v1, v2, e, u.1 a _ rfl h, Py.up u r1, Py.up u r2⟩⟩
instance {α β : Type} [Py α] [Py β] [Imm α] [Imm β] : Imm (α × β) := ⟨fun m ⟨a, v1, v2, e, h, r1, r2⟩ => ⟨a, v1, v2, e, imm_tup m h, Imm.imm m r1, Imm.imm m r2⟩⟩
/-- None, or something -/
instance {α : Type} [Py α] : Py (Option α) := ⟨fun K H v x => match x with | none => v = .non | some y => v ≠ .non ∧ Py.rep K H v y, fun {K H H' v x} u h => match x, h with | none, h => h | some _, h => ⟨h.1, Py.up u h.2⟩⟩
instance {α : Type} [Py α] [Imm α] : Imm (Option α) := ⟨fun {K H v x A} m h => match x, h with | none, h => h | some _, h => ⟨h.1, Imm.imm m h.2⟩⟩
theorem paired_up {α β : Type} {F G : α → β → Prop} {l₁ : List α} {l₂ : List β} (h : Paired F l₁ l₂) (f : ∀ a b, F a b → G a b) : Paired G l₁ l₂ := Paired.mapP h f
/-- a tuple of any number of like things -/
structure Tup (α : Type) where
  items : List α
  deriving DecidableEq
instance {α : Type} [Py α] : Py (Tup α) := ⟨fun K H v x => ∃ a vs, v = .ref a ∧ H a = some (.tup vs) ∧ Paired (Py.rep K H) vs x.items, fun u ⟨a, vs, e, h, r⟩ => ⟨a, vs, e, u.1 a _ rfl h, paired_up r fun _ _ q => Py.up u q⟩⟩
instance {α : Type} [Py α] [Imm α] : Imm (Tup α) := ⟨fun m ⟨a, vs, e, h, r⟩ => ⟨a, vs, e, imm_tup m h, paired_up r fun _ _ q => Imm.imm m q⟩⟩
/-- a list -/
instance ownList {α : Type} [Py α] : Own (List α) where
  rep K H v xs := ∃ a vs, v = .ref a ∧ H a = some (.lst vs) ∧ Paired (Py.rep K H) vs xs
  up u := fun ⟨a, vs, e, h, r⟩ => ⟨a, vs, e, u.1 a _ rfl h, paired_up r fun _ _ q => Py.up u q⟩
  cont K H o xs := ∃ vs, o = .lst vs ∧ Paired (Py.rep K H) vs xs
  cup u := fun ⟨vs, e, r⟩ => ⟨vs, e, paired_up r fun _ _ q => Py.up u q⟩
  cmut := fun ⟨vs, e, r⟩ => by subst e; trivial
  crep h := fun ⟨vs, e, r⟩ => ⟨_, vs, rfl, by rw [h, e], r⟩
instance {α : Type} [Py α] [Imm α] : Flat (List α) := ⟨fun m ⟨vs, e, r⟩ => ⟨vs, e, paired_up r fun _ _ q => Imm.imm m q⟩⟩
/-- the law's script: a list that is only read -/
structure Scr where
  items : List Int
def ScrK (K : PySem.W.Frag) (a : Addr) (xs : List V) : Prop := ∃ (o : Obj) (its : Array Value) (n : Nat), K.lookup a = some o ∧ o.cls = .type "list" ∧ o.dict = none ∧ o.data = .seq its n ∧ its.size ≤ sizeLine ∧ Vals xs its.toList
instance : Py Scr := ⟨fun K H v x => ∃ a, v = .ref a ∧ ((∃ o, H a = some (.frz o (.lst (x.items.map V.int)))) ∨ ScrK K a (x.items.map V.int)), fun u ⟨a, e, h⟩ => ⟨a, e, h.imp (fun ⟨o, h⟩ => ⟨o, u.1 a _ rfl h⟩) id⟩⟩

/-! ### the slots of a frame -/
inductive Slot : Type 1 where
  | no
  | sro {α : Type} (i : Py α) (x : α)
  | sow {α : Type} (i : Own α) (x : α)
abbrev ro {α : Type} [i : Py α] (x : α) : Slot := .sro i x
abbrev ow {α : Type} [i : Own α] (x : α) : Slot := .sow i x
def RelS (K : PySem.W.Frag) (B H : Hp) : List Slot → L2.St → List Addr → Prop
  | [], σ, A => σ = [] ∧ A = []
  | .no :: Γ, σ, A => ∃ o τ, σ = o :: τ ∧ RelS K B H Γ τ A
  | .sro i x :: Γ, σ, A => ∃ v τ, σ = some v :: τ ∧ i.rep K B v x ∧ RelS K B H Γ τ A
  | .sow i x :: Γ, σ, A => ∃ p o τ A', σ = some (.ref p) :: τ ∧ A = p :: A' ∧ H p = some o ∧ i.cont K B o x ∧ RelS K B H Γ τ A'
theorem RelS.up {K : PySem.W.Frag} {B B' H H' : Hp} (u : Up B B') : ∀ {Γ : List Slot} {σ : L2.St} {A : List Addr}, (∀ p ∈ A, ∀ o, H p = some o → H' p = some o) → RelS K B H Γ σ A → RelS K B' H' Γ σ A
  | [], _, _, _, h => h
  | .no :: Γ, _, _, k, ⟨o, τ, e, h⟩ => ⟨o, τ, e, RelS.up u k h⟩
  | .sro i x :: Γ, _, _, k, ⟨v, τ, e, r, h⟩ => ⟨v, τ, e, i.up u r, RelS.up u k h⟩
  | .sow i x :: Γ, _, _, k, ⟨p, o, τ, A', e, ea, hp, c, h⟩ => ⟨p, o, τ, A', e, ea, k p (by rw [ea]; exact List.mem_cons_self) o hp, i.cup u c, RelS.up u (fun q hq => k q (by rw [ea]; exact List.mem_cons_of_mem _ hq)) h⟩
theorem RelS.mut {K : PySem.W.Frag} {B H : Hp} : ∀ {Γ : List Slot} {σ : L2.St} {A : List Addr}, RelS K B H Γ σ A → ∀ p ∈ A, Mut (H p)
  | [], _, _, h, p, m => by rw [h.2] at m; cases m
  | .no :: Γ, _, _, ⟨o, τ, e, h⟩, p, m => RelS.mut h p m
  | .sro i x :: Γ, _, _, ⟨v, τ, e, r, h⟩, p, m => RelS.mut h p m
  | .sow i x :: Γ, _, _, ⟨q, o, τ, A', e, ea, hp, c, h⟩, p, m => by
    rw [ea] at m
    rcases List.mem_cons.mp m with rfl | m
    · rw [hp]; exact i.cmut c
    · exact RelS.mut h p m

/-- the state: H0 what stood at the entry, A0 what a caller owns, A what this frame owns -/
structure Rel (K : PySem.W.Frag) (H0 : Hp) (A0 : List Addr) (Γ : List Slot) (σ : L2.St) (H : Hp) (A : List Addr) : Prop where
  nd : A.Nodup
  fr : ∀ p ∈ A, H0 p = none
  same : Same H0 H
  m0 : ∀ p ∈ A0, Mut (H0 p)
  sl : RelS K (cut H (A0 ++ A)) H Γ σ A
section
variable {K : PySem.W.Frag} {H0 H H' : Hp} {A0 A : List Addr} {Γ : List Slot} {σ : L2.St}
theorem Rel.grow (r : Rel K H0 A0 Γ σ H A) (s : Same H H') : Rel K H0 A0 Γ σ H' A := ⟨r.nd, r.fr, r.same.trans s, r.m0, RelS.up ((Up.same s).cut _) (fun p _ o e => s p o e) r.sl⟩
theorem mut_some {o : Option HO} (h : Mut o) : ∃ u, o = .some u := by
  cases o with
  | none => exact h.elim
  | some u => exact ⟨u, rfl⟩
theorem same_mut {H H' : Hp} (s : Same H H') {p : Addr} (m : Mut (H p)) : Mut (H' p) := by
  obtain ⟨u, e⟩ := mut_some m
  rw [s p u e]; rw [e] at m; exact m
theorem Rel.mut (r : Rel K H0 A0 Γ σ H A) : ∀ p ∈ A0 ++ A, Mut (H p) := fun p m => by
  rcases List.mem_append.mp m with m | m
  · exact same_mut r.same (r.m0 p m)
  · exact r.sl.mut p m
end

/-! ### an expression's value -/
structure Md (α : Type) where
  R : PySem.W.Frag → Hp → List Addr → Hp → V → α → Prop
  back : ∀ {K : PySem.W.Frag} {H H1 H2 : Hp} {A : List Addr} {v : V} {x : α}, Same H H1 → R K H1 A H2 v x → R K H A H2 v x
  fwd : ∀ {K : PySem.W.Frag} {H H1 H2 : Hp} {A : List Addr} {v : V} {x : α}, Same H1 H2 → R K H A H1 v x → R K H A H2 v x
  shr : ∀ {K : PySem.W.Frag} {H H1 : Hp} {A A' : List Addr} {v : V} {x : α}, (∀ a ∈ A', a ∈ A) → R K H A H1 v x → R K H A' H1 v x
/-- any value: to be read at once -/
def any {α : Type} [Py α] : Md α := ⟨fun K _ _ H v x => Py.rep K H v x, fun _ h => h, fun s h => Py.up (Up.same s) h, fun _ h => h⟩
/-- it is none of what is owned -/
def cl {α : Type} [Py α] : Md α := ⟨fun K _ A H v x => Py.rep K (cut H A) v x, fun _ h => h, fun s h => Py.up ((Up.same s).cut _) h, fun l h => Py.up (Up.same (cut_sub l)) h⟩
/-- a new container -/
def fr {α : Type} [Own α] : Md α := ⟨fun K H A H' v x => ∃ p o, v = .ref p ∧ H p = none ∧ H' p = some o ∧ Own.cont K (cut H' (p :: A)) o x,
  fun s ⟨p, o, e, n, h, c⟩ => ⟨p, o, e, s.free n, h, c⟩, fun s ⟨p, o, e, n, h, c⟩ => ⟨p, o, e, n, s p o h, Own.cup ((Up.same s).cut _) c⟩,
  fun l ⟨p, o, e, n, h, c⟩ => ⟨p, o, e, n, h, Own.cup (Up.same (cut_sub fun a m => (List.mem_cons.mp m).elim (fun z => by rw [z]; exact List.mem_cons_self) fun z => List.mem_cons_of_mem _ (l a z))) c⟩⟩
def MdLe {α : Type} (m m' : Md α) : Prop := ∀ {K : PySem.W.Frag} {H H' : Hp} {A : List Addr} {v : V} {x : α}, Same H H' → (∀ p ∈ A, Mut (H p)) → m.R K H A H' v x → m'.R K H A H' v x
theorem le_refl {α : Type} {m : Md α} : MdLe m m := fun _ _ h => h
theorem cl_any {α : Type} [Py α] : MdLe (cl : Md α) any := fun _ _ h => Py.up (Up.same cut_same) h
theorem any_cl {α : Type} [Py α] [Imm α] : MdLe (any : Md α) cl := fun s m h => Imm.imm (fun p q => same_mut s (m p q)) h
theorem fr_cl {α : Type} [Own α] : MdLe (fr : Md α) cl := fun {K H H' A v x} s m ⟨p, o, e, n, h, c⟩ => by
  subst e
  have hp : p ∉ A := fun q => by have := m p q; rw [n] at this; exact this
  exact Own.crep (by rw [cut_out hp]; exact h) (Own.cup (Up.same (cut_sub fun a q => List.mem_cons_of_mem _ q)) c)
theorem fr_any {α : Type} [Own α] : MdLe (fr : Md α) any := fun s m h => cl_any s m (fr_cl s m h)

def tE {α : Type} (K : PySem.W.Frag) (Γ : List Slot) (md : Md α) (r : Option α) : TE := fun σ H Q =>
  ∃ H0 A0 A x, Rel K H0 A0 Γ σ H A ∧ r = some x ∧ ∀ v H', Same H H' → md.R K H (A0 ++ A) H' v x → Q v H'
def tT (K : PySem.W.Frag) (Γ : List Slot) (r : Option Bool) : TT := fun σ H Q =>
  ∃ H0 A0 A x, Rel K H0 A0 Γ σ H A ∧ r = some x ∧ ∀ H', Same H H' → Q x H'
/-- arguments, told by data in the heap B -/
structure Args (α : Type) where
  R : PySem.W.Frag → Hp → List V → α → Prop
  up : ∀ {K : PySem.W.Frag} {H H' : Hp} {vs : List V} {x : α}, Up H H' → R K H vs x → R K H' vs x
  sl : α → List Slot
  rel : ∀ {K : PySem.W.Frag} {B : Hp} {vs : List V} {x : α}, R K B vs x → ∀ H, RelS K B H (sl x) (vs.map some) []
  n : Nat
  len : ∀ {K : PySem.W.Frag} {B : Hp} {vs : List V} {x : α}, R K B vs x → vs.length = n
def a0 : Args Unit := ⟨fun _ _ vs _ => vs = [], fun _ h => h, fun _ => [], fun h _ => ⟨by rw [h]; rfl, rfl⟩, 0, fun h => by rw [h]; rfl⟩
def ac {α β : Type} [Py α] (r : Args β) : Args (α × β) := ⟨fun K B vs x => ∃ v ws, vs = v :: ws ∧ Py.rep K B v x.1 ∧ r.R K B ws x.2,
  fun u ⟨v, ws, e, h, q⟩ => ⟨v, ws, e, Py.up u h, r.up u q⟩, fun x => ro x.1 :: r.sl x.2, fun ⟨v, ws, e, h, q⟩ H => ⟨v, ws.map some, by rw [e]; rfl, h, r.rel q H⟩,
  r.n + 1, fun ⟨v, ws, e, h, q⟩ => by rw [e, List.length_cons, r.len q]⟩
def tA {α : Type} (K : PySem.W.Frag) (Γ : List Slot) (ar : Args α) (c : Bool) (r : Option α) : TA := fun σ H Q =>
  ∃ H0 A0 A x, Rel K H0 A0 Γ σ H A ∧ r = some x ∧ ∀ vs H', Same H H' → ar.R K (cut H' (if c then A0 ++ A else [])) vs x → Q vs H'
def bind2 {α β γ : Type} (ra : Option α) (rb : Option β) (f : α → β → Option γ) : Option γ := ra.bind fun x => rb.bind fun y => f x y

section
variable {X : Cx} {e a b : Expr} {es : List Expr} {Γ : List Slot} {α β γ : Type} {pos : Pos}
theorem me_le {m m' : Md α} {r : Option α} (h : PE X e (tE X.K Γ m r)) (l : MdLe m m') : PE X e (tE X.K Γ m' r) :=
  pe_le h fun σ H Q ⟨H0, A0, A, x, R, er, k⟩ => ⟨H0, A0, A, x, R, er, fun v H' s q => k v H' s (l s R.mut q)⟩
theorem me_eq {m : Md α} {r r' : Option α} (h : PE X e (tE X.K Γ m r)) (q : r = r') : PE X e (tE X.K Γ m r') := q ▸ h
/-- two expressions in a row -/
theorem two {ra : Option α} {rb : Option β} {ma : Md α} {mb : Md β} {mg : Md γ} {f : α → β → Option γ} {r : R2}
    (hf : ∀ {H1 H2 : Hp} {A : List Addr} {v w : V} {x : α} {y : β} {z : γ}, Same H1 H2 → (∀ p ∈ A, Mut (H1 p)) → ma.R X.K H1 A H2 v x → mb.R X.K H1 A H2 w y → f x y = some z → ∀ Q : VK, (∀ u H', Same H2 H' → mg.R X.K H2 A H' u z → Q u H') → r v w H2 Q) :
    ∀ σ H Q, tE X.K Γ mg (bind2 ra rb f) σ H Q → tOp r (tE X.K Γ ma ra) (tE X.K Γ mb rb) σ H Q := by
  rintro σ H Q ⟨H0, A0, A, z, R, er, k⟩
  cases ra with
  | none => cases er
  | some x =>
    cases rb with
    | none => cases er
    | some y =>
      refine ⟨H0, A0, A, x, R, rfl, fun v H1 s1 q1 => ⟨H0, A0, A, y, R.grow s1, rfl, fun w H2 s2 q2 => ?_⟩⟩
      refine hf (s1.trans s2) R.mut (ma.fwd s2 q1) (mb.back s1 q2) er Q fun u H3 s3 q3 => k u H3 ((s1.trans s2).trans s3) (mg.back (s1.trans s2) q3)
theorem me_op {op : Operator} {ra : Option α} {rb : Option β} {ma : Md α} {mb : Md β} {mg : Md γ} {f : α → β → Option γ} {r : R2} (ho : OpR X (binaryOp op) r)
    (hf : ∀ {H1 H2 : Hp} {A : List Addr} {v w : V} {x : α} {y : β} {z : γ}, Same H1 H2 → (∀ p ∈ A, Mut (H1 p)) → ma.R X.K H1 A H2 v x → mb.R X.K H1 A H2 w y → f x y = some z → ∀ Q : VK, (∀ u H', Same H2 H' → mg.R X.K H2 A H' u z → Q u H') → r v w H2 Q)
    (ha : PE X a (tE X.K Γ ma ra)) (hb : PE X b (tE X.K Γ mb rb)) : PE X (.BinOp a op b pos) (tE X.K Γ mg (bind2 ra rb f)) := pe_le (pe_op ho ha hb) (two hf)
theorem me_cmp {op : CmpOp} {ra : Option α} {rb : Option β} {ma : Md α} {mb : Md β} {mg : Md γ} {f : α → β → Option γ} {r : R2} (ho : OpR X (compareOp op) r) (hm : behindInMarks op b = false)
    (hf : ∀ {H1 H2 : Hp} {A : List Addr} {v w : V} {x : α} {y : β} {z : γ}, Same H1 H2 → (∀ p ∈ A, Mut (H1 p)) → ma.R X.K H1 A H2 v x → mb.R X.K H1 A H2 w y → f x y = some z → ∀ Q : VK, (∀ u H', Same H2 H' → mg.R X.K H2 A H' u z → Q u H') → r v w H2 Q)
    (ha : PE X a (tE X.K Γ ma ra)) (hb : PE X b (tE X.K Γ mb rb)) : PE X (.Compare a [op] [b] pos) (tE X.K Γ mg (bind2 ra rb f)) := pe_le (pe_cmpR ho ha hb hm) (two hf)
theorem me_ix {ra : Option α} {rb : Option β} {ma : Md α} {mb : Md β} {mg : Md γ} {f : α → β → Option γ} {r : R2} (ho : IxR X r) (hm : PlainIx b)
    (hf : ∀ {H1 H2 : Hp} {A : List Addr} {v w : V} {x : α} {y : β} {z : γ}, Same H1 H2 → (∀ p ∈ A, Mut (H1 p)) → ma.R X.K H1 A H2 v x → mb.R X.K H1 A H2 w y → f x y = some z → ∀ Q : VK, (∀ u H', Same H2 H' → mg.R X.K H2 A H' u z → Q u H') → r v w H2 Q)
    (ha : PE X a (tE X.K Γ ma ra)) (hb : PE X b (tE X.K Γ mb rb)) : PE X (.Subscript a b pos) (tE X.K Γ mg (bind2 ra rb f)) := pe_le (pe_ix ho ha hb hm) (two hf)
/-- one expression, and what is done with its value -/
theorem one {ra : Option α} {ma : Md α} {mg : Md γ} {f : α → Option γ} {r : V → Hp → VK → Prop}
    (hf : ∀ {H1 H2 : Hp} {A : List Addr} {v : V} {x : α} {z : γ}, Same H1 H2 → (∀ p ∈ A, Mut (H1 p)) → ma.R X.K H1 A H2 v x → f x = some z → ∀ Q : VK, (∀ u H', Same H2 H' → mg.R X.K H2 A H' u z → Q u H') → r v H2 Q) :
    ∀ σ H Q, tE X.K Γ mg (ra.bind f) σ H Q → tE X.K Γ ma ra σ H fun v H1 => r v H1 Q := by
  rintro σ H Q ⟨H0, A0, A, z, R, er, k⟩
  cases ra with
  | none => cases er
  | some x => exact ⟨H0, A0, A, x, R, rfl, fun v H1 s1 q1 => hf s1 R.mut q1 er Q fun u H3 s3 q3 => k u H3 (s1.trans s3) (mg.back s1 q3)⟩
theorem me_un {op : UnaryOp} {ra : Option α} {ma : Md α} {mg : Md γ} {f : α → Option γ} {r : V → Hp → VK → Prop} (ho : UnR X (unaryOp op) r)
    (hf : ∀ {H1 H2 : Hp} {A : List Addr} {v : V} {x : α} {z : γ}, Same H1 H2 → (∀ p ∈ A, Mut (H1 p)) → ma.R X.K H1 A H2 v x → f x = some z → ∀ Q : VK, (∀ u H', Same H2 H' → mg.R X.K H2 A H' u z → Q u H') → r v H2 Q)
    (ha : PE X a (tE X.K Γ ma ra)) : PE X (.UnaryOp op a pos) (tE X.K Γ mg (ra.bind f)) := pe_le (pe_un ho ha) (one hf)
/-- argument lists -/
theorem ma_nil {c : Bool} : PA X [] (tA X.K Γ a0 c (some ())) := pa_le pa_nil fun σ H Q ⟨H0, A0, A, x, R, er, k⟩ => k [] H (Same.refl H) rfl
theorem ma_cons [Py α] {ar : Args β} {ra : Option α} {rb : Option β} (ha : PE X e (tE X.K Γ cl ra)) (hb : PA X es (tA X.K Γ ar true rb)) (hs : starEach (e :: es) X.env = (false, eval e X.env) :: starEach es X.env := by rfl) :
    PA X (e :: es) (tA X.K Γ (ac ar) true (bind2 ra rb fun x y => some (x, y))) := by
  refine pa_le (pa_cons ha hb hs) ?_
  rintro σ H Q ⟨H0, A0, A, z, R, er, k⟩
  cases ra with
  | none => cases er
  | some x =>
    cases rb with
    | none => cases er
    | some y =>
      cases er
      refine ⟨H0, A0, A, x, R, rfl, fun v H1 s1 q1 => ⟨H0, A0, A, y, R.grow s1, rfl, fun ws H2 s2 q2 => ?_⟩⟩
      exact k _ H2 (s1.trans s2) ⟨v, ws, rfl, Py.up ((Up.same s2).cut _) q1, q2⟩
theorem ma_consA [Py α] {ar : Args β} {ra : Option α} {rb : Option β} (ha : PE X e (tE X.K Γ any ra)) (hb : PA X es (tA X.K Γ ar false rb)) (hs : starEach (e :: es) X.env = (false, eval e X.env) :: starEach es X.env := by rfl) :
    PA X (e :: es) (tA X.K Γ (ac ar) false (bind2 ra rb fun x y => some (x, y))) := by
  refine pa_le (pa_cons ha hb hs) ?_
  rintro σ H Q ⟨H0, A0, A, z, R, er, k⟩
  cases ra with
  | none => cases er
  | some x =>
    cases rb with
    | none => cases er
    | some y =>
      cases er
      refine ⟨H0, A0, A, x, R, rfl, fun v H1 s1 q1 => ⟨H0, A0, A, y, R.grow s1, rfl, fun ws H2 s2 q2 => ?_⟩⟩
      refine k _ H2 (s1.trans s2) ⟨v, ws, rfl, ?_, q2⟩
      show Py.rep X.K (cut H2 []) v x
      rw [cut_nil]; exact Py.up (Up.same s2) q1
end
end M

set_option Elab.async false
set_option linter.all false
set_option maxRecDepth 100000
namespace M
open PySem PySem.Spec PyProof.Rows L2

/-! ### what the operators do, in plain Lean -/
def pyMul (i j : Int) : Option Int := if i.natAbs.log2 + j.natAbs.log2 < 100000000 then some (i * j) else none
def pyDiv (i j : Int) : Option Int := if 0 < j ∧ j.natAbs.log2 < 9000 then some (i / j) else none
def pyMod (i j : Int) : Option Int := if 0 < j then some (i % j) else none
def pyPow (i j : Int) : Option Int := if 0 ≤ j ∧ j ≤ 1000000 ∧ i.natAbs < 2 ^ 64 then some (i ^ j.toNat) else none
def sCat (x y : Str) : Option Str := if x.length + y.length ≤ sizeLine then some (x ++ y) else none
def sLen (x : Str) : Option Int := if x.length ≤ sizeLine then some ((x.length : Nat) : Int) else none
def ixL {α : Type} (xs : List α) (i : Int) : Option α := atI xs i
def ixS (x : Str) (i : Int) : Option Str := if x.length ≤ sizeLine then (atI x.cps.toList i).map fun c => (⟨#[c]⟩ : Str) else none
def lCat {α : Type} (xs ys : List α) : Option (List α) := if xs.length + ys.length ≤ sizeLine then some (xs ++ ys) else none
def cutL {α : Type} (xs : List α) (lo hi : Option Int) : List α := (xs.drop (HT.sIx xs.length 0 lo)).take (HT.sIx xs.length xs.length hi - HT.sIx xs.length 0 lo)
def sCut (x : Str) (lo hi : Option Int) : Option Str := if x.length ≤ sizeLine then some (cutS x lo hi) else none
/-- a sign in a text -/
def sIn (x y : Str) : Option Bool := match x.cps.toList with
  | [c] => some (decide (c ∈ y.cps.toList))
  | _ => none
def sSplit (x y : Str) : Option (List Str) := if (y.length == 0) = false ∧ x.length + 2 ≤ sizeLine then some (Txt.split x y) else none
def sJoin (x : Str) (ys : List Str) : Option Str := if (ys.map (·.length)).sum + ys.length * x.length ≤ 16777216 then some (Txt.join x ys) else none
def sOfInt (i : Int) : Option Str := if i.natAbs.log2 < 1920 then some (toString i : String) else none
def sToInt (x : Str) : Option Int := if x.length ≤ 640 then PySem.intText? x else none
def andO (a b : Option Bool) : Option Bool := a.bind fun c => if c then b else some false
def orO (a b : Option Bool) : Option Bool := a.bind fun c => if c then some true else b
def guardS (n : Nat) : Option Unit := if n ≤ sizeLine then some () else none

/-! ### data of any kind -/
inductive D where
  | non | bl (b : Bool) | int (i : Int) | str (x : Str) | tup (xs : List D) | lst (xs : List D) | dct (kvs : List (Key × D))
mutual
def repD (H : Hp) : V → D → Prop
  | v, .non => v = .non
  | v, .bl b => v = .bl b
  | v, .int i => v = .int i
  | v, .str x => v = .str x
  | v, .tup xs => ∃ a vs, v = .ref a ∧ H a = some (.tup vs) ∧ repDs H vs xs
  | v, .lst xs => ∃ a vs, v = .ref a ∧ H a = some (.lst vs) ∧ repDs H vs xs
  | v, .dct kvs => ∃ a ws, v = .ref a ∧ Rd H a (.dK ws) ∧ repDk H ws kvs
def repDs (H : Hp) : List V → List D → Prop
  | vs, [] => vs = []
  | vs, x :: xs => ∃ v ws, vs = v :: ws ∧ repD H v x ∧ repDs H ws xs
def repDk (H : Hp) : List (Key × V) → List (Key × D) → Prop
  | vs, [] => vs = []
  | vs, (k, x) :: xs => ∃ v ws, vs = (k, v) :: ws ∧ repD H v x ∧ repDk H ws xs
end
mutual
theorem repD_up {H H' : Hp} (u : Up H H') : ∀ (v : V) (x : D), repD H v x → repD H' v x
  | v, .non, h => h
  | v, .bl b, h => h
  | v, .int i, h => h
  | v, .str x, h => h
  | v, .tup xs, ⟨a, vs, e, h, r⟩ => ⟨a, vs, e, u.1 a _ rfl h, repDs_up u vs xs r⟩
  | v, .lst xs, ⟨a, vs, e, h, r⟩ => ⟨a, vs, e, u.1 a _ rfl h, repDs_up u vs xs r⟩
  | v, .dct kvs, ⟨a, ws, e, h, r⟩ => ⟨a, ws, e, u.2 a _ rfl h, repDk_up u ws kvs r⟩
theorem repDs_up {H H' : Hp} (u : Up H H') : ∀ (vs : List V) (xs : List D), repDs H vs xs → repDs H' vs xs
  | vs, [], h => h
  | vs, x :: xs, ⟨v, ws, e, r, rs⟩ => ⟨v, ws, e, repD_up u v x r, repDs_up u ws xs rs⟩
theorem repDk_up {H H' : Hp} (u : Up H H') : ∀ (vs : List (Key × V)) (xs : List (Key × D)), repDk H vs xs → repDk H' vs xs
  | vs, [], h => h
  | vs, (k, x) :: xs, ⟨v, ws, e, r, rs⟩ => ⟨v, ws, e, repD_up u v x r, repDk_up u ws xs rs⟩
end
instance : Py D := ⟨fun _ H v x => repD H v x, fun u h => repD_up u _ _ h⟩
theorem repDs_paired {K : PySem.W.Frag} {H : Hp} : ∀ {vs : List V} {xs : List D}, Paired (Py.rep K H) vs xs → repDs H vs xs
  | _, _, .nil => rfl
  | _, _, .cons r t => ⟨_, _, rfl, r, repDs_paired t⟩
theorem paired_repDs {K : PySem.W.Frag} {H : Hp} : ∀ {vs : List V} {xs : List D}, repDs H vs xs → Paired (Py.rep K H) vs xs
  | _, [], h => by rw [h]; exact .nil
  | _, x :: xs, ⟨v, ws, e, r, rs⟩ => by rw [e]; exact .cons r (paired_repDs rs)
/-- what a thing of one kind is as a thing of another -/
class Cast (α β : Type) [Py α] [Py β] where
  cast : α → Option β
  ok : ∀ {K : PySem.W.Frag} {H : Hp} {v : V} {x : α} {y : β}, cast x = some y → Py.rep K H v x → Py.rep K H v y
def D.ofInt (x : Int) : D := .int x
instance : Cast Int D := ⟨fun x => some (.int x), fun e h => by cases e; exact h⟩
instance : Cast Bool D := ⟨fun x => some (.bl x), fun e h => by cases e; exact h⟩
instance : Cast Str D := ⟨fun x => some (.str x), fun e h => by cases e; exact h⟩
instance : Cast Unit D := ⟨fun x => some .non, fun e h => by cases e; exact h⟩
instance : Cast (List D) D := ⟨fun x => some (.lst x), fun e ⟨a, vs, ea, h, r⟩ => by cases e; exact ⟨a, vs, ea, h, repDs_paired r⟩⟩
instance : Cast (Tup D) D := ⟨fun x => some (.tup x.items), fun e ⟨a, vs, ea, h, r⟩ => by cases e; exact ⟨a, vs, ea, h, repDs_paired r⟩⟩
def D.isStr : D → Bool | .str _ => true | _ => false
def D.isInt : D → Bool | .int _ => true | .bl _ => true | _ => false
def D.isBool : D → Bool | .bl _ => true | _ => false
def D.isList : D → Bool | .lst _ => true | _ => false
def D.isTup : D → Bool | .tup _ => true | _ => false
def D.isDict : D → Bool | .dct _ => true | _ => false
def D.str? : D → Option Str | .str x => some x | _ => none
def D.int? : D → Option Int | .int x => some x | _ => none
def D.lst? : D → Option (List D) | .lst x => some x | _ => none
def D.tup? : D → Option (List D) | .tup x => some x | _ => none
instance : Cast D Str := ⟨D.str?, fun {K H v x y} e h => by cases x <;> cases e; exact h⟩
instance : Cast D Int := ⟨D.int?, fun {K H v x y} e h => by cases x <;> cases e; exact h⟩
instance : Cast D (List D) := ⟨D.lst?, fun {K H v x y} e h => by
  cases x <;> cases e
  obtain ⟨a, vs, ea, h, r⟩ := h
  exact ⟨a, vs, ea, h, paired_repDs r⟩⟩

section
variable {X : Cx} {e a b c : Expr} {es : List Expr} {Γ : List Slot} {α β γ : Type} {pos : Pos}
theorem m_cast [Py α] [Py β] [Cast α β] {r : Option α} (h : PE X e (tE X.K Γ any r)) : PE X e (tE X.K Γ any (r.bind (Cast.cast (β := β)))) := pe_le h fun σ H Q ⟨H0, A0, A, y, R, er, k⟩ => by
  cases r with
  | none => cases er
  | some x => exact ⟨H0, A0, A, x, R, rfl, fun v H' s q => k v H' s (Cast.ok er q)⟩
theorem m_castC [Py α] [Py β] [Cast α β] {r : Option α} (h : PE X e (tE X.K Γ cl r)) : PE X e (tE X.K Γ cl (r.bind (Cast.cast (β := β)))) := pe_le h fun σ H Q ⟨H0, A0, A, y, R, er, k⟩ => by
  cases r with
  | none => cases er
  | some x => exact ⟨H0, A0, A, x, R, rfl, fun v H' s q => k v H' s (Cast.ok er q)⟩

/-! ### constants, names -/
theorem m_const [Py α] {v : V} {x : α} (h : PE X e (tC v)) (hr : ∀ K H, Py.rep K H v x) : PE X e (tE X.K Γ cl (some x)) :=
  pe_le h fun σ H Q ⟨H0, A0, A, y, R, er, k⟩ => by cases er; exact k v H (Same.refl H) (hr _ _)
theorem m_int {i : Int} {j : Nat} : PE X (.Constant (.int i) j pos) (tE X.K Γ cl (some i)) := m_const pe_int fun _ _ => rfl
theorem m_str {x : Str} {j : Nat} : PE X (.Constant (.str x) j pos) (tE X.K Γ cl (some x)) := m_const pe_str fun _ _ => rfl
theorem m_bl {x : Bool} {j : Nat} : PE X (.Constant (.bool x) j pos) (tE X.K Γ cl (some x)) := m_const pe_bl fun _ _ => rfl
theorem m_non {j : Nat} : PE X (.Constant .none j pos) (tE X.K Γ cl (some ())) := m_const pe_non fun _ _ => rfl
theorem RelS.get {K : PySem.W.Frag} {B H : Hp} : ∀ {Γ : List Slot} {σ : L2.St} {A : List Addr} {i : Nat} {inst : Py α} {x : α}, RelS K B H Γ σ A → Γ[i]? = some (.sro inst x) → ∃ v, σ[i]? = some (some v) ∧ inst.rep K B v x
  | [], _, _, i, _, _, _, e => by simp at e
  | .no :: Γ, _, _, 0, _, _, _, e => by cases e
  | .no :: Γ, _, _, i + 1, _, _, ⟨o, τ, es, h⟩, e => by
    obtain ⟨v, e1, r⟩ := RelS.get (i := i) h (by simpa using e)
    exact ⟨v, by rw [es]; simpa using e1, r⟩
  | .sro j y :: Γ, _, _, 0, _, _, ⟨v, τ, es, r, h⟩, e => by
    cases e
    exact ⟨v, by rw [es] <;> rfl, r⟩
  | .sro j y :: Γ, _, _, i + 1, _, _, ⟨v, τ, es, r, h⟩, e => by
    obtain ⟨v, e1, r⟩ := RelS.get (i := i) h (by simpa using e)
    exact ⟨v, by rw [es]; simpa using e1, r⟩
  | .sow j y :: Γ, _, _, 0, _, _, _, e => by cases e
  | .sow j y :: Γ, _, _, i + 1, _, _, ⟨p, o, τ, A', es, ea, hp, r, h⟩, e => by
    obtain ⟨v, e1, r⟩ := RelS.get (i := i) h (by simpa using e)
    exact ⟨v, by rw [es]; simpa using e1, r⟩
theorem RelS.own {K : PySem.W.Frag} {B H : Hp} : ∀ {Γ : List Slot} {σ : L2.St} {A : List Addr} {i : Nat} {inst : Own α} {x : α}, RelS K B H Γ σ A → Γ[i]? = some (.sow inst x) → ∃ p o, σ[i]? = some (some (.ref p)) ∧ p ∈ A ∧ H p = some o ∧ inst.cont K B o x
  | [], _, _, i, _, _, _, e => by simp at e
  | .no :: Γ, _, _, 0, _, _, _, e => by cases e
  | .no :: Γ, _, _, i + 1, _, _, ⟨o, τ, es, h⟩, e => by
    obtain ⟨p, o, e1, r⟩ := RelS.own (i := i) h (by simpa using e)
    exact ⟨p, o, by rw [es]; simpa using e1, r⟩
  | .sro j y :: Γ, _, _, 0, _, _, _, e => by cases e
  | .sro j y :: Γ, _, _, i + 1, _, _, ⟨v, τ, es, r, h⟩, e => by
    obtain ⟨p, o, e1, r⟩ := RelS.own (i := i) h (by simpa using e)
    exact ⟨p, o, by rw [es]; simpa using e1, r⟩
  | .sow j y :: Γ, _, _, 0, _, _, ⟨p, o, τ, A', es, ea, hp, r, h⟩, e => by
    cases e
    exact ⟨p, o, by rw [es] <;> rfl, by rw [ea]; exact List.mem_cons_self, hp, r⟩
  | .sow j y :: Γ, _, _, i + 1, _, _, ⟨q, o, τ, A', es, ea, hp, r, h⟩, e => by
    obtain ⟨p, o, e1, m, r⟩ := RelS.own (i := i) h (by simpa using e)
    exact ⟨p, o, by rw [es]; simpa using e1, by rw [ea]; exact List.mem_cons_of_mem _ m, r⟩
theorem m_var {i : Nat} {inst : Py α} {x : α} (h : PE X e (tVar i)) (hi : Γ[i]? = some (.sro inst x) := by rfl) : PE X e (tE X.K Γ cl (some x)) :=
  pe_le h fun σ H Q ⟨H0, A0, A, y, R, er, k⟩ => by
    cases er
    obtain ⟨v, e1, r⟩ := R.sl.get hi
    exact ⟨v, e1, k v H (Same.refl H) r⟩
/-- a name that owns its container, read -/
theorem m_own {i : Nat} {inst : Own α} {x : α} (h : PE X e (tVar i)) (hi : Γ[i]? = some (.sow inst x) := by rfl) : PE X e (tE X.K Γ any (some x)) :=
  pe_le h fun σ H Q ⟨H0, A0, A, y, R, er, k⟩ => by
    cases er
    obtain ⟨p, o, e1, m, e2, r⟩ := R.sl.own hi
    exact ⟨_, e1, k _ H (Same.refl H) (inst.crep e2 (inst.cup (Up.same cut_same) r))⟩

/-! ### whole numbers -/
theorem m_add {ra rb : Option Int} (ha : PE X a (tE X.K Γ any ra)) (hb : PE X b (tE X.K Γ any rb)) : PE X (.BinOp a .Add b pos) (tE X.K Γ cl (bind2 ra rb fun x y => some (x + y))) :=
  me_op op_add (fun s m h1 h2 ez Q k => ⟨_, _, h1, h2, k _ _ (Same.refl _) (by cases ez; rfl)⟩) ha hb
theorem m_sub {ra rb : Option Int} (ha : PE X a (tE X.K Γ any ra)) (hb : PE X b (tE X.K Γ any rb)) : PE X (.BinOp a .Sub b pos) (tE X.K Γ cl (bind2 ra rb fun x y => some (x - y))) :=
  me_op op_sub (fun s m h1 h2 ez Q k => ⟨_, _, h1, h2, k _ _ (Same.refl _) (by cases ez; rfl)⟩) ha hb
theorem mulOk {i j : Int} (h : i.natAbs.log2 + j.natAbs.log2 < 100000000) : IntMulOk i j := by
  have bd : ∀ x : Int, Builtin.Int.intBits x ≤ x.natAbs.log2 + 1 := fun x => by unfold Builtin.Int.intBits; split <;> omega
  have p1 := bd i; have p2 := bd j
  unfold IntMulOk
  intro z
  rw [Bool.and_eq_true] at z
  have z3 := of_decide_eq_true (show decide _ = true from z.2)
  have ln : bitsLine = 134217728 := by decide
  rw [ln] at z3
  omega
theorem m_mul {ra rb : Option Int} (ha : PE X a (tE X.K Γ any ra)) (hb : PE X b (tE X.K Γ any rb)) : PE X (.BinOp a .Mult b pos) (tE X.K Γ cl (bind2 ra rb pyMul)) :=
  me_op (r := rI IntMulOk fun i j => .int (i * j)) (opI fun _ _ _ _ _ _ _ hc q => mul_int q hc) (fun {H1 H2 A v w x y z} s m h1 h2 ez Q k => by
    unfold pyMul at ez
    by_cases hc : x.natAbs.log2 + y.natAbs.log2 < 100000000
    · rw [if_pos hc] at ez; cases ez
      exact ⟨_, _, h1, h2, mulOk hc, k _ _ (Same.refl _) rfl⟩
    · rw [if_neg hc] at ez; cases ez) ha hb
theorem m_div {ra rb : Option Int} (ha : PE X a (tE X.K Γ any ra)) (hb : PE X b (tE X.K Γ any rb)) : PE X (.BinOp a .FloorDiv b pos) (tE X.K Γ cl (bind2 ra rb pyDiv)) :=
  me_op op_fdivW (fun {H1 H2 A v w x y z} s m h1 h2 ez Q k => by
    unfold pyDiv at ez
    by_cases hc : 0 < y ∧ y.natAbs.log2 < 9000
    · rw [if_pos hc] at ez; cases ez
      exact ⟨_, _, h1, h2, hc, k _ _ (Same.refl _) rfl⟩
    · rw [if_neg hc] at ez; cases ez) ha hb
theorem m_mod {ra rb : Option Int} (ha : PE X a (tE X.K Γ any ra)) (hb : PE X b (tE X.K Γ any rb)) : PE X (.BinOp a .Mod b pos) (tE X.K Γ cl (bind2 ra rb pyMod)) :=
  me_op op_mod (fun {H1 H2 A v w x y z} s m h1 h2 ez Q k => by
    unfold pyMod at ez
    by_cases hc : 0 < y
    · rw [if_pos hc] at ez; cases ez
      exact ⟨_, _, h1, h2, hc, k _ _ (Same.refl _) rfl⟩
    · rw [if_neg hc] at ez; cases ez) ha hb
/-- by a divisor that is written -/
theorem m_divC {ra : Option Int} {j : Int} (ha : PE X a (tE X.K Γ any ra)) (hb : PE X b (tE X.K Γ any (some j))) (hj : 0 < j ∧ j.natAbs.log2 < 9000 := by decide +kernel) : PE X (.BinOp a .FloorDiv b pos) (tE X.K Γ cl (ra.bind fun i => some (i / j))) :=
  me_eq (m_div ha hb) (by cases ra with | none => rfl | some i => show pyDiv i j = some (i / j); unfold pyDiv; rw [if_pos hj])
theorem m_modC {ra : Option Int} {j : Int} (ha : PE X a (tE X.K Γ any ra)) (hb : PE X b (tE X.K Γ any (some j))) (hj : 0 < j := by decide +kernel) : PE X (.BinOp a .Mod b pos) (tE X.K Γ cl (ra.bind fun i => some (i % j))) :=
  me_eq (m_mod ha hb) (by cases ra with | none => rfl | some i => show pyMod i j = some (i % j); unfold pyMod; rw [if_pos hj])
theorem m_powC {i : Int} {j : Int} (n : Nat) (ha : PE X a (tE X.K Γ any (some i))) (hb : PE X b (tE X.K Γ any (some j))) (hj : 0 ≤ j ∧ j ≤ 1000000 ∧ i.natAbs < 2 ^ 64 := by decide +kernel) (hn : j.toNat = n := by rfl) : PE X (.BinOp a .Pow b pos) (tE X.K Γ cl (some (i ^ n))) :=
  me_eq (me_op (f := pyPow) op_pow (fun {H1 H2 A v w x y z} s m h1 h2 ez Q k => by
    unfold pyPow at ez
    by_cases hc : 0 ≤ y ∧ y ≤ 1000000 ∧ x.natAbs < 2 ^ 64
    · rw [if_pos hc] at ez; cases ez
      exact ⟨_, _, h1, h2, hc, k _ _ (Same.refl _) rfl⟩
    · rw [if_neg hc] at ez; cases ez) ha hb) (by show pyPow i j = some (i ^ n); unfold pyPow; rw [if_pos hj, hn])
theorem m_neg {ra : Option Int} (ha : PE X a (tE X.K Γ any ra)) : PE X (.UnaryOp .USub a pos) (tE X.K Γ cl (ra.bind fun x => some (-x))) :=
  me_un un_neg (fun s m h1 ez Q k => ⟨_, h1, k _ _ (Same.refl _) (by cases ez; rfl)⟩) ha

/-! ### texts -/
theorem m_scat {ra rb : Option Str} (ha : PE X a (tE X.K Γ any ra)) (hb : PE X b (tE X.K Γ any rb)) : PE X (.BinOp a .Add b pos) (tE X.K Γ cl (bind2 ra rb sCat)) :=
  me_op op_add_str (fun {H1 H2 A v w x y z} s m h1 h2 ez Q k => by
    unfold sCat at ez
    by_cases hc : x.length + y.length ≤ sizeLine
    · rw [if_pos hc] at ez; cases ez
      exact ⟨_, _, h1, h2, hc, k _ _ (Same.refl _) rfl⟩
    · rw [if_neg hc] at ez; cases ez) ha hb
theorem m_six {ra : Option Str} {rb : Option Int} (ha : PE X a (tE X.K Γ any ra)) (hb : PE X b (tE X.K Γ any rb)) (hp : PlainIx b := by exact fun _ _ => rfl) : PE X (.Subscript a b pos) (tE X.K Γ cl (bind2 ra rb ixS)) :=
  me_ix ix_str hp (fun {H1 H2 A v w x y z} s m h1 h2 ez Q k => by
    unfold ixS at ez
    by_cases hc : x.length ≤ sizeLine
    · rw [if_pos hc] at ez
      cases q : atI x.cps.toList y with
      | none => rw [q] at ez; cases ez
      | some n => rw [q] at ez; cases ez; exact ⟨_, _, _, h1, h2, hc, q, k _ _ (Same.refl _) rfl⟩
    · rw [if_neg hc] at ez; cases ez) ha hb
/-- slices: a part that is written or left out -/
def tO (K : PySem.W.Frag) (Γ : List Slot) (r : Option (Option Int)) : TO := fun σ H Q => ∃ H0 A0 A x, Rel K H0 A0 Γ σ H A ∧ r = some x ∧ ∀ H', Same H H' → Q x H'
theorem mo_none : PO X none (tO X.K Γ (some none)) := ⟨fun pins s σ H Q I ⟨H0, A0, A, x, R, er, k⟩ => by cases er; exact po_none.run pins s σ H Q I (k H (Same.refl H))⟩
theorem mo_some {ra : Option Int} (h : PE X e (tE X.K Γ any ra)) : PO X (some e) (tO X.K Γ (ra.map some)) := ⟨fun pins s σ H Q I ⟨H0, A0, A, x, R, er, k⟩ => by
  cases ra with
  | none => cases er
  | some i =>
    cases er
    exact (po_some h).run pins s σ H Q I ⟨H0, A0, A, i, R, rfl, fun v H' s' q => ⟨i, q, k H' s'⟩⟩⟩
theorem m_cut {lo hi : Option Expr} {p2 : Pos} {ra : Option α} {rl rh : Option (Option Int)} {ma : Md α} {mg : Md γ} {f : α → Option Int → Option Int → Option γ} {r : V → Option Int → Option Int → Hp → VK → Prop} (hr : SlR X r)
    (hf : ∀ {H1 H2 : Hp} {A : List Addr} {v : V} {x : α} {l h : Option Int} {z : γ}, Same H1 H2 → (∀ p ∈ A, Mut (H1 p)) → ma.R X.K H1 A H2 v x → f x l h = some z → ∀ Q : VK, (∀ u H', Same H2 H' → mg.R X.K H2 A H' u z → Q u H') → r v l h H2 Q)
    (ha : PE X a (tE X.K Γ ma ra)) (hl : PO X lo (tO X.K Γ rl)) (hh : PO X hi (tO X.K Γ rh)) : PE X (.Subscript a (.Slice lo hi none p2) pos) (tE X.K Γ mg (ra.bind fun x => rl.bind fun l => rh.bind fun h => f x l h)) := by
  refine pe_le (pe_slice hr ha hl hh) ?_
  rintro σ H Q ⟨H0, A0, A, z, R, er, k⟩
  cases ra with
  | none => cases er
  | some x =>
    cases rl with
    | none => cases er
    | some l =>
      cases rh with
      | none => cases er
      | some h =>
        refine ⟨H0, A0, A, x, R, rfl, fun v H1 s1 q1 => ⟨H0, A0, A, l, R.grow s1, rfl, fun H2 s2 => ⟨H0, A0, A, h, R.grow (s1.trans s2), rfl, fun H3 s3 => ?_⟩⟩⟩
        exact hf (s1.trans (s2.trans s3)) R.mut (ma.fwd (s2.trans s3) q1) er Q fun u H4 s4 q4 => k u H4 ((s1.trans (s2.trans s3)).trans s4) (mg.back (s1.trans (s2.trans s3)) q4)
theorem m_scut {lo hi : Option Expr} {p2 : Pos} {ra : Option Str} {rl rh : Option (Option Int)} (ha : PE X a (tE X.K Γ any ra)) (hl : PO X lo (tO X.K Γ rl)) (hh : PO X hi (tO X.K Γ rh)) :
    PE X (.Subscript a (.Slice lo hi none p2) pos) (tE X.K Γ cl (ra.bind fun x => rl.bind fun l => rh.bind fun h => sCut x l h)) :=
  m_cut sl_str (fun {H1 H2 A v x l h z} s m h1 ez Q k => by
    unfold sCut at ez
    by_cases hc : x.length ≤ sizeLine
    · rw [if_pos hc] at ez; cases ez
      exact ⟨_, h1, hc, k _ _ (Same.refl _) rfl⟩
    · rw [if_neg hc] at ez; cases ez) ha hl hh

/-! ### comparisons -/
/-- == of numbers, texts, truths -/
class Sca (α : Type) [Py α] where
  v : α → V
  is : ∀ {K : PySem.W.Frag} {H : Hp} {u : V} {x : α}, Py.rep K H u x → u = v x
  sc : ∀ x y : α, scal (v x) (v y) = true
  inj : ∀ x y : α, v x = v y → x = y
instance : Sca Int := ⟨V.int, fun h => h, fun _ _ => rfl, fun _ _ h => V.int.inj h⟩
instance : Sca Str := ⟨V.str, fun h => h, fun _ _ => rfl, fun _ _ h => V.str.inj h⟩
instance : Sca Bool := ⟨V.bl, fun h => h, fun _ _ => rfl, fun _ _ h => V.bl.inj h⟩
/-- a comparison: its operands' modes, what it tells -/
structure Cmp (X : Cx) (op : CmpOp) (ma : Md α) (mb : Md β) (f : α → β → Option Bool) where
  r : R2
  ok : OpR X (compareOp op) r
  hf : ∀ {H1 H2 : Hp} {A : List Addr} {v w : V} {x : α} {y : β} {z : Bool}, Same H1 H2 → (∀ p ∈ A, Mut (H1 p)) → ma.R X.K H1 A H2 v x → mb.R X.K H1 A H2 w y → f x y = some z → ∀ Q : VK, (∀ H', Same H2 H' → Q (.bl z) H') → r v w H2 Q
theorem m_cmp {op : CmpOp} {ra : Option α} {rb : Option β} {ma : Md α} {mb : Md β} {f : α → β → Option Bool} (C : Cmp X op ma mb f) (ha : PE X a (tE X.K Γ ma ra)) (hb : PE X b (tE X.K Γ mb rb)) (hm : behindInMarks op b = false := by first | exact nomark _ | rfl) :
    PE X (.Compare a [op] [b] pos) (tE X.K Γ cl (bind2 ra rb f)) := me_cmp C.ok hm (fun s m h1 h2 ez Q k => C.hf s m h1 h2 ez Q fun H' s' => k _ H' s' rfl) ha hb
theorem t_cmp {op : CmpOp} {ra : Option α} {rb : Option β} {ma : Md α} {mb : Md β} {f : α → β → Option Bool} (C : Cmp X op ma mb f) (ha : PE X a (tE X.K Γ ma ra)) (hb : PE X b (tE X.K Γ mb rb)) (hm : behindInMarks op b = false := by first | exact nomark _ | rfl) :
    PT X (.Compare a [op] [b] pos) (tT X.K Γ (bind2 ra rb f)) := by
  refine pt_le (pt_cmpR C.ok ha hb hm) ?_
  rintro σ H Q ⟨H0, A0, A, z, R, er, k⟩
  exact two (mg := (cl : Md Bool)) (fun s m h1 h2 ez Q k => C.hf s m h1 h2 ez Q fun H' s' => k _ H' s' rfl) σ H _ ⟨H0, A0, A, z, R, er, fun v H' s q => ⟨z, q, k H' s⟩⟩
def c_lt : Cmp X .Lt (any : Md Int) (any : Md Int) fun i j => some (decide (i < j)) := ⟨_, op_lt, fun s m h1 h2 ez Q k => ⟨_, _, h1, h2, by cases ez; exact k _ (Same.refl _)⟩⟩
def c_le : Cmp X .LtE (any : Md Int) (any : Md Int) fun i j => some (decide (i ≤ j)) := ⟨_, op_le, fun s m h1 h2 ez Q k => ⟨_, _, h1, h2, by cases ez; exact k _ (Same.refl _)⟩⟩
def c_gt : Cmp X .Gt (any : Md Int) (any : Md Int) fun i j => some (decide (j < i)) := ⟨_, op_gt, fun s m h1 h2 ez Q k => ⟨_, _, h1, h2, by cases ez; exact k _ (Same.refl _)⟩⟩
def c_ge : Cmp X .GtE (any : Md Int) (any : Md Int) fun i j => some (decide (j ≤ i)) := ⟨_, op_ge, fun s m h1 h2 ez Q k => ⟨_, _, h1, h2, by cases ez; exact k _ (Same.refl _)⟩⟩
theorem sca_dec [Py α] [DecidableEq α] [S : Sca α] {x y : α} : decide (S.v x = S.v y) = decide (x = y) := by
  by_cases h : x = y
  · rw [h]; simp
  · rw [decide_eq_false h, decide_eq_false fun q => h (S.inj _ _ q)]
def c_eq [Py α] [DecidableEq α] [S : Sca α] : Cmp X .Eq (any : Md α) (any : Md α) fun x y => some (decide (x = y)) := ⟨_, op_eq, fun s m h1 h2 ez Q k => by
  cases ez
  rw [S.is h1, S.is h2]
  exact ⟨S.sc _ _, by rw [sca_dec]; exact k _ (Same.refl _)⟩⟩
def c_ne [Py α] [DecidableEq α] [S : Sca α] : Cmp X .NotEq (any : Md α) (any : Md α) fun x y => some (!decide (x = y)) := ⟨_, op_ne, fun s m h1 h2 ez Q k => by
  cases ez
  rw [S.is h1, S.is h2]
  exact ⟨S.sc _ _, by rw [sca_dec]; exact k _ (Same.refl _)⟩⟩
theorem sIn_iff {x y : Str} {z : Bool} (h : sIn x y = some z) : ∃ c, x = ⟨#[c]⟩ ∧ z = decide (c ∈ y.cps.toList) := by
  obtain ⟨⟨l⟩⟩ := x
  unfold sIn at h
  match l, h with
  | [c], h => exact ⟨c, rfl, (Option.some.inj h).symm⟩
def c_sin : Cmp X .In (any : Md Str) (any : Md Str) sIn := ⟨_, op_in_sign, fun s m h1 h2 ez Q k => by
  obtain ⟨c, rfl, rfl⟩ := sIn_iff ez
  exact ⟨c, _, h1, h2, k _ (Same.refl _)⟩⟩
def c_snin : Cmp X .NotIn (any : Md Str) (any : Md Str) fun x y => (sIn x y).map (!·) := ⟨_, op_notIn_sign, fun {H1 H2 A v w x y z} s m h1 h2 ez Q k => by
  cases q : sIn x y with
  | none => rw [q] at ez; cases ez
  | some z =>
    rw [q] at ez; cases ez
    obtain ⟨c, rfl, rfl⟩ := sIn_iff q
    exact ⟨c, _, h1, h2, k _ (Same.refl _)⟩⟩
/-- is None -/
def c_isN [Py α] : Cmp X .Is (any : Md (Option α)) (any : Md Unit) fun x _ => some x.isNone := ⟨_, op_isN, fun {H1 H2 A v w x y z} s m h1 h2 ez Q k => by
  cases ez
  refine ⟨h2, ?_⟩
  cases x with
  | none => rw [show v = .non from h1]; exact k _ (Same.refl _)
  | some y => rw [decide_eq_false h1.1]; exact k _ (Same.refl _)⟩
def c_notN [Py α] : Cmp X .IsNot (any : Md (Option α)) (any : Md Unit) fun x _ => some x.isSome := ⟨_, op_notN, fun {H1 H2 A v w x y z} s m h1 h2 ez Q k => by
  cases ez
  refine ⟨h2, ?_⟩
  cases x with
  | none => rw [show v = .non from h1]; exact k _ (Same.refl _)
  | some y => rw [decide_eq_false h1.1]; exact k _ (Same.refl _)⟩

/-! ### tests -/
theorem t_val {r : Option Bool} (h : PE X e (tE X.K Γ any r)) (he : ∀ whole, isTrue e X.env whole = (do let v ← whole; standAt e.pos; holding [v] (truthy v)) := by intro _; rfl) : PT X e (tT X.K Γ r) :=
  pt_le (pt_val h he) fun σ H Q ⟨H0, A0, A, z, R, er, k⟩ => ⟨H0, A0, A, z, R, er, fun v H' s q => ⟨z, q, k H' s⟩⟩
theorem t_not {r : Option Bool} (h : PT X a (tT X.K Γ r)) : PT X (.UnaryOp .Not a pos) (tT X.K Γ (r.map (!·))) := by
  refine pt_le (pt_not h) ?_
  rintro σ H Q ⟨H0, A0, A, z, R, er, k⟩
  cases r with
  | none => cases er
  | some x => cases er; exact ⟨H0, A0, A, x, R, rfl, fun H' s => k H' s⟩
theorem pw_le {t t' : TT} (h : PW X e t) (i : ∀ σ H Q, t' σ H Q → t σ H Q) : PW X e t' := ⟨fun wh pins s σ H Q I q => h.run wh pins s σ H Q I (i _ _ _ q)⟩
theorem w_and1 {r : Option Bool} (h : PT X a (tT X.K Γ r)) : PW X (.BoolOp .And [a] pos) (tT X.K Γ r) := pw_and1 h
theorem w_or1 {r : Option Bool} (h : PT X a (tT X.K Γ r)) : PW X (.BoolOp .Or [a] pos) (tT X.K Γ r) := pw_or1 h
theorem w_and {ra rb : Option Bool} (h : PT X a (tT X.K Γ ra)) (h2 : PW X (.BoolOp .And (b :: es) pos) (tT X.K Γ rb)) : PW X (.BoolOp .And (a :: b :: es) pos) (tT X.K Γ (andO ra rb)) := by
  refine pw_le (pw_and h h2) ?_
  rintro σ H Q ⟨H0, A0, A, z, R, er, k⟩
  cases ra with
  | none => cases er
  | some x =>
    refine ⟨H0, A0, A, x, R, rfl, fun H' s => ?_⟩
    cases x with
    | true => exact iteT ⟨H0, A0, A, z, R.grow s, er, fun H2 s2 => k H2 (s.trans s2)⟩
    | false => cases er; exact iteF (k H' s)
theorem w_or {ra rb : Option Bool} (h : PT X a (tT X.K Γ ra)) (h2 : PW X (.BoolOp .Or (b :: es) pos) (tT X.K Γ rb)) : PW X (.BoolOp .Or (a :: b :: es) pos) (tT X.K Γ (orO ra rb)) := by
  refine pw_le (pw_or h h2) ?_
  rintro σ H Q ⟨H0, A0, A, z, R, er, k⟩
  cases ra with
  | none => cases er
  | some x =>
    refine ⟨H0, A0, A, x, R, rfl, fun H' s => ?_⟩
    cases x with
    | true => cases er; exact iteT (k H' s)
    | false => exact iteF ⟨H0, A0, A, z, R.grow s, er, fun H2 s2 => k H2 (s.trans s2)⟩
/-- .. as values -/
theorem m_one {op : BoolOp} {r : Option Bool} (h : PE X a (tE X.K Γ any r)) : PE X (.BoolOp op [a] pos) (tE X.K Γ any r) := pe_one h
theorem m_and {ra rb : Option Bool} (h : PE X a (tE X.K Γ any ra)) (h2 : PE X (.BoolOp .And (b :: es) pos) (tE X.K Γ any rb)) : PE X (.BoolOp .And (a :: b :: es) pos) (tE X.K Γ any (andO ra rb)) := by
  refine pe_le (pe_and h h2) ?_
  rintro σ H Q ⟨H0, A0, A, z, R, er, k⟩
  cases ra with
  | none => cases er
  | some x =>
    refine ⟨H0, A0, A, x, R, rfl, fun v H' s q => ⟨x, q, ?_⟩⟩
    cases x with
    | true => exact iteT ⟨H0, A0, A, z, R.grow s, er, fun v H2 s2 => k v H2 (s.trans s2)⟩
    | false => cases er; exact iteF (k _ H' s rfl)
theorem m_or {ra rb : Option Bool} (h : PE X a (tE X.K Γ any ra)) (h2 : PE X (.BoolOp .Or (b :: es) pos) (tE X.K Γ any rb)) : PE X (.BoolOp .Or (a :: b :: es) pos) (tE X.K Γ any (orO ra rb)) := by
  refine pe_le (pe_or h h2) ?_
  rintro σ H Q ⟨H0, A0, A, z, R, er, k⟩
  cases ra with
  | none => cases er
  | some x =>
    refine ⟨H0, A0, A, x, R, rfl, fun v H' s q => ⟨x, q, ?_⟩⟩
    cases x with
    | true => cases er; exact iteT (k _ H' s rfl)
    | false => exact iteF ⟨H0, A0, A, z, R.grow s, er, fun v H2 s2 => k v H2 (s.trans s2)⟩
theorem m_not {r : Option Bool} (h : PE X a (tE X.K Γ any r)) : PE X (.UnaryOp .Not a pos) (tE X.K Γ any (r.map (!·))) := by
  refine pe_le (pe_not h) ?_
  rintro σ H Q ⟨H0, A0, A, z, R, er, k⟩
  cases r with
  | none => cases er
  | some x => cases er; exact ⟨H0, A0, A, x, R, rfl, fun v H' s q => ⟨x, q, k _ H' s rfl⟩⟩
end
end M

set_option Elab.async false
set_option linter.all false
set_option maxRecDepth 100000
namespace M
open PySem PySem.Spec PyProof.Rows L2

section
variable {X : Cx} {e a b c : Expr} {es : List Expr} {Γ : List Slot} {α β γ : Type} {pos p p2 : Pos} {x : Str}
/-! ### lists and tuples -/
/-- written items -/
def tL {α : Type} [Py α] (K : PySem.W.Frag) (Γ : List Slot) (c : Bool) (r : Option (List α)) : TA := fun σ H Q =>
  ∃ H0 A0 A xs, Rel K H0 A0 Γ σ H A ∧ r = some xs ∧ ∀ vs H', Same H H' → Paired (Py.rep K (cut H' (if c then A0 ++ A else []))) vs xs → Q vs H'
theorem l_nil [Py α] {c : Bool} : PA X [] (tL (α := α) X.K Γ c (some [])) := pa_le pa_nil fun σ H Q ⟨H0, A0, A, x, R, er, k⟩ => by cases er; exact k [] H (Same.refl H) .nil
theorem l_cons [Py α] {ra : Option α} {rb : Option (List α)} (ha : PE X e (tE X.K Γ cl ra)) (hb : PA X es (tL X.K Γ true rb)) (hs : starEach (e :: es) X.env = (false, eval e X.env) :: starEach es X.env := by rfl) :
    PA X (e :: es) (tL X.K Γ true (bind2 ra rb fun x y => some (x :: y))) := by
  refine pa_le (pa_cons ha hb hs) ?_
  rintro σ H Q ⟨H0, A0, A, z, R, er, k⟩
  cases ra with
  | none => cases er
  | some x =>
    cases rb with
    | none => cases er
    | some y =>
      cases er
      refine ⟨H0, A0, A, x, R, rfl, fun v H1 s1 q1 => ⟨H0, A0, A, y, R.grow s1, rfl, fun ws H2 s2 q2 => ?_⟩⟩
      exact k _ H2 (s1.trans s2) (.cons (Py.up ((Up.same s2).cut _) q1) q2)
theorem l_consA [Py α] {ra : Option α} {rb : Option (List α)} (ha : PE X e (tE X.K Γ any ra)) (hb : PA X es (tL X.K Γ false rb)) (hs : starEach (e :: es) X.env = (false, eval e X.env) :: starEach es X.env := by rfl) :
    PA X (e :: es) (tL X.K Γ false (bind2 ra rb fun x y => some (x :: y))) := by
  refine pa_le (pa_cons ha hb hs) ?_
  rintro σ H Q ⟨H0, A0, A, z, R, er, k⟩
  cases ra with
  | none => cases er
  | some x =>
    cases rb with
    | none => cases er
    | some y =>
      cases er
      refine ⟨H0, A0, A, x, R, rfl, fun v H1 s1 q1 => ⟨H0, A0, A, y, R.grow s1, rfl, fun ws H2 s2 q2 => ?_⟩⟩
      refine k _ H2 (s1.trans s2) (.cons ?_ q2)
      show Py.rep X.K (cut H2 []) v x
      rw [cut_nil]; exact Py.up (Up.same s2) q1
theorem paired_len {α β : Type} {F : α → β → Prop} {l₁ : List α} {l₂ : List β} (h : Paired F l₁ l₂) : l₁.length = l₂.length := Paired.length h
theorem same_upd {H : Hp} {p : Addr} {o : HO} (n : H p = none) : Same H (upd H p o) := fun a u e => by rw [upd_ne (ne_of_none e n)]; exact e
def listO {α : Type} (r : Option (List α)) : Option (List α) := r.bind fun xs => if xs.length ≤ sizeLine then some xs else none
/-- a display -/
theorem m_list [Py α] {r : Option (List α)} (h : PA X es (tL X.K Γ true r)) (hz : ∀ xs, r = some xs → xs.length ≤ sizeLine) : PE X (.List es pos) (tE X.K Γ fr r) := by
  refine pe_le (pe_lst h) ?_
  rintro σ H Q ⟨H0, A0, A, z, R, er, k⟩
  refine ⟨H0, A0, A, z, R, er, fun vs H' s q => ⟨by rw [paired_len q]; exact hz z er, fun p hp => ?_⟩⟩
  refine k _ _ (s.trans (same_upd hp)) ⟨p, _, rfl, s.free hp, upd_same, vs, rfl, paired_up q fun v y r => Py.up (Up.same fun a o e => ?_) r⟩
  obtain ⟨e1, e2⟩ := cut_le e
  have n : a ≠ p := ne_of_none e1 hp
  rw [cut_out (by simp only [List.mem_cons, not_or]; exact ⟨n, e2⟩), upd_ne n]
  exact e1
/-- a display of what may be owned: to be read at once -/
theorem m_listA [Py α] {r : Option (List α)} (h : PA X es (tL X.K Γ false r)) (hz : ∀ xs, r = some xs → xs.length ≤ sizeLine) : PE X (.List es pos) (tE X.K Γ any r) := by
  refine pe_le (pe_lst h) ?_
  rintro σ H Q ⟨H0, A0, A, z, R, er, k⟩
  refine ⟨H0, A0, A, z, R, er, fun vs H' s q => ⟨by rw [paired_len q]; exact hz z er, fun p hp => ?_⟩⟩
  refine k _ _ (s.trans (same_upd hp)) ⟨p, vs, rfl, upd_same, paired_up q fun v y r => Py.up (Up.same ?_) r⟩
  rw [show (if false = true then A0 ++ A else []) = [] from rfl, cut_nil]
  exact same_upd hp
theorem m_tup [Py α] {r : Option (List α)} {k : Nat} (h : PA X es (tL X.K Γ true r)) (hz : ∀ xs, r = some xs → xs.length ≤ sizeLine) : PE X (.Tuple es k pos) (tE X.K Γ cl (r.map Tup.mk)) := by
  refine pe_le (pe_tup h) ?_
  rintro σ H Q ⟨H0, A0, A, z, R, er, k⟩
  cases r with
  | none => cases er
  | some xs =>
    cases er
    refine ⟨H0, A0, A, xs, R, rfl, fun vs H' s q => ⟨by rw [paired_len q]; exact hz xs rfl, fun p hp => ?_⟩⟩
    have hpA : p ∉ A0 ++ A := fun m => by have := same_mut s (R.mut p m); rw [hp] at this; exact this
    exact k _ _ (s.trans (same_upd hp)) ⟨p, vs, rfl, by rw [cut_out hpA]; exact upd_same, paired_up q fun v y r => Py.up ((Up.same (same_upd hp)).cut _) r⟩
theorem m_pair [Py α] [Py β] {ra : Option α} {rb : Option β} {k : Nat} (ha : PE X a (tE X.K Γ cl ra)) (hb : PE X b (tE X.K Γ cl rb)) (hs : starEach [a, b] X.env = (false, eval a X.env) :: starEach [b] X.env := by rfl) (hs2 : starEach [b] X.env = (false, eval b X.env) :: starEach [] X.env := by rfl) :
    PE X (.Tuple [a, b] k pos) (tE X.K Γ cl (bind2 ra rb fun x y => some (x, y))) := by
  refine pe_le (pe_tup (pa_cons ha (pa_cons hb pa_nil hs2) hs)) ?_
  rintro σ H Q ⟨H0, A0, A, z, R, er, k⟩
  cases ra with
  | none => cases er
  | some x =>
    cases rb with
    | none => cases er
    | some y =>
      cases er
      refine ⟨H0, A0, A, x, R, rfl, fun v H1 s1 q1 => ⟨H0, A0, A, y, R.grow s1, rfl, fun w H2 s2 q2 => ⟨(by show 2 ≤ sizeLine; decide), fun p hp => ?_⟩⟩⟩
      have s := s1.trans s2
      have hpA : p ∉ A0 ++ A := fun m => by have := same_mut s (R.mut p m); rw [hp] at this; exact this
      exact k _ _ (s.trans (same_upd hp)) ⟨p, v, w, rfl, by rw [cut_out hpA]; exact upd_same, Py.up ((Up.same (s2.trans (same_upd hp))).cut _) q1, Py.up ((Up.same (same_upd hp)).cut _) q2⟩
/-- the items of a list, a tuple -/
theorem paired_nth {F : V → α → Prop} {x : α} : ∀ {vs : List V} {xs : List α} {j : Nat}, Paired F vs xs → xs[j]? = some x → ∃ v, vs[j]? = some v ∧ F v x
  | _, _, j, .nil, e => by simp at e
  | _, _, 0, .cons r t, e => by simp at e; subst e; exact ⟨_, rfl, r⟩
  | _, _, j + 1, .cons r t, e => by
    obtain ⟨v, h1, h2⟩ := paired_nth (j := j) t (by simpa using e)
    exact ⟨v, by simpa using h1, h2⟩
theorem paired_at {F : V → α → Prop} {vs : List V} {xs : List α} {i : Int} {x : α} (h : Paired F vs xs) (e : atI xs i = some x) : ∃ v, atI vs i = some v ∧ F v x := by
  unfold atI at e ⊢
  rw [paired_len h]
  cases q : ixN xs.length i with
  | none => rw [q] at e; cases e
  | some j =>
    rw [q] at e
    have e : xs[j]? = some x := e
    obtain ⟨v, h1, h2⟩ := paired_nth h e
    exact ⟨v, h1, h2⟩
theorem m_lix [Py α] {ra : Option (List α)} {rb : Option Int} (ha : PE X a (tE X.K Γ any ra)) (hb : PE X b (tE X.K Γ any rb)) (hp : PlainIx b := by exact fun _ _ => rfl) : PE X (.Subscript a b pos) (tE X.K Γ any (bind2 ra rb ixL)) :=
  me_ix ix_list hp (fun {H1 H2 A v w x y z} s m h1 h2 ez Q k => by
    obtain ⟨p, vs, e, h, r⟩ := h1
    obtain ⟨u, e1, r1⟩ := paired_at r ez
    exact ⟨p, vs, _, u, e, h2, SqL.of h, e1, k u _ (Same.refl _) r1⟩) ha hb
theorem m_lixC [Py α] {ra : Option (List α)} {rb : Option Int} (ha : PE X a (tE X.K Γ cl ra)) (hb : PE X b (tE X.K Γ any rb)) (hp : PlainIx b := by exact fun _ _ => rfl) : PE X (.Subscript a b pos) (tE X.K Γ cl (bind2 ra rb ixL)) :=
  me_ix ix_list hp (fun {H1 H2 A v w x y z} s m h1 h2 ez Q k => by
    obtain ⟨p, vs, e, h, r⟩ := h1
    obtain ⟨u, e1, r1⟩ := paired_at r ez
    exact ⟨p, vs, _, u, e, h2, SqL.of (cut_le h).1, e1, k u _ (Same.refl _) r1⟩) ha hb
theorem m_tix [Py α] {ra : Option (Tup α)} {rb : Option Int} (ha : PE X a (tE X.K Γ cl ra)) (hb : PE X b (tE X.K Γ any rb)) (hp : PlainIx b := by exact fun _ _ => rfl) : PE X (.Subscript a b pos) (tE X.K Γ cl (bind2 ra rb fun t i => ixL t.items i)) :=
  me_ix ix_tup hp (fun {H1 H2 A v w x y z} s m h1 h2 ez Q k => by
    obtain ⟨p, vs, e, h, r⟩ := h1
    obtain ⟨u, e1, r1⟩ := paired_at r ez
    exact ⟨p, vs, _, u, e, h2, SqT.of (cut_le h).1, e1, k u _ (Same.refl _) r1⟩) ha hb
theorem m_fst [Py α] [Py β] {ra : Option (α × β)} (ha : PE X a (tE X.K Γ cl ra)) (hb : PE X b (tE X.K Γ any (some (0 : Int)))) (hp : PlainIx b := by exact fun _ _ => rfl) : PE X (.Subscript a b pos) (tE X.K Γ cl (ra.bind fun x => some x.1)) :=
  me_eq (me_ix (f := fun (x : α × β) (_ : Int) => if (_ : Int) = 0 then some x.1 else none) ix_tup hp (fun {H1 H2 A v w x y z} s m h1 h2 ez Q k => by
    obtain ⟨p, v1, v2, e, h, r1, r2⟩ := h1
    by_cases hy : y = 0
    · rw [if_pos hy] at ez; cases ez; subst hy
      exact ⟨p, [v1, v2], 0, v1, e, h2, SqT.of (cut_le h).1, rfl, k v1 _ (Same.refl _) r1⟩
    · rw [if_neg hy] at ez; cases ez) ha hb) (by cases ra <;> rfl)
theorem m_snd [Py α] [Py β] {ra : Option (α × β)} (ha : PE X a (tE X.K Γ cl ra)) (hb : PE X b (tE X.K Γ any (some (1 : Int)))) (hp : PlainIx b := by exact fun _ _ => rfl) : PE X (.Subscript a b pos) (tE X.K Γ cl (ra.bind fun x => some x.2)) :=
  me_eq (me_ix (f := fun (x : α × β) (_ : Int) => if (_ : Int) = 1 then some x.2 else none) ix_tup hp (fun {H1 H2 A v w x y z} s m h1 h2 ez Q k => by
    obtain ⟨p, v1, v2, e, h, r1, r2⟩ := h1
    by_cases hy : y = 1
    · rw [if_pos hy] at ez; cases ez; subst hy
      exact ⟨p, [v1, v2], 1, v2, e, h2, SqT.of (cut_le h).1, rfl, k v2 _ (Same.refl _) r2⟩
    · rw [if_neg hy] at ez; cases ez) ha hb) (by cases ra <;> rfl)
/-- the script -/
theorem scr_sq {K : PySem.W.Frag} {H : Hp} {v : V} {x : Scr} (h : Py.rep K H v x) : ∃ a, v = .ref a ∧ SqL K H a (x.items.map V.int) := let ⟨a, e, h⟩ := h; ⟨a, e, h.imp (fun ⟨o, h⟩ => .inr ⟨o, h⟩) id⟩
theorem atI_map {f : α → β} {xs : List α} {i : Int} : atI (xs.map f) i = (atI xs i).map f := by
  unfold atI
  rw [List.length_map]
  cases ixN xs.length i with
  | none => rfl
  | some j => show (xs.map f)[j]? = (xs[j]?).map f; simp
theorem m_scrix {ra : Option Scr} {rb : Option Int} (ha : PE X a (tE X.K Γ any ra)) (hb : PE X b (tE X.K Γ any rb)) (hp : PlainIx b := by exact fun _ _ => rfl) : PE X (.Subscript a b pos) (tE X.K Γ cl (bind2 ra rb fun s i => ixL s.items i)) :=
  me_ix ix_list hp (fun {H1 H2 A v w x y z} s m h1 h2 ez Q k => by
    obtain ⟨p, e, h⟩ := scr_sq h1
    have ez : atI x.items y = some z := ez
    exact ⟨p, _, _, .int z, e, h2, h, by rw [atI_map, ez]; rfl, k _ _ (Same.refl _) rfl⟩) ha hb
theorem paired_drop {F : V → α → Prop} : ∀ (n : Nat) {vs : List V} {xs : List α}, Paired F vs xs → Paired F (vs.drop n) (xs.drop n)
  | 0, _, _, h => h
  | _ + 1, _, _, .nil => .nil
  | n + 1, _, _, .cons r t => paired_drop n t
theorem paired_take {F : V → α → Prop} : ∀ (n : Nat) {vs : List V} {xs : List α}, Paired F vs xs → Paired F (vs.take n) (xs.take n)
  | 0, _, _, h => .nil
  | _ + 1, _, _, .nil => .nil
  | n + 1, _, _, .cons r t => .cons r (paired_take n t)
theorem paired_cut {F : V → α → Prop} {vs : List V} {xs : List α} (h : Paired F vs xs) (lo hi : Option Int) : Paired F (cutV vs lo hi) (cutL xs lo hi) := by
  unfold cutV cutL
  rw [paired_len h]
  exact paired_take _ (paired_drop _ h)
theorem fr_new [Own α] {K : PySem.W.Frag} {H H' : Hp} {A : List Addr} {p : Addr} {o : HO} {x : α} (hp : H p = none) (c : Own.cont K (cut H A) o x) : (fr : Md α).R K H A (upd H p o) (.ref p) x :=
  ⟨p, o, rfl, hp, upd_same, Own.cup (Up.same fun a u e => by
    obtain ⟨e1, e2⟩ := cut_le e
    have n : a ≠ p := ne_of_none e1 hp
    rw [cut_out (by simp only [List.mem_cons, not_or]; exact ⟨n, e2⟩), upd_ne n]; exact e1) c⟩
theorem m_lcut [Py α] [Imm α] {lo hi : Option Expr} {ra : Option (List α)} {rl rh : Option (Option Int)} (ha : PE X a (tE X.K Γ any ra)) (hl : PO X lo (tO X.K Γ rl)) (hh : PO X hi (tO X.K Γ rh)) :
    PE X (.Subscript a (.Slice lo hi none p2) pos) (tE X.K Γ fr (ra.bind fun x => rl.bind fun l => rh.bind fun h => some (cutL x l h))) :=
  m_cut sl_list (fun {H1 H2 A v x l h z} s m h1 ez Q k => by
    obtain ⟨q, vs, e, hq, r⟩ := h1
    cases ez
    refine ⟨q, vs, e, SqL.of hq, fun p hp => k _ _ (same_upd hp) (fr_new (H' := H2) hp ⟨_, rfl, paired_up (paired_cut r l h) fun _ _ r => Imm.imm (fun p q => same_mut s (m p q)) r⟩)⟩) ha hl hh
theorem cutV_map (f : α → V) (xs : List α) (lo hi : Option Int) : cutV (xs.map f) lo hi = (cutL xs lo hi).map f := by
  unfold cutV cutL; rw [List.length_map, List.map_take, List.map_drop]
theorem paired_ints {K : PySem.W.Frag} {H : Hp} : ∀ ns : List Int, Paired (Py.rep K H) (ns.map V.int) ns
  | [] => .nil
  | n :: ns => .cons rfl (paired_ints ns)
theorem m_scrcut {lo hi : Option Expr} {ra : Option Scr} {rl rh : Option (Option Int)} (ha : PE X a (tE X.K Γ any ra)) (hl : PO X lo (tO X.K Γ rl)) (hh : PO X hi (tO X.K Γ rh)) :
    PE X (.Subscript a (.Slice lo hi none p2) pos) (tE X.K Γ fr (ra.bind fun x => rl.bind fun l => rh.bind fun h => some (cutL x.items l h))) :=
  m_cut sl_list (fun {H1 H2 A v x l h z} s m h1 ez Q k => by
    obtain ⟨q, e, hq⟩ := scr_sq h1
    cases ez
    refine ⟨q, _, e, hq, fun p hp => k _ _ (same_upd hp) (fr_new (H' := H2) hp ⟨_, rfl, by rw [cutV_map]; exact paired_ints _⟩)⟩) ha hl hh
theorem paired_app {F : V → α → Prop} : ∀ {vs ws : List V} {xs ys : List α}, Paired F vs xs → Paired F ws ys → Paired F (vs ++ ws) (xs ++ ys)
  | _, _, _, _, .nil, h => h
  | _, _, _, _, .cons r t, h => .cons r (paired_app t h)
theorem m_lcat [Py α] [Imm α] {ra rb : Option (List α)} (ha : PE X a (tE X.K Γ any ra)) (hb : PE X b (tE X.K Γ any rb)) : PE X (.BinOp a .Add b pos) (tE X.K Γ fr (bind2 ra rb lCat)) :=
  me_op op_cat (fun {H1 H2 A v w x y z} s m h1 h2 ez Q k => by
    obtain ⟨q, vs, e, hq, r⟩ := h1
    obtain ⟨q2, ws, e2, hq2, r2⟩ := h2
    unfold lCat at ez
    by_cases hc : x.length + y.length ≤ sizeLine
    · rw [if_pos hc] at ez; cases ez
      exact ⟨q, q2, vs, ws, e, e2, hq, hq2, by rw [paired_len r, paired_len r2]; exact hc, fun p hp => k _ _ (same_upd hp) (fr_new (H' := H2) hp ⟨_, rfl, paired_up (paired_app r r2) fun _ _ r => Imm.imm (fun p q => same_mut s (m p q)) r⟩)⟩
    · rw [if_neg hc] at ez; cases ez) ha hb
/-- x in xs, for numbers and texts -/
class SEq (α : Type) [Py α] [DecidableEq α] extends Sca α where
  eqv : ∀ x y : α, eqV (toSca.v x) (toSca.v y) = decide (x = y)
  fl : ∀ x : α, flatV (toSca.v x) = true
theorem decB {P : Prop} [Decidable P] {b : Bool} (h : b = true ↔ P) : b = decide P := by
  cases b with
  | true => exact (decide_eq_true (h.mp rfl)).symm
  | false => exact (decide_eq_false fun p => by have := h.mpr p; cases this).symm
instance : SEq Str := ⟨fun x y => decB (by show (x == y) = true ↔ x = y; exact beq_iff_eq), fun _ => rfl⟩
instance : SEq Int := ⟨fun x y => decB (by show (x == y) = true ↔ x = y; exact beq_iff_eq), fun _ => rfl⟩
theorem eqV_sca [Py α] [DecidableEq α] [S : SEq α] {K : PySem.W.Frag} {H : Hp} {x : α} : ∀ {vs : List V} {xs : List α}, Paired (Py.rep K H) vs xs → inV (Sca.v x) vs = decide (x ∈ xs) ∧ vs.all flatV = true
  | _, _, .nil => ⟨by simp [inV], rfl⟩
  | v :: vs, y :: ys, .cons r t => by
    obtain ⟨h1, h2⟩ := eqV_sca (x := x) t
    have e := Sca.is r
    refine ⟨?_, by rw [List.all_cons, e, S.fl, h2]; rfl⟩
    unfold inV at h1 ⊢
    rw [List.any_cons, h1, e, S.eqv]
    exact decB (by rw [Bool.or_eq_true, decide_eq_true_eq, decide_eq_true_eq, List.mem_cons, eq_comm])
def c_inL [Py α] [DecidableEq α] [S : SEq α] : Cmp X .In (any : Md α) (any : Md (List α)) fun x xs => some (decide (x ∈ xs)) := ⟨_, op_in_seq, fun {H1 H2 A v w x y z} s m h1 h2 ez Q k => by
  cases ez
  obtain ⟨q, vs, e, hq, r⟩ := h2
  obtain ⟨g1, g2⟩ := eqV_sca (x := x) r
  have e2 := Sca.is h1
  exact ⟨q, vs, e, .inl (SqL.of hq), by rw [e2]; exact S.fl x, g2, by rw [e2, g1]; exact k _ (Same.refl _)⟩⟩
def c_ninL [Py α] [DecidableEq α] [S : SEq α] : Cmp X .NotIn (any : Md α) (any : Md (List α)) fun x xs => some (!decide (x ∈ xs)) := ⟨_, op_notIn_seq, fun {H1 H2 A v w x y z} s m h1 h2 ez Q k => by
  cases ez
  obtain ⟨q, vs, e, hq, r⟩ := h2
  obtain ⟨g1, g2⟩ := eqV_sca (x := x) r
  have e2 := Sca.is h1
  exact ⟨q, vs, e, .inl (SqL.of hq), by rw [e2]; exact S.fl x, g2, by rw [e2, g1]; exact k _ (Same.refl _)⟩⟩
/-- == of data at any depth; ok: its texts are of signs -/
class Deq (α : Type) [Py α] [DecidableEq α] where
  data : α → PyData
  ok : α → Bool
  dep : Nat
  dp : ∀ {K : PySem.W.Frag} {H : Hp} {v : V} {x : α}, Py.rep K H v x → Dp K H v (data x)
  sh : ∀ x : α, (data x).canLay0 = ok x
  dl : ∀ x : α, (data x).depth ≤ dep
  eq : ∀ x y : α, PyData.eqv (data x) (data y) = decide (x = y)
theorem deq_shaped [Py α] [DecidableEq α] [D : Deq α] (h : D.dep ≤ 64) {x : α} (o : Deq.ok x = true) : SeqAt.shaped (Deq.data x) = true := by
  unfold SeqAt.shaped
  rw [Deq.sh, o, decide_eq_true (Nat.le_trans (Deq.dl x) h)]; rfl
def deqO {α : Type} [Py α] [DecidableEq α] [Deq α] (n : Bool) (x y : α) : Option Bool := if Deq.ok x && Deq.ok y then some (n != decide (x = y)) else none
def c_deq [Py α] [DecidableEq α] [D : Deq α] (hu : X.A.units + 64 < cLine) (hd : D.dep ≤ 64 := by decide) : Cmp X .Eq (any : Md α) (any : Md α) (deqO false) := ⟨_, op_eqD hu, fun {H1 H2 A v w x y z} s m h1 h2 ez Q k => by
  unfold deqO at ez
  by_cases hc : (Deq.ok x && Deq.ok y) = true
  · rw [if_pos hc] at ez; cases ez
    rw [Bool.and_eq_true] at hc
    exact ⟨_, _, Deq.dp h1, Deq.dp h2, deq_shaped hd hc.1, deq_shaped hd hc.2, by rw [Deq.eq, ← Bool.false_bne (decide (x = y))]; exact k _ (Same.refl _)⟩
  · rw [if_neg hc] at ez; cases ez⟩
def c_dne [Py α] [DecidableEq α] [D : Deq α] (hu : X.A.units + 64 < cLine) (hd : D.dep ≤ 64 := by decide) : Cmp X .NotEq (any : Md α) (any : Md α) (deqO true) := ⟨_, op_neD hu, fun {H1 H2 A v w x y z} s m h1 h2 ez Q k => by
  unfold deqO at ez
  by_cases hc : (Deq.ok x && Deq.ok y) = true
  · rw [if_pos hc] at ez; cases ez
    rw [Bool.and_eq_true] at hc
    exact ⟨_, _, Deq.dp h1, Deq.dp h2, deq_shaped hd hc.1, deq_shaped hd hc.2, by rw [Deq.eq, ← Bool.true_bne (decide (x = y))]; exact k _ (Same.refl _)⟩
  · rw [if_neg hc] at ez; cases ez⟩
instance : Deq Int := ⟨PyData.int, fun _ => true, 0, fun {K H v x} h => by rw [show v = .int x from h]; exact .int x, fun _ => rfl, fun _ => Nat.le_refl _, fun x y => decB (by show (x == y) = true ↔ x = y; exact beq_iff_eq)⟩
instance : Deq Str := ⟨PyData.str, PyData.strOk, 0, fun {K H v x} h => by rw [show v = .str x from h]; exact .str x, fun _ => rfl, fun _ => Nat.le_refl _, fun x y => decB (by show (x == y) = true ↔ x = y; exact beq_iff_eq)⟩
instance : Deq Bool := ⟨PyData.bool, fun _ => true, 0, fun {K H v x} h => by rw [show v = .bl x from h]; exact .bl x, fun _ => rfl, fun _ => Nat.le_refl _, fun x y => decB (by show (x == y) = true ↔ x = y; exact beq_iff_eq)⟩
theorem dp_all [Py α] [DecidableEq α] [Deq α] {K : PySem.W.Frag} {H : Hp} : ∀ {vs : List V} {xs : List α}, Paired (Py.rep K H) vs xs → DpAll K H vs (xs.map Deq.data)
  | _, _, .nil => .nil
  | _, _, .cons r t => .cons (Deq.dp r) (dp_all t)
theorem sh_all [Py α] [DecidableEq α] [Deq α] : ∀ xs : List α, PyData.canLayAll0 (xs.map Deq.data) = xs.all Deq.ok
  | [] => rfl
  | x :: xs => by show (PyData.canLay0 (Deq.data x) && PyData.canLayAll0 (xs.map Deq.data)) = _; rw [Deq.sh, sh_all xs]; rfl
theorem dl_all [Py α] [DecidableEq α] [D : Deq α] : ∀ xs : List α, PyData.depthAll (xs.map Deq.data) ≤ D.dep
  | [] => Nat.zero_le _
  | x :: xs => by show max (PyData.depth (Deq.data x)) (PyData.depthAll (xs.map Deq.data)) ≤ _; exact Nat.max_le.mpr ⟨Deq.dl x, dl_all xs⟩
theorem eq_all [Py α] [DecidableEq α] [Deq α] : ∀ xs ys : List α, PyData.eqvAll (xs.map Deq.data) (ys.map Deq.data) = true ↔ xs = ys
  | [], [] => by simp [PyData.eqvAll]
  | [], _ :: _ => by simp [PyData.eqvAll]
  | _ :: _, [] => by simp [PyData.eqvAll]
  | x :: xs, y :: ys => by
    show (PyData.eqv (Deq.data x) (Deq.data y) && PyData.eqvAll (xs.map Deq.data) (ys.map Deq.data)) = true ↔ _
    rw [Bool.and_eq_true, Deq.eq, decide_eq_true_eq, eq_all xs ys, List.cons.injEq]
instance [Py α] [DecidableEq α] [D : Deq α] : Deq (List α) := ⟨fun xs => .list (xs.map Deq.data), fun xs => xs.all Deq.ok, D.dep + 1, fun ⟨a, vs, e, h, r⟩ => by rw [e]; exact .lst (SqL.of h) (dp_all r), fun xs => sh_all xs,
  fun xs => Nat.succ_le_succ (dl_all xs), fun xs ys => decB (eq_all xs ys)⟩
instance [Py α] [DecidableEq α] [D : Deq α] : Deq (Tup α) := ⟨fun xs => .tuple (xs.items.map Deq.data), fun xs => xs.items.all Deq.ok, D.dep + 1, fun ⟨a, vs, e, h, r⟩ => by rw [e]; exact .tup (SqT.of h) (dp_all r), fun xs => sh_all xs.items,
  fun xs => Nat.succ_le_succ (dl_all xs.items), fun xs ys => decB ((eq_all xs.items ys.items).trans ⟨fun h => by cases xs; cases ys; exact congrArg _ h, fun h => by rw [h]⟩)⟩
instance [Py α] [Py β] [DecidableEq α] [DecidableEq β] [D : Deq α] [D2 : Deq β] : Deq (α × β) := ⟨fun x => .tuple [Deq.data x.1, Deq.data x.2], fun x => Deq.ok x.1 && Deq.ok x.2, max D.dep D2.dep + 1, fun ⟨a, v1, v2, e, h, r1, r2⟩ => by rw [e]; exact .tup (SqT.of h) (.cons (Deq.dp r1) (.cons (Deq.dp r2) .nil)),
  fun x => by show (PyData.canLay0 (Deq.data x.1) && (PyData.canLay0 (Deq.data x.2) && true)) = _; rw [Deq.sh, Deq.sh, Bool.and_true],
  fun x => by
    show max (PyData.depth (Deq.data x.1)) (max (PyData.depth (Deq.data x.2)) 0) + 1 ≤ _
    have h1 := Deq.dl x.1; have h2 := Deq.dl x.2
    omega,
  fun x y => decB (by
    show (PyData.eqv (Deq.data x.1) (Deq.data y.1) && (PyData.eqv (Deq.data x.2) (Deq.data y.2) && true)) = true ↔ _
    rw [Bool.and_true, Bool.and_eq_true, Deq.eq, Deq.eq, decide_eq_true_eq, decide_eq_true_eq]
    exact ⟨fun h => Prod.ext h.1 h.2, fun h => by rw [h]; exact ⟨rfl, rfl⟩⟩)⟩

/-! ### built-ins -/
theorem m_callB {id : String} {ar : Args α} {cc : Bool} {ra : Option α} {mg : Md γ} {f : α → Option γ} {r : List V → Hp → VK → Prop} (hc : CallR X (.builtin id) r) (hg : Gl X x) (hm : X.mg x = none) (hv : bootBuiltins x = some (.builtin id)) (ha : PA X (e :: es) (tA X.K Γ ar cc ra))
    (hf : ∀ {H1 H2 : Hp} {A : List Addr} {vs : List V} {x : α} {z : γ}, Same H1 H2 → (∀ p ∈ A, Mut (H1 p)) → ar.R X.K (cut H2 (if cc then A else [])) vs x → f x = some z → ∀ Q : VK, (∀ u H', Same H2 H' → mg.R X.K H2 A H' u z → Q u H') → r vs H2 Q)
    (hn : x ≠ "__name__" := by decide) (hdb : (x == ("__debug__" : Str)) = false := by decide) (he : starEach (e :: es) X.env = (false, eval e X.env) :: starEach es X.env := by rfl) (hpl : (backTo pos (starEach es X.env)).any (·.1) = false := by rfl) :
    PE X (.Call (.Name x p) (e :: es) [] pos) (tE X.K Γ mg (ra.bind f)) := by
  refine pe_le (pe_callB hc hg hm hv ha hn hdb he hpl) ?_
  rintro σ H Q ⟨H0, A0, A, z, R, er, k⟩
  cases ra with
  | none => cases er
  | some x => exact ⟨H0, A0, A, x, R, rfl, fun vs H1 s1 q1 => hf s1 R.mut q1 er Q fun u H3 s3 q3 => k u H3 (s1.trans s3) (mg.back s1 q3)⟩
theorem m_callTy {id : String} {ar : Args α} {cc : Bool} {ra : Option α} {mg : Md γ} {f : α → Option γ} {r : List V → Hp → VK → Prop} (hc : CallR X (.type id) r) (hg : Gl X x) (hm : X.mg x = none) (hv : bootBuiltins x = some (.type id)) (ha : PA X (e :: es) (tA X.K Γ ar cc ra))
    (hf : ∀ {H1 H2 : Hp} {A : List Addr} {vs : List V} {x : α} {z : γ}, Same H1 H2 → (∀ p ∈ A, Mut (H1 p)) → ar.R X.K (cut H2 (if cc then A else [])) vs x → f x = some z → ∀ Q : VK, (∀ u H', Same H2 H' → mg.R X.K H2 A H' u z → Q u H') → r vs H2 Q)
    (hn : x ≠ "__name__" := by decide) (hdb : (x == ("__debug__" : Str)) = false := by decide) (he : starEach (e :: es) X.env = (false, eval e X.env) :: starEach es X.env := by rfl) (hpl : (backTo pos (starEach es X.env)).any (·.1) = false := by rfl) :
    PE X (.Call (.Name x p) (e :: es) [] pos) (tE X.K Γ mg (ra.bind f)) := by
  refine pe_le (pe_callTy hc hg hm hv ha hn hdb he hpl) ?_
  rintro σ H Q ⟨H0, A0, A, z, R, er, k⟩
  cases ra with
  | none => cases er
  | some x => exact ⟨H0, A0, A, x, R, rfl, fun vs H1 s1 q1 => hf s1 R.mut q1 er Q fun u H3 s3 q3 => k u H3 (s1.trans s3) (mg.back s1 q3)⟩
/-- one argument -/
def b1 {α : Type} (r : Option α) : Option (α × Unit) := r.bind fun x => some (x, ())
theorem ma_one [Py α] {ra : Option α} (ha : PE X e (tE X.K Γ any ra)) (hs : starEach [e] X.env = (false, eval e X.env) :: starEach [] X.env := by rfl) : PA X [e] (tA X.K Γ (ac a0) false (ra.bind fun x => some (x, ()))) := ma_consA ha ma_nil hs
theorem args1 [Py α] {K : PySem.W.Frag} {H : Hp} {vs : List V} {x : α × Unit} (h : (ac a0 : Args (α × Unit)).R K (cut H []) vs x) : ∃ v, vs = [v] ∧ Py.rep K H v x.1 := by
  obtain ⟨v, ws, e, r, q⟩ := h
  rw [cut_nil] at r
  cases (show ws = [] from q)
  exact ⟨v, e, r⟩
class Len (α : Type) [Py α] where
  len : α → Option Int
  ok : ∀ {K : PySem.W.Frag} {H : Hp} {v : V} {x : α} {n : Int}, Py.rep K H v x → len x = some n → ∃ k : Nat, LenV K v H k ∧ n = (k : Int)
instance [Py α] : Len (List α) := ⟨fun xs => some ((xs.length : Nat) : Int), fun ⟨a, vs, e, h, r⟩ q => ⟨vs.length, by rw [e]; exact .inl ⟨_, SqL.of h, rfl⟩, by cases q; rw [paired_len r]⟩⟩
instance [Py α] : Len (Tup α) := ⟨fun xs => some ((xs.items.length : Nat) : Int), fun ⟨a, vs, e, h, r⟩ q => ⟨vs.length, by rw [e]; exact .inr ⟨_, SqT.of h, rfl⟩, by cases q; rw [paired_len r]⟩⟩
instance : Len Scr := ⟨fun xs => some ((xs.items.length : Nat) : Int), fun h q => by
  obtain ⟨a, e, s⟩ := scr_sq h
  exact ⟨_, by rw [e]; exact .inl ⟨_, s, rfl⟩, by cases q; rw [List.length_map]⟩⟩
instance : Len Str := ⟨sLen, fun {K H v x n} h q => by
  unfold sLen at q
  by_cases hc : x.length ≤ sizeLine
  · rw [if_pos hc] at q; cases q
    exact ⟨_, by rw [show v = .str x from h]; exact ⟨hc, rfl⟩, rfl⟩
  · rw [if_neg hc] at q; cases q⟩
def D.len : D → Option Int
  | .str x => sLen x
  | .lst xs => some ((xs.length : Nat) : Int)
  | .tup xs => some ((xs.length : Nat) : Int)
  | _ => none
theorem repDs_len {H : Hp} : ∀ {vs : List V} {xs : List D}, repDs H vs xs → vs.length = xs.length
  | _, [], h => by rw [show _ = [] from h]; rfl
  | _, x :: xs, ⟨v, ws, e, r, rs⟩ => by rw [e, List.length_cons, List.length_cons, repDs_len rs]
instance : Len D := ⟨D.len, fun {K H v x n} h q => by
  cases x with
  | str x => exact Len.ok (α := Str) h q
  | lst xs => obtain ⟨a, vs, e, h, r⟩ := h; cases q; exact ⟨vs.length, by rw [e]; exact .inl ⟨_, SqL.of h, rfl⟩, by rw [repDs_len r]⟩
  | tup xs => obtain ⟨a, vs, e, h, r⟩ := h; cases q; exact ⟨vs.length, by rw [e]; exact .inr ⟨_, SqT.of h, rfl⟩, by rw [repDs_len r]⟩
  | _ => cases q⟩
theorem m_len [Py α] [Len α] {ra : Option α} (hg : Gl X "len") (hm : X.mg "len" = none) (ha : PE X e (tE X.K Γ any ra)) (he : starEach [e] X.env = (false, eval e X.env) :: starEach [] X.env := by rfl) : PE X (.Call (.Name "len" p) [e] [] pos) (tE X.K Γ cl (ra.bind Len.len)) :=
  me_eq (m_callB (f := fun x : α × Unit => Len.len x.1) call_len hg hm PySem.boot_len (ma_one ha he) (fun {H1 H2 A vs x z} s m q ez Q k => by
    obtain ⟨v, e, r⟩ := args1 q
    obtain ⟨n, h1, h2⟩ := Len.ok r ez
    exact ⟨v, n, e, h1, k _ _ (Same.refl _) (by rw [h2]; rfl)⟩) (he := he)) (by cases ra <;> rfl)
theorem m_int1 {ra : Option Bool} (hg : Gl X "int") (hm : X.mg "int" = none) (ha : PE X e (tE X.K Γ any ra)) (he : starEach [e] X.env = (false, eval e X.env) :: starEach [] X.env := by rfl) : PE X (.Call (.Name "int" p) [e] [] pos) (tE X.K Γ cl (ra.bind fun b => some (if b then (1 : Int) else 0))) :=
  me_eq (m_callTy (f := fun x : Bool × Unit => some (if x.1 then (1 : Int) else 0)) call_int1 hg hm (by decide +kernel) (ma_one ha he) (fun {H1 H2 A vs x z} s m q ez Q k => by
    obtain ⟨v, e, r⟩ := args1 q
    cases ez
    exact .inr ⟨_, by rw [e, show v = .bl x.1 from r], k _ _ (Same.refl _) rfl⟩) (he := he)) (by cases ra <;> rfl)
theorem m_strI {ra : Option Int} (hg : Gl X "str") (hm : X.mg "str" = none) (ha : PE X e (tE X.K Γ any ra)) (he : starEach [e] X.env = (false, eval e X.env) :: starEach [] X.env := by rfl) : PE X (.Call (.Name "str" p) [e] [] pos) (tE X.K Γ cl (ra.bind sOfInt)) :=
  me_eq (m_callTy (f := fun x : Int × Unit => sOfInt x.1) call_str_int hg hm (by decide +kernel) (ma_one ha he) (fun {H1 H2 A vs x z} s m q ez Q k => by
    obtain ⟨v, e, r⟩ := args1 q
    unfold sOfInt at ez
    by_cases hc : x.1.natAbs.log2 < 1920
    · rw [if_pos hc] at ez; cases ez
      exact ⟨_, by rw [e, show v = .int x.1 from r], hc, k _ _ (Same.refl _) rfl⟩
    · rw [if_neg hc] at ez; cases ez) (he := he)) (by cases ra <;> rfl)
theorem m_intS {ra : Option Str} (hg : Gl X "int") (hm : X.mg "int" = none) (ha : PE X e (tE X.K Γ any ra)) (he : starEach [e] X.env = (false, eval e X.env) :: starEach [] X.env := by rfl) : PE X (.Call (.Name "int" p) [e] [] pos) (tE X.K Γ cl (ra.bind sToInt)) :=
  me_eq (m_callTy (f := fun x : Str × Unit => sToInt x.1) call_int_str hg hm (by decide +kernel) (ma_one ha he) (fun {H1 H2 A vs x z} s m q ez Q k => by
    obtain ⟨v, e, r⟩ := args1 q
    unfold sToInt at ez
    by_cases hc : x.1.length ≤ 640
    · rw [if_pos hc] at ez
      exact ⟨_, _, by rw [e, show v = .str x.1 from r], ez, hc, k _ _ (Same.refl _) rfl⟩
    · rw [if_neg hc] at ez; cases ez) (he := he)) (by cases ra <;> rfl)
theorem m_max {ra rb : Option Int} (hc : X.calm = true) (hg : Gl X "max") (hm : X.mg "max" = none) (ha : PE X a (tE X.K Γ any ra)) (hb : PE X b (tE X.K Γ any rb)) (he : starEach [a, b] X.env = (false, eval a X.env) :: starEach [b] X.env := by rfl) (he2 : starEach [b] X.env = (false, eval b X.env) :: starEach [] X.env := by rfl) (hpl : (backTo pos (starEach [b] X.env)).any (·.1) = false := by rfl) :
    PE X (.Call (.Name "max" p) [a, b] [] pos) (tE X.K Γ cl (bind2 ra rb fun x y => some (if y > x then y else x))) :=
  me_eq (m_callB (f := fun x : Int × Int × Unit => some (if x.2.1 > x.1 then x.2.1 else x.1)) (call_max2 hc) hg hm (by decide +kernel) (ma_consA ha (ma_consA hb ma_nil he2) he) (fun {H1 H2 A vs x z} s m q ez Q k => by
    obtain ⟨v, ws, e, r, w, us, e2, r2, q⟩ := q
    cases (show us = [] from q)
    cases ez
    exact ⟨x.1, x.2.1, by rw [e, e2, show v = .int x.1 from r, show w = .int x.2.1 from r2], k _ _ (Same.refl _) rfl⟩) (he := he) (hpl := hpl)) (by cases ra <;> cases rb <;> rfl)
theorem m_min {ra rb : Option Int} (hc : X.calm = true) (hg : Gl X "min") (hm : X.mg "min" = none) (ha : PE X a (tE X.K Γ any ra)) (hb : PE X b (tE X.K Γ any rb)) (he : starEach [a, b] X.env = (false, eval a X.env) :: starEach [b] X.env := by rfl) (he2 : starEach [b] X.env = (false, eval b X.env) :: starEach [] X.env := by rfl) (hpl : (backTo pos (starEach [b] X.env)).any (·.1) = false := by rfl) :
    PE X (.Call (.Name "min" p) [a, b] [] pos) (tE X.K Γ cl (bind2 ra rb fun x y => some (if y < x then y else x))) :=
  me_eq (m_callB (f := fun x : Int × Int × Unit => some (if x.2.1 < x.1 then x.2.1 else x.1)) (call_min2 hc) hg hm (by decide +kernel) (ma_consA ha (ma_consA hb ma_nil he2) he) (fun {H1 H2 A vs x z} s m q ez Q k => by
    obtain ⟨v, ws, e, r, w, us, e2, r2, q⟩ := q
    cases (show us = [] from q)
    cases ez
    exact ⟨x.1, x.2.1, by rw [e, e2, show v = .int x.1 from r, show w = .int x.2.1 from r2], k _ _ (Same.refl _) rfl⟩) (he := he) (hpl := hpl)) (by cases ra <;> cases rb <;> rfl)
theorem ints_paired {K : PySem.W.Frag} {H : Hp} : ∀ {vs : List V} {ns : List Int}, Paired (Py.rep K H) vs ns → vs = ns.map V.int
  | _, _, .nil => rfl
  | _, _, .cons r t => by rw [ints_paired t]; exact congrArg (· :: _) r
theorem strs_paired {K : PySem.W.Frag} {H : Hp} : ∀ {vs : List V} {ns : List Str}, Paired (Py.rep K H) vs ns → vs = ns.map V.str
  | _, _, .nil => rfl
  | _, _, .cons r t => by rw [strs_paired t]; exact congrArg (· :: _) r
theorem paired_strs {K : PySem.W.Frag} {H : Hp} : ∀ ns : List Str, Paired (Py.rep K H) (ns.map V.str) ns
  | [] => .nil
  | n :: ns => .cons rfl (paired_strs ns)
theorem m_sum {ra : Option (List Int)} (hc : X.calm = true) (hg : Gl X "sum") (hm : X.mg "sum" = none) (ha : PE X e (tE X.K Γ any ra)) (he : starEach [e] X.env = (false, eval e X.env) :: starEach [] X.env := by rfl) : PE X (.Call (.Name "sum" p) [e] [] pos) (tE X.K Γ cl (ra.bind fun xs => some xs.sum)) :=
  me_eq (m_callB (f := fun x : List Int × Unit => some x.1.sum) (cr_sum hc) hg hm (by decide +kernel) (ma_one ha he) (fun {H1 H2 A vs x z} s m q ez Q k => by
    obtain ⟨v, e, a, ws, e2, h, r⟩ := args1 q
    cases ez
    exact ⟨a, x.1, by rw [e, e2], by rw [← ints_paired r]; exact SqL.of h, k _ _ (Same.refl _) rfl⟩) (he := he)) (by cases ra <;> rfl)
/-- list(xs), xs a list -/
theorem m_listL [Py α] [Imm α] {ra : Option (List α)} (hg : Gl X "list") (hm : X.mg "list" = none) (ha : PE X e (tE X.K Γ any ra)) (he : starEach [e] X.env = (false, eval e X.env) :: starEach [] X.env := by rfl) : PE X (.Call (.Name "list" p) [e] [] pos) (tE X.K Γ fr ra) :=
  me_eq (m_callTy (f := fun x : List α × Unit => some x.1) call_list_of hg hm (by decide +kernel) (ma_one ha he) (fun {H1 H2 A vs x z} s m q ez Q k => by
    obtain ⟨v, e, a, ws, e2, h, r⟩ := args1 q
    cases ez
    exact ⟨a, ws, by rw [e, e2], .inl (SqL.of h), fun l hl => k _ _ (same_upd hl) (fr_new (H' := H2) hl ⟨_, rfl, paired_up r fun _ _ r => Imm.imm (fun p q => same_mut s (m p q)) r⟩)⟩) (he := he)) (by cases ra <;> rfl)
/-- texts by methods -/
theorem m_split {apos : Pos} {ra rb : Option Str} (ha : PE X a (tE X.K Γ any ra)) (hb : PE X b (tE X.K Γ any rb)) (hs : starEach [b] X.env = [(false, eval b X.env)] := by rfl) (hbase : attributeBase a "split" X.env (eval a X.env) = eval a X.env := by rfl) (hline : (apos.endLine == pos.line) = true := by rfl) :
    PE X (.Call (.Attribute a "split" apos) [b] [] pos) (tE X.K Γ fr (bind2 ra rb sSplit)) := by
  refine pe_le (pe_split ha hb hs hbase hline) ?_
  rintro σ H Q ⟨H0, A0, A, z, R, er, k⟩
  cases ra with
  | none => cases er
  | some x =>
    cases rb with
    | none => cases er
    | some y =>
      have er : sSplit x y = some z := er
      unfold sSplit at er
      by_cases hc : (y.length == 0) = false ∧ x.length + 2 ≤ sizeLine
      · rw [if_pos hc] at er; cases er
        refine ⟨H0, A0, A, x, R, rfl, fun v H1 s1 q1 => ⟨⟨x, q1⟩, H0, A0, A, y, R.grow s1, rfl, fun w H2 s2 q2 => ⟨x, y, q1, by rw [show w = .str y from q2], hc.1, hc.2, fun p hp => ?_⟩⟩⟩
        have s := s1.trans s2
        exact k _ _ (s.trans (same_upd hp)) ((fr : Md (List Str)).back s (fr_new (H' := H2) hp ⟨_, rfl, paired_strs _⟩))
      · rw [if_neg hc] at er; cases er
theorem m_join {apos : Pos} {ra : Option Str} {rb : Option (List Str)} (ha : PE X a (tE X.K Γ any ra)) (hb : PE X b (tE X.K Γ any rb)) (hs : starEach [b] X.env = [(false, eval b X.env)] := by rfl) (hbase : attributeBase a "join" X.env (eval a X.env) = eval a X.env := by rfl) (hline : (apos.endLine == pos.line) = true := by rfl) :
    PE X (.Call (.Attribute a "join" apos) [b] [] pos) (tE X.K Γ cl (bind2 ra rb sJoin)) := by
  refine pe_le (pe_join ha hb hs hbase hline) ?_
  rintro σ H Q ⟨H0, A0, A, z, R, er, k⟩
  cases ra with
  | none => cases er
  | some x =>
    cases rb with
    | none => cases er
    | some y =>
      have er : sJoin x y = some z := er
      unfold sJoin at er
      by_cases hc : (y.map (·.length)).sum + y.length * x.length ≤ 16777216
      · rw [if_pos hc] at er; cases er
        refine ⟨H0, A0, A, x, R, rfl, fun v H1 s1 q1 => ⟨⟨x, q1⟩, H0, A0, A, y, R.grow s1, rfl, fun w H2 s2 ⟨p, ws, e, h, r⟩ => ⟨x, p, y, q1, by rw [e], .inl (by rw [← strs_paired r]; exact SqL.of h), hc, ?_⟩⟩⟩
        exact k _ _ (s1.trans s2) rfl
      · rw [if_neg hc] at er; cases er
end
end M

set_option Elab.async false
set_option linter.all false
set_option maxRecDepth 100000
namespace M
open PySem PySem.Spec PyProof.Rows L2

/-! ### the slots stored, forgotten, changed -/
section
variable {K : PySem.W.Frag} {B B' H H' : Hp} {α : Type}
theorem RelS.drop : ∀ {Γ : List Slot} {σ : L2.St} {A : List Addr} (i : Nat) (o : Option V), RelS K B H Γ σ A → ∃ A', A'.Sublist A ∧ RelS K B H (Γ.set i .no) (σ.set i o) A'
  | [], σ, A, i, o, h => ⟨A, List.Sublist.refl _, by obtain ⟨e, ea⟩ := h; subst e; exact ⟨rfl, ea⟩⟩
  | .no :: Γ, _, A, 0, o, ⟨q, τ, e, h⟩ => ⟨A, List.Sublist.refl _, by subst e; exact ⟨o, τ, rfl, h⟩⟩
  | .no :: Γ, _, A, i + 1, o, ⟨q, τ, e, h⟩ => by
    obtain ⟨A', s, r⟩ := RelS.drop i o h
    subst e
    exact ⟨A', s, q, τ.set i o, rfl, r⟩
  | .sro j x :: Γ, _, A, 0, o, ⟨v, τ, e, r, h⟩ => ⟨A, List.Sublist.refl _, by subst e; exact ⟨o, τ, rfl, h⟩⟩
  | .sro j x :: Γ, _, A, i + 1, o, ⟨v, τ, e, q, h⟩ => by
    obtain ⟨A', s, r⟩ := RelS.drop i o h
    subst e
    exact ⟨A', s, v, τ.set i o, rfl, q, r⟩
  | .sow j x :: Γ, _, A, 0, o, ⟨p, u, τ, A1, e, ea, hp, c, h⟩ => ⟨A1, by rw [ea]; exact List.sublist_cons_self _ _, by subst e; exact ⟨o, τ, rfl, h⟩⟩
  | .sow j x :: Γ, _, A, i + 1, o, ⟨p, u, τ, A1, e, ea, hp, c, h⟩ => by
    obtain ⟨A', s, r⟩ := RelS.drop i o h
    subst e
    exact ⟨p :: A', by rw [ea]; exact s.cons₂ _, p, u, τ.set i o, A', rfl, rfl, hp, c, r⟩
theorem RelS.fillr {ins : Py α} {x : α} {v : V} (r : ins.rep K B v x) : ∀ {Γ : List Slot} {σ : L2.St} {A : List Addr} {i : Nat}, RelS K B H Γ σ A → Γ[i]? = some .no → RelS K B H (Γ.set i (.sro ins x)) (σ.set i (some v)) A
  | [], _, _, i, _, e => by simp at e
  | .no :: Γ, _, A, 0, ⟨q, τ, e, h⟩, _ => by subst e; exact ⟨v, τ, rfl, r, h⟩
  | .no :: Γ, _, A, i + 1, ⟨q, τ, e, h⟩, en => by subst e; exact ⟨q, τ.set i (some v), rfl, RelS.fillr r h (by simpa using en)⟩
  | .sro j y :: Γ, _, A, 0, _, en => by cases en
  | .sro j y :: Γ, _, A, i + 1, ⟨u, τ, e, q, h⟩, en => by subst e; exact ⟨u, τ.set i (some v), rfl, q, RelS.fillr r h (by simpa using en)⟩
  | .sow j y :: Γ, _, A, 0, _, en => by cases en
  | .sow j y :: Γ, _, A, i + 1, ⟨p, u, τ, A1, e, ea, hp, c, h⟩, en => by subst e; exact ⟨p, u, τ.set i (some v), A1, rfl, ea, hp, c, RelS.fillr r h (by simpa using en)⟩
theorem RelS.fillo {ins : Own α} {x : α} {p : Addr} {o : HO} (hp : H p = some o) (r : ins.cont K B o x) : ∀ {Γ : List Slot} {σ : L2.St} {A : List Addr} {i : Nat}, RelS K B H Γ σ A → Γ[i]? = some .no → ∃ A', A'.Perm (p :: A) ∧ RelS K B H (Γ.set i (.sow ins x)) (σ.set i (some (.ref p))) A'
  | [], _, _, i, _, e => by simp at e
  | .no :: Γ, _, A, 0, ⟨q, τ, e, h⟩, _ => ⟨p :: A, List.Perm.refl _, by subst e; exact ⟨p, o, τ, A, rfl, rfl, hp, r, h⟩⟩
  | .no :: Γ, _, A, i + 1, ⟨q, τ, e, h⟩, en => by
    obtain ⟨A', s, z⟩ := RelS.fillo hp r h (by simpa using en)
    subst e; exact ⟨A', s, q, τ.set i (some (.ref p)), rfl, z⟩
  | .sro j y :: Γ, _, A, 0, _, en => by cases en
  | .sro j y :: Γ, _, A, i + 1, ⟨u, τ, e, q, h⟩, en => by
    obtain ⟨A', s, z⟩ := RelS.fillo hp r h (by simpa using en)
    subst e; exact ⟨A', s, u, τ.set i (some (.ref p)), rfl, q, z⟩
  | .sow j y :: Γ, _, A, 0, _, en => by cases en
  | .sow j y :: Γ, _, A, i + 1, ⟨p2, u, τ, A1, e, ea, hp2, c, h⟩, en => by
    obtain ⟨A', s, z⟩ := RelS.fillo hp r h (by simpa using en)
    subst e
    exact ⟨p2 :: A', by rw [ea]; exact (s.cons p2).trans (List.Perm.swap p p2 A1), p2, u, τ.set i (some (.ref p)), A', rfl, rfl, hp2, c, z⟩
theorem RelS.chg {ins : Own α} {x y : α} {o' : HO} {p : Addr} (r : ins.cont K B o' y) : ∀ {Γ : List Slot} {σ : L2.St} {A : List Addr} {i : Nat}, A.Nodup → RelS K B H Γ σ A → Γ[i]? = some (.sow ins x) → σ[i]? = some (some (.ref p)) → RelS K B (upd H p o') (Γ.set i (.sow ins y)) σ A
  | [], _, _, i, _, _, e, _ => by simp at e
  | .no :: Γ, _, A, 0, _, _, en, _ => by cases en
  | .no :: Γ, _, A, i + 1, nd, ⟨q, τ, e, h⟩, en, es => by subst e; exact ⟨q, τ, rfl, RelS.chg r nd h (by simpa using en) (by simpa using es)⟩
  | .sro j z :: Γ, _, A, 0, _, _, en, _ => by cases en
  | .sro j z :: Γ, _, A, i + 1, nd, ⟨u, τ, e, q, h⟩, en, es => by subst e; exact ⟨u, τ, rfl, q, RelS.chg r nd h (by simpa using en) (by simpa using es)⟩
  | .sow j z :: Γ, _, A, 0, nd, ⟨p2, u, τ, A1, e, ea, hp, c, h⟩, en, es => by
    subst e; subst ea
    have e2 : p2 = p := by simpa using es
    subst e2
    cases en
    have nm := (List.nodup_cons.mp nd).1
    exact ⟨p2, o', τ, A1, rfl, rfl, upd_same, r, RelS.up (Up.refl B) (fun q hq o ho => by rw [upd_ne (show q ≠ p2 from fun z => nm (z ▸ hq))]; exact ho) h⟩
  | .sow j z :: Γ, _, A, i + 1, nd, ⟨p2, u, τ, A1, e, ea, hp, c, h⟩, en, es => by
    subst e; subst ea
    obtain ⟨nm, nd1⟩ := List.nodup_cons.mp nd
    have hpA : p ∈ A1 := by
      obtain ⟨q, o, e1, m, _⟩ := RelS.own h (by simpa using en)
      have es' : τ[i]? = some (some (.ref p)) := by simpa using es
      rw [es'] at e1; cases e1; exact m
    exact ⟨p2, u, τ, A1, rfl, rfl, by rw [upd_ne (show p2 ≠ p from fun z => nm (z ▸ hpA))]; exact hp, c, RelS.chg r nd1 h (by simpa using en) (by simpa using es)⟩
end
/-- what may be forgotten: a slot; that a container is owned -/
inductive Wk : List Slot → List Slot → Prop
  | nil : Wk [] []
  | k {Γ Γ' : List Slot} {s : Slot} : Wk Γ Γ' → Wk (s :: Γ) (s :: Γ')
  | d {Γ Γ' : List Slot} {s : Slot} : Wk Γ Γ' → Wk (s :: Γ) (.no :: Γ')
  | f {Γ Γ' : List Slot} {α : Type} {i : Own α} {x : α} : Wk Γ Γ' → Wk (.sow i x :: Γ) (.sro i.toPy x :: Γ')
theorem Wk.refl : ∀ Γ : List Slot, Wk Γ Γ
  | [] => .nil
  | _ :: Γ => .k (Wk.refl Γ)
theorem Wk.rel {K : PySem.W.Frag} {B H : Hp} {Γ Γ' : List Slot} (w : Wk Γ Γ') : ∀ {σ : L2.St} {A : List Addr}, A.Nodup → RelS K B H Γ σ A →
    ∃ A', A'.Sublist A ∧ ∀ B', Up B B' → (∀ p ∈ A, p ∉ A' → ∀ o, H p = some o → B' p = some o) → RelS K B' H Γ' σ A' := by
  induction w with
  | nil => intro σ A nd h; exact ⟨A, List.Sublist.refl _, fun B' u k => h⟩
  | @k Γ Γ' s w ih =>
    intro σ A nd h
    match s, h with
    | .no, ⟨o, τ, e, h⟩ =>
      obtain ⟨A', s, k⟩ := ih nd h
      exact ⟨A', s, fun B' u q => ⟨o, τ, e, k B' u q⟩⟩
    | .sro i x, ⟨v, τ, e, r, h⟩ =>
      obtain ⟨A', s, k⟩ := ih nd h
      exact ⟨A', s, fun B' u q => ⟨v, τ, e, i.up u r, k B' u q⟩⟩
    | .sow i x, ⟨p, o, τ, A1, e, ea, hp, c, h2⟩ =>
      subst ea
      obtain ⟨nm, nd1⟩ := List.nodup_cons.mp nd
      obtain ⟨A', s, k⟩ := ih nd1 h2
      exact ⟨p :: A', s.cons₂ _, fun B' u q => ⟨p, o, τ, A', e, rfl, hp, i.cup u c, k B' u fun b hb hn => q b (List.mem_cons_of_mem _ hb) fun m => (List.mem_cons.mp m).elim (fun z => nm (z ▸ hb)) hn⟩⟩
  | @d Γ Γ' s w ih =>
    intro σ A nd h
    match s, h with
    | .no, ⟨o, τ, e, h⟩ =>
      obtain ⟨A', s, k⟩ := ih nd h
      exact ⟨A', s, fun B' u q => ⟨o, τ, e, k B' u q⟩⟩
    | .sro i x, ⟨v, τ, e, r, h⟩ =>
      obtain ⟨A', s, k⟩ := ih nd h
      exact ⟨A', s, fun B' u q => ⟨some v, τ, e, k B' u q⟩⟩
    | .sow i x, ⟨p, o, τ, A1, e, ea, hp, c, h2⟩ =>
      subst ea
      obtain ⟨nm, nd1⟩ := List.nodup_cons.mp nd
      obtain ⟨A', s, k⟩ := ih nd1 h2
      exact ⟨A', s.cons _, fun B' u q => ⟨some (.ref p), τ, e, k B' u fun b hb hn => q b (List.mem_cons_of_mem _ hb) hn⟩⟩
  | @f Γ Γ' α i x w ih =>
    intro σ A nd h
    obtain ⟨p, o, τ, A1, e, ea, hp, c, h⟩ := h
    subst ea
    obtain ⟨nm, nd1⟩ := List.nodup_cons.mp nd
    obtain ⟨A', s, k⟩ := ih nd1 h
    refine ⟨A', s.cons _, fun B' u q => ⟨.ref p, τ, e, i.crep (q p List.mem_cons_self (fun m => nm (s.subset m)) o hp) (i.cup u c), k B' u fun b hb hn => q b (List.mem_cons_of_mem _ hb) hn⟩⟩
section
variable {K : PySem.W.Frag} {H0 H H' : Hp} {A0 A : List Addr} {Γ Γ' : List Slot} {σ : L2.St} {α : Type}
theorem Rel.dis (r : Rel K H0 A0 Γ σ H A) {p : Addr} (m : p ∈ A) : p ∉ A0 := fun q => by have := r.m0 p q; rw [r.fr p m] at this; exact this
theorem Rel.wk (w : Wk Γ Γ') (r : Rel K H0 A0 Γ σ H A) : ∃ A', Rel K H0 A0 Γ' σ H A' := by
  obtain ⟨A', s, k⟩ := w.rel r.nd r.sl
  refine ⟨A', s.nodup r.nd, fun p m => r.fr p (s.subset m), r.same, r.m0, k _ (Up.same (cut_sub fun a m => ?_)) fun p m hn o ho => ?_⟩
  · exact List.mem_append.mpr ((List.mem_append.mp m).imp id fun z => s.subset z)
  · rw [cut_out fun z => (List.mem_append.mp z).elim (r.dis m) hn]; exact ho
/-- a slot stored with a value that is none of what is owned -/
theorem Rel.setr {i : Nat} {ins : Py α} {x : α} {v : V} (r : Rel K H0 A0 Γ σ H A) (h : ins.rep K (cut H (A0 ++ A)) v x) (hi : i < Γ.length) : ∃ A', Rel K H0 A0 (Γ.set i (.sro ins x)) (σ.set i (some v)) H A' := by
  obtain ⟨A', s, q⟩ := r.sl.drop i none
  have u : Up (cut H (A0 ++ A)) (cut H (A0 ++ A')) := Up.same (cut_sub fun a m => List.mem_append.mpr ((List.mem_append.mp m).imp id fun z => s.subset z))
  have q2 := RelS.fillr (ins.up u h) (q.up u fun _ _ _ z => z) (i := i) (by rw [List.getElem?_set_self hi])
  rw [List.set_set, List.set_set] at q2
  exact ⟨A', s.nodup r.nd, fun p m => r.fr p (s.subset m), r.same, r.m0, q2⟩
/-- .. with a new container, made since the heap was H -/
theorem Rel.seto {i : Nat} {ins : Own α} {x : α} {p : Addr} {o : HO} (r : Rel K H0 A0 Γ σ H A) (sm : Same H H') (hn : H p = none) (hp : H' p = some o) (h : ins.cont K (cut H' (p :: (A0 ++ A))) o x) (hi : i < Γ.length) :
    ∃ A', Rel K H0 A0 (Γ.set i (.sow ins x)) (σ.set i (some (.ref p))) H' A' := by
  obtain ⟨A1, s, q⟩ := r.sl.drop i none
  have u : Up (cut H (A0 ++ A)) (cut H' (A0 ++ p :: A1)) := Up.same fun a z e => by
    obtain ⟨e1, e2⟩ := cut_le e
    rw [cut_out, sm a z e1]
    intro m
    rcases List.mem_append.mp m with m | m
    · exact e2 (List.mem_append.mpr (.inl m))
    · rcases List.mem_cons.mp m with m | m
      · exact ne_of_none e1 hn m
      · exact e2 (List.mem_append.mpr (.inr (s.subset m)))
  have u2 : Up (cut H' (p :: (A0 ++ A))) (cut H' (A0 ++ p :: A1)) := Up.same (cut_sub fun a m => by
    rcases List.mem_append.mp m with m | m
    · exact List.mem_cons_of_mem _ (List.mem_append.mpr (.inl m))
    · rcases List.mem_cons.mp m with m | m
      · rw [m]; exact List.mem_cons_self
      · exact List.mem_cons_of_mem _ (List.mem_append.mpr (.inr (s.subset m))))
  have q1 := q.up u (H' := H') fun a m z e => sm a z e
  obtain ⟨A', pm, q2⟩ := RelS.fillo (ins := ins) (x := x) (B := cut H' (A0 ++ p :: A1)) hp (ins.cup u2 h) q1 (i := i) (by rw [List.getElem?_set_self hi])
  rw [List.set_set, List.set_set] at q2
  have mem : ∀ a, a ∈ A' ↔ a = p ∨ a ∈ A1 := fun a => by rw [pm.mem_iff, List.mem_cons]
  have eqc : cut H' (A0 ++ p :: A1) = cut H' (A0 ++ A') := funext fun a => by
    unfold cut
    have : a ∈ A0 ++ p :: A1 ↔ a ∈ A0 ++ A' := by rw [List.mem_append, List.mem_append, mem, List.mem_cons]
    by_cases z : a ∈ A0 ++ p :: A1
    · rw [if_pos z, if_pos (this.mp z)]
    · rw [if_neg z, if_neg fun y => z (this.mpr y)]
  have pA : p ∉ A1 := fun m => by
    have := r.mut p (List.mem_append.mpr (.inr (s.subset m)))
    rw [hn] at this; exact this
  refine ⟨A', ?_, fun a m => ?_, r.same.trans sm, r.m0, by rw [← eqc]; exact q2⟩
  · exact pm.nodup_iff.mpr (List.nodup_cons.mpr ⟨pA, s.nodup r.nd⟩)
  · rcases (mem a).mp m with m | m
    · rw [m]; exact r.same.free hn
    · exact r.fr a (s.subset m)
theorem cut_upd {H : Hp} {A : List Addr} {p : Addr} {o : HO} (m : p ∈ A) : cut (upd H p o) A = cut H A := funext fun a => by
  unfold cut
  by_cases z : a ∈ A
  · rw [if_pos z, if_pos z]
  · rw [if_neg z, if_neg z, upd_ne (show a ≠ p from fun e => z (e ▸ m))]
/-- what a name owns is changed -/
theorem Rel.chg {i : Nat} {ins : Own α} {x y : α} {p : Addr} {o' : HO} (r : Rel K H0 A0 Γ σ H A) (hi : Γ[i]? = some (.sow ins x)) (hs : σ[i]? = some (some (.ref p))) (m : p ∈ A) (h : ins.cont K (cut H (A0 ++ A)) o' y) :
    Rel K H0 A0 (Γ.set i (.sow ins y)) σ (upd H p o') A :=
  ⟨r.nd, r.fr, fun a u e => by rw [upd_ne (ne_of_none e (r.fr p m))]; exact r.same a u e, r.m0, by
    rw [cut_upd (List.mem_append.mpr (.inr m))]
    exact RelS.chg h r.nd r.sl hi hs⟩
/-- another view of the entry: the frozen part of H -/
theorem Rel.base (r : Rel K H0 A0 Γ σ H A) : Rel K (cut H A) A0 Γ σ H A :=
  ⟨r.nd, fun p m => cut_in m, cut_same, fun p m => by rw [cut_out fun z => r.dis z m]; exact same_mut r.same (r.m0 p m), r.sl⟩
theorem Rel.base_same (r : Rel K H0 A0 Γ σ H A) : Same H0 (cut H A) := fun a o e => by
  rw [cut_out fun m => by rw [r.fr a m] at e; cases e]; exact r.same a o e
theorem Rel.unbase {Hb : Hp} {A' : List Addr} {Γ' : List Slot} {σ' : L2.St} (s : Same H0 Hb) (m0 : ∀ p ∈ A0, Mut (H0 p)) (r : Rel K Hb A0 Γ' σ' H' A') : Rel K H0 A0 Γ' σ' H' A' :=
  ⟨r.nd, fun p m => s.free (r.fr p m), s.trans r.same, m0, r.sl⟩
/-- what was frozen at the base stays -/
theorem Rel.frozen {Hb : Hp} {A' : List Addr} {Γ' : List Slot} {σ' : L2.St} (r : Rel K Hb A0 Γ' σ' H' A') : Same (cut Hb A0) (cut H' (A0 ++ A')) := fun a o e => by
  obtain ⟨e1, e2⟩ := cut_le e
  rw [cut_out fun m => (List.mem_append.mp m).elim e2 fun z => by rw [r.fr a z] at e1; cases e1]
  exact r.same a o e1
end

theorem cut_two (H : Hp) (A0 A : List Addr) : Same (cut H (A0 ++ A)) (cut (cut H A) A0) := fun a o e => by
  obtain ⟨e1, e2⟩ := cut_le e
  rw [cut_out fun m => e2 (List.mem_append.mpr (.inl m)), cut_out fun m => e2 (List.mem_append.mpr (.inr m))]
  exact e1

/-! ### statements -/
inductive Out (ρ S : Type) where
  | next (s : S) | ret (r : ρ) | exc (x : Str)
def tN {S : Type} (K : PySem.W.Frag) (Γ : List Slot) (m : Option S) (Γ1 : S → List Slot) : TS := fun D σ H =>
  ∃ H0 A0 A s, Rel K H0 A0 Γ σ H A ∧ m = some s ∧ ∀ σ' H' A', Rel K H0 A0 (Γ1 s) σ' H' A' → D.nx σ' H'
/-- how a function ends: W is what is wanted of an exception -/
structure Fin (ρ : Type) where
  md : Md ρ
  mg : Str → Option Value
  W : WX
def EndOk {ρ S : Type} (K : PySem.W.Frag) (F : Fin ρ) (H0 : Hp) (A0 : List Addr) (Γ1 : S → List Slot) (D : Ends) : Out ρ S → Prop
  | .next s => ∀ σ' H' A', Rel K H0 A0 (Γ1 s) σ' H' A' → D.nx σ' H'
  | .ret r => ∀ v H', Same H0 H' → F.md.R K H0 A0 H' v r → D.rt v H'
  | .exc x => ∀ c σ' H', F.mg x = some c → Same H0 H' → F.W c none σ' H'
def tB {ρ S : Type} (K : PySem.W.Frag) (F : Fin ρ) (Γ : List Slot) (m : Option (Out ρ S)) (Γ1 : S → List Slot) : TS := fun D σ H =>
  ∃ H0 A0 A o, Rel K H0 A0 Γ σ H A ∧ m = some o ∧ EndOk K F H0 A0 Γ1 D o
def bindOut {ρ S T : Type} (m : Option (Out ρ S)) (f : S → Option (Out ρ T)) : Option (Out ρ T) := m.bind fun o => match o with
  | .next s => f s
  | .ret r => some (.ret r)
  | .exc x => some (.exc x)
def NoNext {ρ S : Type} (m : Option (Out ρ S)) : Prop := ∀ s, m ≠ some (.next s)
section
variable {X : Cx} {e a b c : Expr} {es : List Expr} {st : Stmt} {sts sts2 : List Stmt} {Γ Γ' : List Slot} {α β γ ρ S T : Type} {pos p p2 : Pos} {F : Fin ρ}
theorem nn_ret {r : Option ρ} : NoNext (r.map (Out.ret : ρ → Out ρ S)) := fun s h => by cases r <;> cases h
theorem nn_exc {x : Str} : NoNext (some (Out.exc x : Out ρ S)) := fun s h => by cases h
theorem nn_bind {r : Option α} {f : α → Option (Out ρ S)} (h : ∀ x, NoNext (f x)) : NoNext (r.bind f) := fun s q => by
  cases r with
  | none => cases q
  | some x => exact h x s q
theorem nn_ite {b : Bool} {m m' : Option (Out ρ S)} (h : NoNext m) (h' : NoNext m') : NoNext (if b then m else m') := by cases b <;> assumption
theorem n_nil {s : S} {Γ1 : S → List Slot} (w : Wk Γ (Γ1 s)) : PSs X [] (tN X.K Γ (some s) Γ1) := pss_le pss_nil fun D σ H ⟨H0, A0, A, s, R, es, k⟩ => by
  cases es
  obtain ⟨A', R'⟩ := R.wk w
  exact k σ H A' R'
theorem n_cons {m : Option S} {Γ1 : S → List Slot} {m2 : S → Option T} {Γ2 : T → List Slot} (h1 : PS X st (tN X.K Γ m Γ1)) (h2 : ∀ s, PSs X sts (tN X.K (Γ1 s) (m2 s) Γ2)) : PSs X (st :: sts) (tN X.K Γ (m.bind m2) Γ2) := by
  refine pss_le (pss_cons h1 (pss_ex h2)) ?_
  rintro D σ H ⟨H0, A0, A, t, R, et, k⟩
  cases m with
  | none => cases et
  | some s => exact ⟨H0, A0, A, s, R, rfl, fun σ' H' A' R' => ⟨s, H0, A0, A', t, R', et, k⟩⟩
theorem b_nil {s : S} {Γ1 : S → List Slot} (w : Wk Γ (Γ1 s)) : PSs X [] (tB X.K F Γ (some (.next s)) Γ1) := pss_le pss_nil fun D σ H ⟨H0, A0, A, o, R, eo, k⟩ => by
  cases eo
  obtain ⟨A', R'⟩ := R.wk w
  exact k σ H A' R'
theorem b_cons {m : Option S} {Γ1 : S → List Slot} {m2 : S → Option (Out ρ T)} {Γ2 : T → List Slot} (h1 : PS X st (tN X.K Γ m Γ1)) (h2 : ∀ s, PSs X sts (tB X.K F (Γ1 s) (m2 s) Γ2)) : PSs X (st :: sts) (tB X.K F Γ (m.bind m2) Γ2) := by
  refine pss_le (pss_cons h1 (pss_ex h2)) ?_
  rintro D σ H ⟨H0, A0, A, o, R, eo, k⟩
  cases m with
  | none => cases eo
  | some s =>
    refine ⟨H0, A0, A, s, R, rfl, fun σ' H' A' R' => ⟨s, H0, A0, A', o, R', eo, ?_⟩⟩
    cases o <;> exact k
theorem b_consB {m : Option (Out ρ S)} {Γ1 : S → List Slot} {m2 : S → Option (Out ρ T)} {Γ2 : T → List Slot} (h1 : PS X st (tB X.K F Γ m Γ1)) (h2 : ∀ s, PSs X sts (tB X.K F (Γ1 s) (m2 s) Γ2)) : PSs X (st :: sts) (tB X.K F Γ (bindOut m m2) Γ2) := by
  refine pss_le (pss_cons h1 (pss_ex h2)) ?_
  rintro D σ H ⟨H0, A0, A, o, R, eo, k⟩
  cases m with
  | none => cases eo
  | some u =>
    refine ⟨H0, A0, A, u, R, rfl, ?_⟩
    cases u with
    | next s =>
      refine fun σ' H' A' R' => ⟨s, H0, A0, A', o, R', eo, ?_⟩
      cases o <;> exact k
    | ret r => cases eo; exact k
    | exc x => cases eo; exact k
theorem n_wk {m : Option S} {Γ1 : S → List Slot} (w : Wk Γ Γ') (h : PSs X sts (tN X.K Γ' m Γ1)) : PSs X sts (tN X.K Γ m Γ1) := pss_le h fun D σ H ⟨H0, A0, A, s, R, es, k⟩ =>
  let ⟨A', R'⟩ := R.wk w
  ⟨H0, A0, A', s, R', es, k⟩
theorem b_wk {m : Option (Out ρ S)} {Γ1 : S → List Slot} (w : Wk Γ Γ') (h : PSs X sts (tB X.K F Γ' m Γ1)) : PSs X sts (tB X.K F Γ m Γ1) := pss_le h fun D σ H ⟨H0, A0, A, s, R, es, k⟩ =>
  let ⟨A', R'⟩ := R.wk w
  ⟨H0, A0, A', s, R', es, k⟩
/-- code behind a return -/
theorem b_ret {r : Option ρ} {Γ1 : S → List Slot} (h : PE X e (tE X.K Γ F.md r)) : PSs X (.Return (some e) pos :: sts) (tB X.K F Γ (r.map Out.ret) Γ1) := by
  refine pss_le (pss_cons (ps_ret h) pss_never) ?_
  rintro D σ H ⟨H0, A0, A, o, R, eo, k⟩
  cases r with
  | none => cases eo
  | some x =>
    cases eo
    refine ⟨H0, A0, A, x, R, rfl, fun v H' s q => k v H' (R.same.trans s) (F.md.back R.same (F.md.shr (fun a m => List.mem_append.mpr (.inl m)) q))⟩
/-- a name's own container is handed back -/
theorem b_retO {i : Nat} {ins : Own ρ} {x : ρ} {Γ1 : S → List Slot} (h : PE X e (tVar i)) (hF : F.md = @fr ρ ins) (hi : Γ[i]? = some (.sow ins x) := by rfl) : PSs X (.Return (some e) pos :: sts) (tB X.K F Γ (some (Out.ret x)) Γ1) := by
  refine pss_le (pss_cons (ps_ret h) pss_never) ?_
  rintro D σ H ⟨H0, A0, A, o, R, eo, k⟩
  cases eo
  obtain ⟨p, o, e1, m, e2, c⟩ := R.sl.own hi
  refine ⟨_, e1, k _ _ R.same ?_⟩
  rw [hF]
  refine ⟨p, o, rfl, R.fr p m, e2, ins.cup (Up.same (cut_sub fun a q => ?_)) c⟩
  exact List.mem_append.mpr ((List.mem_cons.mp q).elim (fun z => .inr (z ▸ m)) .inl)
theorem b_retN {F : Fin Unit} {Γ1 : S → List Slot} (hF : ∀ K H0 A0 H', F.md.R K H0 A0 H' .non ()) : PSs X (.Return none pos :: sts) (tB X.K F Γ (some (Out.ret ())) Γ1) := by
  refine pss_le (pss_cons ps_retN pss_never) ?_
  rintro D σ H ⟨H0, A0, A, o, R, eo, k⟩
  cases eo
  exact k _ _ R.same (hF _ _ _ _)
/-- if -/
theorem n_if {rc : Option Bool} {ma mb : Option S} {Γ1 : S → List Slot} (hc : PT X c (tT X.K Γ rc)) (ha : PSs X sts (tN X.K Γ ma Γ1)) (hb : PSs X sts2 (tN X.K Γ mb Γ1)) : PS X (.If c sts sts2 pos) (tN X.K Γ (rc.bind fun b => if b then ma else mb) Γ1) := by
  refine ps_le (ps_if hc ha hb) ?_
  rintro D σ H ⟨H0, A0, A, s, R, es, k⟩
  cases rc with
  | none => cases es
  | some b =>
    refine ⟨H0, A0, A, b, R, rfl, fun H' sm => ?_⟩
    cases b with
    | true => exact iteT ⟨H0, A0, A, s, R.grow sm, es, k⟩
    | false => exact iteF ⟨H0, A0, A, s, R.grow sm, es, k⟩
theorem b_if {rc : Option Bool} {ma mb : Option (Out ρ S)} {Γ1 : S → List Slot} (hc : PT X c (tT X.K Γ rc)) (ha : PSs X sts (tB X.K F Γ ma Γ1)) (hb : PSs X sts2 (tB X.K F Γ mb Γ1)) : PS X (.If c sts sts2 pos) (tB X.K F Γ (rc.bind fun b => if b then ma else mb) Γ1) := by
  refine ps_le (ps_if hc ha hb) ?_
  rintro D σ H ⟨H0, A0, A, s, R, es, k⟩
  cases rc with
  | none => cases es
  | some b =>
    refine ⟨H0, A0, A, b, R, rfl, fun H' sm => ?_⟩
    cases b with
    | true => exact iteT ⟨H0, A0, A, s, R.grow sm, es, by cases s <;> exact k⟩
    | false => exact iteF ⟨H0, A0, A, s, R.grow sm, es, by cases s <;> exact k⟩
/-- if c: what ends the def; then the rest -/
theorem b_guard {rc : Option Bool} {ma mb : Option (Out ρ S)} {Γ1 : S → List Slot} {rest : List Stmt} (hc : PT X c (tT X.K Γ rc)) (ha : PSs X sts (tB X.K F Γ ma Γ1)) (hn : NoNext ma) (hb : PSs X rest (tB X.K F Γ mb Γ1)) :
    PSs X (.If c sts [] pos :: rest) (tB X.K F Γ (rc.bind fun b => if b then ma else mb) Γ1) := by
  refine pss_le (pss_cons (ps_if hc ha pss_nil) hb) ?_
  rintro D σ H ⟨H0, A0, A, s, R, es, k⟩
  cases rc with
  | none => cases es
  | some b =>
    refine ⟨H0, A0, A, b, R, rfl, fun H' sm => ?_⟩
    cases b with
    | true =>
      refine iteT ⟨H0, A0, A, s, R.grow sm, es, ?_⟩
      cases s with
      | next s => exact absurd es (hn s)
      | ret r => exact k
      | exc x => exact k
    | false => exact iteF ⟨H0, A0, A, s, R.grow sm, es, by cases s <;> exact k⟩
/-- name = e -/
theorem n_set {i : Nat} {x : Str} {pos' : Pos} {ins : Py α} {r : Option α} (hN : X.N.Nodup) (he : PE X e (tE X.K Γ cl r)) (hi : X.N[i]? = some x := by rfl) (hx : Loc X.env.scope x := by first | exact .inl rfl | exact .inr rfl) (hl : i < Γ.length := by exact Nat.le_of_ble_eq_true rfl)
    (hs : swapsWith e (some (.Name x pos')) pos.line X.env = pure false := by rfl) (hf : X.fn x = true ∨ X.env.scope.names.lookup x = some .local := by first | exact .inl rfl | exact .inr rfl) :
    PS X (.Assign [.Name x pos'] e pos) (tN X.K Γ r fun y => Γ.set i (.sro ins y)) := by
  refine ps_le (ps_set hN hi hx he hs hf) ?_
  rintro D σ H ⟨H0, A0, A, s, R, es, k⟩
  refine ⟨H0, A0, A, s, R, es, fun v H' sm q => ?_⟩
  obtain ⟨A', R'⟩ := (R.grow sm).setr q hl
  exact k _ _ A' R'
theorem n_new {i : Nat} {x : Str} {pos' : Pos} {ins : Own α} {r : Option α} (hN : X.N.Nodup) (he : PE X e (tE X.K Γ fr r)) (hi : X.N[i]? = some x := by rfl) (hx : Loc X.env.scope x := by first | exact .inl rfl | exact .inr rfl) (hl : i < Γ.length := by exact Nat.le_of_ble_eq_true rfl)
    (hs : swapsWith e (some (.Name x pos')) pos.line X.env = pure false := by rfl) (hf : X.fn x = true ∨ X.env.scope.names.lookup x = some .local := by first | exact .inl rfl | exact .inr rfl) :
    PS X (.Assign [.Name x pos'] e pos) (tN X.K Γ r fun y => Γ.set i (.sow ins y)) := by
  refine ps_le (ps_set hN hi hx he hs hf) ?_
  rintro D σ H ⟨H0, A0, A, s, R, es, k⟩
  refine ⟨H0, A0, A, s, R, es, fun v H' sm ⟨p, o, e1, n, hp, c⟩ => ?_⟩
  obtain ⟨A', R'⟩ := R.seto sm n hp c hl
  subst e1
  exact k _ _ A' R'
/-- targets -/
def MG {α : Type} [Py α] (X : Cx) (tg : Expr) (put : α → List Slot → List Slot) : Prop := PG X tg fun v σ H Q => ∃ H0 A0 A x Γ, Rel X.K H0 A0 Γ σ H A ∧ Γ.length = X.N.length ∧ Py.rep X.K (cut H (A0 ++ A)) v x ∧ ∀ σ' A', Rel X.K H0 A0 (put x Γ) σ' H A' → Q σ' H
def MGs {α : Type} [Py α] (X : Cx) (ts : List Expr) (n : Nat) (put : List α → List Slot → List Slot) : Prop := True
theorem pg_le {tg : Expr} {t t' : TG} (h : PG X tg t) (i : ∀ v σ H Q, t' v σ H Q → t v σ H Q) : PG X tg t' := ⟨fun pins s σ H v u Q I r q => h.run pins s σ H v u Q I r (i _ _ _ _ q)⟩
theorem g_name [ins : Py α] {i : Nat} {x : Str} (hN : X.N.Nodup) (hi : X.N[i]? = some x := by rfl) (hx : Loc X.env.scope x := by first | exact .inl rfl | exact .inr rfl) (hf : X.fn x = true ∨ X.env.scope.names.lookup x = some .local := by first | exact .inl rfl | exact .inr rfl) :
    MG (α := α) X (.Name x pos) fun y Γ => Γ.set i (.sro ins y) := pg_le (pg_name hN hi hx hf) fun v σ H Q ⟨H0, A0, A, y, Γ, R, hl, r, k⟩ => by
  obtain ⟨A', R'⟩ := R.setr r (i := i) (by rw [hl]; exact (List.getElem?_eq_some_iff.mp hi).1)
  exact k _ A' R'
theorem g_pair [Py α] [Py β] {k : Nat} {f : α → List Slot → List Slot} {g : β → List Slot → List Slot} (hc : X.calm = true) (h1 : MG X a f) (h2 : MG X b g) (hf : ∀ x Γ, (f x Γ).length = Γ.length) (hs : (assignEach [a, b] X.env).map (·.2) = assign a X.env :: (assignEach [b] X.env).map (·.2) := by rfl) (hs2 : (assignEach [b] X.env).map (·.2) = assign b X.env :: (assignEach [] X.env).map (·.2) := by rfl)
    (hn : (assignEach [a, b] X.env).length = 2 := by rfl) (hst : (assignEach [a, b] X.env).findIdx? (·.1) = none := by rfl) : MG (α := α × β) X (.Tuple [a, b] k pos) fun x Γ => g x.2 (f x.1 Γ) := by
  refine pg_le (pg_tup hc (pgs_cons h1 (pgs_cons h2 pgs_nil hs2) hs) hn hst) ?_
  rintro v σ H Q ⟨H0, A0, A, x, Γ, R, hl, ⟨q, v1, v2, e, hq, r1, r2⟩, k⟩
  refine ⟨q, [v1, v2], e, SqT.of (cut_le hq).1, rfl, v1, [v2], rfl, cut H A, A0, A, x.1, Γ, R.base, hl, r1, fun σ1 A1 R1 => ⟨v2, [], rfl, cut H A, A0, A1, x.2, f x.1 Γ, R1, (hf _ _).trans hl, ?_, fun σ2 A2 R2 => ⟨rfl, k _ A2 (R2.unbase R.base_same R.m0)⟩⟩⟩
  exact Py.up (Up.same ((cut_two H A0 A).trans R1.frozen)) r2
end
end M

set_option Elab.async false
set_option linter.all false
set_option maxRecDepth 100000
namespace M
open PySem PySem.Spec PyProof.Rows L2

/-! ### what a loop walks -/
def Feeds {α : Type} [Py α] (K : PySem.W.Frag) (J : It) (B : Hp) (xs : List α) : Prop := ∀ H A, Up B (cut H A) → (∀ p ∈ A, Mut (H p)) →
  (∀ i x, xs[i]? = some x → J.go i H ∧ ∀ v H', J.yld i H v H' → Same H H' ∧ Py.rep K (cut H' A) v x) ∧ J.stop xs.length H
def tI {α : Type} [Py α] (K : PySem.W.Frag) (Γ : List Slot) (r : Option (List α)) : TI := fun σ H R =>
  ∃ H0 A0 A xs, Rel K H0 A0 Γ σ H A ∧ r = some xs ∧ ∀ J H', Same H H' → Feeds K J (cut H' (A0 ++ A)) xs → R J H'
def rangeO (i j : Int) : Option (List Int) := if -(2 ^ 62) ≤ i ∧ i < 2 ^ 62 ∧ -(2 ^ 62) ≤ j ∧ j < 2 ^ 62 then some ((List.range (j - i).toNat).map fun k => i + ((k : Nat) : Int)) else none
def signs (x : Str) : List Str := x.cps.toList.map fun c => (⟨#[c]⟩ : Str)
section
variable {X : Cx} {e a b c tg : Expr} {es : List Expr} {Γ : List Slot} {α β γ : Type} {pos p p2 : Pos}
theorem pi_le {iter : Expr} {t t' : TI} (h : PI X tg iter t) (i : ∀ σ H R, t' σ H R → t σ H R) : PI X tg iter t' := ⟨fun pins s σ H R I q => h.run pins s σ H R I (i _ _ _ q)⟩
theorem i_list [Py α] {r : Option (List α)} (h : PE X e (tE X.K Γ cl r)) : PI X tg e (tI X.K Γ r) := by
  refine pi_le (pi_list h) ?_
  rintro σ H R ⟨H0, A0, A, xs, Rl, er, k⟩
  refine ⟨H0, A0, A, xs, Rl, er, fun v H' s ⟨q, vs, e, hq, r⟩ => ⟨q, e, ⟨vs, SqL.of (cut_le hq).1⟩, k _ _ s fun H2 A2 u m => ?_⟩⟩
  have h2 := (cut_le (u.1 q _ rfl hq)).1
  refine ⟨fun i x ei => ?_, vs, SqL.of h2, by rw [paired_len r]; exact Nat.le_refl _⟩
  obtain ⟨w, e1, r1⟩ := paired_nth r ei
  refine ⟨⟨vs, w, SqL.of h2, e1⟩, fun v2 H3 ⟨eH, ev⟩ => ?_⟩
  subst eH
  have : v2 = w := Option.some.inj ((ev vs (SqL.of h2)).symm.trans e1)
  subst this
  exact ⟨Same.refl _, Py.up u r1⟩
theorem feeds_range {K : PySem.W.Frag} {B : Hp} {lo : Int} {n : Nat} : Feeds K (Itr lo n) B ((List.range n).map fun k => lo + ((k : Nat) : Int)) := fun H A u m => by
  refine ⟨fun i x ei => ?_, ?_⟩
  · rw [List.getElem?_map] at ei
    cases q : (List.range n)[i]? with
    | none => rw [q] at ei; cases ei
    | some j =>
      rw [q] at ei; cases ei
      obtain ⟨h1, h2⟩ := List.getElem?_eq_some_iff.mp q
      rw [List.getElem_range] at h2
      subst h2
      exact ⟨show i < n by simpa using h1, fun v H' ⟨e1, e2⟩ => by subst e1; exact ⟨Same.refl _, e2⟩⟩
  · show n ≤ _
    rw [List.length_map, List.length_range]; exact Nat.le_refl _
theorem i_range1 {ra : Option Int} (hg : Gl X "range") (hm : X.mg "range" = none) (ha : PE X a (tE X.K Γ any ra)) (hs : starEach [a] X.env = [(false, eval a X.env)] := by rfl) : PI X tg (.Call (.Name "range" p) [a] [] pos) (tI X.K Γ (ra.bind (rangeO 0))) := by
  refine pi_le (pi_range1 hg hm (pa_cons ha pa_nil hs) hs) ?_
  rintro σ H R ⟨H0, A0, A, xs, Rl, er, k⟩
  cases ra with
  | none => cases er
  | some n =>
    have er : rangeO 0 n = some xs := er
    unfold rangeO at er
    by_cases hc : -(2 ^ 62) ≤ (0 : Int) ∧ (0 : Int) < 2 ^ 62 ∧ -(2 ^ 62) ≤ n ∧ n < 2 ^ 62
    · rw [if_pos hc] at er; cases er
      refine ⟨H0, A0, A, n, Rl, rfl, fun v H' s q => ⟨n, by rw [show v = .int n from q], hc.2.2.1, hc.2.2.2, k _ _ s ?_⟩⟩
      rw [Int.sub_zero]
      exact feeds_range
    · rw [if_neg hc] at er; cases er
theorem i_range2 {ra rb : Option Int} (hg : Gl X "range") (hm : X.mg "range" = none) (ha : PE X a (tE X.K Γ any ra)) (hb : PE X b (tE X.K Γ any rb)) (hs : starEach [a, b] X.env = [(false, eval a X.env), (false, eval b X.env)] := by rfl) (hs2 : starEach [b] X.env = [(false, eval b X.env)] := by rfl) :
    PI X tg (.Call (.Name "range" p) [a, b] [] pos) (tI X.K Γ (bind2 ra rb rangeO)) := by
  refine pi_le (pi_range2 hg hm (pa_cons ha (pa_cons hb pa_nil hs2) (by rw [hs, hs2])) hs hs2) ?_
  rintro σ H R ⟨H0, A0, A, xs, Rl, er, k⟩
  cases ra with
  | none => cases er
  | some i =>
    cases rb with
    | none => cases er
    | some j =>
      have er : rangeO i j = some xs := er
      unfold rangeO at er
      by_cases hc : -(2 ^ 62) ≤ i ∧ i < 2 ^ 62 ∧ -(2 ^ 62) ≤ j ∧ j < 2 ^ 62
      · rw [if_pos hc] at er; cases er
        exact ⟨H0, A0, A, i, Rl, rfl, fun v H' s q => ⟨H0, A0, A, j, Rl.grow s, rfl, fun w H2 s2 q2 => ⟨i, j, by rw [show v = .int i from q, show w = .int j from q2], hc, k _ _ (s.trans s2) feeds_range⟩⟩⟩
      · rw [if_neg hc] at er; cases er
theorem i_str {r : Option Str} (h : PE X e (tE X.K Γ any r)) : PI X tg e (tI X.K Γ (r.map signs)) := by
  refine pi_le (pi_str h) ?_
  rintro σ H R ⟨H0, A0, A, xs, Rl, er, k⟩
  cases r with
  | none => cases er
  | some x =>
    cases er
    refine ⟨H0, A0, A, x, Rl, rfl, fun v H' s q => ⟨x, q, k _ _ s fun H2 A2 u m => ⟨fun i y ei => ?_, ?_⟩⟩⟩
    · unfold signs at ei
      rw [List.getElem?_map] at ei
      cases q : x.cps.toList[i]? with
      | none => rw [q] at ei; cases ei
      | some c =>
        rw [q] at ei; cases ei
        have h1 : x.cps[i]? = some c := by rw [← Array.getElem?_toList]; exact q
        refine ⟨(Array.getElem?_eq_some_iff.mp h1).1, fun v H' ⟨e1, c', e2, e3⟩ => ?_⟩
        subst e1
        rw [h1] at e2; cases e2
        exact ⟨Same.refl _, e3⟩
    · show x.cps.size ≤ _
      unfold signs
      rw [List.length_map, Array.length_toList]; exact Nat.le_refl _
theorem i_rev [Py α] {r : Option (List α)} (hg : Gl X "reversed") (hm : X.mg "reversed" = none) (h : PE X e (tE X.K Γ cl r)) (hs : starEach [e] X.env = [(false, eval e X.env)] := by rfl) : PI X tg (.Call (.Name "reversed" p) [e] [] pos) (tI X.K Γ (r.map List.reverse)) := by
  refine pi_le (pi_reversed hg hm (pa_cons h pa_nil hs) hs) ?_
  rintro σ H R ⟨H0, A0, A, xs, Rl, er, k⟩
  cases r with
  | none => cases er
  | some ys =>
    cases er
    refine ⟨H0, A0, A, ys, Rl, rfl, fun v H' s ⟨q, vs, e, hq, r⟩ => ⟨q, vs, by rw [e], SqL.of (cut_le hq).1, k _ _ s fun H2 A2 u m => ?_⟩⟩
    have h2 := (cut_le (u.1 q _ rfl hq)).1
    have hl := paired_len r
    refine ⟨fun i x ei => ?_, ?_⟩
    · have hi : i < ys.length := by
        have := (List.getElem?_eq_some_iff.mp ei).1
        rw [List.length_reverse] at this; exact this
      rw [List.getElem?_reverse hi] at ei
      obtain ⟨w, e1, r1⟩ := paired_nth r ei
      rw [← hl] at e1
      refine ⟨⟨by rw [hl]; exact hi, vs, w, SqL.of h2, e1⟩, fun v2 H3 ⟨eH, ev⟩ => ?_⟩
      subst eH
      have : v2 = w := Option.some.inj ((ev vs (SqL.of h2)).symm.trans e1)
      subst this
      exact ⟨Same.refl _, Py.up u r1⟩
    · show vs.length ≤ _
      rw [List.length_reverse, hl]; exact Nat.le_refl _
theorem i_zip [Py α] [Py β] {ra : Option (List α)} {rb : Option (List β)} {elts : List Expr} {kk : Nat} {tpos : Pos} (hg : Gl X "zip") (hm : X.mg "zip" = none) (ha : PE X a (tE X.K Γ cl ra)) (hb : PE X b (tE X.K Γ cl rb))
    (hs : starEach [a, b] X.env = [(false, eval a X.env), (false, eval b X.env)] := by rfl) (hs2 : starEach [b] X.env = [(false, eval b X.env)] := by rfl) :
    PI X (.Tuple elts kk tpos) (.Call (.Name "zip" p) [a, b] [] pos) (tI X.K Γ (bind2 ra rb fun xs ys => some (xs.zip ys))) := by
  refine pi_le (pi_zip hg hm (pa_cons ha (pa_cons hb pa_nil hs2) (by rw [hs, hs2])) (by rw [hs, hs2]) (by rw [hs2]; rfl)) ?_
  rintro σ H R ⟨H0, A0, A, xs, Rl, er, k⟩
  cases ra with
  | none => cases er
  | some xs =>
    cases rb with
    | none => cases er
    | some ys =>
      cases er
      refine ⟨H0, A0, A, xs, Rl, rfl, fun v H1 s1 ⟨q, vs, e, hq, r⟩ => ⟨H0, A0, A, ys, Rl.grow s1, rfl, fun w H2 s2 ⟨q2, ws, e2, hq2, r2⟩ => ?_⟩⟩
      have hq1 := (same_cut s2 _).1 q _ rfl hq
      refine ⟨q, q2, vs, ws, by rw [e, e2], SqL.of (cut_le hq1).1, SqL.of (cut_le hq2).1, k _ _ (s1.trans s2) fun H3 A3 u m => ?_⟩
      have g1 := (cut_le (u.1 q _ rfl hq1)).1
      have g2 := (cut_le (u.1 q2 _ rfl hq2)).1
      refine ⟨fun i x ei => ?_, vs, ws, SqL.of g1, SqL.of g2, ?_⟩
      · rw [List.getElem?_zip_eq_some] at ei
        obtain ⟨v1, f1, t1⟩ := paired_nth r ei.1
        obtain ⟨v2, f2, t2⟩ := paired_nth r2 ei.2
        refine ⟨⟨vs, ws, v1, v2, SqL.of g1, SqL.of g2, f1, f2⟩, fun v H' ⟨T, y1, y2, ev, hT, eH, ex, ey⟩ => ?_⟩
        have e1 : y1 = v1 := Option.some.inj ((ex vs (SqL.of g1)).symm.trans f1)
        have e2 : y2 = v2 := Option.some.inj ((ey ws (SqL.of g2)).symm.trans f2)
        subst e1; subst e2; subst eH; subst ev
        have hTA : T ∉ A3 := fun z => by have := m T z; rw [hT] at this; exact this
        have u3 : Up (cut H3 A3) (cut (upd H3 T (.tup [y1, y2])) A3) := (Up.same (same_upd hT)).cut _
        exact ⟨same_upd hT, T, y1, y2, rfl, by rw [cut_out hTA]; exact upd_same, Py.up (u.trans u3) (Py.up ((Up.same s2).cut _) t1), Py.up (u.trans u3) t2⟩
      · rw [List.length_zip, ← paired_len r, ← paired_len r2]
        omega
end

/-! ### loops -/
def forO {ρ S α : Type} (f : S → α → Option (Out ρ S)) : S → List α → Option (Out ρ S)
  | s, [] => some (.next s)
  | s, x :: xs => bindOut (f s x) fun s' => forO f s' xs
def whileO {S : Type} (c : S → Option Bool) (f : S → Option S) : Nat → S → Option S
  | 0, _ => none
  | n + 1, s => (c s).bind fun b => if b then (f s).bind (whileO c f n) else some s
theorem drop_step {α : Type} {l : List α} {i : Nat} (h : i < l.length) : ∃ x, l[i]? = some x ∧ l.drop i = x :: l.drop (i + 1) := ⟨l[i], List.getElem?_eq_getElem h, List.drop_eq_getElem_cons h⟩
section
variable {X : Cx} {e a b c tg iter : Expr} {es : List Expr} {body : List Stmt} {Γ : List Slot} {α β γ ρ S : Type} {pos p p2 : Pos} {F : Fin ρ}
theorem n_for [Py α] {r : Option (List α)} {put : α → List Slot → List Slot} {f : S → α → Option S} {Γl : S → List Slot} {s0 : S} (hp : PassesOwn (model X.prog X.w) X.A X.env X.xe) (hc : X.calm = true) (hi : PI X tg iter (tI X.K Γ r)) (hg : MG X tg put)
    (hb : ∀ s x, PSs X body (tN X.K (put x (Γl s)) (f s x) Γl)) (w : Wk Γ (Γl s0)) (hl : ∀ s, (Γl s).length = X.N.length) (hs : ∀ x, foldedSetIterable iter X.env x = pure x := by intro _; rfl) :
    PS X (.For tg iter body [] pos) (tN X.K Γ (r.bind fun l => l.foldlM f s0) Γl) := by
  refine ps_le (ps_for hp hc hi hg (pss_ex fun q : S × α => hb q.1 q.2) hs) ?_
  rintro D σ H ⟨H0, A0, A, s, R, es, k⟩
  cases r with
  | none => cases es
  | some l =>
    have es : l.foldlM f s0 = some s := es
    refine ⟨H0, A0, A, l, R, rfl, fun J H1 sm fd => ?_⟩
    have R1 := R.grow sm
    obtain ⟨A1, R2⟩ := R1.base.wk w
    refine ⟨fun i m σ' H' => m = l.length - i ∧ i ≤ l.length ∧ ∃ si A', (l.drop i).foldlM f si = some s ∧ Rel X.K (cut H1 A) A0 (Γl si) σ' H' A', ⟨l.length, rfl, Nat.zero_le _, s0, A1, es, R2⟩, ?_⟩
    rintro i m σ' H' ⟨rfl, hi, si, A', ef, R'⟩
    have fr := fd H' (A0 ++ A') (Up.same ((cut_two H1 A0 A).trans R'.frozen)) R'.mut
    by_cases hlt : i < l.length
    · obtain ⟨x, e1, e2⟩ := drop_step hlt
      rw [e2, List.foldlM_cons] at ef
      cases q : f si x with
      | none => rw [q] at ef; cases ef
      | some sj =>
        rw [q] at ef
        refine .inr ⟨(fr.1 i x e1).1, fun σ2 H2 => ∃ A2, Rel X.K (cut H1 A) A0 (Γl sj) σ2 H2 A2, fun σ2 H2 ⟨A2, R2⟩ => ⟨l.length - (i + 1), by omega, rfl, hlt, sj, A2, ef, R2⟩, fun v H2 y => ?_⟩
        obtain ⟨sm2, rp⟩ := (fr.1 i x e1).2 v H2 y
        exact ⟨cut H1 A, A0, A', x, Γl si, R'.grow sm2, hl _, rp, fun σ3 A3 R3 => ⟨(si, x), cut H1 A, A0, A3, sj, R3, q, fun σ4 H4 A4 R4 => ⟨A4, R4⟩⟩⟩
    · have e : i = l.length := by omega
      subst e
      rw [List.drop_length] at ef
      cases ef
      exact .inl ⟨fr.2, k σ' H' A' (R'.unbase R1.base_same R1.m0)⟩
theorem endok_unbase {S : Type} {K : PySem.W.Frag} {H0 Hb : Hp} {A0 : List Addr} {Γ1 : S → List Slot} {D : Ends} {o : Out ρ S} (s : Same H0 Hb) (m0 : ∀ p ∈ A0, Mut (H0 p)) (h : EndOk K F H0 A0 Γ1 D o) : EndOk K F Hb A0 Γ1 D o := by
  cases o with
  | next t => exact fun σ' H' A' R => h σ' H' A' (R.unbase s m0)
  | ret r => exact fun v H' sm q => h v H' (s.trans sm) (F.md.back s q)
  | exc x => exact fun c σ' H' e sm => h c σ' H' e (s.trans sm)
theorem b_for [Py α] {r : Option (List α)} {put : α → List Slot → List Slot} {f : S → α → Option (Out ρ S)} {Γl : S → List Slot} {s0 : S} (hp : PassesOwn (model X.prog X.w) X.A X.env X.xe) (hc : X.calm = true) (hi : PI X tg iter (tI X.K Γ r)) (hg : MG X tg put)
    (hb : ∀ s x, PSs X body (tB X.K F (put x (Γl s)) (f s x) Γl)) (w : Wk Γ (Γl s0)) (hl : ∀ s, (Γl s).length = X.N.length) (hs : ∀ x, foldedSetIterable iter X.env x = pure x := by intro _; rfl) :
    PS X (.For tg iter body [] pos) (tB X.K F Γ (r.bind fun l => forO f s0 l) Γl) := by
  refine ps_le (ps_for hp hc hi hg (pss_ex fun q : S × α => hb q.1 q.2) hs) ?_
  rintro D σ H ⟨H0, A0, A, o, R, es, k⟩
  cases r with
  | none => cases es
  | some l =>
    have es : forO f s0 l = some o := es
    refine ⟨H0, A0, A, l, R, rfl, fun J H1 sm fd => ?_⟩
    have R1 := R.grow sm
    obtain ⟨A1, R2⟩ := R1.base.wk w
    refine ⟨fun i m σ' H' => m = l.length - i ∧ i ≤ l.length ∧ ∃ si A', forO f si (l.drop i) = some o ∧ Rel X.K (cut H1 A) A0 (Γl si) σ' H' A', ⟨l.length, rfl, Nat.zero_le _, s0, A1, es, R2⟩, ?_⟩
    rintro i m σ' H' ⟨rfl, hi, si, A', ef, R'⟩
    have fr := fd H' (A0 ++ A') (Up.same ((cut_two H1 A0 A).trans R'.frozen)) R'.mut
    by_cases hlt : i < l.length
    · obtain ⟨x, e1, e2⟩ := drop_step hlt
      rw [e2] at ef
      have ef : bindOut (f si x) (fun s' => forO f s' (l.drop (i + 1))) = some o := ef
      cases q : f si x with
      | none => rw [q] at ef; cases ef
      | some oj =>
        rw [q] at ef
        refine .inr ⟨(fr.1 i x e1).1, fun σ2 H2 => ∃ sj A2, oj = .next sj ∧ Rel X.K (cut H1 A) A0 (Γl sj) σ2 H2 A2, fun σ2 H2 ⟨sj, A2, ej, R2⟩ => ⟨l.length - (i + 1), by omega, rfl, hlt, sj, A2, by subst ej; exact ef, R2⟩, fun v H2 y => ?_⟩
        obtain ⟨sm2, rp⟩ := (fr.1 i x e1).2 v H2 y
        refine ⟨cut H1 A, A0, A', x, Γl si, R'.grow sm2, hl _, rp, fun σ3 A3 R3 => ⟨(si, x), cut H1 A, A0, A3, oj, R3, q, ?_⟩⟩
        cases oj with
        | next sj => exact fun σ4 H4 A4 R4 => ⟨sj, A4, rfl, R4⟩
        | ret r => cases ef; exact endok_unbase (Γ1 := Γl) (D := D) R1.base_same R1.m0 k
        | exc x => cases ef; exact endok_unbase (Γ1 := Γl) (D := D) R1.base_same R1.m0 k
    · have e : i = l.length := by omega
      subst e
      rw [List.drop_length] at ef
      cases ef
      exact .inl ⟨fr.2, k σ' H' A' (R'.unbase R1.base_same R1.m0)⟩
theorem n_while {cb : S → Option Bool} {f : S → Option S} {Γl : S → List Slot} {s0 : S} (n : Nat) (hp : PassesOwn (model X.prog X.w) X.A X.env X.xe) (hc : ∀ s, PT X c (tT X.K (Γl s) (cb s))) (hb : ∀ s, PSs X body (tN X.K (Γl s) (f s) Γl)) (w : Wk Γ (Γl s0)) :
    PS X (.While c body [] pos) (tN X.K Γ (whileO cb f n s0) Γl) := by
  refine ps_le (ps_while hp (pt_ex hc) (pss_ex hb)) ?_
  rintro D σ H ⟨H0, A0, A, s, R, es, k⟩
  obtain ⟨A1, R1⟩ := R.wk w
  refine ⟨fun m σ' H' => ∃ si A', whileO cb f m si = some s ∧ Rel X.K H0 A0 (Γl si) σ' H' A', ⟨n, s0, A1, es, R1⟩, ?_⟩
  rintro m σ' H' ⟨si, A', ef, R'⟩
  cases m with
  | zero => cases ef
  | succ m =>
    have ef : ((cb si).bind fun b => if b then (f si).bind (whileO cb f m) else some si) = some s := ef
    cases q : cb si with
    | none => rw [q] at ef; cases ef
    | some b =>
      rw [q] at ef
      refine ⟨si, H0, A0, A', b, R', q, fun H2 sm => ?_⟩
      cases b with
      | true =>
        refine iteT ?_
        have ef : (f si).bind (whileO cb f m) = some s := ef
        cases q2 : f si with
        | none => rw [q2] at ef; cases ef
        | some sj =>
          rw [q2] at ef
          exact ⟨fun σ3 H3 => ∃ A3, Rel X.K H0 A0 (Γl sj) σ3 H3 A3, fun σ3 H3 ⟨A3, R3⟩ => ⟨m, Nat.lt_succ_self _, sj, A3, ef, R3⟩, si, H0, A0, A', sj, R'.grow sm, q2, fun σ4 H4 A4 R4 => ⟨A4, R4⟩⟩
      | false =>
        refine iteF ?_
        cases ef
        exact k σ' H2 A' (R'.grow sm)
end

/-! ### defs and their calls -/
def IsDef (K : PySem.W.Frag) (mg : Str → Option Value) (x qual : Str) (st : Stmt) : Prop := ∃ (f : Addr) (fd : FuncData), mg x = some (.ref f) ∧ Fun K x qual st f fd
/-- the def of this name keeps this promise, by at most level k -/
def Has (P : Program) (w : World) (K : PySem.W.Frag) (mg : Str → Option Value) (base : Heap) (x : Str) (k : Nat) (ps : List Str) (sp : Sp) : Prop :=
  ∃ (f : Addr) (fd : FuncData), mg x = some (.ref f) ∧ (∃ (qual : Str) (st : Stmt), Fun K x qual st f fd) ∧ Binds K fd ps [] ∧ FnOk P w K mg base (L2.CX P w) k f fd ps sp
/-- with such arguments it tells what the function tells: a value, or an exception of a class -/
def spF {α ρ : Type} (K : PySem.W.Frag) (mg : Str → Option Value) (ar : Args α) (md : Md ρ) (f : α → Option (Except Str ρ)) : Sp := fun vs H Q E =>
  ∃ A0 x o, (∀ p ∈ A0, Mut (H p)) ∧ ar.R K (cut H A0) vs x ∧ f x = some o ∧ match o with
    | .ok r => ∀ v H', Same H H' → md.R K H A0 H' v r → Q v H'
    | .error e => ∀ c H', mg e = some c → Same H H' → E c none H'
def outR {ρ S : Type} : Out ρ S → Option (Except Str ρ)
  | .next _ => none
  | .ret r => some (.ok r)
  | .exc x => some (.error x)
def outV {ρ S : Type} : Out ρ S → Option ρ
  | .ret r => some r
  | _ => none
theorem relS_more {K : PySem.W.Frag} {B H : Hp} (n : Nat) : ∀ {Γ : List Slot} {σ : L2.St} {A : List Addr}, RelS K B H Γ σ A → RelS K B H (Γ ++ List.replicate n .no) (σ ++ List.replicate n none) A
  | [], _, _, ⟨e, ea⟩ => by
    subst e; subst ea
    induction n with
    | zero => exact ⟨rfl, rfl⟩
    | succ n ih => exact ⟨none, List.replicate n none, rfl, ih⟩
  | .no :: Γ, _, _, ⟨o, τ, e, h⟩ => ⟨o, _, by rw [e]; rfl, relS_more n h⟩
  | .sro i x :: Γ, _, _, ⟨v, τ, e, r, h⟩ => ⟨v, _, by rw [e]; rfl, r, relS_more n h⟩
  | .sow i x :: Γ, _, _, ⟨p, o, τ, A', e, ea, hp, c, h⟩ => ⟨p, o, _, A', by rw [e]; rfl, ea, hp, c, relS_more n h⟩
section
variable {P : Program} {w : World} {K : PySem.W.Frag} {mg : Str → Option Value} {base : Heap} {α ρ S : Type}
theorem mk_def {x qual : Str} {st : Stmt} {N ps : List Str} {k : Nat} {ar : Args α} {md : Md ρ} {m : α → Option (Out ρ S)} {Γ1 : α → S → List Slot} (I : IsDef K mg x qual st) (Sc : FnScope N ps (defScope st)) (hn : ar.n = ps.length)
    (hb : ∀ (kV doc pm : Value) (an : Option Addr) (cdv ct : Value) (us : List Value), us.length = ps.length → bindArgs (PySem.W.fnOf x qual (defArgs st) (defBody st) (defScope st) .none kV doc pm an cdv ct) ⟨us, []⟩ = pure (ps.zip us))
    (body : ∀ (f : Addr) (cdv : Value) (A : Around) (outer : List Env) (s : Shared) (H : Hp) (E : XK), Room k (A.deeper (envOfC qual (defScope st) s.heap.objs.size f cdv)) → ∀ y : α,
      PSs (cxOf (L2.CX P w) P w K mg base N qual (defScope st) f cdv A outer s H E) (defBody st) (tB K ⟨md, mg, fun c d _ H => E c d H⟩ (ar.sl y ++ List.replicate (N.length - ps.length) .no) (m y) (Γ1 y))) :
    Has P w K mg base x (k + 1) ps (spF K mg ar md fun y => (m y).bind outR) := by
  obtain ⟨f, fd, hm, F⟩ := I
  refine ⟨f, fd, hm, ⟨_, _, F⟩, F.binds hb, F.okX Sc (fun vs H Q E h => ?_) fun cdv A outer s H vs Q E hr h => ?_⟩
  · obtain ⟨A0, y, o, m0, r, _⟩ := h
    rw [ar.len r, hn]
  · obtain ⟨A0, y, o, m0, r, eo, k⟩ := h
    refine ⟨_, body f cdv A outer s H E hr y, H, A0, [], ?_⟩
    have eo : (m y).bind outR = some o := eo
    cases q : m y with
    | none => rw [q] at eo; cases eo
    | some u =>
      rw [q] at eo
      refine ⟨u, ⟨List.nodup_nil, fun _ z => (nomatch z), Same.refl _, m0, ?_⟩, rfl, ?_⟩
      · rw [List.append_nil]
        have := relS_more (N.length - ps.length) (ar.rel r H)
        unfold L2.start
        rw [ar.len r, hn]
        exact this
      · cases u with
        | next t => cases eo
        | ret v => cases eo; exact k
        | exc e => cases eo; exact fun c σ' H' e' s' => k c H' e' s'
theorem Has.mono {x : Str} {j k : Nat} {ps : List Str} {sp : Sp} (h : Has P w K mg base x j ps sp) (l : j ≤ k) : Has P w K mg base x k ps sp := let ⟨f, fd, a, b, c, d⟩ := h; ⟨f, fd, a, b, c, d.mono l⟩
end
section
variable {X : Cx} {e a b c : Expr} {es : List Expr} {Γ : List Slot} {α β γ ρ S : Type} {pos p p2 : Pos} {F : Fin ρ} {x : Str}
/-- a call with arguments of which nothing is owned -/
theorem m_call {k : Nat} {ps : List Str} {ar : Args α} {md : Md γ} {f : α → Option (Except Str γ)} {ra : Option α} (h : Has X.prog X.w X.K X.mg X.base x k ps (spF X.K X.mg ar md f)) (hr : Room k X.A) (hg : Gl X x) (ha : PA X (e :: es) (tA X.K Γ ar true ra))
    (hdb : (x == ("__debug__" : Str)) = false := by decide) (he : starEach (e :: es) X.env = (false, eval e X.env) :: starEach es X.env := by rfl) (hpl : (backTo pos (starEach es X.env)).any (·.1) = false := by rfl) :
    PE X (.Call (.Name x p) (e :: es) [] pos) (tE X.K Γ md (ra.bind fun y => (f y).bind Except.toOption)) := by
  obtain ⟨a, fd, hm, ⟨qq, sst, FF⟩, bd, G⟩ := h
  have kp := FF.kp
  refine pe_le (pe_call (E := E0) G hr hg hm kp bd .nil passL ha hdb he hpl) ?_
  rintro σ H Q ⟨H0, A0, A, z, R, er, k⟩
  cases ra with
  | none => cases er
  | some y =>
    have er : (f y).bind Except.toOption = some z := er
    cases q : f y with
    | none => rw [q] at er; cases er
    | some o =>
      rw [q] at er
      refine ⟨H0, A0, A, y, R, rfl, fun vs H1 s1 r1 => ?_⟩
      show spF X.K X.mg ar md f (vs ++ []) H1 Q E0
      rw [List.append_nil]
      refine ⟨A0 ++ A, y, o, fun p m => same_mut s1 (R.mut p m), r1, q, ?_⟩
      cases o with
      | error e => cases er
      | ok r => cases er; exact fun v H' s' r' => k v H' (s1.trans s') (md.back s1 r')
/-- a mode that leans on nothing owned -/
class MdL {α : Type} (m : Md α) : Prop where
  lift : ∀ {K : PySem.W.Frag} {H H' : Hp} {A : List Addr} {v : V} {x : α}, Same H H' → (∀ p ∈ A, Mut (H p)) → m.R K H [] H' v x → m.R K H A H' v x
instance [Py α] : MdL (any : Md α) := ⟨fun _ _ h => h⟩
instance [Py α] [Imm α] : MdL (cl : Md α) := ⟨fun {K H H' A v x} s m h => by
  have h : Py.rep K (cut H' []) v x := h
  rw [cut_nil] at h
  exact Imm.imm (fun p q => same_mut s (m p q)) h⟩
theorem cut_twice (H : Hp) (p : Addr) (A : List Addr) : cut (cut H [p]) A = cut H (p :: A) := funext fun a => by
  unfold cut
  by_cases h : a ∈ A
  · rw [if_pos h, if_pos (List.mem_cons_of_mem _ h)]
  · rw [if_neg h]
    by_cases e : a = p
    · rw [if_pos (by rw [e]; exact List.mem_cons_self), if_pos (by rw [e]; exact List.mem_cons_self)]
    · rw [if_neg (by simpa using e), if_neg (by simp [e, h])]
instance [Own α] [Flat α] : MdL (fr : Md α) := ⟨fun {K H H' A v x} s m ⟨p, o, e, n, hp, c⟩ => ⟨p, o, e, n, hp, by
  rw [← cut_twice]
  refine Flat.flat (fun q hq => ?_) c
  have : q ≠ p := fun z => by have := m q hq; rw [z, n] at this; exact this
  rw [cut_out (by simpa using this)]
  exact same_mut s (m q hq)⟩⟩
theorem m_callA {k : Nat} {ps : List Str} {ar : Args α} {md : Md γ} [L : MdL md] {f : α → Option (Except Str γ)} {ra : Option α} (h : Has X.prog X.w X.K X.mg X.base x k ps (spF X.K X.mg ar md f)) (hr : Room k X.A) (hg : Gl X x) (ha : PA X (e :: es) (tA X.K Γ ar false ra))
    (hdb : (x == ("__debug__" : Str)) = false := by decide) (he : starEach (e :: es) X.env = (false, eval e X.env) :: starEach es X.env := by rfl) (hpl : (backTo pos (starEach es X.env)).any (·.1) = false := by rfl) :
    PE X (.Call (.Name x p) (e :: es) [] pos) (tE X.K Γ md (ra.bind fun y => (f y).bind Except.toOption)) := by
  obtain ⟨a, fd, hm, ⟨qq, sst, FF⟩, bd, G⟩ := h
  have kp := FF.kp
  refine pe_le (pe_call (E := E0) G hr hg hm kp bd .nil passL ha hdb he hpl) ?_
  rintro σ H Q ⟨H0, A0, A, z, R, er, k⟩
  cases ra with
  | none => cases er
  | some y =>
    have er : (f y).bind Except.toOption = some z := er
    cases q : f y with
    | none => rw [q] at er; cases er
    | some o =>
      rw [q] at er
      refine ⟨H0, A0, A, y, R, rfl, fun vs H1 s1 r1 => ?_⟩
      show spF X.K X.mg ar md f (vs ++ []) H1 Q E0
      rw [List.append_nil]
      refine ⟨[], y, o, fun p m => (nomatch m), r1, q, ?_⟩
      cases o with
      | error e => cases er
      | ok r => cases er; exact fun v H' s' r' => k v H' (s1.trans s') (md.back s1 (L.lift s' (fun p m => same_mut s1 (R.mut p m)) r'))
end
end M

set_option Elab.async false
set_option linter.all false
set_option maxRecDepth 100000
namespace M
open PySem PySem.Spec PyProof.Rows L2

/-! ### comprehensions -/
def lcO {α β : Type} (c : α → Option Bool) (f : α → Option β) : List α → Option (List β)
  | [] => some []
  | x :: xs => (c x).bind fun b => if b then (f x).bind fun y => (lcO c f xs).bind fun ys => some (y :: ys) else lcO c f xs
def lcG {α β : Type} (c : α → Option Bool) (f : α → Option β) (l : List α) : Option (List β) := if l.length < sizeLine then lcO c f l else none
theorem set_wipe {i : Nat} {o : Option V} : ∀ {vs : List Nat} {σ : L2.St}, i ∈ vs → wipe (σ.set i o) vs = wipe σ vs
  | [], σ, h => by cases h
  | v :: vs, σ, h => by
    show (wipe (σ.set i o) vs).set v none = (wipe σ vs).set v none
    by_cases m : i ∈ vs
    · rw [set_wipe m]
    · have e : i = v := (List.mem_cons.mp h).resolve_right m
      subst e
      have q : ∀ {vs : List Nat} {σ : L2.St}, i ∉ vs → wipe (σ.set i o) vs = (wipe σ vs).set i o := by
        intro vs
        induction vs with
        | nil => intro σ _; rfl
        | cons w vs ih =>
          intro σ hn
          rw [List.mem_cons, not_or] at hn
          show (wipe (σ.set i o) vs).set w none = ((wipe σ vs).set w none).set i o
          rw [ih hn.2, List.set_comm _ _ hn.1]
      rw [q m, List.set_set]
theorem wipe_wipe : ∀ {vs : List Nat} {σ : L2.St}, wipe (wipe σ vs) vs = wipe σ vs
  | [], σ => rfl
  | v :: vs, σ => by
    show (wipe ((wipe σ vs).set v none) vs).set v none = (wipe σ vs).set v none
    by_cases m : v ∈ vs
    · rw [set_wipe m, wipe_wipe]
    · have q : ∀ {ws : List Nat} {τ : L2.St}, v ∉ ws → wipe (τ.set v none) ws = (wipe τ ws).set v none := by
        intro ws
        induction ws with
        | nil => intro τ _; rfl
        | cons w ws ih =>
          intro τ hn
          rw [List.mem_cons, not_or] at hn
          show (wipe (τ.set v none) ws).set w none = ((wipe τ ws).set w none).set v none
          rw [ih hn.2, List.set_comm _ _ hn.1]
      rw [q m, wipe_wipe, List.set_set]
theorem relS_no {K : PySem.W.Frag} {B H : Hp} {o : Option V} : ∀ {Γ : List Slot} {σ : L2.St} {A : List Addr} {i : Nat}, Γ[i]? = some .no → RelS K B H Γ σ A → RelS K B H Γ (σ.set i o) A
  | [], _, _, i, e, _ => by simp at e
  | .no :: Γ, _, _, 0, _, ⟨q, τ, es, h⟩ => ⟨o, τ, by rw [es]; rfl, h⟩
  | .no :: Γ, _, _, i + 1, e, ⟨q, τ, es, h⟩ => ⟨q, τ.set i o, by rw [es]; rfl, relS_no (by simpa using e) h⟩
  | .sro j x :: Γ, _, _, 0, e, _ => by cases e
  | .sro j x :: Γ, _, _, i + 1, e, ⟨v, τ, es, r, h⟩ => ⟨v, τ.set i o, by rw [es]; rfl, r, relS_no (by simpa using e) h⟩
  | .sow j x :: Γ, _, _, 0, e, _ => by cases e
  | .sow j x :: Γ, _, _, i + 1, e, ⟨p, u, τ, A', es, ea, hp, c, h⟩ => ⟨p, u, τ.set i o, A', by rw [es]; rfl, ea, hp, c, relS_no (by simpa using e) h⟩
theorem relS_wipe {K : PySem.W.Frag} {B H : Hp} {Γ : List Slot} {A : List Addr} : ∀ {vs : List Nat} {σ : L2.St}, (∀ i ∈ vs, Γ[i]? = some .no) → RelS K B H Γ σ A → RelS K B H Γ (wipe σ vs) A
  | [], _, _, h => h
  | v :: vs, _, n, h => relS_no (n v List.mem_cons_self) (relS_wipe (fun i m => n i (List.mem_cons_of_mem _ m)) h)
/-- a comprehension's targets, their slots at vs -/
def gcR {α : Type} [Py α] (K : PySem.W.Frag) (vs : List Nat) (put : α → List Slot → List Slot) : TG := fun v σ H Q =>
  ∃ H0 A0 A x Γ, Rel K H0 A0 Γ σ H A ∧ (∀ i ∈ vs, Γ[i]? = some .no) ∧ Py.rep K (cut H (A0 ++ A)) v x ∧ ∀ σ', wipe σ' vs = wipe σ vs → Rel K H0 A0 (put x Γ) σ' H A → Q σ' H
section
variable {X : Cx} {e a b c tg iter elt : Expr} {es : List Expr} {Γ : List Slot} {α β γ : Type} {pos p p2 : Pos}
theorem gc_name [ins : Py α] {i : Nat} {x : Str} (hN : X.N.Nodup) (hi : X.N[i]? = some x := by rfl) (hx : Loc X.env.scope x := by first | exact .inl rfl | exact .inr rfl) (hf : X.fn x = true ∨ X.env.scope.names.lookup x = some .local := by first | exact .inr rfl | exact .inl rfl) :
    PG X (.Name x pos) (gcR (α := α) X.K [i] fun y Γ => Γ.set i (.sro ins y)) := pg_le (pg_name hN hi hx hf) fun v σ H Q ⟨H0, A0, A, y, Γ, R, hn, r, k⟩ =>
  k _ (set_wipe List.mem_cons_self) ⟨R.nd, R.fr, R.same, R.m0, RelS.fillr r R.sl (hn i List.mem_cons_self)⟩
theorem gc_pair [i1 : Py α] [i2 : Py β] {i j : Nat} {x y : Str} {k : Nat} {px py : Pos} (hij : i ≠ j) (hN : X.N.Nodup) (hc : X.calm = true) (hi : X.N[i]? = some x := by rfl) (hj : X.N[j]? = some y := by rfl) (hx : Loc X.env.scope x := by first | exact .inl rfl | exact .inr rfl) (hy : Loc X.env.scope y := by first | exact .inl rfl | exact .inr rfl)
    (hf : X.fn x = true ∨ X.env.scope.names.lookup x = some .local := by first | exact .inr rfl | exact .inl rfl) (hf2 : X.fn y = true ∨ X.env.scope.names.lookup y = some .local := by first | exact .inr rfl | exact .inl rfl)
    (hs : (assignEach [.Name x px, .Name y py] X.env).map (·.2) = assign (.Name x px) X.env :: (assignEach [.Name y py] X.env).map (·.2) := by rfl) (hs2 : (assignEach [.Name y py] X.env).map (·.2) = assign (.Name y py) X.env :: (assignEach [] X.env).map (·.2) := by rfl)
    (hn : (assignEach [.Name x px, .Name y py] X.env).length = 2 := by rfl) (hst : (assignEach [.Name x px, .Name y py] X.env).findIdx? (·.1) = none := by rfl) :
    PG X (.Tuple [.Name x px, .Name y py] k pos) (gcR (α := α × β) X.K [i, j] fun z Γ => (Γ.set i (.sro i1 z.1)).set j (.sro i2 z.2)) := by
  refine pg_le (pg_tup hc (pgs_cons (pg_name hN hi hx hf) (pgs_cons (pg_name hN hj hy hf2) pgs_nil hs2) hs) hn hst) ?_
  rintro v σ H Q ⟨H0, A0, A, z, Γ, R, hno, ⟨q, v1, v2, e, hq, r1, r2⟩, kk⟩
  refine ⟨q, [v1, v2], e, SqT.of (cut_le hq).1, rfl, v1, [v2], rfl, v2, [], rfl, rfl, kk _ ?_ ⟨R.nd, R.fr, R.same, R.m0, ?_⟩⟩
  · rw [set_wipe (List.mem_cons_of_mem _ List.mem_cons_self), set_wipe List.mem_cons_self]
  · refine RelS.fillr r2 (RelS.fillr r1 R.sl (hno i List.mem_cons_self)) ?_
    rw [List.getElem?_set_ne hij]
    exact hno j (List.mem_cons_of_mem _ List.mem_cons_self)
/-- what a comprehension's turns ask -/
theorem lc_read [Py α] [Py β] {put : α → List Slot → List Slot} {tc : α → Option Bool} {f : α → Option β} {r : Option (List α)} {vs : List Nat} {g : TG} {tt : TT} {te : TE} {σ : L2.St} {H : Hp} {Q : VK}
    (hno : ∀ i ∈ vs, Γ[i]? = some .no)
    (hg : ∀ v σ H Q, gcR X.K vs put v σ H Q → g v σ H Q)
    (ht : ∀ σ H Q, (∃ x, tT X.K (put x Γ) (tc x) σ H Q) → tt σ H Q) (he : ∀ σ H Q, (∃ x, tE X.K (put x Γ) cl (f x) σ H Q) → te σ H Q)
    (h : tE X.K Γ fr (r.bind (lcG tc f)) σ H Q) : tLc (tI X.K Γ r) g tt te vs σ H Q := by
  obtain ⟨H0, A0, A, zs, R, er, k⟩ := h
  cases r with
  | none => cases er
  | some l =>
    have er : lcG tc f l = some zs := er
    unfold lcG at er
    by_cases hz : l.length < sizeLine
    · rw [if_pos hz] at er
      refine ⟨H0, A0, A, l, R, rfl, fun J H1 sm fd D hD => ?_⟩
      have R1 := R.grow sm
      have hDA : D ∉ A0 ++ A := fun m => by have := R1.mut D m; rw [hD] at this; exact this
      refine ⟨fun i m H' => m = l.length - i ∧ i ≤ l.length ∧ ∃ acc ys zt, H' D = some (.lst acc) ∧ Same H1 H' ∧ Paired (Py.rep X.K (cut H' (D :: (A0 ++ A)))) acc ys ∧ lcO tc f (l.drop i) = some zt ∧ zs = ys ++ zt ∧ ys.length ≤ i,
        ⟨l.length, rfl, Nat.zero_le _, [], [], zs, upd_same, same_upd hD, .nil, er, rfl, Nat.le_refl _⟩, ?_⟩
      rintro i m H' ⟨rfl, hi, acc, ys, zt, hD', s1, pr, ez, ezs, hlen⟩
      have Rb : Rel X.K (cut H' A) (D :: A0) Γ (wipe σ vs) H' A := by
        have G := R1.grow s1
        refine ⟨G.nd, fun p m => cut_in m, cut_same, fun p m => ?_, relS_wipe hno (RelS.up (Up.same fun a o e => ?_) (fun p m o e => s1 p o e) R1.sl)⟩
        · rcases List.mem_cons.mp m with m | m
          · rw [m, cut_out fun z => hDA (List.mem_append.mpr (.inr z)), hD']; trivial
          · rw [cut_out fun z => G.dis z m]; exact same_mut G.same (G.m0 p m)
        · obtain ⟨e1, e2⟩ := cut_le e
          have n : a ≠ D := ne_of_none e1 hD
          rw [cut_out (by rw [List.cons_append, List.mem_cons, not_or]; exact ⟨n, e2⟩)]
          exact s1 a o e1
      have fz := fd H' (D :: A0 ++ A) (Up.same fun a o e => by
        obtain ⟨e1, e2⟩ := cut_le e
        have n : a ≠ D := ne_of_none e1 hD
        rw [cut_out (by rw [List.cons_append, List.mem_cons, not_or]; exact ⟨n, e2⟩)]
        exact s1 a o e1) Rb.mut
      by_cases hlt : i < l.length
      · obtain ⟨x, e1, e2⟩ := drop_step hlt
        rw [e2] at ez
        have ez : ((tc x).bind fun b => if b then (f x).bind fun y => (lcO tc f (l.drop (i + 1))).bind fun ys => some (y :: ys) else lcO tc f (l.drop (i + 1))) = some zt := ez
        cases q : tc x with
        | none => rw [q] at ez; cases ez
        | some bb =>
          rw [q] at ez
          refine .inr ⟨(fz.1 i x e1).1, fun H2 => ∃ acc ys zt, H2 D = some (.lst acc) ∧ Same H1 H2 ∧ Paired (Py.rep X.K (cut H2 (D :: (A0 ++ A)))) acc ys ∧ lcO tc f (l.drop (i + 1)) = some zt ∧ zs = ys ++ zt ∧ ys.length ≤ i + 1,
            fun H2 ⟨acc, ys, zt, h1, h2, h3, h4, h5, h6⟩ => ⟨l.length - (i + 1), by omega, rfl, hlt, acc, ys, zt, h1, h2, h3, h4, h5, h6⟩, fun v H2 y => ?_⟩
          obtain ⟨sm2, rp⟩ := (fz.1 i x e1).2 v H2 y
          refine hg _ _ _ _ ⟨cut H' A, D :: A0, A, x, Γ, Rb.grow sm2, hno, rp, fun σ2 ew R2 => ⟨by rw [ew]; exact wipe_wipe, ht _ _ _ ⟨x, _, _, _, bb, R2, q, fun H3 sm3 => ?_⟩⟩⟩
          cases bb with
          | false => exact iteF ⟨acc, ys, zt, sm3 D _ (sm2 D _ hD'), (s1.trans sm2).trans sm3, paired_up pr fun _ _ r => Py.up ((Up.same (sm2.trans sm3)).cut _) r, ez, ezs, Nat.le_succ_of_le hlen⟩
          | true =>
            refine iteT ?_
            have ez : ((f x).bind fun y => (lcO tc f (l.drop (i + 1))).bind fun ys => some (y :: ys)) = some zt := ez
            cases q2 : f x with
            | none => rw [q2] at ez; cases ez
            | some y1 =>
              rw [q2] at ez
              have ez : ((lcO tc f (l.drop (i + 1))).bind fun ys => some (y1 :: ys)) = some zt := ez
              cases q3 : lcO tc f (l.drop (i + 1)) with
              | none => rw [q3] at ez; cases ez
              | some zt2 =>
                rw [q3] at ez
                cases ez
                refine he _ _ _ ⟨x, _, _, _, y1, R2.grow sm3, q2, fun u H4 sm4 ru => ?_⟩
                have s4 := ((s1.trans sm2).trans sm3).trans sm4
                have hD4 := sm4 D _ (sm3 D _ (sm2 D _ hD'))
                have rep4 : ∀ {w : V} {z : β} {B : Hp}, Py.rep X.K (cut B (D :: (A0 ++ A))) w z → Same B H4 → Py.rep X.K (cut (upd H4 D (.lst (acc ++ [u]))) (D :: (A0 ++ A))) w z := fun r s => by
                  rw [cut_upd List.mem_cons_self]; exact Py.up ((Up.same s).cut _) r
                refine ⟨acc, hD4, ?_, acc ++ [u], ys ++ [y1], zt2, upd_same, fun a o e => ?_, ?_, rfl, by rw [ezs, List.append_assoc]; rfl, by rw [List.length_append]; exact Nat.succ_le_succ hlen⟩
                · rw [paired_len pr]; omega
                · rw [upd_ne (ne_of_none e hD)]; exact s4 a o e
                · exact paired_app (paired_up pr fun _ _ r => rep4 r ((sm2.trans sm3).trans sm4)) (.cons (rep4 ru (Same.refl _)) .nil)
      · have e : i = l.length := by omega
        subst e
        rw [List.drop_length] at ez
        cases ez
        refine .inl ⟨fz.2, k _ _ (sm.trans s1) ⟨D, .lst acc, rfl, sm.free hD, hD', acc, rfl, ?_⟩⟩
        rw [ezs, List.append_nil]
        exact pr
    · rw [if_neg hz] at er; cases er
/-- what is common of the forms -/
theorem m_lc1 [Py α] [Py β] {scope : Scope} {own : List (Str × Nat)} {put : α → List Slot → List Slot} {tc : α → Option Bool} {f : α → Option β} {r : Option (List α)} (hc : X.calm = true) (hN : X.N.Nodup) (hi : PI X tg iter (tI X.K Γ r)) (ok : BlkOk X.N X.env.scope scope own)
    (hg : ∀ (s : Shared) (H : Hp) (C : Addr) (l : List (Str × Addr)) (fp : List Addr), PG (X.blk s H scope (compEnvC scope l C X.env) fp) tg (gcR X.K (own.map (·.2)) put))
    (ht : ∀ (s : Shared) (H : Hp) (C : Addr) (l : List (Str × Addr)) (fp : List Addr) (x : α), PT (X.blk s H scope (compEnvC scope l C X.env) fp) c (tT X.K (put x Γ) (tc x)))
    (he : ∀ (s : Shared) (H : Hp) (C : Addr) (l : List (Str × Addr)) (fp : List Addr) (x : α), PE (X.blk s H scope (compEnvC scope l C X.env) fp) elt (tE X.K (put x Γ) cl (f x)))
    (hno : ∀ i ∈ own.map (·.2), Γ[i]? = some .no := by intro i m; repeat (first | (cases m; rfl) | (cases m; rename_i m)))
    (hs : ∀ x, foldedSetIterable iter X.env x = pure x := by intro _; rfl) : PE X (.ListComp elt [⟨tg, iter, [c], 0⟩] scope pos) (tE X.K Γ fr (r.bind (lcG tc f))) :=
  pe_le (pe_lc hc hN hi ok hg (fun s H C l fp => pts_one (pt_ex (ht s H C l fp))) (fun s H C l fp => pe_ex (he s H C l fp)) hs) fun σ H Q h => lc_read (X := X) hno (fun _ _ _ _ h => h) (fun _ _ _ h => h) (fun _ _ _ h => h) h
theorem m_lc0 [Py α] [Py β] {scope : Scope} {own : List (Str × Nat)} {put : α → List Slot → List Slot} {f : α → Option β} {r : Option (List α)} (hc : X.calm = true) (hN : X.N.Nodup) (hi : PI X tg iter (tI X.K Γ r)) (ok : BlkOk X.N X.env.scope scope own)
    (hg : ∀ (s : Shared) (H : Hp) (C : Addr) (l : List (Str × Addr)) (fp : List Addr), PG (X.blk s H scope (compEnvC scope l C X.env) fp) tg (gcR X.K (own.map (·.2)) put))
    (he : ∀ (s : Shared) (H : Hp) (C : Addr) (l : List (Str × Addr)) (fp : List Addr) (x : α), PE (X.blk s H scope (compEnvC scope l C X.env) fp) elt (tE X.K (put x Γ) cl (f x)))
    (hno : ∀ i ∈ own.map (·.2), Γ[i]? = some .no := by intro i m; repeat (first | (cases m; rfl) | (cases m; rename_i m)))
    (hs : ∀ x, foldedSetIterable iter X.env x = pure x := by intro _; rfl) : PE X (.ListComp elt [⟨tg, iter, [], 0⟩] scope pos) (tE X.K Γ fr (r.bind (lcG (fun _ => some true) f))) :=
  pe_le (pe_lc hc hN hi ok hg (fun s H C l fp => pts_nil) (fun s H C l fp => pe_ex (he s H C l fp)) hs) fun σ H Q h => lc_read (X := X) hno (fun _ _ _ _ h => h)
    (fun σ H Q ⟨x, H0, A0, A, b, R, eb, k⟩ => by cases eb; exact k H (Same.refl H)) (fun _ _ _ h => h) h
/-- name = [..] -/
theorem n_lc1 [ip : Py α] [iq : Py β] {scope : Scope} {own : List (Str × Nat)} {put : α → List Slot → List Slot} {tc : α → Option Bool} {f : α → Option β} {r : Option (List α)} {i : Nat} {y : Str} {py spos : Pos} (hc : X.calm = true) (hN : X.N.Nodup)
    (hsw : swapsWith (.ListComp elt [⟨tg, iter, [c], 0⟩] scope pos) (some (.Name y py)) spos.line X.env = pure true) (hi : PI X tg iter (tI X.K Γ r)) (ok : BlkOk X.N X.env.scope scope own)
    (hg : ∀ (s : Shared) (H : Hp) (C : Addr) (l : List (Str × Addr)) (fp : List Addr), PG (X.blk s H scope (compEnvC scope l C X.env) fp) tg (gcR X.K (own.map (·.2)) put))
    (ht : ∀ (s : Shared) (H : Hp) (C : Addr) (l : List (Str × Addr)) (fp : List Addr) (x : α), PT (X.blk s H scope (compEnvC scope l C X.env) fp) c (tT X.K (put x Γ) (tc x)))
    (he : ∀ (s : Shared) (H : Hp) (C : Addr) (l : List (Str × Addr)) (fp : List Addr) (x : α), PE (X.blk s H scope (compEnvC scope l C X.env) fp) elt (tE X.K (put x Γ) cl (f x)))
    (hy : X.N[i]? = some y := by rfl) (hyl : X.env.scope.names.lookup y = some .local := by rfl) (hl : i < Γ.length := by exact Nat.le_of_ble_eq_true rfl)
    (hno : ∀ i ∈ own.map (·.2), Γ[i]? = some .no := by intro i m; repeat (first | (cases m; rfl) | (cases m; rename_i m)))
    (hs : ∀ x, foldedSetIterable iter X.env x = pure x := by intro _; rfl) : PS X (.Assign [.Name y py] (.ListComp elt [⟨tg, iter, [c], 0⟩] scope pos) spos) (tN X.K Γ (r.bind (lcG tc f)) fun ys => Γ.set i (ow ys)) := by
  refine ps_le (ps_setLc hc hN hy hyl hsw hi ok hg (fun s H C l fp => pts_one (pt_ex (ht s H C l fp))) (fun s H C l fp => pe_ex (he s H C l fp)) hs) ?_
  rintro D σ H ⟨H0, A0, A, s, R, es, k⟩
  refine lc_read (X := X) hno (fun _ _ _ _ h => h) (fun _ _ _ h => h) (fun _ _ _ h => h) ⟨H0, A0, A, s, R, es, fun v H' sm ⟨p, o, e1, n, hp, c⟩ => ?_⟩
  obtain ⟨A', R'⟩ := R.seto sm n hp c hl
  subst e1
  exact k _ _ A' R'
theorem n_lc0 [ip : Py α] [iq : Py β] {scope : Scope} {own : List (Str × Nat)} {put : α → List Slot → List Slot} {f : α → Option β} {r : Option (List α)} {i : Nat} {y : Str} {py spos : Pos} (hc : X.calm = true) (hN : X.N.Nodup)
    (hsw : swapsWith (.ListComp elt [⟨tg, iter, [], 0⟩] scope pos) (some (.Name y py)) spos.line X.env = pure true) (hi : PI X tg iter (tI X.K Γ r)) (ok : BlkOk X.N X.env.scope scope own)
    (hg : ∀ (s : Shared) (H : Hp) (C : Addr) (l : List (Str × Addr)) (fp : List Addr), PG (X.blk s H scope (compEnvC scope l C X.env) fp) tg (gcR X.K (own.map (·.2)) put))
    (he : ∀ (s : Shared) (H : Hp) (C : Addr) (l : List (Str × Addr)) (fp : List Addr) (x : α), PE (X.blk s H scope (compEnvC scope l C X.env) fp) elt (tE X.K (put x Γ) cl (f x)))
    (hy : X.N[i]? = some y := by rfl) (hyl : X.env.scope.names.lookup y = some .local := by rfl) (hl : i < Γ.length := by exact Nat.le_of_ble_eq_true rfl)
    (hno : ∀ i ∈ own.map (·.2), Γ[i]? = some .no := by intro i m; repeat (first | (cases m; rfl) | (cases m; rename_i m)))
    (hs : ∀ x, foldedSetIterable iter X.env x = pure x := by intro _; rfl) : PS X (.Assign [.Name y py] (.ListComp elt [⟨tg, iter, [], 0⟩] scope pos) spos) (tN X.K Γ (r.bind (lcG (fun _ => some true) f)) fun ys => Γ.set i (ow ys)) := by
  refine ps_le (ps_setLc hc hN hy hyl hsw hi ok hg (fun s H C l fp => pts_nil) (fun s H C l fp => pe_ex (he s H C l fp)) hs) ?_
  rintro D σ H ⟨H0, A0, A, s, R, es, k⟩
  refine lc_read (X := X) hno (fun _ _ _ _ h => h) (fun σ H Q ⟨x, H0, A0, A, b, R, eb, k⟩ => by cases eb; exact k H (Same.refl H)) (fun _ _ _ h => h) ⟨H0, A0, A, s, R, es, fun v H' sm ⟨p, o, e1, n, hp, c⟩ => ?_⟩
  obtain ⟨A', R'⟩ := R.seto sm n hp c hl
  subst e1
  exact k _ _ A' R'

/-! ### statements that change a list -/
def appO {α : Type} (xs : List α) (y : α) : Option (List α) := if xs.length < sizeLine then some (xs ++ [y]) else none
theorem n_app [ip : Py α] {i : Nat} {xs : List α} {r : Option α} {spos : Pos} (h : PE X e (tBM X.K "list" rAppend (tVar i) (tCons (tE X.K Γ cl r) tNil))) (hi : Γ[i]? = some (ow xs) := by rfl) (hsw : swapsWith e none spos.line X.env = pure false := by rfl) :
    PS X (.Expr e spos) (tN X.K Γ (r.bind fun y => appO xs y) fun zs => Γ.set i (ow zs)) := by
  refine ps_le (ps_expr h hsw) ?_
  rintro D σ H ⟨H0, A0, A, s, R, es, k⟩
  cases r with
  | none => cases es
  | some y =>
    have es : appO xs y = some s := es
    unfold appO at es
    by_cases hz : xs.length < sizeLine
    · rw [if_pos hz] at es; cases es
      obtain ⟨p, o, e1, m, e2, vs, eo, pr⟩ := R.sl.own hi
      subst eo
      refine ⟨_, e1, .inl ⟨rfl, _, SqL.of e2⟩, H0, A0, A, y, R, rfl, fun v H' sm q => ⟨p, vs, v, rfl, rfl, sm p _ e2, by rw [paired_len pr]; exact hz, ?_⟩⟩
      refine k _ _ A ((R.grow sm).chg hi e1 m ⟨_, rfl, paired_app (paired_up pr fun _ _ r => Py.up ((Up.same sm).cut _) r) (.cons q .nil)⟩)
    · rw [if_neg hz] at es; cases es
theorem n_clear [ip : Py α] {i : Nat} {xs : List α} {spos : Pos} (h : PE X e (tBM0 X.K "list" rClear (tVar i))) (hi : Γ[i]? = some (ow xs) := by rfl) (hsw : swapsWith e none spos.line X.env = pure false := by rfl) :
    PS X (.Expr e spos) (tN X.K Γ (some ()) fun _ => Γ.set i (ow ([] : List α))) := by
  refine ps_le (ps_expr h hsw) ?_
  rintro D σ H ⟨H0, A0, A, s, R, es, k⟩
  cases es
  obtain ⟨p, o, e1, m, e2, vs, eo, pr⟩ := R.sl.own hi
  subst eo
  exact ⟨_, e1, .inl ⟨rfl, _, SqL.of e2⟩, p, vs, rfl, rfl, e2, k _ _ A (R.chg hi e1 m ⟨_, rfl, .nil⟩)⟩
/-- xs[k] = e -/
def setO {α : Type} (xs : List α) (k : Int) (y : α) : Option (List α) := (ixN xs.length k).map fun j => xs.set j y
theorem paired_set {F : V → α → Prop} {v : V} {x : α} (r : F v x) : ∀ (n : Nat) {vs : List V} {xs : List α}, Paired F vs xs → Paired F (vs.set n v) (xs.set n x)
  | _, _, _, .nil => .nil
  | 0, _, _, .cons q t => .cons r t
  | n + 1, _, _, .cons q t => .cons q (paired_set r n t)
theorem n_seti [ip : Py α] {i : Nat} {xs : List α} {r : Option α} {rk : Option Int} {tpos spos : Pos} (h : PE X a (tVar i)) (he : PE X e (tE X.K Γ cl r)) (hk : PE X b (tE X.K Γ any rk)) (hi : Γ[i]? = some (ow xs) := by rfl)
    (hs : swapsWithSole [.Subscript a b tpos] e spos.line X.env = pure false := by rfl) (hw : swappedStores [.Subscript a b tpos] e X.env = pure none := by rfl) (h1 : (assignEach [.Subscript a b tpos] X.env).map (·.2) = [assign (.Subscript a b tpos) X.env] := by rfl)
    (ha : ∀ v, assign (.Subscript a b tpos) X.env v = (do
      let ov ← holding [v] (eval a X.env)
      let iv ← holding [v, ov] (eval b X.env)
      standAt tpos
      holding [v, ov, iv] (setItem ov iv v)
      release [v, ov, iv] []) := by intro _; rfl) :
    PS X (.Assign [.Subscript a b tpos] e spos) (tN X.K Γ (r.bind fun y => rk.bind fun k => setO xs k y) fun zs => Γ.set i (ow zs)) := by
  refine ps_le (ps_asg he (pg_sub h hk set_list ha) hs hw h1) ?_
  rintro D σ H ⟨H0, A0, A, s, R, es, k⟩
  cases r with
  | none => cases es
  | some y =>
    cases rk with
    | none => cases es
    | some j =>
      have es : setO xs j y = some s := es
      obtain ⟨p, o, e1, m, e2, vs, eo, pr⟩ := R.sl.own hi
      subst eo
      refine ⟨H0, A0, A, y, R, rfl, fun v H' sm q => ⟨_, e1, H0, A0, A, j, R.grow sm, rfl, fun w H2 sm2 q2 => ?_⟩⟩
      unfold setO at es
      cases q3 : ixN xs.length j with
      | none => rw [q3] at es; cases es
      | some n =>
        rw [q3] at es; cases es
        have s2 := sm.trans sm2
        refine ⟨p, vs, j, n, rfl, q2, s2 p _ e2, by rw [paired_len pr]; exact q3, k _ _ A ((R.grow s2).chg hi e1 m ⟨_, rfl, paired_set (Py.up ((Up.same sm2).cut _) q) n (paired_up pr fun _ _ r => Py.up ((Up.same s2).cut _) r)⟩)⟩
/-- targets that are unpacked: a, b = e -/
theorem n_asg [Py α] {put : α → List Slot → List Slot} {r : Option α} {spos : Pos} (he : PE X e (tE X.K Γ cl r)) (hg : MG X tg put) (hl : Γ.length = X.N.length) (hs : swapsWithSole [tg] e spos.line X.env = pure false := by rfl) (hw : swappedStores [tg] e X.env = pure none := by rfl)
    (h1 : (assignEach [tg] X.env).map (·.2) = [assign tg X.env] := by rfl) : PS X (.Assign [tg] e spos) (tN X.K Γ r fun y => put y Γ) := by
  refine ps_le (ps_asg he hg hs hw h1) ?_
  rintro D σ H ⟨H0, A0, A, s, R, es, k⟩
  exact ⟨H0, A0, A, s, R, es, fun v H' sm q => ⟨H0, A0, A, s, Γ, R.grow sm, hl, q, fun σ' A' R' => k σ' H' A' R'⟩⟩
/-- an expression whose value is dropped -/
theorem n_expr {md : Md α} {r : Option α} {spos : Pos} (he : PE X e (tE X.K Γ md r)) (hs : swapsWith e none spos.line X.env = pure false := by rfl) : PS X (.Expr e spos) (tN X.K Γ r fun _ => Γ) := by
  refine ps_le (ps_expr he hs) ?_
  rintro D σ H ⟨H0, A0, A, s, R, es, k⟩
  exact ⟨H0, A0, A, s, R, es, fun v H' sm q => k _ _ A (R.grow sm)⟩
theorem n_pass {spos : Pos} : PS X (.Pass spos) (tN X.K Γ (some ()) fun _ => Γ) := ps_le ps_pass fun D σ H ⟨H0, A0, A, s, R, es, k⟩ => by cases es; exact k _ _ A R
theorem an [Py α] {r : Option α} (h : PE X e (tE X.K Γ cl r)) : PE X e (tE X.K Γ any r) := me_le h cl_any
theorem fa [Own α] {r : Option α} (h : PE X e (tE X.K Γ fr r)) : PE X e (tE X.K Γ any r) := me_le h fr_any
theorem fc [Own α] {r : Option α} (h : PE X e (tE X.K Γ fr r)) : PE X e (tE X.K Γ cl r) := me_le h fr_cl
theorem ic [Py α] [Imm α] {r : Option α} (h : PE X e (tE X.K Γ any r)) : PE X e (tE X.K Γ cl r) := me_le h any_cl
theorem b_eq {ρ S : Type} {F : Fin ρ} {sts : List Stmt} {m m' : Option (Out ρ S)} {Γ1 : S → List Slot} (h : PSs X sts (tB X.K F Γ m Γ1)) (q : m = m') : PSs X sts (tB X.K F Γ m' Γ1) := q ▸ h
theorem b_last {ρ S : Type} {F : Fin ρ} {st : Stmt} {m : Option (Out ρ S)} {Γ1 : S → List Slot} (h : PS X st (tB X.K F Γ m Γ1)) : PSs X [st] (tB X.K F Γ m Γ1) := pss_one h
end
/-- what a call tells -/
def callV {ρ S : Type} (m : Option (Out ρ S)) : Option ρ := (m.bind outR).bind Except.toOption
end M

set_option Elab.async false
set_option linter.all false
set_option maxRecDepth 100000
namespace M
open PySem PySem.Spec PyProof.Rows L2

/-! ### one plain text for another -/
theorem q_bind {α β : Type} {a b : Option α} {f g : α → Option β} (h : a = b) (k : ∀ x, f x = g x) : Option.bind a f = Option.bind b g := by
  rw [h, show f = g from funext k]
theorem q_out {ρ S T : Type} {a b : Option (Out ρ S)} {f g : S → Option (Out ρ T)} (h : a = b) (k : ∀ x, f x = g x) : bindOut a f = bindOut b g := by
  rw [h, show f = g from funext k]
theorem q_if {α : Type} {c d : Bool} {a b a' b' : α} (h : c = d) (h1 : a = a') (h2 : b = b') : (if c = true then a else b) = if d = true then a' else b' := by rw [h, h1, h2]
theorem q_pif {α : Type} {r : Option Bool} {d : Bool} {a b a' b' : Option α} (h : r = some d) (h1 : a = a') (h2 : b = b') : (r.bind fun c => if c = true then a else b) = if d = true then a' else b' := by rw [h, h1, h2]; rfl
theorem q_for {ρ S α : Type} {f g : S → α → Option (Out ρ S)} {s : S} {l : List α} (h : ∀ s x, f s x = g s x) : forO f s l = forO g s l := by rw [show f = g from funext fun s => funext (h s)]
theorem q_pfor {ρ S α : Type} {r : Option (List α)} {f g : S → α → Option (Out ρ S)} {s : S} {l : List α} (e : r = some l) (h : ∀ s x, f s x = g s x) : (r.bind fun l => forO f s l) = forO g s l := by rw [e]; exact q_for h
theorem q_fold {S α : Type} {f g : S → α → Option S} {s : S} {l : List α} (h : ∀ s x, f s x = g s x) : List.foldlM f s l = List.foldlM g s l := by rw [show f = g from funext fun s => funext (h s)]
theorem q_pfold {S α : Type} {r : Option (List α)} {f g : S → α → Option S} {s : S} {l : List α} (e : r = some l) (h : ∀ s x, f s x = g s x) : (r.bind fun l => List.foldlM f s l) = List.foldlM g s l := by rw [e]; exact q_fold h
theorem q_while {S : Type} {c d : S → Option Bool} {f g : S → Option S} {s : S} {n : Nat} (h : ∀ s, c s = d s) (k : ∀ s, f s = g s) : whileO c f n s = whileO d g n s := by rw [show c = d from funext h, show f = g from funext k]
/-! ### how many items a display has -/
theorem len_nil {α : Type} : ∀ xs : List α, some ([] : List α) = some xs → xs.length ≤ 0 := fun xs h => by cases h; exact Nat.le_refl _
theorem len_cons {α : Type} {ra : Option α} {rb : Option (List α)} {n : Nat} (h : ∀ xs, rb = some xs → xs.length ≤ n) : ∀ xs, bind2 ra rb (fun x y => some (x :: y)) = some xs → xs.length ≤ n + 1 := fun xs e => by
  cases ra with
  | none => cases e
  | some x =>
    cases rb with
    | none => cases e
    | some y => cases e; exact Nat.succ_le_succ (h y rfl)
theorem len_le {α : Type} {r : Option (List α)} {n : Nat} (h : ∀ xs, r = some xs → xs.length ≤ n) (hn : n ≤ sizeLine) : ∀ xs, r = some xs → xs.length ≤ sizeLine := fun xs e => Nat.le_trans (h xs e) hn
/-! ### isinstance -/
inductive T7 where
  | non | bl | int | str | lst | tup | dct
  deriving DecidableEq
def T7.nm : T7 → String
  | .non => "NoneType" | .bl => "bool" | .int => "int" | .str => "str" | .lst => "list" | .tup => "tuple" | .dct => "dict"
def isT : T7 → T7 → Bool
  | .bl, .int => true
  | a, b => decide (a = b)
theorem kit_isT (a b : T7) (h : b ≠ .non) : kitB a.nm b.nm = some (isT a b) := by
  cases a <;> cases b <;> first | exact absurd rfl h | decide +kernel
class HasTy (α : Type) [Py α] where
  ty : α → T7
  ok : ∀ {K : PySem.W.Frag} {H : Hp} {v : V} {x : α}, Py.rep K H v x → TyX K H v (.type (ty x).nm)
instance : HasTy Int := ⟨fun _ => .int, fun {K H v x} h => by rw [show v = .int x from h]; exact .base (.int x)⟩
instance : HasTy Bool := ⟨fun _ => .bl, fun {K H v x} h => by rw [show v = .bl x from h]; exact .base (.bl x)⟩
instance : HasTy Str := ⟨fun _ => .str, fun {K H v x} h => by rw [show v = .str x from h]; exact .base (.str x)⟩
instance : HasTy Unit := ⟨fun _ => .non, fun {K H v x} h => by rw [show v = .non from h]; exact .base .non⟩
instance {α β : Type} [Py α] [Py β] : HasTy (α × β) := ⟨fun _ => .tup, fun ⟨a, v1, v2, e, h, _, _⟩ => by rw [e]; exact .base (.tup h)⟩
instance {α : Type} [Py α] : HasTy (Tup α) := ⟨fun _ => .tup, fun ⟨a, vs, e, h, _⟩ => by rw [e]; exact .base (.tup h)⟩
instance {α : Type} [Py α] : HasTy (List α) := ⟨fun _ => .lst, fun ⟨a, vs, e, h, _⟩ => by rw [e]; exact .base (.lst h)⟩
def D.ty : D → T7
  | .non => .non | .bl _ => .bl | .int _ => .int | .str _ => .str | .tup _ => .tup | .lst _ => .lst | .dct _ => .dct
instance : HasTy D := ⟨D.ty, fun {K H v x} h => by
  cases x with
  | non => rw [show v = .non from h]; exact .base .non
  | bl b => rw [show v = .bl b from h]; exact .base (.bl b)
  | int i => rw [show v = .int i from h]; exact .base (.int i)
  | str y => rw [show v = .str y from h]; exact .base (.str y)
  | tup xs => obtain ⟨a, vs, e, h, _⟩ := h; rw [e]; exact .base (.tup h)
  | lst xs => obtain ⟨a, vs, e, h, _⟩ := h; rw [e]; exact .base (.lst h)
  | dct kvs =>
    obtain ⟨a, ws, e, h, _⟩ := h
    rw [e]
    rcases h with h | ⟨o, h⟩
    · exact .base (.dK h)
    · exact .fDict h⟩
section
variable {X : Cx} {e a b c : Expr} {es : List Expr} {Γ : List Slot} {α β γ : Type} {pos p p2 : Pos} {x : Str}
theorem m_isi [Py α] [HasTy α] {t : T7} {y : Str} {py : Pos} {ra : Option α} (hn0 : t ≠ .non) (hv2 : bootBuiltins y = some (.type t.nm)) (hg : Gl X "isinstance") (hm : X.mg "isinstance" = none) (hg2 : Gl X y) (hm2 : X.mg y = none) (ha : PE X a (tE X.K Γ any ra))
    (hs : starEach [a, .Name y py] X.env = (false, eval a X.env) :: starEach [.Name y py] X.env := by rfl) (hs2 : starEach [.Name y py] X.env = (false, eval (.Name y py) X.env) :: starEach [] X.env := by rfl) (hpl : (backTo pos (starEach [.Name y py] X.env)).any (·.1) = false := by rfl)
    (hn : y ≠ "__name__" := by decide) (hd : (y == ("__debug__" : Str)) = false := by decide) :
    PE X (.Call (.Name "isinstance" p) [a, .Name y py] [] pos) (tE X.K Γ cl (ra.bind fun x => some (isT (HasTy.ty x) t))) := by
  refine pe_le (pe_callB call_isi hg hm PyProof.Rows.boot_isinstance (pa_cons ha (pa_cons (pe_bltn (v := .ty t.nm) hg2 hm2 hv2 rfl hn hd) pa_nil hs2) hs) (he := hs) (hpl := hpl)) ?_
  rintro σ H Q ⟨H0, A0, A, z, R, er, k⟩
  cases ra with
  | none => cases er
  | some x =>
    cases er
    exact ⟨H0, A0, A, x, R, rfl, fun v H1 s1 q1 => ⟨v, _, _, _, _, rfl, ClsV.ty _, HasTy.ok q1, kit_ty (kit_isT _ _ hn0), k _ _ s1 rfl⟩⟩

/-! ### a thing of a known kind as data -/
end
class ToD (α : Type) [Py α] where
  d : α → D
  ok : ∀ {K : PySem.W.Frag} {H : Hp} {v : V} {x : α}, Py.rep K H v x → Py.rep K H v (d x)
instance : ToD Int := ⟨.int, fun h => h⟩
instance : ToD Bool := ⟨.bl, fun h => h⟩
instance : ToD Str := ⟨.str, fun h => h⟩
instance : ToD Unit := ⟨fun _ => .non, fun h => h⟩
instance : ToD (List D) := ⟨.lst, fun ⟨a, vs, ea, h, r⟩ => ⟨a, vs, ea, h, repDs_paired r⟩⟩
instance : ToD (Tup D) := ⟨fun x => .tup x.items, fun ⟨a, vs, ea, h, r⟩ => ⟨a, vs, ea, h, repDs_paired r⟩⟩
theorem toD_all {α : Type} [Py α] [ToD α] {K : PySem.W.Frag} {H : Hp} : ∀ {vs : List V} {xs : List α}, Paired (Py.rep K H) vs xs → repDs H vs (xs.map ToD.d)
  | _, _, .nil => rfl
  | _, _, .cons r t => ⟨_, _, rfl, ToD.ok r, toD_all t⟩
instance (priority := low) {α : Type} [Py α] [ToD α] : ToD (List α) := ⟨fun x => .lst (x.map ToD.d), fun ⟨a, vs, ea, h, r⟩ => ⟨a, vs, ea, h, toD_all r⟩⟩
instance {α β : Type} [Py α] [Py β] [ToD α] [ToD β] : ToD (α × β) := ⟨fun x => .tup [ToD.d x.1, ToD.d x.2], fun ⟨a, v1, v2, e, h, r1, r2⟩ => ⟨a, _, e, h, _, _, rfl, ToD.ok r1, _, _, rfl, ToD.ok r2, rfl⟩⟩
section
variable {X : Cx} {e a b c : Expr} {es : List Expr} {Γ : List Slot} {α β γ : Type} {pos p p2 : Pos} {x : Str}
theorem m_toD [Py α] [ToD α] {r : Option α} (h : PE X e (tE X.K Γ any r)) : PE X e (tE X.K Γ any (r.bind fun x => some (ToD.d x))) := pe_le h fun σ H Q ⟨H0, A0, A, z, R, er, k⟩ => by
  cases r with
  | none => cases er
  | some x => cases er; exact ⟨H0, A0, A, x, R, rfl, fun v H' s q => k v H' s (ToD.ok q)⟩
theorem m_toDC [Py α] [ToD α] {r : Option α} (h : PE X e (tE X.K Γ cl r)) : PE X e (tE X.K Γ cl (r.bind fun x => some (ToD.d x))) := pe_le h fun σ H Q ⟨H0, A0, A, z, R, er, k⟩ => by
  cases r with
  | none => cases er
  | some x => cases er; exact ⟨H0, A0, A, x, R, rfl, fun v H' s q => k v H' s (ToD.ok q)⟩
/-! ### text * number -/
def sRep (x : Str) (n : Int) : Option Str := if x.length * n.toNat ≤ sizeLine ∧ n.natAbs < 2 ^ 40 then some ⟨((List.replicate n.toNat x.cps.toList).flatten).toArray⟩ else none
theorem foldl_rep_cps (c : Array Nat) : ∀ (m : Nat) (acc : Array Nat), (List.replicate m c).foldl (· ++ ·) acc = acc ++ ((List.replicate m c.toList).flatten).toArray
  | 0, acc => by simp
  | m + 1, acc => by
    rw [List.replicate_succ, List.foldl_cons, foldl_rep_cps c m, List.replicate_succ, List.flatten_cons]
    apply Array.ext'
    simp
theorem op_mul_str : OpR X (binaryOp .Mult) (fun x y H Q => ∃ z n, x = .str z ∧ y = .int n ∧ z.length * n.toNat ≤ sizeLine ∧ n.natAbs < 2 ^ 40 ∧ Q (.str ⟨((List.replicate n.toNat z.cps.toList).flatten).toArray⟩) H) := by
  intro pins s σ H x y v u Q I rx ry h
  obtain ⟨z, n, rfl, rfl, hz, hn, q⟩ := h
  obtain ⟨t, rfl⟩ := rx
  obtain ⟨t', rfl⟩ := ry
  have hsl : sizeLine ≤ 2 ^ 40 := by decide
  have tl : Builtin.Str.tooLong (z.length * n.toNat) = false := decide_eq_false (by omega)
  refine PySem.P.mul_str (by rw [decide_eq_false (by omega), decide_eq_false (by omega)]; rfl) (fun h1 h2 => ?_) (fun h1 h2 => tl) ?_
  · have : 0 < n := by omega
    have h3 : (z.length : Int) * n ≤ 2 ^ 40 := by
      have : ((z.length * n.toNat : Nat) : Int) ≤ ((2 ^ 40 : Nat) : Int) := Int.ofNat_le.mpr (Nat.le_trans hz hsl)
      rw [Int.natCast_mul, Int.toNat_of_nonneg (by omega)] at this
      exact this
    have : (z.length : Int) ≤ (2 ^ 63 - 1) / n := by
      rw [Int.le_ediv_iff_mul_le (by omega)]
      omega
    omega
  · have fin : ∀ w : Str, w = ⟨((List.replicate n.toNat z.cps.toList).flatten).toArray⟩ → w.length ≤ sizeLine := fun w e => by
      rw [e]
      have : (Str.mk ((List.replicate n.toNat z.cps.toList).flatten).toArray).length = z.length * n.toNat := by
        show (((List.replicate n.toNat z.cps.toList).flatten).toArray).size = z.cps.size * n.toNat
        simp [Nat.mul_comm]
      rw [this]; exact hz
    by_cases h1 : n < 1
    · rw [if_pos h1]
      have e0 : n.toNat = 0 := by omega
      have e : Str.empty = ⟨((List.replicate n.toNat z.cps.toList).flatten).toArray⟩ := by rw [e0]; rfl
      exact ⟨fin _ e, .str _, H, I.tok _, ⟨_, by rw [e]⟩, q⟩
    · rw [if_neg h1]
      by_cases h2 : (n == 1 || z.length == 0) = true
      · rw [if_pos h2]
        refine ⟨.str z, H, I, ⟨_, rfl⟩, ?_⟩
        have e : z = ⟨((List.replicate n.toNat z.cps.toList).flatten).toArray⟩ := by
          rw [Bool.or_eq_true, beq_iff_eq, beq_iff_eq] at h2
          obtain ⟨c⟩ := z
          congr 1
          apply Array.ext'
          rcases h2 with h2 | h2
          · rw [h2]; simp
          · have : c = #[] := Array.size_eq_zero_iff.mp h2
            subst this; simp
        rw [← e] at q; exact q
      · rw [if_neg h2]
        have e : (⟨(List.replicate n.toNat z.cps).foldl (· ++ ·) #[]⟩ : Str) = ⟨((List.replicate n.toNat z.cps.toList).flatten).toArray⟩ := by
          rw [foldl_rep_cps]; congr 1; simp
        exact ⟨fin _ e, .str _, H, I.tok _, ⟨_, by rw [e]⟩, q⟩
theorem m_srep {ra : Option Str} {rb : Option Int} (ha : PE X a (tE X.K Γ any ra)) (hb : PE X b (tE X.K Γ any rb)) : PE X (.BinOp a .Mult b pos) (tE X.K Γ cl (bind2 ra rb sRep)) :=
  me_op op_mul_str (fun {H1 H2 A v w x y z} s m h1 h2 ez Q k => by
    unfold sRep at ez
    by_cases hc : x.length * y.toNat ≤ sizeLine ∧ y.natAbs < 2 ^ 40
    · rw [if_pos hc] at ez; cases ez
      exact ⟨_, _, h1, h2, hc.1, hc.2, k _ _ (Same.refl _) rfl⟩
    · rw [if_neg hc] at ez; cases ez) ha hb
/-! ### dicts as data -/
/-- an address that is kept aside -/
theorem _root_.M.Rel.hold {K : PySem.W.Frag} {H0 H : Hp} {A0 A : List Addr} {Γ : List Slot} {σ : L2.St} {p : Addr} {o : HO} (r : Rel K H0 A0 Γ σ H A) (hp : H p = none) (hm : Mut (some o)) : Rel K (cut (upd H p o) A) (p :: A0) Γ σ (upd H p o) A := by
  have hpA : p ∉ A0 ++ A := fun m => by have := r.mut p m; rw [hp] at this; exact this
  refine ⟨r.nd, fun q m => cut_in m, cut_same, fun q m => ?_, ?_⟩
  · rcases List.mem_cons.mp m with rfl | m
    · rw [cut_out fun z => hpA (List.mem_append.mpr (.inr z)), upd_same]; exact hm
    · rw [cut_out fun z => r.dis z m, upd_ne (show q ≠ p from fun z => hpA (List.mem_append.mpr (.inl (z ▸ m))))]
      exact same_mut r.same (r.m0 q m)
  · refine RelS.up (Up.same fun a u e => ?_) (fun q m u e => ?_) r.sl
    · obtain ⟨e1, e2⟩ := cut_le e
      have n : a ≠ p := ne_of_none e1 hp
      rw [cut_out (by show a ∉ p :: (A0 ++ A); simp only [List.mem_cons, not_or]; exact ⟨n, e2⟩), upd_ne n]; exact e1
    · rw [upd_ne (ne_of_none e hp)]; exact e
theorem cut_held {H : Hp} {A : List Addr} {p : Addr} {o : HO} (hp : p ∉ A) : Same (cut H (p :: A)) (cut (upd H p o) A) := fun a u e => by
  obtain ⟨e1, e2⟩ := cut_le e
  rw [List.mem_cons, not_or] at e2
  rw [cut_out e2.2, upd_ne e2.1]; exact e1
theorem m_dct0 : PE X (.Dict [] [] pos) (tE X.K Γ cl (some (D.dct []))) := by
  refine pe_le pe_dnewK ?_
  rintro σ H Q ⟨H0, A0, A, z, R, er, k⟩
  cases er
  intro p hp
  have hpA : p ∉ A0 ++ A := fun m => by have := R.mut p m; rw [hp] at this; exact this
  exact k _ _ (same_upd hp) ⟨p, [], rfl, .inl (by rw [cut_out hpA]; exact upd_same), rfl⟩
theorem rd_up {H H' : Hp} {B : List Addr} (s : Same H H') : Up (cut H B) (cut H' B) := (Up.same s).cut B
theorem m_dct1 {κ : Type} [Py κ] {kf : κ → Key} (hk : ∀ {K : PySem.W.Frag} {H : Hp} {v : V} {x : κ}, Py.rep K H v x → v = kV (kf x)) {ra : Option κ} {rb : Option D} (ha : PE X a (tE X.K Γ any ra)) (hb : PE X b (tE X.K Γ cl rb)) :
    PE X (.Dict [some a] [b] pos) (tE X.K Γ cl (bind2 ra rb fun x y => some (D.dct [(kf x, y)]))) := by
  refine pe_le (pe_disp (pps_cons ha hb pps_nil) rfl rfl (by simp) (by show 1 ≤ 15; decide)) ?_
  rintro σ H Q ⟨H0, A0, A, z, R, er, k⟩
  cases ra with
  | none => cases er
  | some x =>
    cases rb with
    | none => cases er
    | some y =>
      cases er
      intro p hp
      have s0 := same_upd (o := .dK []) hp
      have R0 := R.hold (o := .dK []) hp trivial
      refine ⟨_, _, A, x, R0, rfl, fun v H1 s1 q1 => ⟨_, _, A, y, R0.grow s1, rfl, fun w H2 s2 q2 => ?_⟩⟩
      have hpA : p ∉ A0 ++ A := fun m => by have := R.mut p m; rw [hp] at this; exact this
      have e2 : H2 p = some (.dK []) := s2 p _ (s1 p _ upd_same)
      refine ⟨e2, [(kf x, w)], by rw [hk q1]; rfl, by show 1 ≤ 15; decide, ?_⟩
      have ss : Same H (upd H2 p (.dK (mergeK [] [(kf x, w)]))) := fun a o e => by
        rw [upd_ne (ne_of_none e hp)]; exact s2 a o (s1 a o (s0 a o e))
      refine k _ _ ss ⟨p, [(kf x, w)], rfl, .inl (by rw [cut_out hpA, upd_same]; rfl), w, [], rfl, ?_, rfl⟩
      exact repD_up (Up.same (cut_held hpA)) w y q2
end
end M

set_option Elab.async false
set_option linter.all false
set_option maxRecDepth 100000
namespace M
open PySem PySem.Spec PyProof.Rows L2
section
variable {K : PySem.W.Frag} {mg : Str → Option Value} {h : Heap}
theorem def_of {x qual : Str} {st : Stmt} {f : Addr} {oc : Value} {od an : Option Addr} {osl : Array (Option Value)} {kV doc pm cdv ct : Value} (X : K.In h) (G : h.Ns mainGlobals mg) (a : PySem.W.nsIn K mainGlobals x = some (some (.ref f)))
    (l : K.lookup f = some ⟨oc, od, .func (PySem.W.fnOf x qual (defArgs st) (defBody st) (defScope st) .none kV doc pm an cdv ct), osl⟩) (c : PySem.W.codeIn K cdv qual = true) (k : PySem.W.keepIn K (.ref f) = true) : IsDef K mg x qual st :=
  ⟨f, _, PySem.W.mg_of X G a, fun_mk l c k⟩
theorem _root_.M.cut1 {p q : Prop} (h : p) (k : p → q) : q := k h
theorem non_of {x : Str} (X : K.In h) (G : h.Ns mainGlobals mg) (a : PySem.W.nsIn K mainGlobals x = some none) : mg x = none := PySem.W.mg_none_of X G a
theorem fun_uni {x x' q q' : Str} {st st' : Stmt} {f : Addr} {fd fd' : FuncData} (A : Fun K x q st f fd) (B : Fun K x' q' st' f fd') : fd' = fd := by
  obtain ⟨_, _, _, _, _, _, _, _, _, _, e, _⟩ := A.ex
  obtain ⟨_, _, _, _, _, _, _, _, _, _, e', _⟩ := B.ex
  rw [e] at e'
  have := congrArg Obj.data (Option.some.inj e')
  have : Data.func fd = Data.func fd' := this
  cases this; rfl
theorem law_of {P : Program} {w : World} {k : Nat} {sp : Sp} {st : Stmt} {fa : Addr} (X : K.In h) (G : h.Ns mainGlobals mg) (hfa : mg "law" = some (.ref fa)) (I : IsDef K mg "law" "law" st)
    (hb : ∀ (kV doc pm : Value) (an : Option Addr) (cdv ct : Value) (v : Value), bindArgs (PySem.W.fnOf "law" "law" (defArgs st) (defBody st) (defScope st) .none kV doc pm an cdv ct) ⟨[v], []⟩ = pure [(("script" : Str), v)])
    (H : ∀ base : Heap, K.In base → base.Ns mainGlobals mg → Has P w K mg base "law" k ["script"] sp) :
    ∃ fd : FuncData, (∀ (s : Shared) (v : Value), BindsTo s fd ⟨[v], []⟩ [("script", v)]) ∧ ∀ base : Heap, K.In base → base.Ns mainGlobals mg → FnOk P w K mg base (L2.CX P w) k fa fd ["script"] sp := by
  obtain ⟨f, fd, hm, F⟩ := I
  cases hfa.symm.trans hm
  refine ⟨fd, fun s v => ?_, fun base b1 b2 => ?_⟩
  · obtain ⟨_, _, kV, doc, pm, an, cdv, ct, _, e, _⟩ := F.ex
    subst e
    exact .of_eq (hb kV doc pm an cdv ct v)
  · obtain ⟨f2, fd2, hm2, ⟨_, _, F2⟩, _, ok⟩ := H base b1 b2
    cases hm.symm.trans hm2
    cases fun_uni F F2
    exact ok
end
def spT (K : PySem.W.Frag) (n : Nat) : Sp := fun vs H Q E => ∃ (a : Addr) (ns : List Int), vs = [.ref a] ∧ ns.length ≤ n ∧ (∀ z ∈ ns, Builtin.Int.intBits z ≤ 1048576) ∧ Only H ∧ SqL K H a (ns.map V.int) ∧ ∀ v H', v = .bl true → Q v H'
theorem walk_law {l : PySem.W.OpenLaw} {q : Program} {loose : List Str} {XP : (Str → Option Value) → Heap → Prop} {YP : World → Heap → Prop} {d : DefRec} {K : Params → PySem.W.Frag} {n k : Nat} (m : Scr → Option (Out Bool Unit)) (hn : l.most = some n) (hn2 : n ≤ sizeLine) (hdf : d.params.defaults = []) (hr : Room k callerA)
    (math : ∀ ns : List Int, ns.length ≤ n → (∀ z ∈ ns, Builtin.Int.intBits z ≤ 1048576) → m ⟨ns⟩ = some (.ret true))
    (hY : ∀ (w : World) (h : Heap), YP w h → (K w.params).In h)
    (F : ∀ (w : World) (mg : Str → Option Value) (fa : Addr) (h : Heap), (K w.params).In h → h.Ns mainGlobals mg → mg d.name = some (.ref fa) →
      ∃ fd : FuncData, (∀ (s : Shared) (u : Value), BindsTo s fd ⟨[u], []⟩ [("script", u)]) ∧ ∀ base : Heap, (K w.params).In base → base.Ns mainGlobals mg → FnOk l.prog w (K w.params) mg base (L2.CX l.prog w) k fa fd ["script"] (spF (K w.params) mg (ac (α := Scr) a0) (cl : Md Bool) fun y => (m y.1).bind outR)) :
    PySem.W.WalkO q loose XP YP l.row.toRowW d [] (fun f vs => PySem.call f vs) :=
  L2.walk_ofB (n := n) (k := k) (x := "script") (CX := fun w => L2.CX l.prog w) (sp := fun w => spT (K w.params) n) hn hn2 hdf hr hY (fun w mg fa h X G e => by
    obtain ⟨fd, hb, ok⟩ := F w mg fa h X G e
    refine ⟨fd, hb, fun base b1 b2 => (ok base b1 b2).imp fun vs H Q E ⟨a, ns, ev, hl, hbt, hO, hS, kq⟩ => ?_⟩
    refine ⟨[], ((⟨ns⟩ : Scr), ()), .ok true, fun _ z => (nomatch z), ⟨_, [], ev, ⟨a, rfl, ?_⟩, rfl⟩, by show (m ⟨ns⟩).bind outR = _; rw [math ns hl hbt]; rfl, fun v H' _ r => kq v H' r⟩
    rw [cut_nil]
    rcases hS with hS | hS
    · rcases hS with hS | hS
      · rcases hO a with z | ⟨o, xs, z⟩ <;> · rw [z] at hS; cases hS
      · exact .inl hS
    · exact .inr hS) (fun w H a ns hl hb hO hS => ⟨a, ns, rfl, hl, hb, hO, hS, fun _ _ h => h⟩) fun w H s e s' ⟨_, _, _, _, _, _, _, _, _, _, _, _, h⟩ => h
end M

set_option Elab.async false
set_option linter.all false
set_option maxRecDepth 100000
namespace M
open PySem PySem.Spec PyProof.Rows L2

abbrev T (l : List Nat) : Str := ⟨l.toArray⟩
def isLow (c : Nat) : Bool := decide (97 ≤ c) && decide (c ≤ 122)
theorem T_len (l : List Nat) : (T l).length = l.length := by show l.toArray.size = _; simp
theorem T_cps (l : List Nat) : (T l).cps.toList = l := by simp
theorem T_app (l m : List Nat) : T l ++ T m = T (l ++ m) := by
  show Str.mk (l.toArray ++ m.toArray) = _
  simp
theorem T_eta (x : Str) : T x.cps.toList = x := by obtain ⟨c⟩ := x; simp
theorem T_inj {l m : List Nat} : T l = T m ↔ l = m := ⟨fun h => by have := congrArg (fun s : Str => s.cps.toList) h; simpa using this, fun h => by rw [h]⟩
theorem big (n : Nat) (h : n ≤ 1000000) : n ≤ sizeLine := Nat.le_trans h (by decide)
theorem sLen_T {l : List Nat} (h : l.length ≤ 1000000) : sLen (T l) = some (l.length : Int) := by
  unfold sLen; rw [T_len, if_pos (big _ h)]
theorem sCat_T {l m : List Nat} (h : l.length + m.length ≤ 1000000) : sCat (T l) (T m) = some (T (l ++ m)) := by
  unfold sCat; rw [T_len, T_len, if_pos (big _ h), T_app]
theorem sCut_to {l : List Nat} {k : Nat} (h : l.length ≤ 1000000) : sCut (T l) none (some (k : Int)) = some (T (l.take k)) := by
  unfold sCut; rw [T_len, if_pos (big _ h)]
  unfold cutS
  rw [T_len, T_cps, HT.sIx_none, HT.sIx_nat]
  simp [List.take_eq_take_iff]
theorem sCut_from {l : List Nat} {k : Nat} (h : l.length ≤ 1000000) : sCut (T l) (some (k : Int)) none = some (T (l.drop k)) := by
  unfold sCut; rw [T_len, if_pos (big _ h)]
  unfold cutS
  rw [T_len, T_cps, HT.sIx_none, HT.sIx_nat]
  congr 2
  rw [List.take_of_length_le (by simp)]
  by_cases hk : k ≤ l.length
  · rw [Nat.min_eq_left hk]
  · rw [Nat.min_eq_right (by omega), List.drop_of_length_le (Nat.le_refl _), List.drop_of_length_le (by omega)]
theorem atI_nat {α : Type} (xs : List α) (i : Nat) : atI xs (i : Int) = xs[i]? := by
  unfold atI ixN
  rw [if_pos (by omega)]
  by_cases h : i < xs.length
  · rw [if_pos (by omega)]; simp
  · rw [if_neg (by omega), List.getElem?_eq_none (by omega)]; rfl
theorem callV_ret {ρ S : Type} (x : ρ) : callV (some (.ret x : Out ρ S)) = some x := rfl
theorem bindOut_next {ρ S T : Type} (s : S) (f : S → Option (Out ρ T)) : bindOut (some (.next s)) f = f s := rfl
theorem bindOut_ret {ρ S T : Type} (s : ρ) (f : S → Option (Out ρ T)) : bindOut (some (.ret s)) f = some (.ret s) := rfl
theorem bindOut_exc {ρ S T : Type} (s : Str) (f : S → Option (Out ρ T)) : bindOut (some (.exc s)) f = some (.exc s) := rfl
theorem rangeO_nat {n : Nat} (h : n < 4611686018427387904) : rangeO 0 (n : Int) = some ((List.range n).map fun k => ((k : Nat) : Int)) := by
  unfold rangeO
  rw [if_pos (by omega)]
  simp
theorem rangeO_int {n : Int} (h0 : 0 ≤ n) (h : n < 4611686018427387904) : rangeO 0 n = some ((List.range n.toNat).map fun k => ((k : Nat) : Int)) := by
  obtain ⟨m, rfl⟩ := Int.eq_ofNat_of_zero_le h0
  exact rangeO_nat (by omega)
theorem alpha_eq : (Str.ofString "abcdefghijklmnopqrstuvwxyz") = T ((List.range 26).map (97 + ·)) := by decide +kernel
theorem alphaAt (i : Int) (h0 : 0 ≤ i) (h : i < 26) : ixS (Str.ofString "abcdefghijklmnopqrstuvwxyz") i = some (T [97 + i.toNat]) := by
  obtain ⟨m, rfl⟩ := Int.eq_ofNat_of_zero_le h0
  rw [alpha_eq]
  unfold ixS
  rw [T_len, if_pos (big _ (by simp)), T_cps, atI_nat, List.getElem?_map, List.getElem?_range (by omega)]
  rfl
theorem low_mem (c : Nat) : decide (c ∈ (Str.ofString "abcdefghijklmnopqrstuvwxyz").cps.toList) = isLow c := by
  rw [alpha_eq, T_cps]
  unfold isLow
  rw [← Bool.decide_and, decide_eq_decide, List.mem_map]
  constructor
  · rintro ⟨a, h, rfl⟩
    have := List.mem_range.mp h
    omega
  · intro h
    exact ⟨c - 97, List.mem_range.mpr (by omega), by omega⟩
theorem sIn_low (c : Nat) : sIn (T [c]) (Str.ofString "abcdefghijklmnopqrstuvwxyz") = some (isLow c) := by
  rw [← low_mem]; rfl
theorem signs_T (l : List Nat) : M.signs (T l) = l.map fun c => T [c] := by
  unfold M.signs; rw [T_cps]
/-- a loop that asks each item, and ends with r where one is not so -/
theorem forO_ask {ρ α : Type} {f : Unit → α → Option (Out ρ Unit)} {p : α → Bool} {r : ρ} : ∀ {l : List α}, (∀ x ∈ l, f () x = if p x = true then some (.next ()) else some (.ret r)) → forO f () l = if l.all p = true then some (.next ()) else some (.ret r)
  | [], _ => rfl
  | x :: l, h => by
    have ih := forO_ask (f := f) (p := p) (r := r) (l := l) fun y hy => h y (List.mem_cons_of_mem _ hy)
    show bindOut (f () x) (fun s => forO f s l) = _
    rw [h x List.mem_cons_self, List.all_cons]
    cases p x with
    | true => exact ih
    | false => rfl
theorem forO_pass {ρ α : Type} {f : Unit → α → Option (Out ρ Unit)} {l : List α} (h : ∀ x ∈ l, f () x = some (.next ())) : forO f () l = some (.next ()) := by
  induction l with
  | nil => rfl
  | cons x l ih =>
    show bindOut (f () x) (fun s => forO f s l) = _
    rw [h x List.mem_cons_self]
    exact ih fun y hy => h y (List.mem_cons_of_mem _ hy)
def nameB (l : List Nat) : Bool := decide (1 ≤ l.length) && decide (l.length ≤ 8) && !decide (T l = Str.ofString "all") && l.all isLow
theorem nameB_bad {l : List Nat} {c : Nat} (h : c ∈ l) (hc : isLow c = false) : nameB l = false := by
  unfold nameB
  rw [show l.all isLow = false from by rw [List.all_eq_false]; exact ⟨c, h, by rw [hc]; simp⟩, Bool.and_false]
theorem nameB_long {l : List Nat} (h : 8 < l.length) : nameB l = false := by
  unfold nameB
  rw [decide_eq_false (p := l.length ≤ 8) (by omega)]; simp
/-- a text that is built sign by sign -/
theorem fold_str {α : Type} {f : Str → α → Option Str} (n : Nat) : ∀ (l : List α) (s : List Nat), (∀ (s : List Nat) (x : α), x ∈ l → s.length ≤ n → ∃ c, isLow c = true ∧ f (T s) x = some (T (s ++ [c]))) → s.length + l.length ≤ n →
    ∃ cs, cs.length = l.length ∧ cs.all isLow = true ∧ l.foldlM f (T s) = some (T (s ++ cs))
  | [], s, _, _ => ⟨[], rfl, rfl, by rw [List.append_nil]; rfl⟩
  | x :: l, s, h, hn => by
    rw [List.length_cons] at hn
    obtain ⟨c, hc, e⟩ := h s x List.mem_cons_self (by omega)
    obtain ⟨cs, h1, h2, h3⟩ := fold_str n l (s ++ [c]) (fun s y hy => h s y (List.mem_cons_of_mem _ hy)) (by rw [List.length_append]; simp; omega)
    refine ⟨c :: cs, by rw [List.length_cons, h1, List.length_cons], by rw [List.all_cons, hc, h2]; rfl, ?_⟩
    rw [List.foldlM_cons, e]
    show List.foldlM f (T (s ++ [c])) l = _
    rw [h3, List.append_assoc]; rfl
/-! ### numbers from the script -/
theorem log2_le {m n : Nat} (h : m ≤ n) : m.log2 ≤ n.log2 := by
  by_cases hm : m = 0
  · subst hm; simp
  · exact (Nat.le_log2 (by omega)).mpr (Nat.le_trans (Nat.log2_self_le hm) h)
theorem log2_add (a b : Nat) : (a + b).log2 ≤ max a.log2 b.log2 + 1 := by
  by_cases h : a ≤ b
  · refine Nat.le_trans (log2_le (show a + b ≤ 2 * b by omega)) ?_
    by_cases hb : b = 0
    · subst hb; simp
    · rw [Nat.log2_two_mul hb]
      exact Nat.succ_le_succ (Nat.le_max_right _ _)
  · refine Nat.le_trans (log2_le (show a + b ≤ 2 * a by omega)) ?_
    rw [Nat.log2_two_mul (by omega)]
    exact Nat.succ_le_succ (Nat.le_max_left _ _)
/-- how many bits a number has, about -/
def Sz (n : Nat) (x : Int) : Prop := x.natAbs.log2 ≤ n
theorem Sz.div {n : Nat} {x : Int} (h : Sz n x) (y : Int) : Sz n (x / y) := Nat.le_trans (log2_le (Int.natAbs_ediv_le_natAbs x y)) h
theorem Sz.add {n m : Nat} {x y : Int} (h : Sz n x) (h2 : Sz m y) : Sz (max n m + 1) (x + y) := by
  refine Nat.le_trans (log2_le (Int.natAbs_add_le x y)) (Nat.le_trans (log2_add _ _) (Nat.succ_le_succ ?_))
  exact Nat.max_le.mpr ⟨Nat.le_trans h (Nat.le_max_left _ _), Nat.le_trans h2 (Nat.le_max_right _ _)⟩
theorem Sz.le {n m : Nat} {x : Int} (h : Sz n x) (l : n ≤ m) : Sz m x := Nat.le_trans h l
theorem Sz.small {x : Int} (h : x.natAbs < 2 ^ 64) : Sz 63 x := by
  unfold Sz
  by_cases h0 : x.natAbs = 0
  · rw [h0]; decide
  · exact Nat.le_of_lt_succ ((Nat.log2_lt h0).mpr h)
theorem Sz.ofBits {x : Int} (h : Builtin.Int.intBits x ≤ 1048576) : Sz 1048576 x := by
  unfold Builtin.Int.intBits at h
  unfold Sz
  by_cases h0 : x = 0
  · subst h0; exact Nat.zero_le _
  · rw [if_neg (by simpa using h0)] at h; omega
theorem pyMul_ok {n m : Nat} {x y : Int} (h : Sz n x) (h2 : Sz m y) (l : n + m < 100000000 := by decide) : pyMul x y = some (x * y) := by
  unfold pyMul
  rw [if_pos (by unfold Sz at h h2; omega)]
theorem Sz.cells {ns : List Int} (hb : ∀ z ∈ ns, Builtin.Int.intBits z ≤ 1048576) (k : Nat) : Sz 1048576 (ns.getD k 0) := by
  rw [List.getD_eq_getElem?_getD]
  cases e : ns[k]? with
  | none => exact Nat.zero_le _
  | some z => exact Sz.ofBits (hb z (List.mem_of_getElem? e))
end M


set_option Elab.async false
set_option linter.all false
set_option maxRecDepth 100000
namespace K01
open PySem PySem.Spec PyProof.Rows L2 M
def top (i : Nat) : Stmt := PySem.Challenge.pw_tallyveil_k01_names_and_numbers.main.body.getD i (.Pass ⟨0, 0, 0, 0⟩)
section
variable {P : Program} {w : World} {K : PySem.W.Frag} {mg : Str → Option Value} {base : Heap}
abbrev s_is_whole : Stmt := top 1
abbrev N_is_whole : List Str := ["thing"]
theorem sc_is_whole : FnScope N_is_whole ["thing"] (defScope s_is_whole) := ⟨rfl, rfl, rfl, by decide +kernel, rfl, by decide +kernel, by decide +kernel⟩
def m_is_whole (thing : D) : Option (Out (Bool) Unit) :=
  Option.map Out.ret ((andO (some (isT (HasTy.ty (thing)) .int)) (some (!(isT (HasTy.ty (thing)) .bl)))))
theorem ok_is_whole (I : IsDef K mg "is_whole" "is_whole" s_is_whole) (g_bool : mg "bool" = none) (g_int : mg "int" = none) (g_isinstance : mg "isinstance" = none) :
    Has P w K mg base "is_whole" 1 ["thing"] (spF K mg (ac (α := D) a0) (cl : Md (Bool)) fun y => (m_is_whole y.1).bind outR) := by
  refine mk_def I sc_is_whole rfl (fun _ _ _ _ _ _ us hl => match us, hl with | [_], _ => rfl) (Γ1 := fun _ _ => []) fun f cdv A outer s H E hr y => ?_
  obtain ⟨thing, _⟩ := y
  exact b_eq (b_ret (ic (m_and (an (m_isi (t := .int) (by decide) PyProof.Rows.boot_int rfl g_isinstance rfl g_int (an (m_var (pv 0))))) (m_one (m_not (an (m_isi (t := .bl) (by decide) PyProof.Rows.boot_bool rfl g_isinstance rfl g_bool (an (m_var (pv 0)))))))))) (by unfold m_is_whole; repeat' (first | with_reducible rfl | (refine q_if ?_ ?_ ?_) | (refine q_pif ?_ ?_ ?_) | (refine q_out ?_ fun _ => ?_) | (with_reducible refine q_bind ?_ fun _ => ?_) | (with_reducible refine q_for fun _ _ => ?_) | (with_reducible refine q_pfor ?_ fun _ _ => ?_) | (with_reducible refine q_fold fun _ _ => ?_) | (with_reducible refine q_pfold ?_ fun _ _ => ?_) | (with_reducible refine q_while (fun _ => ?_) fun _ => ?_) | rfl))
abbrev s_is_name : Stmt := top 2
abbrev N_is_name : List Str := ["thing", "sign"]
theorem sc_is_name : FnScope N_is_name ["thing"] (defScope s_is_name) := ⟨rfl, rfl, rfl, by decide +kernel, rfl, by decide +kernel, by decide +kernel⟩
def m_is_name (thing : D) : Option (Out (Bool) Unit) :=
  Option.bind ((orO (some (!(isT (HasTy.ty (thing)) .str))) (orO (Option.bind (Option.bind ((Cast.cast (thing) : Option (Str))) fun v2 => sLen v2) fun v3 => some (decide (v3 < ((1 : Int))))) (orO (Option.bind (Option.bind ((Cast.cast (thing) : Option (Str))) fun v5 => sLen v5) fun v6 => some (decide (((8 : Int)) < v6))) (Option.bind ((Cast.cast (thing) : Option (Str))) fun v8 => some (decide (v8 = (Str.ofString "all")))))))) fun v15 => if v15 then some (Out.ret (false)) else bindOut (Option.bind (Option.map M.signs ((Cast.cast (thing) : Option (Str)))) fun v14 => forO (fun (s11 : Unit) (x12 : Str) => Option.bind (Option.map (!·) (sIn (x12) (Str.ofString "abcdefghijklmnopqrstuvwxyz"))) fun v13 => if v13 then some (Out.ret (false)) else some (Out.next ())) (() : Unit) v14) fun s11 => some (Out.ret (true))
theorem ok_is_name (I : IsDef K mg "is_name" "is_name" s_is_name) (g_isinstance : mg "isinstance" = none) (g_len : mg "len" = none) (g_str : mg "str" = none) :
    Has P w K mg base "is_name" 1 ["thing"] (spF K mg (ac (α := D) a0) (cl : Md (Bool)) fun y => (m_is_name y.1).bind outR) := by
  refine mk_def I sc_is_name rfl (fun _ _ _ _ _ _ us hl => match us, hl with | [_], _ => rfl) (Γ1 := fun _ _ => []) fun f cdv A outer s H E hr y => ?_
  obtain ⟨thing, _⟩ := y
  exact b_eq (b_guard (PW.pt (w_or (t_not (t_val (an (m_isi (t := .str) (by decide) PyProof.Rows.boot_str rfl g_isinstance rfl g_str (an (m_var (pv 0))))))) (w_or (t_cmp c_lt (an (m_len rfl g_len (an (m_castC (α := D) (β := Str) (m_var (pv 0)))))) (an m_int)) (w_or (t_cmp c_gt (an (m_len rfl g_len (an (m_castC (α := D) (β := Str) (m_var (pv 0)))))) (an m_int)) (w_or1 (t_cmp c_eq (an (m_castC (α := D) (β := Str) (m_var (pv 0)))) (an m_str))))))) (b_ret m_bl) (by repeat (first | exact nn_ret | exact nn_retS | exact nn_exc | apply nn_ite | (refine nn_bind fun _ => ?_) | (refine nn_bindO fun _ => ?_))) (b_consB (b_for (S := Unit) (s0 := (() : Unit)) (Γl := (fun (s11 : Unit) => [ro (thing : D), Slot.no])) (passes_of rfl) rfl (i_str (an (m_castC (α := D) (β := Str) (m_var (pv 0))))) (g_name (i := 1) sc_is_name.nd) (fun s11 x12 => (b_guard (t_cmp c_snin (an (m_var (pv 1))) (an m_str)) (b_ret m_bl) (by repeat (first | exact nn_ret | exact nn_retS | exact nn_exc | apply nn_ite | (refine nn_bind fun _ => ?_) | (refine nn_bindO fun _ => ?_))) (b_nil (s := (() : Unit)) (Γ1 := (fun (s11 : Unit) => [ro (thing : D), Slot.no])) (Wk.k (Wk.d Wk.nil))))) (Wk.k (Wk.k Wk.nil)) (fun _ => rfl)) fun s11 => (b_ret m_bl))) (by unfold m_is_name; repeat' (first | with_reducible rfl | (refine q_if ?_ ?_ ?_) | (refine q_pif ?_ ?_ ?_) | (refine q_out ?_ fun _ => ?_) | (with_reducible refine q_bind ?_ fun _ => ?_) | (with_reducible refine q_for fun _ _ => ?_) | (with_reducible refine q_pfor ?_ fun _ _ => ?_) | (with_reducible refine q_fold fun _ _ => ?_) | (with_reducible refine q_pfold ?_ fun _ _ => ?_) | (with_reducible refine q_while (fun _ => ?_) fun _ => ?_) | rfl))
abbrev s__law_cell_at : Stmt := top 4
abbrev N__law_cell_at : List Str := ["script", "k"]
theorem sc__law_cell_at : FnScope N__law_cell_at ["script", "k"] (defScope s__law_cell_at) := ⟨rfl, rfl, rfl, by decide +kernel, rfl, by decide +kernel, by decide +kernel⟩
def m_law_cell_at (script : Scr) (k : Int) : Option (Out (Int) Unit) :=
  if (decide ((k) < ((((Scr.items (script)).length : Nat) : Int)))) then Option.map Out.ret (ixL (Scr.items (script)) (k)) else some (Out.ret ((0 : Int)))
theorem ok__law_cell_at (I : IsDef K mg "_law_cell_at" "_law_cell_at" s__law_cell_at) (g_len : mg "len" = none) :
    Has P w K mg base "_law_cell_at" 1 ["script", "k"] (spF K mg (ac (α := Scr) (ac (α := Int) a0)) (cl : Md (Int)) fun y => (m_law_cell_at y.1 y.2.1).bind outR) := by
  refine mk_def I sc__law_cell_at rfl (fun _ _ _ _ _ _ us hl => match us, hl with | [_, _], _ => rfl) (Γ1 := fun _ _ => []) fun f cdv A outer s H E hr y => ?_
  obtain ⟨script, k, _⟩ := y
  exact b_eq (b_guard (t_cmp c_lt (an (m_var (pv 1))) (an (m_len rfl g_len (an (m_var (pv 0)))))) (b_ret (m_scrix (an (m_var (pv 0))) (an (m_var (pv 1))))) (by repeat (first | exact nn_ret | exact nn_retS | exact nn_exc | apply nn_ite | (refine nn_bind fun _ => ?_) | (refine nn_bindO fun _ => ?_))) (b_ret m_int)) (by unfold m_law_cell_at; repeat' (first | with_reducible rfl | (refine q_if ?_ ?_ ?_) | (refine q_pif ?_ ?_ ?_) | (refine q_out ?_ fun _ => ?_) | (with_reducible refine q_bind ?_ fun _ => ?_) | (with_reducible refine q_for fun _ _ => ?_) | (with_reducible refine q_pfor ?_ fun _ _ => ?_) | (with_reducible refine q_fold fun _ _ => ?_) | (with_reducible refine q_pfold ?_ fun _ _ => ?_) | (with_reducible refine q_while (fun _ => ?_) fun _ => ?_) | rfl))
abbrev s__law_truth : Stmt := top 5
abbrev N__law_truth : List Str := ["found", "due"]
theorem sc__law_truth : FnScope N__law_truth ["found", "due"] (defScope s__law_truth) := ⟨rfl, rfl, rfl, by decide +kernel, rfl, by decide +kernel, by decide +kernel⟩
def m_law_truth (found : Bool) (due : Bool) : Option (Out (Bool) Unit) :=
  Option.map Out.ret ((andO (some (isT (HasTy.ty (found)) .bl)) (some (decide ((found) = (due))))))
theorem ok__law_truth (I : IsDef K mg "_law_truth" "_law_truth" s__law_truth) (g_bool : mg "bool" = none) (g_isinstance : mg "isinstance" = none) :
    Has P w K mg base "_law_truth" 1 ["found", "due"] (spF K mg (ac (α := Bool) (ac (α := Bool) a0)) (cl : Md (Bool)) fun y => (m_law_truth y.1 y.2.1).bind outR) := by
  refine mk_def I sc__law_truth rfl (fun _ _ _ _ _ _ us hl => match us, hl with | [_, _], _ => rfl) (Γ1 := fun _ _ => []) fun f cdv A outer s H E hr y => ?_
  obtain ⟨found, due, _⟩ := y
  exact b_eq (b_ret (ic (m_and (an (m_isi (t := .bl) (by decide) PyProof.Rows.boot_bool rfl g_isinstance rfl g_bool (an (m_var (pv 0))))) (m_one (an (m_cmp c_eq (an (m_var (pv 0))) (an (m_var (pv 1))))))))) (by unfold m_law_truth; repeat' (first | with_reducible rfl | (refine q_if ?_ ?_ ?_) | (refine q_pif ?_ ?_ ?_) | (refine q_out ?_ fun _ => ?_) | (with_reducible refine q_bind ?_ fun _ => ?_) | (with_reducible refine q_for fun _ _ => ?_) | (with_reducible refine q_pfor ?_ fun _ _ => ?_) | (with_reducible refine q_fold fun _ _ => ?_) | (with_reducible refine q_pfold ?_ fun _ _ => ?_) | (with_reducible refine q_while (fun _ => ?_) fun _ => ?_) | rfl))
abbrev s__law_text : Stmt := top 6
abbrev N__law_text : List Str := ["cell", "text", "k", "number"]
theorem sc__law_text : FnScope N__law_text ["cell"] (defScope s__law_text) := ⟨rfl, rfl, rfl, by decide +kernel, rfl, by decide +kernel, by decide +kernel⟩
def m_law_text (cell : Int) : Option (Out (Str) Unit) :=
  Option.bind (some (Str.ofString "")) fun text16 => Option.bind (Option.bind (rangeO 0 (((1 : Int)) + ((cell) % ((8 : Int))))) fun v27 => List.foldlM (fun (s18 : (Str)) (x19 : Int) => Option.bind (Option.bind (Option.bind (Option.bind (Option.bind (pyMul ((48271 : Int)) (x19)) fun v20 => pyMul v20 (x19)) fun v21 => some (((7 : Int)) + v21)) fun v22 => pyMul (((cell) / ((8 : Int))) + ((1 : Int))) v22) fun v23 => some (v23 % ((2147483647 : Int)))) fun number24 => Option.bind (Option.bind (ixS (Str.ofString "abcdefghijklmnopqrstuvwxyz") ((number24) % ((26 : Int)))) fun v25 => sCat (s18) v25) fun text26 => some text26) (text16 : (Str)) v27) fun s18 => some (Out.ret (s18))
theorem ok__law_text (I : IsDef K mg "_law_text" "_law_text" s__law_text) (g_range : mg "range" = none) :
    Has P w K mg base "_law_text" 1 ["cell"] (spF K mg (ac (α := Int) a0) (cl : Md (Str)) fun y => (m_law_text y.1).bind outR) := by
  refine mk_def I sc__law_text rfl (fun _ _ _ _ _ _ us hl => match us, hl with | [_], _ => rfl) (Γ1 := fun _ _ => []) fun f cdv A outer s H E hr y => ?_
  obtain ⟨cell, _⟩ := y
  exact b_eq (b_cons (n_set (i := 1) sc__law_text.nd m_str) fun text16 => (b_cons (S := (Str)) (n_for (S := (Str)) (s0 := (text16 : (Str))) (Γl := (fun (s18 : (Str)) => [ro (cell : Int), ro (s18 : Str), Slot.no, Slot.no])) (passes_of rfl) rfl (i_range1 rfl g_range (an (m_add (an m_int) (an (m_modC (an (m_var (pv 0))) (an m_int)))))) (g_name (i := 2) sc__law_text.nd) (fun s18 x19 => (n_cons (n_set (i := 3) sc__law_text.nd (m_modC (an (m_mul (an (m_add (an (m_divC (an (m_var (pv 0))) (an m_int))) (an m_int))) (an (m_add (an m_int) (an (m_mul (an (m_mul (an m_int) (an (m_var (pv 2))))) (an (m_var (pv 2))))))))) (an m_int))) fun number24 => (n_cons (n_set (i := 1) sc__law_text.nd (m_scat (an (m_var (pv 1))) (an (m_six (an m_str) (an (m_modC (an (m_var (pv 3))) (an m_int))))))) fun text26 => (n_nil (s := (text26 : (Str))) (Γ1 := (fun (s18 : (Str)) => [ro (cell : Int), ro (s18 : Str), Slot.no, Slot.no])) (Wk.k (Wk.k (Wk.d (Wk.d Wk.nil)))))))) (Wk.k (Wk.k (Wk.k (Wk.k Wk.nil)))) (fun _ => rfl)) fun s18 => (b_ret (m_var (pv 1))))) (by unfold m_law_text; repeat' (first | with_reducible rfl | (refine q_if ?_ ?_ ?_) | (refine q_pif ?_ ?_ ?_) | (refine q_out ?_ fun _ => ?_) | (with_reducible refine q_bind ?_ fun _ => ?_) | (with_reducible refine q_for fun _ _ => ?_) | (with_reducible refine q_pfor ?_ fun _ _ => ?_) | (with_reducible refine q_fold fun _ _ => ?_) | (with_reducible refine q_pfold ?_ fun _ _ => ?_) | (with_reducible refine q_while (fun _ => ?_) fun _ => ?_) | rfl))
abbrev s__law_spoilt : Stmt := top 7
abbrev N__law_spoilt : List Str := ["text", "cell", "at", "sign"]
theorem sc__law_spoilt : FnScope N__law_spoilt ["text", "cell"] (defScope s__law_spoilt) := ⟨rfl, rfl, rfl, by decide +kernel, rfl, by decide +kernel, by decide +kernel⟩
def m_law_spoilt (text : Str) (cell : Int) : Option (Out (Str) Unit) :=
  Option.bind (Option.bind (Option.bind (sLen (text)) fun v28 => some (v28 + ((1 : Int)))) fun v29 => pyMod ((cell) / ((7 : Int))) v29) fun at30 => Option.bind (ixL ((Str.ofString "A") :: ((Str.ofString "1") :: ((Str.ofString " ") :: ((Str.ofString "\n") :: ((Str.ofString "-") :: ((Str.ofString "_") :: ((Str.ofString "Z") :: (([] : List (Str)))))))))) ((cell) % ((7 : Int)))) fun sign31 => if (decide ((((cell) / ((56 : Int))) % ((2 : Int))) = ((0 : Int)))) then Option.map Out.ret (Option.bind (Option.bind (sCut (text) (none) (some (at30))) fun v32 => sCat v32 (sign31)) fun v33 => Option.bind (sCut (text) (some ((at30) + ((1 : Int)))) (none)) fun v34 => sCat v33 v34) else Option.map Out.ret (Option.bind (Option.bind (sCut (text) (none) (some (at30))) fun v35 => sCat v35 (sign31)) fun v36 => Option.bind (sCut (text) (some (at30)) (none)) fun v37 => sCat v36 v37)
theorem ok__law_spoilt (I : IsDef K mg "_law_spoilt" "_law_spoilt" s__law_spoilt) (g_len : mg "len" = none) :
    Has P w K mg base "_law_spoilt" 1 ["text", "cell"] (spF K mg (ac (α := Str) (ac (α := Int) a0)) (cl : Md (Str)) fun y => (m_law_spoilt y.1 y.2.1).bind outR) := by
  refine mk_def I sc__law_spoilt rfl (fun _ _ _ _ _ _ us hl => match us, hl with | [_, _], _ => rfl) (Γ1 := fun _ _ => []) fun f cdv A outer s H E hr y => ?_
  obtain ⟨text, cell, _⟩ := y
  exact b_eq (b_cons (n_set (i := 2) sc__law_spoilt.nd (m_mod (an (m_divC (an (m_var (pv 1))) (an m_int))) (an (m_add (an (m_len rfl g_len (an (m_var (pv 0))))) (an m_int))))) fun at30 => (b_cons (n_set (i := 3) sc__law_spoilt.nd (ic (m_lix (fa (m_list (l_cons m_str (l_cons m_str (l_cons m_str (l_cons m_str (l_cons m_str (l_cons m_str (l_cons m_str l_nil))))))) (len_le (len_cons (len_cons (len_cons (len_cons (len_cons (len_cons (len_cons len_nil))))))) (by decide)))) (an (m_modC (an (m_var (pv 1))) (an m_int)))))) fun sign31 => (b_guard (t_cmp c_eq (an (m_modC (an (m_divC (an (m_var (pv 1))) (an m_int))) (an m_int))) (an m_int)) (b_ret (m_scat (an (m_scat (an (m_scut (an (m_var (pv 0))) mo_none (mo_some (an (m_var (pv 2)))))) (an (m_var (pv 3))))) (an (m_scut (an (m_var (pv 0))) (mo_some (an (m_add (an (m_var (pv 2))) (an m_int)))) mo_none)))) (by repeat (first | exact nn_ret | exact nn_retS | exact nn_exc | apply nn_ite | (refine nn_bind fun _ => ?_) | (refine nn_bindO fun _ => ?_))) (b_ret (m_scat (an (m_scat (an (m_scut (an (m_var (pv 0))) mo_none (mo_some (an (m_var (pv 2)))))) (an (m_var (pv 3))))) (an (m_scut (an (m_var (pv 0))) (mo_some (an (m_var (pv 2)))) mo_none))))))) (by unfold m_law_spoilt; repeat' (first | with_reducible rfl | (refine q_if ?_ ?_ ?_) | (refine q_pif ?_ ?_ ?_) | (refine q_out ?_ fun _ => ?_) | (with_reducible refine q_bind ?_ fun _ => ?_) | (with_reducible refine q_for fun _ _ => ?_) | (with_reducible refine q_pfor ?_ fun _ _ => ?_) | (with_reducible refine q_fold fun _ _ => ?_) | (with_reducible refine q_pfold ?_ fun _ _ => ?_) | (with_reducible refine q_while (fun _ => ?_) fun _ => ?_) | rfl))
abbrev s__law_names_told : Stmt := top 8
abbrev N__law_names_told : List Str := ["cell", "text", "name", "near", "due"]
theorem sc__law_names_told : FnScope N__law_names_told ["cell"] (defScope s__law_names_told) := ⟨rfl, rfl, rfl, by decide +kernel, rfl, by decide +kernel, by decide +kernel⟩
def m_law_names_told (cell : Int) : Option (Out (Bool) Unit) :=
  Option.bind (callV (m_law_text (cell))) fun text38 => Option.bind (Option.map (!·) (Option.bind (Option.bind (callV (m_is_name (ToD.d (text38)))) fun v39 => some ((v39, (((!decide ((text38) = (Str.ofString "all"))), (())))))) fun p40 => callV (m_law_truth p40.1 p40.2.1))) fun v61 => if v61 then some (Out.ret (false)) else bindOut (Option.bind (Option.bind (callV (m_law_spoilt (text38) ((cell) / ((3 : Int))))) fun v45 => Option.bind (Option.bind (Option.bind (Option.bind (Option.bind (sLen (text38)) fun v41 => some (((9 : Int)) - v41)) fun v42 => sRep (Str.ofString "b") v42) fun v43 => sCat (text38) v43) fun v44 => some (v44 :: (([] : List (Str))))) fun v46 => some (v45 :: v46)) fun v53 => forO (fun (s48 : Unit) (x49 : Str) => Option.bind (Option.map (!·) (Option.bind (Option.bind (callV (m_is_name (ToD.d (x49)))) fun v50 => some ((v50, (((false), (())))))) fun p51 => callV (m_law_truth p51.1 p51.2.1))) fun v52 => if v52 then some (Out.ret (false)) else some (Out.next ())) (() : Unit) v53) fun s48 => Option.bind (some ((((Str.ofString "al"), (true))) :: ((((Str.ofString "alls"), (true))) :: ((((Str.ofString "ball"), (true))) :: ((((Str.ofString "all"), (false))) :: ((((Str.ofString ""), (false))) :: ((((Str.ofString "All"), (false))) :: ((((Str.ofString "ll"), (true))) :: (([] : List (((Str) × (Bool))))))))))))) fun near54 => bindOut (forO (fun (s56 : Unit) (x57 : ((Str) × (Bool))) => Option.bind (Option.map (!·) (Option.bind (Option.bind (callV (m_is_name (ToD.d (x57.1)))) fun v58 => some ((v58, (((x57.2), (())))))) fun p59 => callV (m_law_truth p59.1 p59.2.1))) fun v60 => if v60 then some (Out.ret (false)) else some (Out.next ())) (() : Unit) (near54)) fun s56 => some (Out.ret (true))
theorem ok__law_names_told (I : IsDef K mg "_law_names_told" "_law_names_told" s__law_names_told) (g_len : mg "len" = none) (h__law_spoilt : Has P w K mg base "_law_spoilt" 1 ["text", "cell"] (spF K mg (ac (α := Str) (ac (α := Int) a0)) (cl : Md (Str)) fun y => (m_law_spoilt y.1 y.2.1).bind outR)) (h__law_text : Has P w K mg base "_law_text" 1 ["cell"] (spF K mg (ac (α := Int) a0) (cl : Md (Str)) fun y => (m_law_text y.1).bind outR)) (h__law_truth : Has P w K mg base "_law_truth" 1 ["found", "due"] (spF K mg (ac (α := Bool) (ac (α := Bool) a0)) (cl : Md (Bool)) fun y => (m_law_truth y.1 y.2.1).bind outR)) (h_is_name : Has P w K mg base "is_name" 1 ["thing"] (spF K mg (ac (α := D) a0) (cl : Md (Bool)) fun y => (m_is_name y.1).bind outR)) :
    Has P w K mg base "_law_names_told" 2 ["cell"] (spF K mg (ac (α := Int) a0) (cl : Md (Bool)) fun y => (m_law_names_told y.1).bind outR) := by
  refine mk_def I sc__law_names_told rfl (fun _ _ _ _ _ _ us hl => match us, hl with | [_], _ => rfl) (Γ1 := fun _ _ => []) fun f cdv A outer s H E hr y => ?_
  obtain ⟨cell, _⟩ := y
  exact b_eq (b_cons (n_set (i := 1) sc__law_names_told.nd (m_call h__law_text (hr.mono (by decide)) rfl (ma_cons (m_var (pv 0)) ma_nil))) fun text38 => (b_guard (t_not (t_val (an (m_call h__law_truth (hr.mono (by decide)) rfl (ma_cons (m_call h_is_name (hr.mono (by decide)) rfl (ma_cons (m_toDC (α := Str) (m_var (pv 1))) ma_nil)) (ma_cons (m_cmp c_ne (an (m_var (pv 1))) (an m_str)) ma_nil)))))) (b_ret m_bl) (by repeat (first | exact nn_ret | exact nn_retS | exact nn_exc | apply nn_ite | (refine nn_bind fun _ => ?_) | (refine nn_bindO fun _ => ?_))) (b_consB (b_for (S := Unit) (s0 := (() : Unit)) (Γl := (fun (s48 : Unit) => [ro (cell : Int), ro (text38 : Str), Slot.no, Slot.no, Slot.no])) (passes_of rfl) rfl (i_list (fc (m_list (l_cons (m_call h__law_spoilt (hr.mono (by decide)) rfl (ma_cons (m_var (pv 1)) (ma_cons (m_divC (an (m_var (pv 0))) (an m_int)) ma_nil))) (l_cons (m_scat (an (m_var (pv 1))) (an (m_srep (an m_str) (an (m_sub (an m_int) (an (m_len rfl g_len (an (m_var (pv 1)))))))))) l_nil)) (len_le (len_cons (len_cons len_nil)) (by decide))))) (g_name (i := 2) sc__law_names_told.nd) (fun s48 x49 => (b_guard (t_not (t_val (an (m_call h__law_truth (hr.mono (by decide)) rfl (ma_cons (m_call h_is_name (hr.mono (by decide)) rfl (ma_cons (m_toDC (α := Str) (m_var (pv 2))) ma_nil)) (ma_cons m_bl ma_nil)))))) (b_ret m_bl) (by repeat (first | exact nn_ret | exact nn_retS | exact nn_exc | apply nn_ite | (refine nn_bind fun _ => ?_) | (refine nn_bindO fun _ => ?_))) (b_nil (s := (() : Unit)) (Γ1 := (fun (s48 : Unit) => [ro (cell : Int), ro (text38 : Str), Slot.no, Slot.no, Slot.no])) (Wk.k (Wk.k (Wk.d (Wk.k (Wk.k Wk.nil)))))))) (Wk.k (Wk.k (Wk.k (Wk.k (Wk.k Wk.nil))))) (fun _ => rfl)) fun s48 => (b_cons (n_new (i := 3) sc__law_names_told.nd (m_list (l_cons (m_pair m_str m_bl) (l_cons (m_pair m_str m_bl) (l_cons (m_pair m_str m_bl) (l_cons (m_pair m_str m_bl) (l_cons (m_pair m_str m_bl) (l_cons (m_pair m_str m_bl) (l_cons (m_pair m_str m_bl) l_nil))))))) (len_le (len_cons (len_cons (len_cons (len_cons (len_cons (len_cons (len_cons len_nil))))))) (by decide)))) fun near54 => (b_wk (Wk.k (Wk.k (Wk.k (Wk.f (Wk.k Wk.nil))))) (b_consB (b_for (S := Unit) (s0 := (() : Unit)) (Γl := (fun (s56 : Unit) => [ro (cell : Int), ro (text38 : Str), Slot.no, ro (near54 : List (((Str) × (Bool)))), Slot.no])) (passes_of rfl) rfl (i_list (m_var (pv 3))) (g_pair rfl (g_name (i := 2) sc__law_names_told.nd) (g_name (i := 4) sc__law_names_told.nd) (fun _ _ => List.length_set)) (fun s56 x57 => (b_guard (t_not (t_val (an (m_call h__law_truth (hr.mono (by decide)) rfl (ma_cons (m_call h_is_name (hr.mono (by decide)) rfl (ma_cons (m_toDC (α := Str) (m_var (pv 2))) ma_nil)) (ma_cons (m_var (pv 4)) ma_nil)))))) (b_ret m_bl) (by repeat (first | exact nn_ret | exact nn_retS | exact nn_exc | apply nn_ite | (refine nn_bind fun _ => ?_) | (refine nn_bindO fun _ => ?_))) (b_nil (s := (() : Unit)) (Γ1 := (fun (s56 : Unit) => [ro (cell : Int), ro (text38 : Str), Slot.no, ro (near54 : List (((Str) × (Bool)))), Slot.no])) (Wk.k (Wk.k (Wk.d (Wk.k (Wk.d Wk.nil)))))))) (Wk.k (Wk.k (Wk.k (Wk.k (Wk.k Wk.nil))))) (fun _ => rfl)) fun s56 => (b_ret m_bl))))))) (by unfold m_law_names_told; repeat' (first | with_reducible rfl | (refine q_if ?_ ?_ ?_) | (refine q_pif ?_ ?_ ?_) | (refine q_out ?_ fun _ => ?_) | (with_reducible refine q_bind ?_ fun _ => ?_) | (with_reducible refine q_for fun _ _ => ?_) | (with_reducible refine q_pfor ?_ fun _ _ => ?_) | (with_reducible refine q_fold fun _ _ => ?_) | (with_reducible refine q_pfold ?_ fun _ _ => ?_) | (with_reducible refine q_while (fun _ => ?_) fun _ => ?_) | rfl))
abbrev s__law_things_told : Stmt := top 9
abbrev N__law_things_told : List Str := ["cell", "far", "thing", "text"]
theorem sc__law_things_told : FnScope N__law_things_told ["cell"] (defScope s__law_things_told) := ⟨rfl, rfl, rfl, by decide +kernel, rfl, by decide +kernel, by decide +kernel⟩
def m_law_things_told (cell : Int) : Option (Out (Bool) Unit) :=
  Option.bind (some ((cell) % ((10 : Int) ^ (30 : Nat)))) fun far62 => bindOut (forO (fun (s64 : Unit) (x65 : Int) => Option.bind ((orO (Option.map (!·) (Option.bind (Option.bind (callV (m_is_whole (ToD.d (x65)))) fun v66 => some ((v66, (((true), (())))))) fun p67 => callV (m_law_truth p67.1 p67.2.1))) (Option.map (!·) (Option.bind (Option.bind (callV (m_is_name (ToD.d (x65)))) fun v68 => some ((v68, (((false), (())))))) fun p69 => callV (m_law_truth p69.1 p69.2.1))))) fun v70 => if v70 then some (Out.ret (false)) else some (Out.next ())) (() : Unit) ((far62) :: ((((0 : Int)) - (far62)) :: (((0 : Int)) :: (((1 : Int)) :: ((-((1 : Int))) :: (([] : List (Int))))))))) fun s64 => bindOut (forO (fun (s72 : Unit) (x73 : D) => Option.bind ((orO (Option.map (!·) (Option.bind (Option.bind (callV (m_is_whole (x73))) fun v74 => some ((v74, (((false), (())))))) fun p75 => callV (m_law_truth p75.1 p75.2.1))) (Option.map (!·) (Option.bind (Option.bind (callV (m_is_name (x73))) fun v76 => some ((v76, (((false), (())))))) fun p77 => callV (m_law_truth p77.1 p77.2.1))))) fun v78 => if v78 then some (Out.ret (false)) else some (Out.next ())) (() : Unit) ((ToD.d (true)) :: ((ToD.d (false)) :: ((ToD.d (())) :: (([] : List (D))))))) fun s72 => Option.bind (callV (m_law_text (cell))) fun text79 => bindOut (forO (fun (s81 : Unit) (x82 : D) => Option.bind (Option.map (!·) (Option.bind (Option.bind (callV (m_is_whole (x82))) fun v83 => some ((v83, (((false), (())))))) fun p84 => callV (m_law_truth p84.1 p84.2.1))) fun v85 => if v85 then some (Out.ret (false)) else some (Out.next ())) (() : Unit) ((ToD.d (text79)) :: ((ToD.d ((ToD.d (far62)) :: (([] : List (D))))) :: ((ToD.d (Tup.mk ((ToD.d (far62)) :: (([] : List (D)))))) :: ((D.dct [(Sum.inl (far62), (ToD.d (far62)))]) :: ((ToD.d ((ToD.d (text79)) :: (([] : List (D))))) :: ((ToD.d (Tup.mk ((ToD.d (text79)) :: (([] : List (D)))))) :: ((ToD.d (Str.ofString "")) :: (([] : List (D))))))))))) fun s81 => bindOut (forO (fun (s87 : Unit) (x88 : D) => Option.bind (Option.map (!·) (Option.bind (Option.bind (callV (m_is_name (x88))) fun v89 => some ((v89, (((false), (())))))) fun p90 => callV (m_law_truth p90.1 p90.2.1))) fun v91 => if v91 then some (Out.ret (false)) else some (Out.next ())) (() : Unit) ((ToD.d ((ToD.d (text79)) :: (([] : List (D))))) :: ((ToD.d (Tup.mk ((ToD.d (text79)) :: (([] : List (D)))))) :: ((D.dct [(Sum.inr (text79), (ToD.d (text79)))]) :: ((ToD.d (([] : List (D)))) :: ((ToD.d (Tup.mk (([] : List (D))))) :: ((D.dct []) :: (([] : List (D)))))))))) fun s87 => some (Out.ret (true))
theorem ok__law_things_told (I : IsDef K mg "_law_things_told" "_law_things_told" s__law_things_told) (h__law_text : Has P w K mg base "_law_text" 1 ["cell"] (spF K mg (ac (α := Int) a0) (cl : Md (Str)) fun y => (m_law_text y.1).bind outR)) (h__law_truth : Has P w K mg base "_law_truth" 1 ["found", "due"] (spF K mg (ac (α := Bool) (ac (α := Bool) a0)) (cl : Md (Bool)) fun y => (m_law_truth y.1 y.2.1).bind outR)) (h_is_name : Has P w K mg base "is_name" 1 ["thing"] (spF K mg (ac (α := D) a0) (cl : Md (Bool)) fun y => (m_is_name y.1).bind outR)) (h_is_whole : Has P w K mg base "is_whole" 1 ["thing"] (spF K mg (ac (α := D) a0) (cl : Md (Bool)) fun y => (m_is_whole y.1).bind outR)) :
    Has P w K mg base "_law_things_told" 2 ["cell"] (spF K mg (ac (α := Int) a0) (cl : Md (Bool)) fun y => (m_law_things_told y.1).bind outR) := by
  refine mk_def I sc__law_things_told rfl (fun _ _ _ _ _ _ us hl => match us, hl with | [_], _ => rfl) (Γ1 := fun _ _ => []) fun f cdv A outer s H E hr y => ?_
  obtain ⟨cell, _⟩ := y
  exact b_eq (b_cons (n_set (i := 1) sc__law_things_told.nd (m_modC (an (m_var (pv 0))) (an (m_powC 30 (an m_int) (an m_int))))) fun far62 => (b_consB (b_for (S := Unit) (s0 := (() : Unit)) (Γl := (fun (s64 : Unit) => [ro (cell : Int), ro (far62 : Int), Slot.no, Slot.no])) (passes_of rfl) rfl (i_list (fc (m_list (l_cons (m_var (pv 1)) (l_cons (m_sub (an m_int) (an (m_var (pv 1)))) (l_cons m_int (l_cons m_int (l_cons (m_neg (an m_int)) l_nil))))) (len_le (len_cons (len_cons (len_cons (len_cons (len_cons len_nil))))) (by decide))))) (g_name (i := 2) sc__law_things_told.nd) (fun s64 x65 => (b_guard (PW.pt (w_or (t_not (t_val (an (m_call h__law_truth (hr.mono (by decide)) rfl (ma_cons (m_call h_is_whole (hr.mono (by decide)) rfl (ma_cons (m_toDC (α := Int) (m_var (pv 2))) ma_nil)) (ma_cons m_bl ma_nil)))))) (w_or1 (t_not (t_val (an (m_call h__law_truth (hr.mono (by decide)) rfl (ma_cons (m_call h_is_name (hr.mono (by decide)) rfl (ma_cons (m_toDC (α := Int) (m_var (pv 2))) ma_nil)) (ma_cons m_bl ma_nil))))))))) (b_ret m_bl) (by repeat (first | exact nn_ret | exact nn_retS | exact nn_exc | apply nn_ite | (refine nn_bind fun _ => ?_) | (refine nn_bindO fun _ => ?_))) (b_nil (s := (() : Unit)) (Γ1 := (fun (s64 : Unit) => [ro (cell : Int), ro (far62 : Int), Slot.no, Slot.no])) (Wk.k (Wk.k (Wk.d (Wk.k Wk.nil))))))) (Wk.k (Wk.k (Wk.k (Wk.k Wk.nil)))) (fun _ => rfl)) fun s64 => (b_consB (b_for (S := Unit) (s0 := (() : Unit)) (Γl := (fun (s72 : Unit) => [ro (cell : Int), ro (far62 : Int), Slot.no, Slot.no])) (passes_of rfl) rfl (i_list (fc (m_list (l_cons (m_toDC (α := Bool) m_bl) (l_cons (m_toDC (α := Bool) m_bl) (l_cons (m_toDC (α := Unit) m_non) l_nil))) (len_le (len_cons (len_cons (len_cons len_nil))) (by decide))))) (g_name (i := 2) sc__law_things_told.nd) (fun s72 x73 => (b_guard (PW.pt (w_or (t_not (t_val (an (m_call h__law_truth (hr.mono (by decide)) rfl (ma_cons (m_call h_is_whole (hr.mono (by decide)) rfl (ma_cons (m_var (pv 2)) ma_nil)) (ma_cons m_bl ma_nil)))))) (w_or1 (t_not (t_val (an (m_call h__law_truth (hr.mono (by decide)) rfl (ma_cons (m_call h_is_name (hr.mono (by decide)) rfl (ma_cons (m_var (pv 2)) ma_nil)) (ma_cons m_bl ma_nil))))))))) (b_ret m_bl) (by repeat (first | exact nn_ret | exact nn_retS | exact nn_exc | apply nn_ite | (refine nn_bind fun _ => ?_) | (refine nn_bindO fun _ => ?_))) (b_nil (s := (() : Unit)) (Γ1 := (fun (s72 : Unit) => [ro (cell : Int), ro (far62 : Int), Slot.no, Slot.no])) (Wk.k (Wk.k (Wk.d (Wk.k Wk.nil))))))) (Wk.k (Wk.k (Wk.k (Wk.k Wk.nil)))) (fun _ => rfl)) fun s72 => (b_cons (n_set (i := 3) sc__law_things_told.nd (m_call h__law_text (hr.mono (by decide)) rfl (ma_cons (m_var (pv 0)) ma_nil))) fun text79 => (b_consB (b_for (S := Unit) (s0 := (() : Unit)) (Γl := (fun (s81 : Unit) => [ro (cell : Int), ro (far62 : Int), Slot.no, ro (text79 : Str)])) (passes_of rfl) rfl (i_list (fc (m_list (l_cons (m_toDC (α := Str) (m_var (pv 3))) (l_cons (m_toDC (α := List (D)) (fc (m_list (l_cons (m_toDC (α := Int) (m_var (pv 1))) l_nil) (len_le (len_cons len_nil) (by decide))))) (l_cons (m_toDC (α := Tup (D)) (m_tup (l_cons (m_toDC (α := Int) (m_var (pv 1))) l_nil) (len_le (len_cons len_nil) (by decide)))) (l_cons (m_dct1 (kf := Sum.inl) (fun h => h) (an (m_var (pv 1))) (m_toDC (α := Int) (m_var (pv 1)))) (l_cons (m_toDC (α := List (D)) (fc (m_list (l_cons (m_toDC (α := Str) (m_var (pv 3))) l_nil) (len_le (len_cons len_nil) (by decide))))) (l_cons (m_toDC (α := Tup (D)) (m_tup (l_cons (m_toDC (α := Str) (m_var (pv 3))) l_nil) (len_le (len_cons len_nil) (by decide)))) (l_cons (m_toDC (α := Str) m_str) l_nil))))))) (len_le (len_cons (len_cons (len_cons (len_cons (len_cons (len_cons (len_cons len_nil))))))) (by decide))))) (g_name (i := 2) sc__law_things_told.nd) (fun s81 x82 => (b_guard (t_not (t_val (an (m_call h__law_truth (hr.mono (by decide)) rfl (ma_cons (m_call h_is_whole (hr.mono (by decide)) rfl (ma_cons (m_var (pv 2)) ma_nil)) (ma_cons m_bl ma_nil)))))) (b_ret m_bl) (by repeat (first | exact nn_ret | exact nn_retS | exact nn_exc | apply nn_ite | (refine nn_bind fun _ => ?_) | (refine nn_bindO fun _ => ?_))) (b_nil (s := (() : Unit)) (Γ1 := (fun (s81 : Unit) => [ro (cell : Int), ro (far62 : Int), Slot.no, ro (text79 : Str)])) (Wk.k (Wk.k (Wk.d (Wk.k Wk.nil))))))) (Wk.k (Wk.k (Wk.k (Wk.k Wk.nil)))) (fun _ => rfl)) fun s81 => (b_consB (b_for (S := Unit) (s0 := (() : Unit)) (Γl := (fun (s87 : Unit) => [ro (cell : Int), ro (far62 : Int), Slot.no, ro (text79 : Str)])) (passes_of rfl) rfl (i_list (fc (m_list (l_cons (m_toDC (α := List (D)) (fc (m_list (l_cons (m_toDC (α := Str) (m_var (pv 3))) l_nil) (len_le (len_cons len_nil) (by decide))))) (l_cons (m_toDC (α := Tup (D)) (m_tup (l_cons (m_toDC (α := Str) (m_var (pv 3))) l_nil) (len_le (len_cons len_nil) (by decide)))) (l_cons (m_dct1 (kf := Sum.inr) (fun h => h) (an (m_var (pv 3))) (m_toDC (α := Str) (m_var (pv 3)))) (l_cons (m_toDC (α := List (D)) (fc (m_list (α := D) l_nil (fun _ h => by cases h; exact Nat.zero_le _)))) (l_cons (m_toDC (α := Tup (D)) (m_tup (l_nil (α := D)) (len_le len_nil (by decide)))) (l_cons m_dct0 l_nil)))))) (len_le (len_cons (len_cons (len_cons (len_cons (len_cons (len_cons len_nil)))))) (by decide))))) (g_name (i := 2) sc__law_things_told.nd) (fun s87 x88 => (b_guard (t_not (t_val (an (m_call h__law_truth (hr.mono (by decide)) rfl (ma_cons (m_call h_is_name (hr.mono (by decide)) rfl (ma_cons (m_var (pv 2)) ma_nil)) (ma_cons m_bl ma_nil)))))) (b_ret m_bl) (by repeat (first | exact nn_ret | exact nn_retS | exact nn_exc | apply nn_ite | (refine nn_bind fun _ => ?_) | (refine nn_bindO fun _ => ?_))) (b_nil (s := (() : Unit)) (Γ1 := (fun (s87 : Unit) => [ro (cell : Int), ro (far62 : Int), Slot.no, ro (text79 : Str)])) (Wk.k (Wk.k (Wk.d (Wk.k Wk.nil))))))) (Wk.k (Wk.k (Wk.k (Wk.k Wk.nil)))) (fun _ => rfl)) fun s87 => (b_ret m_bl))))))) (by unfold m_law_things_told; repeat' (first | with_reducible rfl | (refine q_if ?_ ?_ ?_) | (refine q_pif ?_ ?_ ?_) | (refine q_out ?_ fun _ => ?_) | (with_reducible refine q_bind ?_ fun _ => ?_) | (with_reducible refine q_for fun _ _ => ?_) | (with_reducible refine q_pfor ?_ fun _ _ => ?_) | (with_reducible refine q_fold fun _ _ => ?_) | (with_reducible refine q_pfold ?_ fun _ _ => ?_) | (with_reducible refine q_while (fun _ => ?_) fun _ => ?_) | rfl))
abbrev s_law : Stmt := top 10
abbrev N_law : List Str := ["script", "cell"]
theorem sc_law : FnScope N_law ["script"] (defScope s_law) := ⟨rfl, rfl, rfl, by decide +kernel, rfl, by decide +kernel, by decide +kernel⟩
def m_law (script : Scr) : Option (Out (Bool) Unit) :=
  bindOut (Option.bind (Option.bind (Option.bind (callV (m_law_cell_at (script) ((0 : Int)))) fun v92 => some (v92 :: (([] : List (Int))))) fun v93 => lCat v93 (cutL (Scr.items (script)) (some ((1 : Int))) (some ((60 : Int))))) fun v98 => forO (fun (s95 : Unit) (x96 : Int) => Option.bind ((orO (Option.map (!·) (callV (m_law_names_told (x96)))) (Option.map (!·) (callV (m_law_things_told (x96)))))) fun v97 => if v97 then some (Out.ret (false)) else some (Out.next ())) (() : Unit) v98) fun s95 => some (Out.ret (true))
theorem ok_law (I : IsDef K mg "law" "law" s_law) (h__law_cell_at : Has P w K mg base "_law_cell_at" 1 ["script", "k"] (spF K mg (ac (α := Scr) (ac (α := Int) a0)) (cl : Md (Int)) fun y => (m_law_cell_at y.1 y.2.1).bind outR)) (h__law_names_told : Has P w K mg base "_law_names_told" 2 ["cell"] (spF K mg (ac (α := Int) a0) (cl : Md (Bool)) fun y => (m_law_names_told y.1).bind outR)) (h__law_things_told : Has P w K mg base "_law_things_told" 2 ["cell"] (spF K mg (ac (α := Int) a0) (cl : Md (Bool)) fun y => (m_law_things_told y.1).bind outR)) :
    Has P w K mg base "law" 3 ["script"] (spF K mg (ac (α := Scr) a0) (cl : Md (Bool)) fun y => (m_law y.1).bind outR) := by
  refine mk_def I sc_law rfl (fun _ _ _ _ _ _ us hl => match us, hl with | [_], _ => rfl) (Γ1 := fun _ _ => []) fun f cdv A outer s H E hr y => ?_
  obtain ⟨script, _⟩ := y
  exact b_eq (b_consB (b_for (S := Unit) (s0 := (() : Unit)) (Γl := (fun (s95 : Unit) => [ro (script : Scr), Slot.no])) (passes_of rfl) rfl (i_list (fc (m_lcat (fa (m_list (l_cons (m_call h__law_cell_at (hr.mono (by decide)) rfl (ma_cons (m_var (pv 0)) (ma_cons m_int ma_nil))) l_nil) (len_le (len_cons len_nil) (by decide)))) (fa (m_scrcut (an (m_var (pv 0))) (mo_some (an m_int)) (mo_some (an m_int))))))) (g_name (i := 1) sc_law.nd) (fun s95 x96 => (b_guard (PW.pt (w_or (t_not (t_val (an (m_call h__law_names_told (hr.mono (by decide)) rfl (ma_cons (m_var (pv 1)) ma_nil))))) (w_or1 (t_not (t_val (an (m_call h__law_things_told (hr.mono (by decide)) rfl (ma_cons (m_var (pv 1)) ma_nil)))))))) (b_ret m_bl) (by repeat (first | exact nn_ret | exact nn_retS | exact nn_exc | apply nn_ite | (refine nn_bind fun _ => ?_) | (refine nn_bindO fun _ => ?_))) (b_nil (s := (() : Unit)) (Γ1 := (fun (s95 : Unit) => [ro (script : Scr), Slot.no])) (Wk.k (Wk.d Wk.nil))))) (Wk.k (Wk.k Wk.nil)) (fun _ => rfl)) fun s95 => (b_ret m_bl)) (by unfold m_law; repeat' (first | with_reducible rfl | (refine q_if ?_ ?_ ?_) | (refine q_pif ?_ ?_ ?_) | (refine q_out ?_ fun _ => ?_) | (with_reducible refine q_bind ?_ fun _ => ?_) | (with_reducible refine q_for fun _ _ => ?_) | (with_reducible refine q_pfor ?_ fun _ _ => ?_) | (with_reducible refine q_fold fun _ _ => ?_) | (with_reducible refine q_pfold ?_ fun _ _ => ?_) | (with_reducible refine q_while (fun _ => ?_) fun _ => ?_) | rfl))
end
end K01

set_option Elab.async false
set_option linter.all false
set_option maxRecDepth 100000
namespace K01
open PySem M
theorem is_name_str (l : List Nat) (h : l.length ≤ 1000000) : m_is_name (.str (T l)) = some (.ret (nameB l)) := by
  unfold m_is_name
  rw [show (Cast.cast (D.str (T l)) : Option Str) = some (T l) from rfl, show isT (HasTy.ty (D.str (T l))) .str = true from rfl]
  simp only [Option.bind_some, Option.map_some, sLen_T h, signs_T]
  rw [forO_ask (p := fun x => match x.cps.toList with | [c] => isLow c | _ => false) (r := false)]
  · unfold nameB orO
    by_cases h1 : l.length < 1
    · have q : (l.length : Int) < 1 := by omega
      simp [h1, q, show ¬ 1 ≤ l.length from by omega]
    by_cases h2 : 8 < l.length
    · have q : (8 : Int) < l.length := by omega
      simp [h1, h2, q, show ¬ l.length ≤ 8 from by omega]
    by_cases h3 : T l = Str.ofString "all"
    · simp [h1, h2, h3]
    have e : (List.map (fun c => T [c]) l).all (fun x => match x.cps.toList with | [c] => isLow c | _ => false) = l.all isLow := by
      rw [List.all_map]; try rfl
    rw [e]
    simp only [Option.bind_some, Bool.not_true, Bool.false_eq_true, if_false, h3, decide_false, Bool.not_false, Bool.and_true]
    rw [decide_eq_false (p := (l.length : Int) < 1) (by omega), decide_eq_false (p := 8 < (l.length : Int)) (by omega), decide_eq_true (p := 1 ≤ l.length) (by omega), decide_eq_true (p := l.length ≤ 8) (by omega)]
    cases l.all isLow <;> rfl
  · intro x hx
    obtain ⟨c, _, rfl⟩ := List.mem_map.mp hx
    rw [sIn_low]
    cases q : isLow c <;> simp [q]
theorem is_name_not {x : D} (h : isT (HasTy.ty x) .str = false) : m_is_name x = some (.ret false) := by
  unfold m_is_name
  rw [h]; rfl
theorem truth_ok (a b : Bool) : m_law_truth a b = some (.ret (decide (a = b))) := by cases a <;> cases b <;> rfl
theorem text_ok {z : Int} (hz : Sz 1048576 z) : ∃ cs : List Nat, cs.length = (1 + z % 8).toNat ∧ cs.all isLow = true ∧ m_law_text z = some (.ret (T cs)) := by
  have hm : 0 ≤ z % 8 ∧ z % 8 < 8 := ⟨Int.emod_nonneg _ (by decide), Int.emod_lt_of_pos _ (by decide)⟩
  unfold m_law_text
  rw [rangeO_int (by omega) (by omega), Option.bind_some, Option.bind_some, show Str.ofString "" = T [] from rfl]
  refine Exists.elim (fold_str (f := fun (s18 : (Str)) (x19 : Int) => Option.bind (Option.bind (Option.bind (Option.bind (Option.bind (pyMul ((48271 : Int)) (x19)) fun v20 => pyMul v20 (x19)) fun v21 => some (((7 : Int)) + v21)) fun v22 => pyMul (((z) / ((8 : Int))) + ((1 : Int))) v22) fun v23 => some (v23 % ((2147483647 : Int)))) fun number24 => Option.bind (Option.bind (ixS (Str.ofString "abcdefghijklmnopqrstuvwxyz") ((number24) % ((26 : Int)))) fun v25 => sCat (s18) v25) fun text26 => some text26) 100 ((List.range (1 + z % 8).toNat).map fun k => ((k : Nat) : Int)) [] (fun s x hx hs => ?_) (by rw [List.length_map, List.length_range]; simp; omega)) fun cs ⟨h1, h2, h3⟩ => ?_
  · obtain ⟨k, hk, rfl⟩ := List.mem_map.mp hx
    have hk := List.mem_range.mp hk
    have hk8 : k < 8 := by omega
    have hkk : k * k ≤ 49 := Nat.mul_le_mul (show k ≤ 7 by omega) (show k ≤ 7 by omega)
    have e1 : (48271 * (k : Int) * (k : Int)) = ((48271 * (k * k) : Nat) : Int) := by rw [Int.mul_assoc]; simp
    have p1 : pyMul 48271 (k : Int) = some (48271 * (k : Int)) := pyMul_ok (n := 63) (m := 63) (.small (by decide)) (.small (by omega))
    have p2 : pyMul (48271 * (k : Int)) (k : Int) = some (48271 * (k : Int) * (k : Int)) := pyMul_ok (n := 63) (m := 63) (.small (by omega)) (.small (by omega))
    have p3 : pyMul (z / 8 + 1) (7 + 48271 * (k : Int) * (k : Int)) = some ((z / 8 + 1) * (7 + 48271 * (k : Int) * (k : Int))) := pyMul_ok (m := 63) ((hz.div 8).add (.small (x := 1) (by decide))) (.small (by rw [e1]; omega))
    simp only [p1, p2, p3, Option.bind_some]
    generalize (z / 8 + 1) * (7 + 48271 * (k : Int) * (k : Int)) % 2147483647 = v
    rw [alphaAt _ (Int.emod_nonneg _ (by decide)) (Int.emod_lt_of_pos _ (by decide)), Option.bind_some, sCat_T (by simp; omega)]
    have h26 : 0 ≤ v % 26 ∧ v % 26 < 26 := ⟨Int.emod_nonneg _ (by decide), Int.emod_lt_of_pos _ (by decide)⟩
    exact ⟨97 + (v % 26).toNat, by unfold isLow; rw [decide_eq_true (by omega), decide_eq_true (by omega)]; rfl, rfl⟩
  · rw [List.length_map, List.length_range] at h1
    exact ⟨cs, h1, h2, by rw [h3]; rfl⟩
theorem badAt (i : Int) (h0 : 0 ≤ i) (h : i < 7) : ∃ c, isLow c = false ∧ ixL ((Str.ofString "A") :: ((Str.ofString "1") :: ((Str.ofString " ") :: ((Str.ofString "\n") :: ((Str.ofString "-") :: ((Str.ofString "_") :: ((Str.ofString "Z") :: (([] : List (Str)))))))))) i = some (T [c]) := by
  have : i = 0 ∨ i = 1 ∨ i = 2 ∨ i = 3 ∨ i = 4 ∨ i = 5 ∨ i = 6 := by omega
  rcases this with rfl | rfl | rfl | rfl | rfl | rfl | rfl
  · exact ⟨65, by decide, by decide +kernel⟩
  · exact ⟨49, by decide, by decide +kernel⟩
  · exact ⟨32, by decide, by decide +kernel⟩
  · exact ⟨10, by decide, by decide +kernel⟩
  · exact ⟨45, by decide, by decide +kernel⟩
  · exact ⟨95, by decide, by decide +kernel⟩
  · exact ⟨90, by decide, by decide +kernel⟩
theorem spoilt_ok {cs : List Nat} (h : cs.length ≤ 8) (z : Int) : ∃ l : List Nat, l.length ≤ 20 ∧ (∃ c ∈ l, isLow c = false) ∧ m_law_spoilt (T cs) z = some (.ret (T l)) := by
  unfold m_law_spoilt
  obtain ⟨c, hc, ec⟩ := badAt (z % 7) (Int.emod_nonneg _ (by decide)) (Int.emod_lt_of_pos _ (by decide))
  rw [ec, sLen_T (by omega), Option.bind_some, Option.bind_some]
  have em : pyMod (z / 7) ((cs.length : Int) + 1) = some ((z / 7) % ((cs.length : Int) + 1)) := by unfold pyMod; rw [if_pos (by omega)]
  rw [em, Option.bind_some]
  have hm : 0 ≤ (z / 7) % ((cs.length : Int) + 1) ∧ (z / 7) % ((cs.length : Int) + 1) < (cs.length : Int) + 1 := ⟨Int.emod_nonneg _ (by omega), Int.emod_lt_of_pos _ (by omega)⟩
  generalize (z / 7) % ((cs.length : Int) + 1) = a at hm
  obtain ⟨k, rfl⟩ := Int.eq_ofNat_of_zero_le hm.1
  have hk : k ≤ cs.length := by omega
  have e1 : sCut (T cs) (some ((k : Int) + 1)) none = some (T (cs.drop (k + 1))) := sCut_from (k := k + 1) (by omega)
  simp only [Option.bind_some, sCut_to (show cs.length ≤ 1000000 by omega), sCut_from (show cs.length ≤ 1000000 by omega), e1]
  have hl : (cs.take k).length ≤ 8 := by rw [List.length_take]; omega
  rw [sCat_T (by simp; omega), Option.bind_some, sCat_T (by simp; omega), Option.bind_some, sCat_T (by simp; omega)]
  have mem : ∀ t : List Nat, ∃ c' ∈ List.take k cs ++ [c] ++ t, isLow c' = false := fun t => ⟨c, by simp, hc⟩
  by_cases q : z / 56 % 2 = 0
  · rw [if_pos (by simpa using q)]
    exact ⟨_, by simp; omega, mem _, rfl⟩
  · rw [if_neg (by simpa using q)]
    exact ⟨_, by simp; omega, mem _, rfl⟩
theorem rep_b (n : Int) (h0 : 0 ≤ n) (h : n < 100) : sRep (Str.ofString "b") n = some (T (List.replicate n.toNat 98)) := by
  unfold sRep
  rw [if_pos ⟨by rw [show (Str.ofString "b").length = 1 from by decide +kernel, Nat.one_mul]; exact big _ (by omega), by omega⟩]
  rw [show (Str.ofString "b").cps.toList = [98] from by decide +kernel]
  congr 3
  generalize n.toNat = m
  induction m with
  | zero => rfl
  | succ m ih => rw [List.replicate_succ, List.flatten_cons, ih]; rfl
theorem name_asked (l : List Nat) (h : l.length ≤ 1000000) (due : Bool) (hd : nameB l = due) :
    Option.map (!·) (Option.bind (Option.bind (callV (m_is_name (ToD.d (T l)))) fun v39 => some ((v39, ((due, (())))))) fun p40 => callV (m_law_truth p40.1 p40.2.1)) = some false := by
  rw [show (ToD.d (T l) : D) = .str (T l) from rfl, is_name_str l h, callV_ret, Option.bind_some, Option.bind_some, truth_ok, callV_ret, hd]; simp
theorem names_told {z : Int} (hz : Sz 1048576 z) : m_law_names_told z = some (.ret true) := by
  unfold m_law_names_told
  obtain ⟨cs, h1, h2, h3⟩ := text_ok hz
  have hm : 0 ≤ z % 8 ∧ z % 8 < 8 := ⟨Int.emod_nonneg _ (by decide), Int.emod_lt_of_pos _ (by decide)⟩
  have hl : 1 ≤ cs.length ∧ cs.length ≤ 8 := by omega
  obtain ⟨sp, g1, ⟨c, gc, gl⟩, g3⟩ := spoilt_ok hl.2 (z / 3)
  rw [h3, callV_ret, Option.bind_some, g3, callV_ret]
  rw [name_asked cs (by omega) _ (by unfold nameB; rw [h2, decide_eq_true hl.1, decide_eq_true hl.2]; simp), Option.bind_some, if_neg (by simp)]
  rw [sLen_T (by omega)]
  simp only [Option.bind_some]
  rw [rep_b _ (by omega) (by omega), Option.bind_some, sCat_T (by simp; omega)]
  simp only [Option.bind_some]
  rw [forO_pass (fun x hx => ?_), bindOut_next, forO_pass (fun x hx => ?_)]
  · rfl
  · have key : ∀ (l : List Nat) (due : Bool), x = (T l, due) → l.length ≤ 1000000 → nameB l = due → (Option.bind (Option.map (!·) (Option.bind (Option.bind (callV (m_is_name (ToD.d (x.1)))) fun v58 => some ((v58, (((x.2), (())))))) fun p59 => callV (m_law_truth p59.1 p59.2.1))) fun v60 => if v60 then some (Out.ret (false)) else some (Out.next ())) = some (.next ()) := by
        rintro l due rfl hl hd
        rw [name_asked l hl due hd]; rfl
    simp only [List.mem_cons, List.not_mem_nil, or_false] at hx
    rcases hx with h | h | h | h | h | h | h <;> subst h
    · exact key [97, 108] true (by decide +kernel) (by decide) (by decide +kernel)
    · exact key [97, 108, 108, 115] true (by decide +kernel) (by decide) (by decide +kernel)
    · exact key [98, 97, 108, 108] true (by decide +kernel) (by decide) (by decide +kernel)
    · exact key [97, 108, 108] false (by decide +kernel) (by decide) (by decide +kernel)
    · exact key [] false (by decide +kernel) (by decide) (by decide +kernel)
    · exact key [65, 108, 108] false (by decide +kernel) (by decide) (by decide +kernel)
    · exact key [108, 108] true (by decide +kernel) (by decide) (by decide +kernel)
  · simp only [List.mem_cons, List.not_mem_nil, or_false] at hx
    rcases hx with rfl | rfl
    · rw [name_asked sp (by omega) false (nameB_bad gc gl)]; rfl
    · rw [name_asked _ (by simp; omega) false (nameB_long (by simp; omega))]; rfl
theorem whole_int (i : Int) : m_is_whole (ToD.d i) = some (.ret true) := rfl
theorem whole_not {x : D} (h : isT (HasTy.ty x) .int = false) : m_is_whole x = some (.ret false) := by unfold m_is_whole; rw [h]; rfl
theorem things_told {z : Int} (hz : Sz 1048576 z) : m_law_things_told z = some (.ret true) := by
  unfold m_law_things_told
  obtain ⟨cs, h1, h2, h3⟩ := text_ok hz
  rw [Option.bind_some]
  generalize z % (10 : Int) ^ (30 : Nat) = far
  rw [forO_pass (fun x hx => ?_)]
  show bindOut _ _ = _
  rw [forO_pass (fun x hx => ?_)]
  show Option.bind (callV (m_law_text z)) _ = _
  rw [h3, callV_ret, Option.bind_some]
  rw [forO_pass (fun x hx => ?_)]
  show bindOut _ _ = _
  rw [forO_pass (fun x hx => ?_)]
  · rfl
  · simp only [List.mem_cons, List.not_mem_nil, or_false] at hx
    rcases hx with rfl | rfl | rfl | rfl | rfl | rfl <;> rfl
  · simp only [List.mem_cons, List.not_mem_nil, or_false] at hx
    rcases hx with rfl | rfl | rfl | rfl | rfl | rfl | rfl <;> rfl
  · simp only [List.mem_cons, List.not_mem_nil, or_false] at hx
    rcases hx with rfl | rfl | rfl <;> rfl
  · simp only [List.mem_cons, List.not_mem_nil, or_false] at hx
    rcases hx with rfl | rfl | rfl | rfl | rfl <;> rfl
theorem cell_at (ns : List Int) (k : Nat) : m_law_cell_at ⟨ns⟩ (k : Int) = some (.ret (ns.getD k 0)) := by
  unfold m_law_cell_at
  by_cases h : k < ns.length
  · rw [if_pos (by simp; omega)]
    unfold ixL
    rw [atI_nat, List.getD_eq_getElem?_getD, List.getElem?_eq_getElem h]; rfl
  · rw [if_neg (by simp; omega), List.getD_eq_getElem?_getD, List.getElem?_eq_none (by omega)]; rfl
theorem math (ns : List Int) (h : ns.length ≤ 63) (hb : ∀ z ∈ ns, Builtin.Int.intBits z ≤ 1048576) : m_law ⟨ns⟩ = some (.ret true) := by
  unfold m_law
  rw [show (0 : Int) = ((0 : Nat) : Int) from rfl, cell_at, callV_ret, Option.bind_some, Option.bind_some]
  have hc : (cutL ns (some 1) (some 60)).length ≤ 63 := by unfold cutL; rw [List.length_take, List.length_drop]; omega
  unfold lCat
  rw [if_pos (big _ (by simp; omega)), Option.bind_some, forO_pass (fun x hx => ?_)]
  · rfl
  · have hx : Sz 1048576 x := by
      rcases List.mem_append.mp hx with hx | hx
      · rw [List.mem_singleton.mp hx]; exact Sz.cells hb 0
      · exact Sz.ofBits (hb x (List.mem_of_mem_drop (List.mem_of_mem_take hx)))
    rw [names_told hx, things_told hx]; rfl
end K01

set_option Elab.async false
set_option linter.all false
set_option maxRecDepth 100000
open PySem PySem.W PyProof.Rows L2
set_option maxRecDepth 100000 in
set_option maxHeartbeats 0 in
theorem PySem.Challenge.cw_tallyveil_k01_names_and_numbers_holds : PySem.Challenge.rw_tallyveil_k01_names_and_numbers.Holds := by
  w_on; o_law; k_head; (case hw => w_witness2)
  k_fill
  refine M.walk_law (l := PySem.Challenge.rw_tallyveil_k01_names_and_numbers) (n := 63) (k := 3) K01.m_law rfl (by decide) rfl ⟨rfl, by decide, by decide⟩ K01.math (fun w h Y => PySem.W.kIn_of Y) ?F
  case F =>
    intro w mg fa h KX G hmg
    have g_bool : mg "bool" = none := by
      refine' M.non_of KX G ?a
      (case a => k_is)
    have g_int : mg "int" = none := by
      refine' M.non_of KX G ?a
      (case a => k_is)
    have g_isinstance : mg "isinstance" = none := by
      refine' M.non_of KX G ?a
      (case a => k_is)
    have g_len : mg "len" = none := by
      refine' M.non_of KX G ?a
      (case a => k_is)
    have g_range : mg "range" = none := by
      refine' M.non_of KX G ?a
      (case a => k_is)
    have g_str : mg "str" = none := by
      refine' M.non_of KX G ?a
      (case a => k_is)
    refine' M.cut1 (M.def_of (x := "is_whole") (qual := "is_whole") (st := K01.s_is_whole) KX G ?a ?l ?c ?k) fun I_is_whole => ?_
    (case a => k_is); (case l => k_is); (case c => k_is); (case k => k_is)
    refine' M.cut1 (M.def_of (x := "is_name") (qual := "is_name") (st := K01.s_is_name) KX G ?a ?l ?c ?k) fun I_is_name => ?_
    (case a => k_is); (case l => k_is); (case c => k_is); (case k => k_is)
    refine' M.cut1 (M.def_of (x := "_law_cell_at") (qual := "_law_cell_at") (st := K01.s__law_cell_at) KX G ?a ?l ?c ?k) fun I__law_cell_at => ?_
    (case a => k_is); (case l => k_is); (case c => k_is); (case k => k_is)
    refine' M.cut1 (M.def_of (x := "_law_truth") (qual := "_law_truth") (st := K01.s__law_truth) KX G ?a ?l ?c ?k) fun I__law_truth => ?_
    (case a => k_is); (case l => k_is); (case c => k_is); (case k => k_is)
    refine' M.cut1 (M.def_of (x := "_law_text") (qual := "_law_text") (st := K01.s__law_text) KX G ?a ?l ?c ?k) fun I__law_text => ?_
    (case a => k_is); (case l => k_is); (case c => k_is); (case k => k_is)
    refine' M.cut1 (M.def_of (x := "_law_spoilt") (qual := "_law_spoilt") (st := K01.s__law_spoilt) KX G ?a ?l ?c ?k) fun I__law_spoilt => ?_
    (case a => k_is); (case l => k_is); (case c => k_is); (case k => k_is)
    refine' M.cut1 (M.def_of (x := "_law_names_told") (qual := "_law_names_told") (st := K01.s__law_names_told) KX G ?a ?l ?c ?k) fun I__law_names_told => ?_
    (case a => k_is); (case l => k_is); (case c => k_is); (case k => k_is)
    refine' M.cut1 (M.def_of (x := "_law_things_told") (qual := "_law_things_told") (st := K01.s__law_things_told) KX G ?a ?l ?c ?k) fun I__law_things_told => ?_
    (case a => k_is); (case l => k_is); (case c => k_is); (case k => k_is)
    refine' M.cut1 (M.def_of (x := "law") (qual := "law") (st := K01.s_law) KX G ?a ?l ?c ?k) fun I_law => ?_
    (case a => k_is); (case l => k_is); (case c => k_is); (case k => k_is)
    refine M.law_of KX G hmg I_law (fun _ _ _ _ _ _ _ => rfl) fun base b1 b2 => ?_
    refine M.cut1 (K01.ok_is_whole (P := PySem.Challenge.rw_tallyveil_k01_names_and_numbers.prog) (w := w) (base := base) I_is_whole g_bool g_int g_isinstance) fun h_is_whole => ?_
    refine M.cut1 (K01.ok_is_name (P := PySem.Challenge.rw_tallyveil_k01_names_and_numbers.prog) (w := w) (base := base) I_is_name g_isinstance g_len g_str) fun h_is_name => ?_
    refine M.cut1 (K01.ok__law_cell_at (P := PySem.Challenge.rw_tallyveil_k01_names_and_numbers.prog) (w := w) (base := base) I__law_cell_at g_len) fun h__law_cell_at => ?_
    refine M.cut1 (K01.ok__law_truth (P := PySem.Challenge.rw_tallyveil_k01_names_and_numbers.prog) (w := w) (base := base) I__law_truth g_bool g_isinstance) fun h__law_truth => ?_
    refine M.cut1 (K01.ok__law_text (P := PySem.Challenge.rw_tallyveil_k01_names_and_numbers.prog) (w := w) (base := base) I__law_text g_range) fun h__law_text => ?_
    refine M.cut1 (K01.ok__law_spoilt (P := PySem.Challenge.rw_tallyveil_k01_names_and_numbers.prog) (w := w) (base := base) I__law_spoilt g_len) fun h__law_spoilt => ?_
    refine M.cut1 (K01.ok__law_names_told (P := PySem.Challenge.rw_tallyveil_k01_names_and_numbers.prog) (w := w) (base := base) I__law_names_told g_len h__law_spoilt h__law_text h__law_truth h_is_name) fun h__law_names_told => ?_
    refine M.cut1 (K01.ok__law_things_told (P := PySem.Challenge.rw_tallyveil_k01_names_and_numbers.prog) (w := w) (base := base) I__law_things_told h__law_text h__law_truth h_is_name h_is_whole) fun h__law_things_told => ?_
    exact K01.ok_law I_law h__law_cell_at h__law_names_told h__law_things_told
