import PyProof.Rows.All
import Wide.All
import OpenK.AllK
import Wide.FinOn
import HandS.ForMost
import HandS.ForExc
import HandS.Wide
import HandS.Walk
import HandS.TryMany
import HandS.ExcField
import HandS.IsInst
import HandS.Gcd
import HandS.HeadHook4
import HandS.HeadWalk
import HandS.Head2
import HandS.ExcSuper
import HandS.ExcIs
import HandS.RevRange
import HandS.Flow
import HandS.TupAny
import HandS.TupMul
import KE.GoesZip
import KE.GoesMore
import KE.KDictZip
import HandS.Zip
import PyProof.EnumMake
import KE.KExcSuper
import PySem.Challenge.RW_bodybars_k21_whole_axes_and_pitches
import HandS.Head0
import HandS.Head1
import HandS.Head3
import HandS.HeadEnd
section
set_option Elab.async false
set_option linter.all false
set_option maxRecDepth 100000
set_option maxHeartbeats 4000000
namespace BB
open PySem PySem.Spec PyProof.Rows L2
abbrev St := L2.St

/-! ## values, the drawer, outcomes -/
abbrev Val := PyData
/-- the drawer's dict, its lists of cells and of great cells -/
abbrev Dr := Option (Addr × Addr × Addr)
def Dr.has : Dr → Addr → Prop
  | none, _ => False
  | some (m, c, g), a => a = m ∨ a = c ∨ a = g
/-- the drawer as a value -/
def drw : Val := .dict [(.none, .none)]
structure Om where
  cells : List Int
  great : List Int
  spot : Nat
inductive Out (α : Type) where
  | ok (a : α) (o : Om)
  | exc (c : Str) (fs : List (Str × Val)) (o : Om)
  | stk
abbrev R (α : Type) := Om → Out α
def R.pure {α : Type} (a : α) : R α := fun o => .ok a o
def Out.bind {α β : Type} (x : Out α) (f : α → R β) : Out β := match x with
  | .ok a o => f a o
  | .exc c fs o => .exc c fs o
  | .stk => .stk
def R.bind {α β : Type} (m : R α) (f : α → R β) : R β := fun o => (m o).bind f
instance : Monad R where
  pure := R.pure
  bind := R.bind
def R.stk {α : Type} : R α := fun _ => .stk
def R.raise {α : Type} (c : Str) (fs : List (Str × Val)) : R α := fun o => .exc c fs o

/-! ## how values lie in the heap -/
/-- the law's script, walked alone -/
def scrV (ns : List Int) : Val := .dict [(.none, .list (ns.map PyData.int))]
def SqF (K : PySem.W.Frag) (H : Hp) (a : Addr) (xs : List V) : Prop := (∃ o, H a = some (.frz o (.lst xs))) ∨
  ∃ (o : Obj) (its : Array Value) (n : Nat), K.lookup a = some o ∧ o.cls = .type "list" ∧ o.dict = none ∧ o.data = .seq its n ∧ its.size ≤ sizeLine ∧ Vals xs its.toList
theorem SqF.sq {K : PySem.W.Frag} {H : Hp} {a : Addr} {xs : List V} (h : SqF K H a xs) : SqL K H a xs := h.elim (fun z => .inl (.inr z)) .inr
theorem SqF.of {K : PySem.W.Frag} {H : Hp} {a : Addr} {xs : List V} (h : SqL K H a xs) (n : H a ≠ some (.lst xs)) : SqF K H a xs := h.elim (fun z => z.elim (fun z => absurd z n) .inl) .inr
def LstAt (K : PySem.W.Frag) (U : Addr → Prop) (H : Hp) (a : Addr) (xs : List V) : Prop := ¬ U a ∧ H a = some (.lst xs)
mutual
inductive Rep (K : PySem.W.Frag) (D : Dr) (U : Addr → Prop) (H : Hp) : V → Val → Prop
  | non : Rep K D U H .non .none
  | bl (b : Bool) : Rep K D U H (.bl b) (.bool b)
  | int (i : Int) : Rep K D U H (.int i) (.int i)
  | str (x : Str) : Rep K D U H (.str x) (.str x)
  | lst {a : Addr} {xs : List V} {ds : List Val} : LstAt K U H a xs → Reps K D U H xs ds → Rep K D U H (.ref a) (.list ds)
  | tup {a : Addr} {xs : List V} {ds : List Val} : SqT K H a xs → Reps K D U H xs ds → Rep K D U H (.ref a) (.tuple ds)
  | dic {a : Addr} : ¬ U a → H a = some (.dK []) → Rep K D U H (.ref a) (.dict [])
  | scr {a : Addr} {ns : List Int} : SqF K H a (ns.map V.int) → Rep K D U H (.ref a) (scrV ns)
  | drw {m c g : Addr} : D = some (m, c, g) → Rep K D U H (.ref m) drw
inductive Reps (K : PySem.W.Frag) (D : Dr) (U : Addr → Prop) (H : Hp) : List V → List Val → Prop
  | nil : Reps K D U H [] []
  | cons {v : V} {vs : List V} {d : Val} {ds : List Val} : Rep K D U H v d → Reps K D U H vs ds → Reps K D U H (v :: vs) (d :: ds)
end
/-- what was tracked stands, but the drawer's own -/
def Ext (D : Dr) (H H' : Hp) : Prop := ∀ a o, H a = some o → ¬ D.has a → H' a = some o
theorem Ext.refl (D : Dr) (H : Hp) : Ext D H H := fun _ _ h _ => h
theorem Ext.trans {D : Dr} {H H1 H2 : Hp} (a : Ext D H H1) (b : Ext D H1 H2) : Ext D H H2 := fun x o h n => b x o (a x o h n) n
theorem Ext.upd {D : Dr} {H : Hp} {p : Addr} {o : HO} (h : H p = none) : Ext D H (upd H p o) := fun a u e _ => by
  rw [upd_ne (ne_of_none e h)]; exact e
/-- the drawer's state -/
def DOk : Dr → Om → Hp → Prop
  | none, _, _ => True
  | some (m, c, g), o, H => m ≠ c ∧ m ≠ g ∧ c ≠ g ∧ H m = some (.dK [(.inr "cells", .ref c), (.inr "great", .ref g), (.inr "spot", .int o.spot)]) ∧
      H c = some (.lst (o.cells.map V.int)) ∧ H g = some (.lst (o.great.map V.int))
section
variable {K : PySem.W.Frag} {D : Dr} {U U' : Addr → Prop} {H H' : Hp}
theorem DOk.same {o : Om} (h : DOk D o H) (e : ∀ a, D.has a → H' a = H a) : DOk D o H' := by
  match D, h, e with
  | none, _, _ => trivial
  | some (m, c, g), h, e =>
    obtain ⟨h1, h2, h3, h4, h5, h6⟩ := h
    exact ⟨h1, h2, h3, (e m (.inl rfl)).trans h4, (e c (.inr (.inl rfl))).trans h5, (e g (.inr (.inr rfl))).trans h6⟩
theorem DOk.dom {o : Om} (h : DOk D o H) {a : Addr} (e : D.has a) : ∃ u, H a = some u ∧ ∀ xs, u ≠ .tup xs := by
  match D, h, e with
  | some (m, c, g), h, e =>
    obtain ⟨h1, h2, h3, h4, h5, h6⟩ := h
    rcases e with e | e | e <;> subst e
    · exact ⟨_, h4, fun _ => nofun⟩
    · exact ⟨_, h5, fun _ => nofun⟩
    · exact ⟨_, h6, fun _ => nofun⟩
theorem DOk.upd {o : Om} (h : DOk D o H) {p : Addr} {u : HO} (e : H p = none) : DOk D o (upd H p u) := h.same fun a ha => by
  obtain ⟨v, hv, _⟩ := h.dom ha
  rw [upd_ne (ne_of_none hv e)]
/-- the heap grows: tuples and frozen things stand, lists that aren't owned stand -/
def Keep (D : Dr) (U U' : Addr → Prop) (H H' : Hp) : Prop :=
  (∀ a xs, H a = some (.tup xs) → H' a = some (.tup xs)) ∧ (∀ a o u, H a = some (.frz o u) → H' a = some (.frz o u)) ∧
    (∀ a o, H a = some o → ¬ U a → H' a = some o ∧ ¬ U' a)
theorem Keep.sqT {a : Addr} {xs : List V} (k : Keep D U U' H H') (h : SqT K H a xs) : SqT K H' a xs := by
  rcases h with (h | ⟨o, h⟩) | h
  · exact .inl (.inl (k.1 _ _ h))
  · exact .inl (.inr ⟨o, k.2.1 _ _ _ h⟩)
  · exact .inr h
theorem Keep.lst {a : Addr} {xs : List V} (k : Keep D U U' H H') (h : LstAt K U H a xs) : LstAt K U' H' a xs := by
  obtain ⟨n, h⟩ := h
  exact ⟨(k.2.2 _ _ h n).2, (k.2.2 _ _ h n).1⟩
theorem Keep.sqF {a : Addr} {xs : List V} (k : Keep D U U' H H') (h : SqF K H a xs) : SqF K H' a xs := h.elim (fun ⟨o, e⟩ => .inl ⟨o, k.2.1 _ _ _ e⟩) .inr
mutual
theorem Rep.keep (k : Keep D U U' H H') : ∀ {v : V} {d : Val}, Rep K D U H v d → Rep K D U' H' v d
  | _, _, .non => .non
  | _, _, .bl b => .bl b
  | _, _, .int i => .int i
  | _, _, .str x => .str x
  | _, _, .lst h r => .lst (k.lst h) (Reps.keep k r)
  | _, _, .tup h r => .tup (k.sqT h) (Reps.keep k r)
  | _, _, .dic n h => .dic (k.2.2 _ _ h n).2 (k.2.2 _ _ h n).1
  | _, _, .scr h => .scr (Keep.sqF (K := K) k h)
  | _, _, .drw e => .drw e
theorem Reps.keep (k : Keep D U U' H H') : ∀ {vs : List V} {ds : List Val}, Reps K D U H vs ds → Reps K D U' H' vs ds
  | _, _, .nil => .nil
  | _, _, .cons h r => .cons (Rep.keep k h) (Reps.keep k r)
end
/-- an expression's step -/
theorem Ext.keep {o : Om} (e : Ext D H H') (d : DOk D o H) (u : ∀ a, D.has a → U a) (dk : ∀ a ob x, H a = some (.frz ob x) → ¬ D.has a) : Keep D U U H H' := by
  refine ⟨fun a xs h => e a _ h fun z => ?_, fun a ob x h => e a _ h (dk a ob x h), fun a ob h n => ⟨e a _ h fun z => n (u a z), n⟩⟩
  obtain ⟨v, hv, hn⟩ := d.dom z
  rw [h] at hv
  exact hn xs (Option.some.inj hv).symm
theorem DOk.nofrz {o : Om} (d : DOk D o H) : ∀ a ob x, H a = some (.frz ob x) → ¬ D.has a := fun a ob x h z => by
  match D, d, z with
  | some (m, c, g), d, z =>
    obtain ⟨h1, h2, h3, h4, h5, h6⟩ := d
    rcases z with z | z | z <;> subst z
    · rw [h4] at h; cases h
    · rw [h5] at h; cases h
    · rw [h6] at h; cases h
theorem Reps.length : ∀ {vs : List V} {ds : List Val}, Reps K D U H vs ds → vs.length = ds.length
  | _, _, .nil => rfl
  | _, _, .cons _ r => by rw [List.length_cons, List.length_cons, Reps.length r]
theorem Reps.append : ∀ {vs ws : List V} {ds es : List Val}, Reps K D U H vs ds → Reps K D U H ws es → Reps K D U H (vs ++ ws) (ds ++ es)
  | _, _, _, _, .nil, r => r
  | _, _, _, _, .cons h r, q => .cons h (Reps.append r q)
theorem Reps.get : ∀ {vs : List V} {ds : List Val} {i : Nat} {d : Val}, Reps K D U H vs ds → ds[i]? = some d → ∃ v, vs[i]? = some v ∧ Rep K D U H v d
  | _, _, _, _, .nil, e => by simp at e
  | _, _, 0, _, .cons h _, e => by simp at e; subst e; exact ⟨_, rfl, h⟩
  | _, _, i + 1, _, .cons _ r, e => by
    obtain ⟨v, h1, h2⟩ := Reps.get (i := i) r (by simpa using e)
    exact ⟨v, by simpa using h1, h2⟩
theorem Reps.get' : ∀ {vs : List V} {ds : List Val} {i : Nat} {v : V}, Reps K D U H vs ds → vs[i]? = some v → ∃ d, ds[i]? = some d ∧ Rep K D U H v d
  | _, _, _, _, .nil, e => by simp at e
  | _, _, 0, _, .cons h _, e => by simp at e; subst e; exact ⟨_, rfl, h⟩
  | _, _, i + 1, _, .cons _ r, e => by
    obtain ⟨d, h1, h2⟩ := Reps.get' (i := i) r (by simpa using e)
    exact ⟨d, by simpa using h1, h2⟩
theorem Reps.set {v : V} {d : Val} (h : Rep K D U H v d) : ∀ {vs : List V} {ds : List Val} (i : Nat), Reps K D U H vs ds → Reps K D U H (vs.set i v) (ds.set i d)
  | _, _, _, .nil => .nil
  | _, _, 0, .cons _ r => .cons h r
  | _, _, i + 1, .cons q r => .cons q (Reps.set h i r)
theorem Reps.take : ∀ {vs : List V} {ds : List Val} (n : Nat), Reps K D U H vs ds → Reps K D U H (vs.take n) (ds.take n)
  | _, _, 0, _ => by simpa using Reps.nil
  | _, _, _ + 1, .nil => .nil
  | _, _, n + 1, .cons h r => .cons h (Reps.take n r)
theorem Reps.drop : ∀ {vs : List V} {ds : List Val} (n : Nat), Reps K D U H vs ds → Reps K D U H (vs.drop n) (ds.drop n)
  | _, _, 0, r => r
  | _, _, _ + 1, .nil => .nil
  | _, _, n + 1, .cons _ r => Reps.drop n r
theorem Reps.ints : ∀ {vs : List V} {ns : List Int}, Reps K D U H vs (ns.map PyData.int) → vs = ns.map V.int
  | _, [], .nil => rfl
  | _, n :: ns, .cons h r => by
    cases h
    rw [Reps.ints r]; rfl
theorem Reps.ofInts : ∀ (ns : List Int), Reps K D U H (ns.map V.int) (ns.map PyData.int)
  | [] => .nil
  | n :: ns => .cons (.int n) (Reps.ofInts ns)
theorem Reps.bls : ∀ {vs : List V} {ns : List Bool}, Reps K D U H vs (ns.map PyData.bool) → vs = ns.map V.bl
  | _, [], .nil => rfl
  | _, n :: ns, .cons h r => by
    cases h
    rw [Reps.bls r]; rfl
theorem LstAt.sq {a : Addr} {xs : List V} (h : LstAt K U H a xs) : SqL K H a xs := by
  exact .inl (.inl h.2)
end

/-! ## the frame's names -/
inductive Slot where
  | un
  | val (v : Val)
  | own (xs : List Val)
  | exn (a : Addr) (cls : Value) (d : Option Addr) (c : Str) (fs : List (Str × Val))
abbrev Env := List Slot
/-- the own fields of a caught exception -/
def XR (K : PySem.W.Frag) (D : Dr) (U : Addr → Prop) (H : Hp) (fs : List (Str × Val)) (d : Option Addr) : Prop :=
  (fs = [] ∧ d = none) ∨ ∃ (dd : Addr) (vs : List (Str × V)), d = some dd ∧ ¬ U dd ∧ H dd = some (.xd vs) ∧ vs.map (·.1) = fs.map (·.1) ∧ Reps K D U H (vs.map (·.2)) (fs.map (·.2))
theorem XR.keep {K : PySem.W.Frag} {D : Dr} {U U' : Addr → Prop} {H H' : Hp} {fs : List (Str × Val)} {d : Option Addr} (h : XR K D U H fs d) (k : Keep D U U' H H') : XR K D U' H' fs d := by
  rcases h with h | ⟨dd, vs, h1, h2, h3, h4, h5⟩
  · exact .inl h
  · exact .inr ⟨dd, vs, h1, (k.2.2 _ _ h3 h2).2, (k.2.2 _ _ h3 h2).1, h4, h5.keep k⟩
/-- H0: the heap at the def's entry; U: what may be written, or is the callers' own -/
structure FR (K : PySem.W.Frag) (D : Dr) (H0 : Hp) (U : Addr → Prop) (σ : St) (H : Hp) (ρ : Env) : Prop where
  len : σ.length = ρ.length
  val : ∀ (i : Nat) v, ρ[i]? = some (.val v) → ∃ x, σ[i]? = some (some x) ∧ Rep K D U H x v
  own : ∀ (i : Nat) vs, ρ[i]? = some (.own vs) → ∃ a xs, σ[i]? = some (some (.ref a)) ∧ U a ∧ ¬ D.has a ∧ H0 a = none ∧ H a = some (.lst xs) ∧ Reps K D U H xs vs
  dis : ∀ (i j : Nat) a vs ws, ρ[i]? = some (.own vs) → ρ[j]? = some (.own ws) → σ[i]? = some (some (.ref a)) → σ[j]? = some (some (.ref a)) → i = j
  exn : ∀ (i : Nat) a cls d c fs, ρ[i]? = some (.exn a cls d c fs) → σ[i]? = some (some (.ref a)) ∧ XR K D U H fs d
  dU : ∀ a, D.has a → U a
  dom : ∀ a, U a → ∃ o, H a = some o ∧ (∀ xs, o ≠ .tup xs) ∧ ∀ ob u, o ≠ .frz ob u
section
variable {K : PySem.W.Frag} {D : Dr} {H0 : Hp} {U U' : Addr → Prop} {σ : St} {H H' : Hp} {ρ : Env}
theorem FR.keep {o : Om} (F : FR K D H0 U σ H ρ) (d : DOk D o H) (e : Ext D H H') : Keep D U U H H' := e.keep d F.dU d.nofrz
theorem FR.fresh (F : FR K D H0 U σ H ρ) {p : Addr} (h : H p = none) : ¬ U p := fun z => by
  obtain ⟨o, e, _⟩ := F.dom p z
  rw [h] at e; cases e
theorem FR.ext {o o' : Om} (F : FR K D H0 U σ H ρ) (d : DOk D o H) (e : Ext D H H') (d' : DOk D o' H') : FR K D H0 U σ H' ρ where
  len := F.len
  val := fun i v h => by
    obtain ⟨x, h1, h2⟩ := F.val i v h
    exact ⟨x, h1, h2.keep (F.keep d e)⟩
  own := fun i vs h => by
    obtain ⟨a, xs, h1, h2, h3, h4, h5, h6⟩ := F.own i vs h
    exact ⟨a, xs, h1, h2, h3, h4, e a _ h5 h3, h6.keep (F.keep d e)⟩
  dis := F.dis
  exn := fun i a cls dd c fs h => ⟨(F.exn i a cls dd c fs h).1, (F.exn i a cls dd c fs h).2.keep (F.keep d e)⟩
  dU := F.dU
  dom := fun a h => by
    by_cases z : D.has a
    · obtain ⟨u, hu, hn⟩ := d'.dom z
      exact ⟨u, hu, hn, fun ob x q => d'.nofrz a ob x (by rw [hu, q]) z⟩
    · obtain ⟨u, hu, hn⟩ := F.dom a h
      exact ⟨u, e a u hu z, hn⟩
end

/-! ## expressions -/
/-- an exception of the class c with its fields, as it lies in the heap -/
def ExR (K : PySem.W.Frag) (mg : Str → Option Value) (D : Dr) (U : Addr → Prop) (H : Hp) (c : Str) (fs : List (Str × Val)) (cls : Value) (d : Option Addr) : Prop :=
  ∃ C : Addr, mg c = some (.ref C) ∧ cls = .ref C ∧ XR K D U H fs d
/-- what is wanted of an outcome -/
def Post (K : PySem.W.Frag) (mg : Str → Option Value) (W : WX) (D : Dr) (U : Addr → Prop) (σ : St) (H : Hp) {γ α : Type} (Rl : Hp → γ → α → Prop) (x : Out α) (Q : γ → Hp → Prop) : Prop := match x with
  | .ok v o => ∀ y H', Ext D H H' → DOk D o H' → Rl H' y v → Q y H'
  | .exc c fs o => ∀ cls d H', Ext D H H' → DOk D o H' → ExR K mg D U H' c fs cls d → W cls d σ H'
  | .stk => False
abbrev Rel (γ α : Type) := PySem.W.Frag → Dr → (Addr → Prop) → Hp → γ → α → Prop
def tG {γ α : Type} (K : PySem.W.Frag) (mg : Str → Option Value) (W : WX) (Rl : Rel γ α) (f : Env → R α) : St → Hp → (γ → Hp → Prop) → Prop := fun σ H Q => ∃ (D : Dr) (H0 : Hp) (U : Addr → Prop) (ρ : Env) (o : Om),
  FR K D H0 U σ H ρ ∧ DOk D o H ∧ Post K mg W D U σ H (Rl K D U) (f ρ o) Q
abbrev RV : Rel V Val := fun K D U H v d => Rep K D U H v d
/-- a value, or a list that is owned, to be read -/
abbrev RL : Rel V Val := fun K D U H v d => Rep K D U H v d ∨ ∃ a xs ds, v = .ref a ∧ d = .list ds ∧ ¬ D.has a ∧ H a = some (.lst xs) ∧ Reps K D U H xs ds
abbrev RA : Rel (List V) (List Val) := fun K D U H v d => Reps K D U H v d
abbrev RB : Rel Bool Bool := fun _ _ _ _ v d => v = d
def VE (X : Cx) (W : WX) (e : Expr) (f : Env → R Val) : Prop := PE X e (tG X.K X.mg W RV f)
def VL (X : Cx) (W : WX) (e : Expr) (f : Env → R Val) : Prop := PE X e (tG X.K X.mg W RL f)
def VA (X : Cx) (W : WX) (es : List Expr) (f : Env → R (List Val)) : Prop := PA X es (tG X.K X.mg W RA f)
def VT (X : Cx) (W : WX) (e : Expr) (f : Env → R Bool) : Prop := PT X e (tG X.K X.mg W RB f)
def VW (X : Cx) (W : WX) (e : Expr) (f : Env → R Bool) : Prop := PW X e (tG X.K X.mg W RB f)
section
variable {X : Cx}
theorem peI {e : Expr} {t t' : TE} (h : PE X e t) (i : ∀ σ H Q, t' σ H Q → t σ H Q) : PE X e t' := ⟨fun pins s σ H Q I q => h.run pins s σ H Q I (i σ H Q q)⟩
theorem ptI {e : Expr} {t t' : TT} (h : PT X e t) (i : ∀ σ H Q, t' σ H Q → t σ H Q) : PT X e t' := ⟨fun pins s σ H Q I q => h.run pins s σ H Q I (i σ H Q q)⟩
theorem pwI {e : Expr} {t t' : TT} (h : PW X e t) (i : ∀ σ H Q, t' σ H Q → t σ H Q) : PW X e t' := ⟨fun wh pins s σ H Q I q => h.run wh pins s σ H Q I (i σ H Q q)⟩
theorem paI {e : List Expr} {t t' : TA} (h : PA X e t) (i : ∀ σ H Q, t' σ H Q → t σ H Q) : PA X e t' := ⟨fun pos pins s σ H Q I q => h.run pos pins s σ H Q I (i σ H Q q)⟩
theorem pssI {e : List Stmt} {t t' : TS} (h : PSs X e t) (i : ∀ D σ H, t' D σ H → t D σ H) : PSs X e t' := ⟨fun pins s σ H D I q => h.run pins s σ H D I (i D σ H q)⟩
theorem psI {e : Stmt} {t t' : TS} (h : PS X e t) (i : ∀ D σ H, t' D σ H → t D σ H) : PS X e t' := ⟨fun pins s σ H D I q => h.run pins s σ H D I (i D σ H q)⟩
end
section
variable {K : PySem.W.Frag} {mg : Str → Option Value} {W : WX} {D : Dr} {H0 : Hp} {U : Addr → Prop} {σ : St} {H H' : Hp} {ρ : Env} {o o' : Om} {α β γ δ : Type}
theorem Post.imp {Q Q' : γ → Hp → Prop} {Rl Rl' : Hp → γ → α → Prop} {x : Out α} (h : Post K mg W D U σ H Rl x Q) (e : Ext D H H') (hr : ∀ H y v, Rl' H y v → Rl H y v) (hq : ∀ y H, Q y H → Q' y H) : Post K mg W D U σ H' Rl' x Q' := by
  cases x with
  | ok v o => exact fun y H2 e2 d2 r => hq _ _ (h y H2 (e.trans e2) d2 (hr _ _ _ r))
  | exc c fs o => exact fun cls d H2 e2 d2 r => h cls d H2 (e.trans e2) d2 r
  | stk => exact h
theorem Post.ext {Q : γ → Hp → Prop} {Rl : Hp → γ → α → Prop} {x : Out α} (h : Post K mg W D U σ H Rl x Q) (e : Ext D H H') : Post K mg W D U σ H' Rl x Q := h.imp e (fun _ _ _ z => z) fun _ _ z => z
/-- THE STEP: behind one thing comes what goes on with its value -/
theorem Post.bind {Q : δ → Hp → Prop} {Q' : γ → Hp → Prop} {Rl : Hp → δ → β → Prop} {Rl' : Hp → γ → α → Prop} {x : Out α} {k : α → R β} (h : Post K mg W D U σ H Rl (x.bind k) Q)
    (n : ∀ v o y H', Ext D H H' → DOk D o H' → Rl' H' y v → Post K mg W D U σ H' Rl (k v o) Q → Q' y H') : Post K mg W D U σ H Rl' x Q' := by
  cases x with
  | ok v o => exact fun y H2 e2 d2 r => n v o y H2 e2 d2 r (Post.ext h e2)
  | exc c fs o => exact h
  | stk => exact h
theorem Post.ret {Q : γ → Hp → Prop} {Rl : Hp → γ → α → Prop} {v : α} (h : Post K mg W D U σ H Rl (R.pure v o) Q) {y : γ} (d : DOk D o H) (r : Rl H y v) : Q y H := h y H (Ext.refl D H) d r
end
theorem bindE {α β : Type} (m : R α) (k : α → R β) (o : Om) : (m >>= k) o = (m o).bind k := rfl
theorem pureE {α : Type} (a : α) (o : Om) : (pure a : R α) o = .ok a o := rfl
section
variable {X : Cx} {W : WX} {e : Expr} {f : Env → R Val}
theorem VE.vl (h : VE X W e f) : VL X W e f := peI h fun σ H Q ⟨D, H0, U, ρ, o, F, d, p⟩ => ⟨D, H0, U, ρ, o, F, d, p.imp (Ext.refl D H) (fun _ _ _ z => .inl z) fun _ _ z => z⟩
end
end BB
end

section
set_option Elab.async false
set_option linter.all false
set_option maxRecDepth 100000
set_option maxHeartbeats 4000000
namespace BB
open PySem PySem.Spec PyProof.Rows L2
/-! ## combinators: constants, names, operators -/
def cK (v : Val) : Env → R Val := fun _ => pure v
def slotV : Option Slot → R Val
  | some (.val v) => pure v
  | _ => R.stk
def slotL : Option Slot → R Val
  | some (.val v) => pure v
  | some (.own xs) => pure (.list xs)
  | _ => R.stk
def cV (i : Nat) : Env → R Val := fun ρ => slotV ρ[i]?
def cL (i : Nat) : Env → R Val := fun ρ => slotL ρ[i]?
def c1 (g : Val → R Val) (a : Env → R Val) : Env → R Val := fun ρ => a ρ >>= g
def c2 (g : Val → Val → R Val) (a b : Env → R Val) : Env → R Val := fun ρ => a ρ >>= fun x => b ρ >>= fun y => g x y
section
variable {X : Cx} {W : WX} {pos : Pos} {a b e : Expr} {fa fb : Env → R Val}
variable {K : PySem.W.Frag} {mg : Str → Option Value} {D : Dr} {H0 : Hp} {U : Addr → Prop} {σ : St} {H H' : Hp} {ρ : Env} {o o' : Om}
theorem tG_of {γ α : Type} {Rl : Rel γ α} {f : Env → R α} {Q : γ → Hp → Prop} (F : FR K D H0 U σ H ρ) (d : DOk D o H) (p : Post K mg W D U σ H (Rl K D U) (f ρ o) Q) : tG K mg W Rl f σ H Q := ⟨D, H0, U, ρ, o, F, d, p⟩
theorem RL_keep {v : V} {d : Val} (F : FR K D H0 U σ H ρ) (dk : DOk D o H) (e : Ext D H H') (h : RL K D U H v d) : RL K D U H' v d := by
  rcases h with h | ⟨p, xs, ds, h1, h2, h3, h4, h5⟩
  · exact .inl (h.keep (F.keep dk e))
  · exact .inr ⟨p, xs, ds, h1, h2, h3, e _ _ h4 h3, h5.keep (F.keep dk e)⟩
theorem ve_k {v : V} {d : Val} (h : PE X e (tC v)) (r : ∀ K D U H, Rep K D U H v d) : VE X W e (cK d) := peI h fun σ H Q ⟨D, H0, U, ρ, o, F, dk, p⟩ => Post.ret p dk (r _ _ _ _)
theorem ve_int {i : Int} {j : Nat} : VE X W (.Constant (.int i) j pos) (cK (.int i)) := ve_k pe_int fun _ _ _ _ => .int i
theorem ve_bl {i : Bool} {j : Nat} : VE X W (.Constant (.bool i) j pos) (cK (.bool i)) := ve_k pe_bl fun _ _ _ _ => .bl i
theorem ve_non {j : Nat} : VE X W (.Constant .none j pos) (cK .none) := ve_k pe_non fun _ _ _ _ => .non
theorem ve_str {x : Str} {j : Nat} : VE X W (.Constant (.str x) j pos) (cK (.str x)) := ve_k pe_str fun _ _ _ _ => .str x
theorem ve_var {i : Nat} (h : PE X e (tVar i)) : VE X W e (cV i) := peI h fun σ H Q ⟨D, H0, U, ρ, o, F, dk, p⟩ => by
  unfold cV at p
  cases e : ρ[i]? with
  | none => rw [e] at p; exact p.elim
  | some s =>
    rw [e] at p
    cases s with
    | val v =>
      obtain ⟨x, h1, h2⟩ := F.val i v e
      exact ⟨x, h1, Post.ret p dk h2⟩
    | un => exact p.elim
    | own xs => exact p.elim
    | exn c fs => exact p.elim
theorem vl_var {i : Nat} (h : PE X e (tVar i)) : VL X W e (cL i) := peI h fun σ H Q ⟨D, H0, U, ρ, o, F, dk, p⟩ => by
  unfold cL at p
  cases e : ρ[i]? with
  | none => rw [e] at p; exact p.elim
  | some s =>
    rw [e] at p
    cases s with
    | val v =>
      obtain ⟨x, h1, h2⟩ := F.val i v e
      exact ⟨x, h1, Post.ret p dk (.inl h2)⟩
    | un => exact p.elim
    | own vs =>
      obtain ⟨a, xs, h1, h2, h3, h4, h5, h6⟩ := F.own i vs e
      exact ⟨_, h1, Post.ret p dk (.inr ⟨a, xs, vs, rfl, rfl, h3, h5, h6⟩)⟩
    | exn c fs => exact p.elim
/-- a rule of one value, by values -/
theorem ve_1 {r : V → Hp → VK → Prop} {g : Val → R Val} {t : TE → TE} (hp : ∀ ta, PE X a ta → PE X e (t ta)) (ht : ∀ ta σ H Q, (ta σ H fun x H1 => r x H1 Q) → t ta σ H Q)
    (hr : ∀ D H0 U σ H ρ o x vx Q, FR X.K D H0 U σ H ρ → DOk D o H → RL X.K D U H x vx → Post X.K X.mg W D U σ H (RV X.K D U) (g vx o) Q → r x H Q) (ha : VL X W a fa) : VE X W e (c1 g fa) :=
  peI (hp _ ha) fun σ H Q ⟨D, H0, U, ρ, o, F, dk, p⟩ => ht _ σ H Q (tG_of F dk (Post.bind p fun v o1 x H1 e1 d1 r1 p1 => hr D H0 U σ H1 ρ o1 x v Q (F.ext dk e1 d1) d1 r1 p1))
/-- a rule of two values, by values -/
theorem ve_2 {r : R2} {g : Val → Val → R Val} (hp : PE X e (tOp r (tG X.K X.mg W RL fa) (tG X.K X.mg W RL fb)))
    (hr : ∀ D H0 U σ H ρ o x y vx vy Q, FR X.K D H0 U σ H ρ → DOk D o H → RL X.K D U H x vx → RL X.K D U H y vy → Post X.K X.mg W D U σ H (RV X.K D U) (g vx vy o) Q → r x y H Q) : VE X W e (c2 g fa fb) :=
  peI hp fun σ H Q ⟨D, H0, U, ρ, o, F, dk, p⟩ => tG_of F dk (Post.bind p fun v o1 x H1 e1 d1 r1 p1 =>
    have F1 := F.ext dk e1 d1
    tG_of F1 d1 (Post.bind p1 fun w o2 y H2 e2 d2 r2 p2 => hr D H0 U σ H2 ρ o2 x y v w Q (F1.ext d1 e2 d2) d2 (RL_keep F1 d1 e2 r1) r2 p2))
theorem ve_op {op : Operator} {r : R2} {g : Val → Val → R Val} (ho : OpR X (binaryOp op) r)
    (hr : ∀ D H0 U σ H ρ o x y vx vy Q, FR X.K D H0 U σ H ρ → DOk D o H → RL X.K D U H x vx → RL X.K D U H y vy → Post X.K X.mg W D U σ H (RV X.K D U) (g vx vy o) Q → r x y H Q)
    (ha : VL X W a fa) (hb : VL X W b fb) : VE X W (.BinOp a op b pos) (c2 g fa fb) := ve_2 (pe_op ho ha hb) hr
theorem ve_cmp {op : CmpOp} {r : R2} {g : Val → Val → R Val} (ho : OpR X (compareOp op) r) (hm : behindInMarks op b = false)
    (hr : ∀ D H0 U σ H ρ o x y vx vy Q, FR X.K D H0 U σ H ρ → DOk D o H → RL X.K D U H x vx → RL X.K D U H y vy → Post X.K X.mg W D U σ H (RV X.K D U) (g vx vy o) Q → r x y H Q)
    (ha : VL X W a fa) (hb : VL X W b fb) : VE X W (.Compare a [op] [b] pos) (c2 g fa fb) := ve_2 (pe_cmpR ho ha hb hm) hr

/-! ## what the operators do -/
theorem RL.tup {x : V} {ds : List Val} (h : RL K D U H x (.tuple ds)) : ∃ p xs, x = .ref p ∧ SqT K H p xs ∧ Reps K D U H xs ds := by
  rcases h with h | ⟨p, xs, es, h1, h2, _⟩
  · cases h with
    | tup h r => exact ⟨_, _, rfl, h, r⟩
  · cases h2
theorem RL.lst {x : V} {ds : List Val} (h : RL K D U H x (.list ds)) : ∃ p xs, x = .ref p ∧ H p = some (.lst xs) ∧ Reps K D U H xs ds := by
  rcases h with h | ⟨p, xs, es, h1, h2, _, h4, h5⟩
  · cases h with
    | lst h r => exact ⟨_, _, rfl, h.2, r⟩
  · cases h2
    exact ⟨p, xs, h1, h4, h5⟩
theorem RL.rep {x : V} {v : Val} (h : RL K D U H x v) (n : ∀ ds, v ≠ .list ds) : Rep K D U H x v := by
  rcases h with h | ⟨p, xs, es, h1, h2, _⟩
  · exact h
  · exact (n _ h2).elim
theorem RL.int {x : V} {i : Int} (h : RL K D U H x (.int i)) : x = .int i := by
  cases h.rep (fun _ => nofun)
  rfl
theorem RL.bl {x : V} {i : Bool} (h : RL K D U H x (.bool i)) : x = .bl i := by
  cases h.rep (fun _ => nofun)
  rfl
theorem RL.str {x : V} {i : Str} (h : RL K D U H x (.str i)) : x = .str i := by
  cases h.rep (fun _ => nofun)
  rfl
/-- a new object is a value -/
theorem new_tup {F0 : FR K D H0 U σ H ρ} {dk : DOk D o H} {p : Addr} {xs : List V} {ds : List Val} (hp : H p = none) (r : Reps K D U H xs ds) :
    Ext D H (upd H p (.tup xs)) ∧ DOk D o (upd H p (.tup xs)) ∧ Rep K D U (upd H p (.tup xs)) (.ref p) (.tuple ds) :=
  ⟨Ext.upd hp, dk.upd hp, .tup (.inl (.inl upd_same)) (r.keep (F0.keep dk (Ext.upd hp)))⟩
theorem new_lst {F0 : FR K D H0 U σ H ρ} {dk : DOk D o H} {p : Addr} {xs : List V} {ds : List Val} (hp : H p = none) (r : Reps K D U H xs ds) :
    Ext D H (upd H p (.lst xs)) ∧ DOk D o (upd H p (.lst xs)) ∧ Rep K D U (upd H p (.lst xs)) (.ref p) (.list ds) :=
  ⟨Ext.upd hp, dk.upd hp, .lst ⟨F0.fresh hp, upd_same⟩ (r.keep (F0.keep dk (Ext.upd hp)))⟩
abbrev LIM : Nat := 1000000
theorem lim_ok {n : Nat} (h : n ≤ LIM) : n ≤ sizeLine := by
  have e : sizeLine = 16777216 := sizeLine_eq
  have : (LIM : Nat) = 1000000 := rfl
  omega
def oAdd : Val → Val → R Val
  | .int i, .int j => pure (.int (i + j))
  | .tuple xs, .tuple ys => if xs.length + ys.length ≤ LIM then pure (.tuple (xs ++ ys)) else R.stk
  | .list xs, .list ys => if xs.length + ys.length ≤ LIM then pure (.list (xs ++ ys)) else R.stk
  | _, _ => R.stk
theorem post_stk {γ α : Type} {Rl : Hp → γ → α → Prop} {Q : γ → Hp → Prop} {C : Prop} (h : Post K mg W D U σ H Rl (R.stk (α := α) o) Q) : C := h.elim
theorem post_if {γ α : Type} {Rl : Hp → γ → α → Prop} {Q : γ → Hp → Prop} {c : Prop} [Decidable c] {m : R α} (h : Post K mg W D U σ H Rl ((if c then m else R.stk) o) Q) : c ∧ Post K mg W D U σ H Rl (m o) Q := by
  by_cases hc : c
  · rw [if_pos hc] at h; exact ⟨hc, h⟩
  · rw [if_neg hc] at h; exact h.elim
theorem ve_add (ha : VL X W a fa) (hb : VL X W b fb) : VE X W (.BinOp a .Add b pos) (c2 oAdd fa fb) := by
  refine ve_op (op_add.or (op_catA.or op_cat)) (fun D H0 U σ H ρ o x y vx vy Q F dk rx ry p => ?_) ha hb
  cases vx with
  | int i =>
    cases vy with
    | int j => exact .inl ⟨i, j, rx.int, ry.int, Post.ret p dk (.int _)⟩
    | _ => exact False.elim p
  | tuple xs =>
    cases vy with
    | tuple ys =>
      obtain ⟨a, vs, rfl, sx, qx⟩ := rx.tup
      obtain ⟨b, ws, rfl, sy, qy⟩ := ry.tup
      obtain ⟨c, p⟩ := post_if p
      have l1 := qx.length
      have l2 := qy.length
      refine .inr (.inl ⟨a, b, vs, ws, rfl, rfl, sx, sy, lim_ok (by omega), fun e => ?_, fun _ e => ?_, fun _ _ q hq => ?_⟩)
      · subst e
        cases qx
        exact Post.ret p dk (.tup sy qy)
      · subst e
        cases qy
        rw [List.append_nil] at p
        exact Post.ret p dk (.tup sx qx)
      · obtain ⟨h1, h2, h3⟩ := new_tup (F0 := F) (dk := dk) hq (qx.append qy)
        exact p _ _ h1 h2 h3
    | _ => exact False.elim p
  | list xs =>
    cases vy with
    | list ys =>
      obtain ⟨a, vs, rfl, sx, qx⟩ := rx.lst
      obtain ⟨b, ws, rfl, sy, qy⟩ := ry.lst
      obtain ⟨c, p⟩ := post_if p
      have l1 := qx.length
      have l2 := qy.length
      refine .inr (.inr ⟨a, b, vs, ws, rfl, rfl, sx, sy, lim_ok (by omega), fun q hq => ?_⟩)
      obtain ⟨h1, h2, h3⟩ := new_lst (F0 := F) (dk := dk) hq (qx.append qy)
      exact p _ _ h1 h2 h3
    | _ => exact False.elim p
  | _ => exact False.elim p

def BIG : Nat := 4096
/-- ints, within a guard -/
def oI (G : Int → Int → Bool) (f : Int → Int → Int) : Val → Val → R Val
  | .int i, .int j => if G i j = true then pure (.int (f i j)) else R.stk
  | _, _ => R.stk
theorem ve_oI {op : Operator} {C : Int → Int → Prop} {f : Int → Int → Int} {G : Int → Int → Bool} (ho : OpR X (binaryOp op) (rI C fun i j => .int (f i j))) (hG : ∀ i j, G i j = true → C i j)
    (ha : VL X W a fa) (hb : VL X W b fb) : VE X W (.BinOp a op b pos) (c2 (oI G f) fa fb) := by
  refine ve_op ho (fun D H0 U σ H ρ o x y vx vy Q F dk rx ry p => ?_) ha hb
  cases vx <;> cases vy <;> try exact False.elim p
  rename_i i j
  obtain ⟨c, p⟩ := post_if p
  exact ⟨i, j, rx.int, ry.int, hG _ _ c, Post.ret p dk (.int _)⟩
def oSub : Val → Val → R Val
  | .int i, .int j => pure (.int (i - j))
  | _, _ => R.stk
theorem ve_sub (ha : VL X W a fa) (hb : VL X W b fb) : VE X W (.BinOp a .Sub b pos) (c2 oSub fa fb) := by
  refine ve_op op_sub (fun D H0 U σ H ρ o x y vx vy Q F dk rx ry p => ?_) ha hb
  cases vx <;> cases vy <;> try exact False.elim p
  exact ⟨_, _, rx.int, ry.int, Post.ret p dk (.int _)⟩
def gMul (i j : Int) : Bool := decide (i.natAbs < 2 ^ BIG ∧ j.natAbs < 2 ^ BIG)
/-- a list, a tuple so many times -/
def oMul : Val → Val → R Val
  | .int i, .int j => if gMul i j = true then pure (.int (i * j)) else R.stk
  | .list xs, .int k => if 0 ≤ k ∧ k ≤ 1000 ∧ xs.length ≤ 1000 then pure (.list (List.replicate k.toNat xs).flatten) else R.stk
  | .tuple xs, .int k => if 2 ≤ k ∧ k ≤ 1000 ∧ xs.length ≤ 1000 ∧ xs ≠ [] then pure (.tuple (List.replicate k.toNat xs).flatten) else R.stk
  | _, _ => R.stk
theorem Reps.rep {vs : List V} {ds : List Val} (h : Reps K D U H vs ds) : ∀ k : Nat, Reps K D U H (List.replicate k vs).flatten (List.replicate k ds).flatten
  | 0 => .nil
  | k + 1 => by
    rw [List.replicate_succ, List.replicate_succ, List.flatten_cons, List.flatten_cons]
    exact h.append (Reps.rep h k)
theorem gMul_ok {i j : Int} (h : gMul i j = true) : CMulW i j := by
  obtain ⟨h1, h2⟩ := of_decide_eq_true h
  exact wide_mul h1 h2 (by decide) (by decide) (by decide)
theorem ve_mul (ha : VL X W a fa) (hb : VL X W b fb) : VE X W (.BinOp a .Mult b pos) (c2 oMul fa fb) := by
  refine ve_op (op_mulW.or (op_rep.or op_repT)) (fun D H0 U σ H ρ o x y vx vy Q F dk rx ry p => ?_) ha hb
  cases vx <;> cases vy <;> try exact False.elim p
  · obtain ⟨c, p⟩ := post_if p
    exact .inl ⟨_, _, rx.int, ry.int, gMul_ok c, Post.ret p dk (.int _)⟩
  · rename_i k
    obtain ⟨⟨c1, c2, c3⟩, p⟩ := post_if p
    obtain ⟨q, vs, rfl, sx, qx⟩ := rx.lst
    have l1 := qx.length
    have z : vs.length * k.toNat ≤ 1000 * 1000 := Nat.mul_le_mul (by omega) (by omega)
    refine .inr (.inl ⟨q, k, vs, rfl, ry.int, sx, by omega, by omega, lim_ok z, fun q hq => ?_⟩)
    obtain ⟨h1, h2, h3⟩ := new_lst (F0 := F) (dk := dk) hq (qx.rep k.toNat)
    exact p _ _ h1 h2 h3
  · rename_i k
    obtain ⟨⟨c1, c2, c3, c4⟩, p⟩ := post_if p
    obtain ⟨q, vs, rfl, sx, qx⟩ := rx.tup
    have l1 := qx.length
    refine .inr (.inr ⟨q, k, vs, rfl, ry.int, sx, fun e => c4 ?_, by omega, by omega, by omega, fun q hq => ?_⟩)
    · subst e
      cases qx
      rfl
    obtain ⟨h1, h2, h3⟩ := new_tup (F0 := F) (dk := dk) hq (qx.rep k.toNat)
    exact p _ _ h1 h2 h3
def gDiv (_ j : Int) : Bool := decide (j ≠ 0 ∧ j.natAbs < 2 ^ BIG)
theorem op_fdivS : OpR X (binaryOp .FloorDiv) (rI (fun _ j => j ≠ 0 ∧ j.natAbs < 2 ^ BIG) fun i j => .int (i.fdiv j)) := opI fun _ _ _ _ _ _ _ hc q =>
  floordiv_int hc.1 q (.inl (PyProof.noPylong_of_log2 (Nat.lt_trans (PySem.Flt.log2_lt_of (by decide) hc.2) (by decide))))
theorem ve_fdiv (ha : VL X W a fa) (hb : VL X W b fb) : VE X W (.BinOp a .FloorDiv b pos) (c2 (oI gDiv Int.fdiv) fa fb) := ve_oI op_fdivS (fun _ _ h => of_decide_eq_true h) ha hb
def gMod (_ j : Int) : Bool := decide (j ≠ 0)
theorem ve_mod (ha : VL X W a fa) (hb : VL X W b fb) : VE X W (.BinOp a .Mod b pos) (c2 (oI gMod Int.fmod) fa fb) := ve_oI op_modN (fun _ _ h => of_decide_eq_true h) ha hb
def gPow (i j : Int) : Bool := decide (0 ≤ j ∧ j ≤ 1000 ∧ i.natAbs < 2 ^ 10000)
theorem op_powB : OpR X (binaryOp .Pow) (rI (fun i j => 0 ≤ j ∧ j ≤ 1000 ∧ i.natAbs < 2 ^ 10000) fun i j => .int (i ^ j.toNat)) := opI fun i j _ _ _ _ _ hc q => by
  have hb : Builtin.Int.intBits i ≤ 10000 := intBits_le hc.2.2
  have h1 : (Builtin.Int.intBits i : Int) * j ≤ 10000 * j := Int.mul_le_mul_of_nonneg_right (by omega) hc.1
  exact pow_int hc.1 (by have := hc.2.1; omega) q
theorem ve_pow (ha : VL X W a fa) (hb : VL X W b fb) : VE X W (.BinOp a .Pow b pos) (c2 (oI gPow fun i j => i ^ j.toNat) fa fb) := ve_oI op_powB (fun i j h => of_decide_eq_true h) ha hb
def oNeg : Val → R Val
  | .int i => pure (.int (-i))
  | _ => R.stk
theorem ve_neg (ha : VL X W a fa) : VE X W (.UnaryOp .USub a pos) (c1 oNeg fa) := by
  refine ve_1 (fun ta h => pe_un un_neg h) (fun _ _ _ _ z => z) (fun D H0 U σ H ρ o x vx Q F dk rx p => ?_) ha
  cases vx <;> try exact False.elim p
  exact ⟨_, rx.int, Post.ret p dk (.int _)⟩

/-! ## comparisons -/
mutual
theorem Rep.dp : ∀ {v : V} {d : Val}, Rep K D U H v d → d.canLay0 = true → Dp K H v d
  | _, _, .non, _ => .non
  | _, _, .bl b, _ => .bl b
  | _, _, .int i, _ => .int i
  | _, _, .str x, _ => .str x
  | _, _, .lst h r, c => .lst h.sq (Reps.dp r (by simpa [PyData.canLay0] using c))
  | _, _, .tup h r, c => .tup h (Reps.dp r (by simpa [PyData.canLay0] using c))
  | _, _, .dic _ _, c => by simp [PyData.canLay0] at c
  | _, _, .drw _, c => by simp [PyData.canLay0, drw] at c
  | _, _, .scr _, c => by simp [PyData.canLay0, scrV] at c
theorem Reps.dp : ∀ {vs : List V} {ds : List Val}, Reps K D U H vs ds → PyData.canLayAll0 ds = true → DpAll K H vs ds
  | _, _, .nil, _ => .nil
  | _, _, .cons h r, c => by
    have c' := c
    simp only [PyData.canLayAll0, Bool.and_eq_true] at c'
    exact .cons (Rep.dp h c'.1) (Reps.dp r c'.2)
end
theorem RL.dp {v : V} {d : Val} (h : RL K D U H v d) (c : d.canLay0 = true) : Dp K H v d := by
  rcases h with h | ⟨p, xs, ds, rfl, rfl, h3, h4, h5⟩
  · exact h.dp c
  · exact .lst (.inl (.inl h4)) (h5.dp (by simpa [PyData.canLay0] using c))
def oEq (n : Bool) : Val → Val → R Val := fun x y => if (SeqAt.shaped x && SeqAt.shaped y) = true then pure (.bool (if n then !PyData.eqv x y else PyData.eqv x y)) else R.stk
theorem ve_eq (hu : X.A.units + 64 < cLine) (ha : VL X W a fa) (hb : VL X W b fb) : VE X W (.Compare a [.Eq] [b] pos) (c2 (oEq false) fa fb) := by
  refine ve_cmp (op_eqD hu) (nomark _) (fun D H0 U σ H ρ o x y vx vy Q F dk rx ry p => ?_) ha hb
  obtain ⟨c, p⟩ := post_if p
  obtain ⟨s1, s2⟩ := Bool.and_eq_true_iff.mp c
  exact ⟨vx, vy, rx.dp (SeqAt.canLay_of_shaped s1), ry.dp (SeqAt.canLay_of_shaped s2), s1, s2, Post.ret p dk (.bl _)⟩
theorem ve_ne (hu : X.A.units + 64 < cLine) (ha : VL X W a fa) (hb : VL X W b fb) : VE X W (.Compare a [.NotEq] [b] pos) (c2 (oEq true) fa fb) := by
  refine ve_cmp (op_neD hu) (nomark _) (fun D H0 U σ H ρ o x y vx vy Q F dk rx ry p => ?_) ha hb
  obtain ⟨c, p⟩ := post_if p
  obtain ⟨s1, s2⟩ := Bool.and_eq_true_iff.mp c
  exact ⟨vx, vy, rx.dp (SeqAt.canLay_of_shaped s1), ry.dp (SeqAt.canLay_of_shaped s2), s1, s2, Post.ret p dk (.bl _)⟩
/-- an order of ints -/
def oCmp (f : Int → Int → Bool) : Val → Val → R Val
  | .int i, .int j => pure (.bool (f i j))
  | _, _ => R.stk
theorem ve_ord {op : CmpOp} {f : Int → Int → Bool} (ho : OpR X (compareOp op) (rI0 fun i j => .bl (f i j))) (hm : behindInMarks op b = false) (ha : VL X W a fa) (hb : VL X W b fb) : VE X W (.Compare a [op] [b] pos) (c2 (oCmp f) fa fb) := by
  refine ve_cmp ho hm (fun D H0 U σ H ρ o x y vx vy Q F dk rx ry p => ?_) ha hb
  cases vx <;> cases vy <;> try exact False.elim p
  exact ⟨_, _, rx.int, ry.int, Post.ret p dk (.bl _)⟩
theorem ve_lt (ha : VL X W a fa) (hb : VL X W b fb) : VE X W (.Compare a [.Lt] [b] pos) (c2 (oCmp fun i j => decide (i < j)) fa fb) := ve_ord op_lt (nomark _) ha hb
theorem ve_le (ha : VL X W a fa) (hb : VL X W b fb) : VE X W (.Compare a [.LtE] [b] pos) (c2 (oCmp fun i j => decide (i ≤ j)) fa fb) := ve_ord op_le (nomark _) ha hb
theorem ve_gt (ha : VL X W a fa) (hb : VL X W b fb) : VE X W (.Compare a [.Gt] [b] pos) (c2 (oCmp fun i j => decide (j < i)) fa fb) := ve_ord op_gt (nomark _) ha hb
theorem ve_ge (ha : VL X W a fa) (hb : VL X W b fb) : VE X W (.Compare a [.GtE] [b] pos) (c2 (oCmp fun i j => decide (j ≤ i)) fa fb) := ve_ord op_ge (nomark _) ha hb
def isNon : Val → Bool
  | .none => true
  | _ => false
def oIsN (n : Bool) : Val → R Val := fun x => pure (.bool (if n then !isNon x else isNon x))
theorem rl_non {x : V} {v : Val} (h : RL K D U H x v) : decide (x = V.non) = isNon v := by
  rcases h with h | ⟨p, xs, ds, rfl, rfl, _⟩
  · cases h <;> rfl
  · rfl
theorem ve_isN {j : Nat} {p2 : Pos} (ha : VL X W a fa) : VE X W (.Compare a [.Is] [.Constant .none j p2] pos) (c1 (oIsN false) fa) := by
  refine ve_1 (r := fun x H Q => Q (.bl (decide (x = .non))) H) (fun ta h => pe_cmp (pc_isN h)) (fun _ _ _ _ z => z) (fun D H0 U σ H ρ o x vx Q F dk rx p => ?_) ha
  show Q (.bl (decide (x = .non))) H
  rw [rl_non rx]
  exact Post.ret p dk (.bl _)
theorem ve_notN {j : Nat} {p2 : Pos} (ha : VL X W a fa) : VE X W (.Compare a [.IsNot] [.Constant .none j p2] pos) (c1 (oIsN true) fa) := by
  refine ve_1 (r := fun x H Q => Q (.bl (!decide (x = .non))) H) (fun ta h => pe_cmp (pc_notN h)) (fun _ _ _ _ z => z) (fun D H0 U σ H ρ o x vx Q F dk rx p => ?_) ha
  show Q (.bl (!decide (x = .non))) H
  rw [rl_non rx]
  exact Post.ret p dk (.bl _)
/-! ## tests -/
def truth : Val → R Bool
  | .none => pure false
  | .bool b => pure b
  | .int i => pure (i != 0)
  | .list xs => pure (!xs.isEmpty)
  | .tuple xs => pure (!xs.isEmpty)
  | _ => R.stk
theorem Reps.isEmpty {vs : List V} {ds : List Val} (h : Reps K D U H vs ds) : vs.isEmpty = ds.isEmpty := by cases h <;> rfl
theorem truth_ok {x : V} {v : Val} {Q : Bool → Hp → Prop} (dk : DOk D o H) (h : RL K D U H x v) (p : Post K mg W D U σ H (fun _ a b => a = b) (truth v o) Q) : ∃ k, TruV K x H k ∧ Q k H := by
  cases v with
  | none =>
    cases h.rep (fun _ => nofun)
    exact ⟨_, rfl, Post.ret p dk rfl⟩
  | bool b =>
    obtain rfl := h.bl
    exact ⟨_, rfl, Post.ret p dk rfl⟩
  | int i =>
    obtain rfl := h.int
    exact ⟨_, rfl, Post.ret p dk rfl⟩
  | list xs =>
    obtain ⟨q, vs, rfl, sx, qx⟩ := h.lst
    exact ⟨!vs.isEmpty, .inl ⟨vs, .inl (.inl sx), rfl⟩, by rw [qx.isEmpty]; exact Post.ret p dk rfl⟩
  | tuple xs =>
    obtain ⟨q, vs, rfl, sx, qx⟩ := h.tup
    exact ⟨!vs.isEmpty, .inr (.inl ⟨vs, sx, rfl⟩), by rw [qx.isEmpty]; exact Post.ret p dk rfl⟩
  | str x => exact False.elim p
  | dict x => exact False.elim p
def cT (f : Env → R Val) : Env → R Bool := fun ρ => f ρ >>= truth
/-- a test by its value -/
theorem vt_of (ha : VL X W a fa) (he : ∀ whole, isTrue a X.env whole = (do let v ← whole; standAt a.pos; holding [v] (truthy v))) : VT X W a (cT fa) :=
  ptI (pt_truth ha he) fun σ H Q ⟨D, H0, U, ρ, o, F, dk, p⟩ => tG_of F dk (Post.bind p fun v o1 x H1 e1 d1 r1 p1 => truth_ok d1 r1 p1)
def cNotT (f : Env → R Bool) : Env → R Bool := fun ρ => f ρ >>= fun b => pure (!b)
def cAndT (f g : Env → R Bool) : Env → R Bool := fun ρ => f ρ >>= fun b => if b = true then g ρ else pure false
def cOrT (f g : Env → R Bool) : Env → R Bool := fun ρ => f ρ >>= fun b => if b = true then pure true else g ρ
variable {ga gb : Env → R Bool} {rest : List Expr}
theorem vt_not (ha : VT X W a ga) : VT X W (.UnaryOp .Not a pos) (cNotT ga) :=
  ptI (pt_not ha) fun σ H Q ⟨D, H0, U, ρ, o, F, dk, p⟩ => tG_of F dk (Post.bind p fun v o1 x H1 e1 d1 r1 p1 => Post.ret p1 d1 (by rw [show x = v from r1]))
theorem vt_w (h : VW X W a ga) : VT X W a ga := PW.pt h
theorem vw_and1 (ha : VT X W a ga) : VW X W (.BoolOp .And [a] pos) ga := pw_and1 ha
theorem vw_or1 (ha : VT X W a ga) : VW X W (.BoolOp .Or [a] pos) ga := pw_or1 ha
theorem vw_and (ha : VT X W a ga) (hb : VW X W (.BoolOp .And (b :: rest) pos) gb) : VW X W (.BoolOp .And (a :: b :: rest) pos) (cAndT ga gb) :=
  pwI (pw_and ha hb) fun σ H Q ⟨D, H0, U, ρ, o, F, dk, p⟩ => tG_of F dk (Post.bind p fun v o1 x H1 e1 d1 r1 p1 => by
    obtain rfl : x = v := r1
    cases x with
    | true => exact tG_of (F.ext dk e1 d1) d1 p1
    | false => exact Post.ret p1 d1 rfl)
theorem vw_or (ha : VT X W a ga) (hb : VW X W (.BoolOp .Or (b :: rest) pos) gb) : VW X W (.BoolOp .Or (a :: b :: rest) pos) (cOrT ga gb) :=
  pwI (pw_or ha hb) fun σ H Q ⟨D, H0, U, ρ, o, F, dk, p⟩ => tG_of F dk (Post.bind p fun v o1 x H1 e1 d1 r1 p1 => by
    obtain rfl : x = v := r1
    cases x with
    | true => exact Post.ret p1 d1 rfl
    | false => exact tG_of (F.ext dk e1 d1) d1 p1)
/-! ## and, or, not as values -/
def cAnd (f g : Env → R Val) : Env → R Val := fun ρ => f ρ >>= fun x => truth x >>= fun b => if b = true then g ρ else pure x
def cOr (f g : Env → R Val) : Env → R Val := fun ρ => f ρ >>= fun x => truth x >>= fun b => if b = true then pure x else g ρ
def cNot (f : Env → R Val) : Env → R Val := fun ρ => f ρ >>= fun x => truth x >>= fun b => pure (.bool (!b))
theorem Post.truth {γ α : Type} {x : V} {v : Val} {k : Bool → R α} {Rl : Hp → γ → α → Prop} {Q : γ → Hp → Prop} (dk : DOk D o H) (h : RL K D U H x v) (p : Post K mg W D U σ H Rl ((truth v o).bind k) Q) :
    ∃ b, TruV K x H b ∧ Post K mg W D U σ H Rl (k b o) Q := by
  cases v with
  | none =>
    cases h.rep (fun _ => nofun)
    exact ⟨_, rfl, p⟩
  | bool b =>
    obtain rfl := h.bl
    exact ⟨_, rfl, p⟩
  | int i =>
    obtain rfl := h.int
    exact ⟨_, rfl, p⟩
  | list xs =>
    obtain ⟨q, vs, rfl, sx, qx⟩ := h.lst
    exact ⟨!vs.isEmpty, .inl ⟨vs, .inl (.inl sx), rfl⟩, by rw [qx.isEmpty]; exact p⟩
  | tuple xs =>
    obtain ⟨q, vs, rfl, sx, qx⟩ := h.tup
    exact ⟨!vs.isEmpty, .inr (.inl ⟨vs, sx, rfl⟩), by rw [qx.isEmpty]; exact p⟩
  | str x => exact False.elim p
  | dict x => exact False.elim p
theorem ve_b1 {op} (h : VE X W a fa) : VE X W (.BoolOp op [a] pos) fa := pe_one h
theorem ve_and (ha : VE X W a fa) (hb : VE X W (.BoolOp .And (b :: rest) pos) fb) : VE X W (.BoolOp .And (a :: b :: rest) pos) (cAnd fa fb) :=
  peI (pe_andT ha hb) fun σ H Q ⟨D, H0, U, ρ, o, F, dk, p⟩ => tG_of F dk (Post.bind p fun v o1 x H1 e1 d1 r1 p1 => by
    obtain ⟨k, t, p2⟩ := Post.truth d1 (.inl r1) p1
    refine ⟨k, t, ?_⟩
    cases k with
    | true => exact tG_of (F.ext dk e1 d1) d1 p2
    | false => exact Post.ret p2 d1 r1)
theorem ve_or (ha : VE X W a fa) (hb : VE X W (.BoolOp .Or (b :: rest) pos) fb) : VE X W (.BoolOp .Or (a :: b :: rest) pos) (cOr fa fb) :=
  peI (pe_orT ha hb) fun σ H Q ⟨D, H0, U, ρ, o, F, dk, p⟩ => tG_of F dk (Post.bind p fun v o1 x H1 e1 d1 r1 p1 => by
    obtain ⟨k, t, p2⟩ := Post.truth d1 (.inl r1) p1
    refine ⟨k, t, ?_⟩
    cases k with
    | true => exact Post.ret p2 d1 r1
    | false => exact tG_of (F.ext dk e1 d1) d1 p2)
theorem ve_not (ha : VL X W a fa) : VE X W (.UnaryOp .Not a pos) (cNot fa) :=
  peI (pe_notT ha) fun σ H Q ⟨D, H0, U, ρ, o, F, dk, p⟩ => tG_of F dk (Post.bind p fun v o1 x H1 e1 d1 r1 p1 => by
    obtain ⟨k, t, p2⟩ := Post.truth d1 r1 p1
    exact ⟨k, t, Post.ret p2 d1 (.bl _)⟩)
def cIf (c : Env → R Bool) (f g : Env → R Val) : Env → R Val := fun ρ => c ρ >>= fun b => if b = true then f ρ else g ρ
theorem ve_if {c : Expr} {gc : Env → R Bool} (hc : VT X W c gc) (ha : VE X W a fa) (hb : VE X W b fb) : VE X W (.IfExp c a b pos) (cIf gc fa fb) :=
  peI (pe_ifExp hc ha hb) fun σ H Q ⟨D, H0, U, ρ, o, F, dk, p⟩ => tG_of F dk (Post.bind p fun v o1 x H1 e1 d1 r1 p1 => by
    obtain rfl : x = v := r1
    cases x with
    | true => exact tG_of (F.ext dk e1 d1) d1 p1
    | false => exact tG_of (F.ext dk e1 d1) d1 p1)
end
end BB
end

section
set_option Elab.async false
set_option linter.all false
set_option maxRecDepth 100000
set_option maxHeartbeats 4000000
namespace BB
open PySem PySem.Spec PyProof.Rows L2
section
variable {X : Cx} {W : WX} {pos : Pos} {a b e : Expr} {es : List Expr} {fa fb : Env → R Val}
variable {K : PySem.W.Frag} {mg : Str → Option Value} {D : Dr} {H0 : Hp} {U : Addr → Prop} {σ : St} {H H' : Hp} {ρ : Env} {o o' : Om}
/-! ## arguments, displays -/
def cNil : Env → R (List Val) := fun _ => pure []
def cCons (f : Env → R Val) (g : Env → R (List Val)) : Env → R (List Val) := fun ρ => f ρ >>= fun x => g ρ >>= fun xs => pure (x :: xs)
theorem va_nil : VA X W [] cNil := paI pa_nil fun σ H Q ⟨D, H0, U, ρ, o, F, dk, p⟩ => Post.ret p dk .nil
theorem va_cons {f : Env → R Val} {g : Env → R (List Val)} (ha : VE X W e f) (hr : VA X W es g) (hs : starEach (e :: es) X.env = (false, eval e X.env) :: starEach es X.env := by rfl) : VA X W (e :: es) (cCons f g) :=
  paI (pa_cons ha hr hs) fun σ H Q ⟨D, H0, U, ρ, o, F, dk, p⟩ => tG_of F dk (Post.bind p fun v o1 x H1 e1 d1 r1 p1 =>
    have F1 := F.ext dk e1 d1
    tG_of F1 d1 (Post.bind p1 fun vs o2 xs H2 e2 d2 r2 p2 => Post.ret p2 d2 (.cons (r1.keep (F1.keep d1 e2)) r2)))
/-- arguments that are read -/
abbrev RLs : Rel (List V) (List Val) := fun K D U H v d => Paired (RL K D U H) v d
def VAL (X : Cx) (W : WX) (es : List Expr) (f : Env → R (List Val)) : Prop := PA X es (tG X.K X.mg W RLs f)
theorem RLs_keep (F : FR K D H0 U σ H ρ) (dk : DOk D o H) (e : Ext D H H') : ∀ {vs : List V} {ds : List Val}, Paired (RL K D U H) vs ds → Paired (RL K D U H') vs ds
  | _, _, .nil => .nil
  | _, _, .cons h r => .cons (RL_keep F dk e h) (RLs_keep F dk e r)
theorem val_nil : VAL X W [] cNil := paI pa_nil fun σ H Q ⟨D, H0, U, ρ, o, F, dk, p⟩ => Post.ret p dk .nil
theorem val_cons {f : Env → R Val} {g : Env → R (List Val)} (ha : VL X W e f) (hr : VAL X W es g) (hs : starEach (e :: es) X.env = (false, eval e X.env) :: starEach es X.env := by rfl) : VAL X W (e :: es) (cCons f g) :=
  paI (pa_cons ha hr hs) fun σ H Q ⟨D, H0, U, ρ, o, F, dk, p⟩ => tG_of F dk (Post.bind p fun v o1 x H1 e1 d1 r1 p1 =>
    have F1 := F.ext dk e1 d1
    tG_of F1 d1 (Post.bind p1 fun vs o2 xs H2 e2 d2 r2 p2 => Post.ret p2 d2 (.cons (RL_keep F1 d1 e2 r1) r2)))
def cA (g : List Val → R Val) (f : Env → R (List Val)) : Env → R Val := fun ρ => f ρ >>= g
def oTup (xs : List Val) : R Val := if xs.length ≤ LIM then pure (.tuple xs) else R.stk
def oLst (xs : List Val) : R Val := if xs.length ≤ LIM then pure (.list xs) else R.stk
theorem ve_tup {f : Env → R (List Val)} {k : Nat} (h : VA X W es f) : VE X W (.Tuple es k pos) (cA oTup f) :=
  peI (pe_tup h) fun σ H Q ⟨D, H0, U, ρ, o, F, dk, p⟩ => tG_of F dk (Post.bind p fun vs o1 xs H1 e1 d1 r1 p1 => by
    obtain ⟨c, p1⟩ := post_if p1
    refine ⟨lim_ok (by rw [Reps.length r1]; exact c), fun q hq => ?_⟩
    obtain ⟨h1, h2, h3⟩ := new_tup (F0 := F.ext dk e1 d1) (dk := d1) hq r1
    exact p1 _ _ h1 h2 h3)
theorem ve_lst {f : Env → R (List Val)} (h : VA X W es f) : VE X W (.List es pos) (cA oLst f) :=
  peI (pe_lst h) fun σ H Q ⟨D, H0, U, ρ, o, F, dk, p⟩ => tG_of F dk (Post.bind p fun vs o1 xs H1 e1 d1 r1 p1 => by
    obtain ⟨c, p1⟩ := post_if p1
    refine ⟨lim_ok (by rw [Reps.length r1]; exact c), fun q hq => ?_⟩
    obtain ⟨h1, h2, h3⟩ := new_lst (F0 := F.ext dk e1 d1) (dk := d1) hq r1
    exact p1 _ _ h1 h2 h3)
/-! ## items, slices -/
def oIx : Val → Val → R Val
  | .tuple xs, .int i => match atI xs i with
    | some v => pure v
    | none => R.stk
  | .list xs, .int i => match atI xs i with
    | some v => pure v
    | none => R.stk
  | _, _ => R.stk
theorem Reps.atI {vs : List V} {ds : List Val} {i : Int} {d : Val} (h : Reps K D U H vs ds) (e : L2.atI ds i = some d) : ∃ v, L2.atI vs i = some v ∧ Rep K D U H v d := by
  unfold L2.atI at e ⊢
  rw [h.length]
  cases q : ixN ds.length i with
  | none => rw [q] at e; cases e
  | some j =>
    rw [q] at e
    exact h.get (i := j) e
theorem ve_ix (ha : VL X W a fa) (hb : VL X W b fb) (hs : PlainIx b) : VE X W (.Subscript a b pos) (c2 oIx fa fb) := by
  refine ve_2 (pe_ix (ix_list.or ix_tup) ha hb hs) (fun D H0 U σ H ρ o x y vx vy Q F dk rx ry p => ?_)
  cases vx <;> cases vy <;> try exact False.elim p
  · rename_i xs i
    obtain ⟨q, vs, rfl, sx, qx⟩ := rx.lst
    cases e : L2.atI xs i with
    | none =>
      have p' : Post X.K X.mg W D U σ H (RV X.K D U) ((match L2.atI xs i with | some v => (pure v : R Val) | none => R.stk) o) Q := p
      rw [e] at p'
      exact p'.elim
    | some v =>
      have p' : Post X.K X.mg W D U σ H (RV X.K D U) ((match L2.atI xs i with | some v => (pure v : R Val) | none => R.stk) o) Q := p
      rw [e] at p'
      obtain ⟨u, h1, h2⟩ := qx.atI e
      exact .inl ⟨q, vs, i, u, rfl, ry.int, .inl (.inl sx), h1, Post.ret p' dk h2⟩
  · rename_i xs i
    obtain ⟨q, vs, rfl, sx, qx⟩ := rx.tup
    cases e : L2.atI xs i with
    | none =>
      have p' : Post X.K X.mg W D U σ H (RV X.K D U) ((match L2.atI xs i with | some v => (pure v : R Val) | none => R.stk) o) Q := p
      rw [e] at p'
      exact p'.elim
    | some v =>
      have p' : Post X.K X.mg W D U σ H (RV X.K D U) ((match L2.atI xs i with | some v => (pure v : R Val) | none => R.stk) o) Q := p
      rw [e] at p'
      obtain ⟨u, h1, h2⟩ := qx.atI e
      exact .inr ⟨q, vs, i, u, rfl, ry.int, sx, h1, Post.ret p' dk h2⟩
/-- a slice's part -/
abbrev RO : Rel (Option Int) (Option Int) := fun _ _ _ _ v d => v = d
def VO (X : Cx) (W : WX) (e : Option Expr) (f : Env → R (Option Int)) : Prop := PO X e (tG X.K X.mg W RO f)
theorem poI {e : Option Expr} {t t' : TO} (h : PO X e t) (i : ∀ σ H Q, t' σ H Q → t σ H Q) : PO X e t' := ⟨fun pins s σ H Q I q => h.run pins s σ H Q I (i σ H Q q)⟩
def pNo : Env → R (Option Int) := fun _ => pure none
def asInt : Val → R Int
  | .int i => pure i
  | _ => R.stk
def pSo (f : Env → R Val) : Env → R (Option Int) := fun ρ => f ρ >>= fun x => asInt x >>= fun i => pure (some i)
theorem vo_no : VO X W none pNo := poI po_none fun σ H Q ⟨D, H0, U, ρ, o, F, dk, p⟩ => Post.ret p dk rfl
theorem vo_so (h : VL X W e fa) : VO X W (some e) (pSo fa) := poI (po_some h) fun σ H Q ⟨D, H0, U, ρ, o, F, dk, p⟩ => tG_of F dk (Post.bind p fun v o1 x H1 e1 d1 r1 p1 => by
  cases v with
  | int i => exact ⟨i, r1.int, Post.ret p1 d1 rfl⟩
  | _ => exact False.elim p1)
def cutL {α : Type} (xs : List α) (lo hi : Option Int) : List α := (xs.drop (HT.sIx xs.length 0 lo)).take (HT.sIx xs.length xs.length hi - HT.sIx xs.length 0 lo)
def oSl : Val → Option Int → Option Int → R Val
  | .tuple xs, lo, hi => pure (.tuple (cutL xs lo hi))
  | .list xs, lo, hi => pure (.list (cutL xs lo hi))
  | _, _, _ => R.stk
def cSl (f : Env → R Val) (lo hi : Env → R (Option Int)) : Env → R Val := fun ρ => f ρ >>= fun x => lo ρ >>= fun l => hi ρ >>= fun h => oSl x l h
theorem Reps.cut {vs : List V} {ds : List Val} (h : Reps K D U H vs ds) (lo hi : Option Int) : Reps K D U H (cutV vs lo hi) (cutL ds lo hi) := by
  unfold cutV cutL
  rw [h.length]
  exact (h.drop _).take _
theorem cut_all {α : Type} {xs : List α} {lo hi : Option Int} (h : HT.sIx xs.length 0 lo = 0 ∧ HT.sIx xs.length xs.length hi = xs.length) : cutL xs lo hi = xs := by
  unfold cutL
  rw [h.1, h.2]
  simp
theorem ve_sl {lo hi : Option Expr} {fl fh : Env → R (Option Int)} {p2 : Pos} (ha : VL X W a fa) (hl : VO X W lo fl) (hh : VO X W hi fh) : VE X W (.Subscript a (.Slice lo hi none p2) pos) (cSl fa fl fh) :=
  peI (pe_slice (sl_list.or sl_tupA) ha hl hh) fun σ H Q ⟨D, H0, U, ρ, o, F, dk, p⟩ => tG_of F dk (Post.bind p fun v o1 x H1 e1 d1 r1 p1 =>
    have F1 := F.ext dk e1 d1
    tG_of F1 d1 (Post.bind p1 fun l o2 l' H2 e2 d2 r2 p2 =>
      have F2 := F1.ext d1 e2 d2
      have q2 := RL_keep F1 d1 e2 r1
      tG_of F2 d2 (Post.bind p2 fun h o3 h' H3 e3 d3 r3 p3 => by
        obtain rfl : l' = l := r2
        obtain rfl : h' = h := r3
        have F3 := F2.ext d2 e3 d3
        have q3 := RL_keep F2 d2 e3 q2
        cases v with
        | tuple xs =>
          obtain ⟨q, vs, rfl, sx, qx⟩ := q3.tup
          refine .inr ⟨q, vs, rfl, sx, fun z => ?_, fun z w hw => ?_⟩
          · have e := cut_all (xs := xs) (lo := l') (hi := h') (by rw [← qx.length]; exact z)
            have p4 : Post X.K X.mg W D U σ H3 (RV X.K D U) (R.pure (PyData.tuple (cutL xs l' h')) o3) Q := p3
            rw [e] at p4
            exact Post.ret p4 d3 (.tup sx qx)
          · obtain ⟨h1, h2, h3⟩ := new_tup (F0 := F3) (dk := d3) hw (qx.cut l' h')
            exact p3 _ _ h1 h2 h3
        | list xs =>
          obtain ⟨q, vs, rfl, sx, qx⟩ := q3.lst
          refine .inl ⟨q, vs, rfl, .inl (.inl sx), fun w hw => ?_⟩
          obtain ⟨h1, h2, h3⟩ := new_lst (F0 := F3) (dk := d3) hw (qx.cut l' h')
          exact p3 _ _ h1 h2 h3
        | _ => exact False.elim p3)))
/-! ## chains, in -/
def oChain : Val → Val → (Val → R Val) → R Val := fun _ _ _ => R.stk
def cChain (f g : Int → Int → Bool) (fa fb fc : Env → R Val) : Env → R Val := fun ρ => fa ρ >>= fun x => fb ρ >>= fun y => asInt x >>= fun i => asInt y >>= fun j =>
  if f i j = true then fc ρ >>= fun z => asInt z >>= fun k => pure (.bool (g j k)) else pure (.bool false)
theorem ve_chain {op op' : CmpOp} {f g : Int → Int → Bool} {c : Expr} {fc : Env → R Val} (ho : OpR X (compareOp op) (rI0 fun i j => .bl (f i j))) (ho' : OpR X (compareOp op') (rI0 fun i j => .bl (g i j)))
    (ha : VL X W a fa) (hb : VL X W b fb) (hc : VL X W c fc) (hm : lastMarks [op, op'] [b, c] = false := by with_unfolding_all rfl) : VE X W (.Compare a [op, op'] [b, c] pos) (cChain f g fa fb fc) :=
  peI (pe_chain ho ho' ha hb hc hm) fun σ H Q ⟨D, H0, U, ρ, o, F, dk, p⟩ => tG_of F dk (Post.bind p fun v o1 x H1 e1 d1 r1 p1 =>
    have F1 := F.ext dk e1 d1
    tG_of F1 d1 (Post.bind p1 fun w o2 y H2 e2 d2 r2 p2 => by
      have F2 := F1.ext d1 e2 d2
      have q2 := RL_keep F1 d1 e2 r1
      cases v <;> cases w <;> try exact False.elim p2
      rename_i i j
      have p3 : Post X.K X.mg W D U σ H2 (RV X.K D U) ((if f i j = true then fc ρ >>= fun z => asInt z >>= fun k => pure (.bool (g j k)) else pure (.bool false)) o2) Q := p2
      refine ⟨i, j, q2.int, r2.int, _, rfl, ?_⟩
      cases q : f i j with
      | false =>
        rw [q] at p3
        exact Post.ret p3 d2 (.bl _)
      | true =>
        rw [q] at p3
        refine tG_of F2 d2 (Post.bind p3 fun z o3 z' H3 e3 d3 r3 p4 => ?_)
        cases z <;> try exact False.elim p4
        exact ⟨j, _, r2.int, r3.int, Post.ret p4 d3 (.bl _)⟩))
def isFlat : Val → Bool
  | .none => true
  | .bool _ => true
  | .int _ => true
  | .str _ => true
  | _ => false
def hasIn (x : Val) (xs : List Val) : Bool := xs.any fun y => PyData.eqv y x
def oIn (n : Bool) : Val → Val → R Val
  | x, .tuple xs => if (isFlat x && xs.all isFlat) = true then pure (.bool (if n then !hasIn x xs else hasIn x xs)) else R.stk
  | x, .list xs => if (isFlat x && xs.all isFlat) = true then pure (.bool (if n then !hasIn x xs else hasIn x xs)) else R.stk
  | _, _ => R.stk
theorem rl_flat {x : V} {v : Val} (h : RL K D U H x v) (c : isFlat v = true) : Rep K D U H x v := h.rep fun ds e => by rw [e] at c; cases c
theorem rep_flat {x : V} {v : Val} (h : Rep K D U H x v) (c : isFlat v = true) : flatV x = true := by cases h <;> first | rfl | cases c
theorem eqv_flat {x y : V} {v w : Val} (h : Rep K D U H x v) (q : Rep K D U H y w) (c : isFlat v = true) (d : isFlat w = true) : eqV x y = PyData.eqv v w := by
  cases h <;> cases q <;> first | rfl | cases c | cases d
theorem reps_flat : ∀ {vs : List V} {ds : List Val}, Reps K D U H vs ds → ds.all isFlat = true → vs.all flatV = true
  | _, _, .nil, _ => rfl
  | _, _, .cons h r, c => by
    rw [List.all_cons, Bool.and_eq_true] at c
    rw [List.all_cons, rep_flat h c.1, reps_flat r c.2]
    rfl
theorem reps_in {x : V} {v : Val} (h : Rep K D U H x v) (c : isFlat v = true) : ∀ {vs : List V} {ds : List Val}, Reps K D U H vs ds → ds.all isFlat = true → inV x vs = hasIn v ds
  | _, _, .nil, _ => rfl
  | _, _, .cons q r, d => by
    rw [List.all_cons, Bool.and_eq_true] at d
    have ih := reps_in h c r d.2
    unfold inV hasIn at ih ⊢
    rw [List.any_cons, List.any_cons, ih, eqv_flat q h d.1 c]
theorem in_gen {n : Bool} {x y : V} {v w : Val} {Q : VK} (dk : DOk D o H) (rx : RL K D U H x v) (ry : RL K D U H y w) (p : Post K mg W D U σ H (RV K D U) (oIn n v w o) Q) : rIn K n x y H Q := by
  cases w with
  | tuple xs =>
    obtain ⟨q, vs, rfl, sx, qx⟩ := ry.tup
    have p' : Post K mg W D U σ H (RV K D U) ((if (isFlat v && xs.all isFlat) = true then (pure (.bool (if n then !hasIn v xs else hasIn v xs)) : R Val) else R.stk) o) Q := by cases v <;> exact p
    obtain ⟨c, p'⟩ := post_if p'
    obtain ⟨c1, c2⟩ := Bool.and_eq_true_iff.mp c
    have rx' := rl_flat rx c1
    refine ⟨q, vs, rfl, .inr sx, rep_flat rx' c1, reps_flat qx c2, ?_⟩
    rw [reps_in rx' c1 qx c2]
    exact Post.ret p' dk (.bl _)
  | list xs =>
    obtain ⟨q, vs, rfl, sx, qx⟩ := ry.lst
    have p' : Post K mg W D U σ H (RV K D U) ((if (isFlat v && xs.all isFlat) = true then (pure (.bool (if n then !hasIn v xs else hasIn v xs)) : R Val) else R.stk) o) Q := by cases v <;> exact p
    obtain ⟨c, p'⟩ := post_if p'
    obtain ⟨c1, c2⟩ := Bool.and_eq_true_iff.mp c
    have rx' := rl_flat rx c1
    refine ⟨q, vs, rfl, .inl (.inl (.inl sx)), rep_flat rx' c1, reps_flat qx c2, ?_⟩
    rw [reps_in rx' c1 qx c2]
    exact Post.ret p' dk (.bl _)
  | _ => cases v <;> exact False.elim p
theorem ve_in (hm : behindInMarks .In b = false) (ha : VL X W a fa) (hb : VL X W b fb) : VE X W (.Compare a [.In] [b] pos) (c2 (oIn false) fa fb) :=
  ve_cmp op_in_seq hm (fun D H0 U σ H ρ o x y vx vy Q F dk rx ry p => in_gen dk rx ry p) ha hb
theorem ve_notIn (hm : behindInMarks .NotIn b = false) (ha : VL X W a fa) (hb : VL X W b fb) : VE X W (.Compare a [.NotIn] [b] pos) (c2 (oIn true) fa fb) :=
  ve_cmp op_notIn_seq hm (fun D H0 U σ H ρ o x y vx vy Q F dk rx ry p => in_gen dk rx ry p) ha hb
/-! ## built-ins -/
/-- a call's rule by its values -/
theorem ve_cb {r : List V → Hp → VK → Prop} {g : List Val → R Val} {f : Env → R (List Val)} (hp : PE X e (tCB r (tG X.K X.mg W RLs f)))
    (hr : ∀ D H0 U σ H ρ o vs ds Q, FR X.K D H0 U σ H ρ → DOk D o H → Paired (RL X.K D U H) vs ds → Post X.K X.mg W D U σ H (RV X.K D U) (g ds o) Q → r vs H Q) : VE X W e (cA g f) :=
  peI hp fun σ H Q ⟨D, H0, U, ρ, o, F, dk, p⟩ => tG_of F dk (Post.bind p fun ds o1 vs H1 e1 d1 r1 p1 => hr D H0 U σ H1 ρ o1 vs ds Q (F.ext dk e1 d1) d1 r1 p1)
theorem pr1 {vs : List V} {d : Val} (h : Paired (RL K D U H) vs [d]) : ∃ v, vs = [v] ∧ RL K D U H v d := by
  cases h with
  | cons h r =>
    cases r
    exact ⟨_, rfl, h⟩
theorem pr2 {vs : List V} {d e : Val} (h : Paired (RL K D U H) vs [d, e]) : ∃ v w, vs = [v, w] ∧ RL K D U H v d ∧ RL K D U H w e := by
  cases h with
  | cons h r =>
    obtain ⟨w, rfl, q⟩ := pr1 r
    exact ⟨_, w, rfl, h, q⟩
/-- one argument -/
def on1 (g : Val → R Val) : List Val → R Val
  | [x] => g x
  | _ => R.stk
def on2 (g : Val → Val → R Val) : List Val → R Val
  | [x, y] => g x y
  | _ => R.stk
theorem on1_ok {g : Val → R Val} {vs : List V} {ds : List Val} {Q : VK} (h : Paired (RL K D U H) vs ds) (p : Post K mg W D U σ H (RV K D U) (on1 g ds o) Q) : ∃ v d, vs = [v] ∧ ds = [d] ∧ RL K D U H v d ∧ Post K mg W D U σ H (RV K D U) (g d o) Q := by
  match ds, h, p with
  | [d], h, p =>
    obtain ⟨v, rfl, h'⟩ := pr1 h
    exact ⟨v, d, rfl, rfl, h', p⟩
  | [], _, p => exact False.elim p
  | _ :: _ :: _, _, p => exact False.elim p
theorem on2_ok {g : Val → Val → R Val} {vs : List V} {ds : List Val} {Q : VK} (h : Paired (RL K D U H) vs ds) (p : Post K mg W D U σ H (RV K D U) (on2 g ds o) Q) : ∃ v w d e, vs = [v, w] ∧ ds = [d, e] ∧ RL K D U H v d ∧ RL K D U H w e ∧ Post K mg W D U σ H (RV K D U) (g d e o) Q := by
  match ds, h, p with
  | [d, e], h, p =>
    obtain ⟨v, w, rfl, h1, h2⟩ := pr2 h
    exact ⟨v, w, d, e, rfl, rfl, h1, h2, p⟩
  | [], _, p => exact False.elim p
  | [_], _, p => exact False.elim p
  | _ :: _ :: _ :: _, _, p => exact False.elim p

def oLen : Val → R Val
  | .tuple xs => pure (.int xs.length)
  | .list xs => pure (.int xs.length)
  | _ => R.stk
theorem ve_len {p : Pos} {f : Env → R (List Val)} (hg : Gl X "len") (hm : X.mg "len" = none) (ha : VAL X W (e :: es) f) (he : starEach (e :: es) X.env = (false, eval e X.env) :: starEach es X.env := by rfl) (hpl : (backTo pos (starEach es X.env)).any (·.1) = false := by rfl) :
    VE X W (.Call (.Name "len" p) (e :: es) [] pos) (cA (on1 oLen) f) :=
  ve_cb (pe_callB call_len_seq hg hm boot_len ha (he := he) (hpl := hpl)) fun D H0 U σ H ρ o vs ds Q F dk r p => by
    obtain ⟨v, d, rfl, rfl, h, p2⟩ := on1_ok r p
    clear p
    have p := p2
    clear p2
    cases d <;> try exact False.elim p
    · obtain ⟨q, vs, rfl, sx, qx⟩ := h.lst
      exact ⟨q, vs, rfl, .inl (.inl (.inl sx)), by rw [qx.length]; exact Post.ret p dk (.int _)⟩
    · obtain ⟨q, vs, rfl, sx, qx⟩ := h.tup
      exact ⟨q, vs, rfl, .inr sx, by rw [qx.length]; exact Post.ret p dk (.int _)⟩
def oTuple : Val → R Val
  | .tuple xs => pure (.tuple xs)
  | .list xs => pure (.tuple xs)
  | _ => R.stk
theorem ve_tuple {p : Pos} {f : Env → R (List Val)} (hg : Gl X "tuple") (hm : X.mg "tuple" = none) (ha : VAL X W (e :: es) f) (he : starEach (e :: es) X.env = (false, eval e X.env) :: starEach es X.env := by rfl) (hpl : (backTo pos (starEach es X.env)).any (·.1) = false := by rfl) :
    VE X W (.Call (.Name "tuple" p) (e :: es) [] pos) (cA (on1 oTuple) f) :=
  ve_cb (pe_callTy call_tuple_of hg hm boot_tuple ha (he := he) (hpl := hpl)) fun D H0 U σ H ρ o vs ds Q F dk r p => by
    obtain ⟨v, d, rfl, rfl, h, p2⟩ := on1_ok r p
    clear p
    have p := p2
    clear p2
    cases d <;> try exact False.elim p
    · obtain ⟨q, vs, rfl, sx, qx⟩ := h.lst
      refine ⟨q, vs, rfl, .inl ⟨.inl (.inl sx), fun l hl => ?_⟩⟩
      obtain ⟨h1, h2, h3⟩ := new_tup (F0 := F) (dk := dk) hl qx
      exact p _ _ h1 h2 h3
    · obtain ⟨q, vs, rfl, sx, qx⟩ := h.tup
      exact ⟨q, vs, rfl, .inr ⟨sx, Post.ret p dk (.tup sx qx)⟩⟩
def oList : Val → R Val
  | .tuple xs => pure (.list xs)
  | .list xs => pure (.list xs)
  | _ => R.stk
theorem ve_list {p : Pos} {f : Env → R (List Val)} (hg : Gl X "list") (hm : X.mg "list" = none) (ha : VAL X W (e :: es) f) (he : starEach (e :: es) X.env = (false, eval e X.env) :: starEach es X.env := by rfl) (hpl : (backTo pos (starEach es X.env)).any (·.1) = false := by rfl) :
    VE X W (.Call (.Name "list" p) (e :: es) [] pos) (cA (on1 oList) f) :=
  ve_cb (pe_callTy call_list_of hg hm boot_list ha (he := he) (hpl := hpl)) fun D H0 U σ H ρ o vs ds Q F dk r p => by
    obtain ⟨v, d, rfl, rfl, h, p2⟩ := on1_ok r p
    clear p
    have p := p2
    clear p2
    cases d <;> try exact False.elim p
    · obtain ⟨q, vs, rfl, sx, qx⟩ := h.lst
      refine ⟨q, vs, rfl, .inl (.inl (.inl sx)), fun l hl => ?_⟩
      obtain ⟨h1, h2, h3⟩ := new_lst (F0 := F) (dk := dk) hl qx
      exact p _ _ h1 h2 h3
    · obtain ⟨q, vs, rfl, sx, qx⟩ := h.tup
      refine ⟨q, vs, rfl, .inr sx, fun l hl => ?_⟩
      obtain ⟨h1, h2, h3⟩ := new_lst (F0 := F) (dk := dk) hl qx
      exact p _ _ h1 h2 h3
def oAbs : Val → R Val
  | .int i => pure (.int (if i < 0 then -i else i))
  | _ => R.stk
theorem ve_abs {p : Pos} {f : Env → R (List Val)} (hg : Gl X "abs") (hm : X.mg "abs" = none) (ha : VAL X W (e :: es) f) (he : starEach (e :: es) X.env = (false, eval e X.env) :: starEach es X.env := by rfl) (hpl : (backTo pos (starEach es X.env)).any (·.1) = false := by rfl) :
    VE X W (.Call (.Name "abs" p) (e :: es) [] pos) (cA (on1 oAbs) f) :=
  ve_cb (pe_callB call_abs hg hm (by decide +kernel) ha (he := he) (hpl := hpl)) fun D H0 U σ H ρ o vs ds Q F dk r p => by
    obtain ⟨v, d, rfl, rfl, h, p2⟩ := on1_ok r p
    clear p
    have p := p2
    clear p2
    cases d <;> try exact False.elim p
    exact ⟨_, by rw [h.int], Post.ret p dk (.int _)⟩
def oInt : Val → R Val
  | .int i => pure (.int i)
  | .bool b => pure (.int (if b then 1 else 0))
  | _ => R.stk
theorem ve_intOf {p : Pos} {f : Env → R (List Val)} (hg : Gl X "int") (hm : X.mg "int" = none) (ha : VAL X W (e :: es) f) (he : starEach (e :: es) X.env = (false, eval e X.env) :: starEach es X.env := by rfl) (hpl : (backTo pos (starEach es X.env)).any (·.1) = false := by rfl) :
    VE X W (.Call (.Name "int" p) (e :: es) [] pos) (cA (on1 oInt) f) :=
  ve_cb (pe_callTy call_int1 hg hm (by decide +kernel) ha (he := he) (hpl := hpl)) fun D H0 U σ H ρ o vs ds Q F dk r p => by
    obtain ⟨v, d, rfl, rfl, h, p2⟩ := on1_ok r p
    clear p
    have p := p2
    clear p2
    cases d <;> try exact False.elim p
    · exact .inr ⟨_, by rw [h.bl], Post.ret p dk (.int _)⟩
    · exact .inl ⟨_, by rw [h.int], Post.ret p dk (.int _)⟩
def oGcd : Val → Val → R Val
  | .int i, .int j => pure (.int ((Nat.gcd i.natAbs j.natAbs : Nat) : Int))
  | _, _ => R.stk
theorem ve_gcd {p : Pos} {f : Env → R (List Val)} (hg : Gl X "gcd") (hm : X.mg "gcd" = some (.builtin "math.gcd")) (ha : VAL X W (e :: es) f) (he : starEach (e :: es) X.env = (false, eval e X.env) :: starEach es X.env := by rfl) (hpl : (backTo pos (starEach es X.env)).any (·.1) = false := by rfl) :
    VE X W (.Call (.Name "gcd" p) (e :: es) [] pos) (cA (on2 oGcd) f) :=
  ve_cb (pe_callBfun cr_gcd hg hm ha (he := he) (hpl := hpl)) fun D H0 U σ H ρ o vs ds Q F dk r p => by
    obtain ⟨v, w, d, e, rfl, rfl, h1, h2, p⟩ := on2_ok r p
    cases d <;> cases e <;> try exact False.elim p
    exact ⟨_, _, by rw [h1.int, h2.int], Post.ret p dk (.int _)⟩
def oMax2 : Val → Val → R Val
  | .int i, .int j => pure (.int (if j > i then j else i))
  | _, _ => R.stk
def oMin2 : Val → Val → R Val
  | .int i, .int j => pure (.int (if j < i then j else i))
  | _, _ => R.stk
theorem ve_max2 {p : Pos} {f : Env → R (List Val)} (hc : X.calm = true) (hg : Gl X "max") (hm : X.mg "max" = none) (ha : VAL X W (e :: es) f) (he : starEach (e :: es) X.env = (false, eval e X.env) :: starEach es X.env := by rfl) (hpl : (backTo pos (starEach es X.env)).any (·.1) = false := by rfl) :
    VE X W (.Call (.Name "max" p) (e :: es) [] pos) (cA (on2 oMax2) f) :=
  ve_cb (pe_callB (call_max2 hc) hg hm (by decide +kernel) ha (he := he) (hpl := hpl)) fun D H0 U σ H ρ o vs ds Q F dk r p => by
    obtain ⟨v, w, d, e, rfl, rfl, h1, h2, p⟩ := on2_ok r p
    cases d <;> cases e <;> try exact False.elim p
    exact ⟨_, _, by rw [h1.int, h2.int], Post.ret p dk (.int _)⟩
theorem ve_min2 {p : Pos} {f : Env → R (List Val)} (hc : X.calm = true) (hg : Gl X "min") (hm : X.mg "min" = none) (ha : VAL X W (e :: es) f) (he : starEach (e :: es) X.env = (false, eval e X.env) :: starEach es X.env := by rfl) (hpl : (backTo pos (starEach es X.env)).any (·.1) = false := by rfl) :
    VE X W (.Call (.Name "min" p) (e :: es) [] pos) (cA (on2 oMin2) f) :=
  ve_cb (pe_callB (call_min2 hc) hg hm (by decide +kernel) ha (he := he) (hpl := hpl)) fun D H0 U σ H ρ o vs ds Q F dk r p => by
    obtain ⟨v, w, d, e, rfl, rfl, h1, h2, p⟩ := on2_ok r p
    cases d <;> cases e <;> try exact False.elim p
    exact ⟨_, _, by rw [h1.int, h2.int], Post.ret p dk (.int _)⟩
/-- all items ints -/
def asInts : List Val → Option (List Int)
  | [] => some []
  | .int i :: r => (asInts r).map (i :: ·)
  | _ => none
theorem asInts_ok : ∀ {ds : List Val} {ns : List Int}, asInts ds = some ns → ds = ns.map PyData.int
  | [], ns, e => by cases e; rfl
  | .int i :: r, ns, e => by
    unfold asInts at e
    cases q : asInts r with
    | none => rw [q] at e; cases e
    | some ms =>
      rw [q] at e
      cases e
      rw [asInts_ok q]; rfl
  | .none :: _, _, e => by cases e
  | .bool _ :: _, _, e => by cases e
  | .str _ :: _, _, e => by cases e
  | .list _ :: _, _, e => by cases e
  | .tuple _ :: _, _, e => by cases e
  | .dict _ :: _, _, e => by cases e
theorem asInts_map (ns : List Int) : asInts (ns.map PyData.int) = some ns := by
  induction ns with
  | nil => rfl
  | cons n r ih => simp [asInts, ih]
def oSum : Val → R Val
  | .list xs => match asInts xs with
    | some ns => pure (.int ns.sum)
    | none => R.stk
  | _ => R.stk
theorem ve_sum {p : Pos} {f : Env → R (List Val)} (hc : X.calm = true) (hg : Gl X "sum") (hm : X.mg "sum" = none) (ha : VAL X W (e :: es) f) (he : starEach (e :: es) X.env = (false, eval e X.env) :: starEach es X.env := by rfl) (hpl : (backTo pos (starEach es X.env)).any (·.1) = false := by rfl) :
    VE X W (.Call (.Name "sum" p) (e :: es) [] pos) (cA (on1 oSum) f) :=
  ve_cb (pe_callB (cr_sum hc) hg hm (by decide +kernel) ha (he := he) (hpl := hpl)) fun D H0 U σ H ρ o vs ds Q F dk r p => by
    obtain ⟨v, d, rfl, rfl, h, p2⟩ := on1_ok r p
    clear p
    have p := p2
    clear p2
    cases d <;> try exact False.elim p
    rename_i xs
    obtain ⟨q, vs, rfl, sx, qx⟩ := h.lst
    have p' : Post X.K X.mg W D U σ H (RV X.K D U) ((match asInts xs with | some ns => (pure (.int ns.sum) : R Val) | none => R.stk) o) Q := p
    cases e : asInts xs with
    | none => rw [e] at p'; exact p'.elim
    | some ns =>
      rw [e] at p'
      have e2 := asInts_ok e
      subst e2
      have e3 := qx.ints
      subst e3
      exact ⟨q, ns, rfl, .inl (.inl sx), Post.ret p' dk (.int _)⟩
/-! ## any, all of flat items -/
def truB : Val → Option Bool
  | .none => some false
  | .bool b => some b
  | .int i => some (i != 0)
  | _ => none
def truBs : List Val → Option (List Bool)
  | [] => some []
  | x :: r => match truB x with
    | some b => (truBs r).map (b :: ·)
    | none => none
/-- the truth of values without the heap -/
def truV : V → Option Bool
  | .non => some false
  | .bl b => some b
  | .int i => some (i != 0)
  | _ => none
def truVs : List V → Option (List Bool)
  | [] => some []
  | x :: r => match truV x with
    | some b => (truVs r).map (b :: ·)
    | none => none
theorem rep_truV {x : V} {v : Val} {k : Bool} (h : Rep K D U H x v) (e : truB v = some k) : truV x = some k := by cases h <;> first | exact e | cases e
theorem reps_truVs : ∀ {vs : List V} {ds : List Val} {ks : List Bool}, Reps K D U H vs ds → truBs ds = some ks → truVs vs = some ks
  | _, _, ks, .nil, e => e
  | v :: vs, d :: ds, ks, .cons h r, e => by
    unfold truBs at e
    cases q : truB d with
    | none => rw [q] at e; cases e
    | some k =>
      rw [q] at e
      unfold truVs
      rw [rep_truV h q]
      cases z : truBs ds with
      | none => rw [z] at e; cases e
      | some l =>
        rw [z] at e
        show (truVs vs).map (k :: ·) = some ks
        rw [reps_truVs r z]
        exact e
theorem truVs_at : ∀ {xs : List V} {ks : List Bool} {us : List Value} {i : Nat} {u : Value}, truVs xs = some ks → Vals xs us → us[i]? = some u → ∃ x, RelV x u ∧ truV x = some (ks.getD i false)
  | [], ks, _, i, u, e, .nil, q => by simp at q
  | x :: xs, ks, u' :: us, i, u, e, .cons r t, q => by
    unfold truVs at e
    cases z : truV x with
    | none => rw [z] at e; cases e
    | some k =>
      rw [z] at e
      cases y : truVs xs with
      | none => rw [y] at e; cases e
      | some l =>
        rw [y] at e
        cases e
        cases i with
        | zero =>
          simp at q
          subst q
          exact ⟨x, r, z⟩
        | succ i => exact truVs_at (i := i) y t (by simpa using q)
theorem truVs_len : ∀ {xs : List V} {ks : List Bool}, truVs xs = some ks → ks.length = xs.length
  | [], ks, e => by cases e; rfl
  | x :: xs, ks, e => by
    unfold truVs at e
    cases z : truV x with
    | none => rw [z] at e; cases e
    | some k =>
      rw [z] at e
      cases y : truVs xs with
      | none => rw [y] at e; cases e
      | some l =>
        rw [y] at e
        cases e
        rw [List.length_cons, List.length_cons, truVs_len y]
theorem truthOf_flat {prog : Program} {w : World} {A : Around} {xs : List V} {ks : List Bool} {its : List Value} (e : truVs xs = some ks) (rv : Vals xs its) : TruthOf prog w A (fun i v => its.toArray[i]? = some v) (fun i => ks.getD i false) := fun i v s Q E hv hq => by
  obtain ⟨x, r, t⟩ := truVs_at (i := i) (u := v) e rv (by simpa using hv)
  have hq' : Q (ks.getD i false) s := hq
  cases x with
  | non =>
    cases r
    have t' : some false = some (ks.getD i false) := t
    rw [← Option.some.inj t'] at hq'
    exact truthy_none hq'
  | bl b =>
    cases r
    have t' : some b = some (ks.getD i false) := t
    rw [← Option.some.inj t'] at hq'
    exact wpAny_truthy_bool hq'
  | int j =>
    obtain ⟨tk, rfl⟩ := r
    have t' : some (j != 0) = some (ks.getD i false) := t
    rw [← Option.some.inj t'] at hq'
    exact PySem.P.truthy_int hq'
  | _ => cases t
def rTru (K : PySem.W.Frag) (g : List Bool → Bool) : List V → Hp → VK → Prop := fun vs H Q => ∃ (a : Addr) (xs : List V) (ks : List Bool), vs = [V.ref a] ∧ (SqL K H a xs ∨ SqT K H a xs) ∧ truVs xs = some ks ∧ Q (.bl (g ks)) H
theorem kept_it {s : Shared} {h' : Heap} {ob : Obj} (hk : ∀ b o, b ∉ [s.heap.objs.size] → (s.heap.push ob).get? b = some o → h'.get? b = some o) : ∀ b o, s.heap.get? b = some o → h'.get? b = some o := fun b o eo =>
  hk b o (fun hmem => absurd (Heap.lt_size eo) (by rw [List.mem_singleton.mp hmem]; exact Nat.lt_irrefl _)) (Heap.get?_push_of_some _ eo)
theorem cr_anyF (hc : X.calm = true) : CallR X (.builtin "any") (rTru X.K fun ks => ks.any id) := by
  intro pins s σ H vs us Q I r ⟨a, xs, ks, e1, hs, ht, q⟩
  subst e1
  rw [Vals.ref1 r]
  rcases hs with hs | hs
  · obtain ⟨its, rv, hl, _⟩ := I.list hs
    refine call_any_walk (iter_any hl.isList fun s₂ e2 st hne => ?_)
    subst e2
    refine ⟨_, _, _, _, _, _, _, rfl, Walks.list (A := X.A.in1) (I.ok.hd hc) _ a hne its.toArray, st, truthOf_flat ht rv, fun h' tk hk => ⟨.bl _, H, I.kept (kept_it hk), ?_, q⟩⟩
    show Value.bool _ = Value.bool (ks.any id)
    rw [← L2.any_range, List.size_toArray, ← rv.length, truVs_len ht]
  · obtain ⟨its, rv, hl, _⟩ := I.tuple hs
    have hlt : a < s.heap.objs.size := by obtain ⟨_, e, _⟩ := hl; exact Heap.lt_size e
    refine call_any_walk (wpAny_pyIter_tuple (show s.heap.IsTuple a its.toArray from hl) ?_)
    refine ⟨_, _, _, _, _, _, _, rfl, Walks.tuple (A := X.A.in1) (I.ok.hd hc) _ a (Nat.ne_of_lt hlt) its.toArray, ⟨⟨_, Heap.get?_push_size _ rfl, rfl, rfl⟩, ?_⟩, truthOf_flat ht rv, fun h' tk hk => ⟨.bl _, H, I.kept (kept_it hk), ?_, q⟩⟩
    · obtain ⟨ob, e, r⟩ := hl
      exact ⟨ob, Heap.get?_push_of_some _ e, r⟩
    show Value.bool _ = Value.bool (ks.any id)
    rw [← L2.any_range, List.size_toArray, ← rv.length, truVs_len ht]
theorem cr_allF (hc : X.calm = true) : CallR X (.builtin "all") (rTru X.K fun ks => ks.all id) := by
  intro pins s σ H vs us Q I r ⟨a, xs, ks, e1, hs, ht, q⟩
  subst e1
  rw [Vals.ref1 r]
  rcases hs with hs | hs
  · obtain ⟨its, rv, hl, _⟩ := I.list hs
    refine call_all_walk (iter_any hl.isList fun s₂ e2 st hne => ?_)
    subst e2
    refine ⟨_, _, _, _, _, _, _, rfl, Walks.list (A := X.A.in1) (I.ok.hd hc) _ a hne its.toArray, st, truthOf_flat ht rv, fun h' tk hk => ⟨.bl _, H, I.kept (kept_it hk), ?_, q⟩⟩
    show Value.bool _ = Value.bool (ks.all id)
    rw [← L2.all_range, List.size_toArray, ← rv.length, truVs_len ht]
  · obtain ⟨its, rv, hl, _⟩ := I.tuple hs
    have hlt : a < s.heap.objs.size := by obtain ⟨_, e, _⟩ := hl; exact Heap.lt_size e
    refine call_all_walk (wpAny_pyIter_tuple (show s.heap.IsTuple a its.toArray from hl) ?_)
    refine ⟨_, _, _, _, _, _, _, rfl, Walks.tuple (A := X.A.in1) (I.ok.hd hc) _ a (Nat.ne_of_lt hlt) its.toArray, ⟨⟨_, Heap.get?_push_size _ rfl, rfl, rfl⟩, ?_⟩, truthOf_flat ht rv, fun h' tk hk => ⟨.bl _, H, I.kept (kept_it hk), ?_, q⟩⟩
    · obtain ⟨ob, e, r⟩ := hl
      exact ⟨ob, Heap.get?_push_of_some _ e, r⟩
    show Value.bool _ = Value.bool (ks.all id)
    rw [← L2.all_range, List.size_toArray, ← rv.length, truVs_len ht]
def oTru (g : List Bool → Bool) : Val → R Val
  | .list xs => match truBs xs with
    | some ks => pure (.bool (g ks))
    | none => R.stk
  | .tuple xs => match truBs xs with
    | some ks => pure (.bool (g ks))
    | none => R.stk
  | _ => R.stk
theorem tru_gen {g : List Bool → Bool} {vs : List V} {ds : List Val} {Q : VK} (dk : DOk D o H) (r : Paired (RL K D U H) vs ds) (p : Post K mg W D U σ H (RV K D U) (on1 (oTru g) ds o) Q) : rTru K g vs H Q := by
  obtain ⟨v, d, rfl, rfl, h, p2⟩ := on1_ok r p
  clear p
  have p := p2
  clear p2
  cases d <;> try exact False.elim p
  all_goals
    rename_i xs
    have p' : Post K mg W D U σ H (RV K D U) ((match truBs xs with | some ks => (pure (.bool (g ks)) : R Val) | none => R.stk) o) Q := p
    cases e : truBs xs with
    | none => rw [e] at p'; exact p'.elim
    | some ks =>
      rw [e] at p'
      first
        | (obtain ⟨q, vs, rfl, sx, qx⟩ := h.lst
           exact ⟨q, vs, ks, rfl, .inl (.inl (.inl sx)), reps_truVs qx e, Post.ret p' dk (.bl _)⟩)
        | (obtain ⟨q, vs, rfl, sx, qx⟩ := h.tup
           exact ⟨q, vs, ks, rfl, .inr sx, reps_truVs qx e, Post.ret p' dk (.bl _)⟩)
theorem ve_any {p : Pos} {f : Env → R (List Val)} (hc : X.calm = true) (hg : Gl X "any") (hm : X.mg "any" = none) (ha : VAL X W (e :: es) f) (he : starEach (e :: es) X.env = (false, eval e X.env) :: starEach es X.env := by rfl) (hpl : (backTo pos (starEach es X.env)).any (·.1) = false := by rfl) :
    VE X W (.Call (.Name "any" p) (e :: es) [] pos) (cA (on1 (oTru fun ks => ks.any id)) f) :=
  ve_cb (pe_callB (cr_anyF hc) hg hm (by decide +kernel) ha (he := he) (hpl := hpl)) fun D H0 U σ H ρ o vs ds Q F dk r p => tru_gen dk r p
theorem ve_all {p : Pos} {f : Env → R (List Val)} (hc : X.calm = true) (hg : Gl X "all") (hm : X.mg "all" = none) (ha : VAL X W (e :: es) f) (he : starEach (e :: es) X.env = (false, eval e X.env) :: starEach es X.env := by rfl) (hpl : (backTo pos (starEach es X.env)).any (·.1) = false := by rfl) :
    VE X W (.Call (.Name "all" p) (e :: es) [] pos) (cA (on1 (oTru fun ks => ks.all id)) f) :=
  ve_cb (pe_callB (cr_allF hc) hg hm (by decide +kernel) ha (he := he) (hpl := hpl)) fun D H0 U σ H ρ o vs ds Q F dk r p => tru_gen dk r p
end
end BB
end

section
set_option Elab.async false
set_option linter.all false
set_option maxRecDepth 100000
set_option maxHeartbeats 4000000
namespace BB
open PySem PySem.Spec PyProof.Rows L2
/-! ## defs: promises where no repr runs around -/
structure FnG (P : Program) (w : World) (K : PySem.W.Frag) (mg : Str → Option Value) (base : Heap) (k : Nat) (f : Addr) (fd : FuncData) (ps : List Str) (sp : Sp) : Prop where
  len : ∀ vs H Q E, sp vs H Q E → vs.length = ps.length
  run : ∀ (A : Around) (out : List PySem.Env) (s : Shared) (H : Hp) (args : Args) (us : List Value) (vs : List V) (Q : VK) (E : XK),
    Room k A → A.guards = some [] → Env0 P w K mg base A out s H → BindsTo s fd args (ps.zip us) → Vals vs us → sp vs H Q E → codeAny (model P w) A (.call (.ref f) args) (CR (L2.CX P w) out P w H s Q E) s
section
variable {P : Program} {w : World} {K : PySem.W.Frag} {mg : Str → Option Value} {base : Heap}
theorem FnOk.toG {k : Nat} {f : Addr} {fd : FuncData} {ps : List Str} {sp : Sp} (F : FnOk P w K mg base (L2.CX P w) k f fd ps sp) : FnG P w K mg base k f fd ps sp :=
  ⟨F.len, fun A out s H args us vs Q E hr _ => F.run A out s H args us vs Q E hr⟩
theorem FnG.mono {j k : Nat} {f : Addr} {fd : FuncData} {ps : List Str} {sp : Sp} (F : FnG P w K mg base j f fd ps sp) (h : j ≤ k) : FnG P w K mg base k f fd ps sp :=
  ⟨F.len, fun A out s H args us vs Q E hr => F.run A out s H args us vs Q E (hr.mono h)⟩
/-- by its body -/
theorem fnG_of {x qual : Str} {pa : Arguments} {body : List Stmt} {sc : Scope} {dvs : List V} {kws : List (Str × V)} {f : Addr} {fd : FuncData} {N ps : List Str} {k : Nat} {sp : Sp}
    (F : FunD K x qual pa body sc dvs kws f fd) (S : FnScope N ps sc) (len : ∀ vs H Q E, sp vs H Q E → vs.length = ps.length)
    (hb : ∀ (cv : Value) (A : Around) (out : List PySem.Env) (s : Shared) (H : Hp) (vs : List V) (Q : VK) (E : XK), Room k (A.deeper (envOfC qual sc s.heap.objs.size f cv)) → A.guards = some [] → sp vs H Q E →
      ∃ t, PSs (cxOf (L2.CX P w) P w K mg base N qual sc f cv A out s H E) body t ∧ t { nx := fun _ H' => Q .non H', rt := Q } (start N vs) H) : FnG P w K mg base (k + 1) f fd ps sp := by
  obtain ⟨oc, od, dV, kV, doc, pm, an, cv, ct, sl, rfl, lk, code, _⟩ := F.ex
  refine ⟨len, fun A out s H args us vs Q E room guards e0 binds rel want => ?_⟩
  have inK : K.In s.heap := e0.mod.kin.keeps fun b o e => (e0.bs b o e).left
  refine codeAny_call_function room.depth (inK _ _ lk) rfl S.co S.gen rfl (PySem.W.codeRec_of inK code) (binds _ _ _ _ (wpAny_newFunctionEnv_cells S.kind (fun y hy => ?_) fun env he s1 x => ?_))
  · obtain ⟨n, v⟩ := y
    exact (S.par n (List.of_mem_zip hy).1).imp (fun q => q) fun q => ⟨q, PySem.W.cellsFrom_some _ _ _ (.inl q)⟩
  · subst he
    refine ⟨(e0.mod.nolimit.keeps fun b o e => (e0.bs b o e).left).keeps x.toInCall.keep, codeAny_func ?_⟩
    obtain ⟨t, ht, hq⟩ := hb cv A out s H vs Q E (room.deeper _) guards want
    refine wpAny_mono (ht.run [] s1 (start N vs) H _ (inv_start S room.hd e0 (len _ _ _ _ want) rel x) hq) (fun fl s' hs => ?_) fun _ _ hs => hs
    cases fl with
    | ret u => exact match hs with | ⟨v, _, H', J, rv, q⟩ => ⟨v, H', J.os, J.bare, J.base, J.hok, rv, q⟩
    | next => exact match hs with | ⟨_, H', J, q⟩ => ⟨V.non, H', J.os, J.bare, J.base, J.hok, rfl, q⟩
    | brk => exact match hs with | ⟨_, _, _, q⟩ => q.elim
    | cont => exact match hs with | ⟨_, _, _, q⟩ => q.elim
end
/-! ## the promise of a function of values -/
def domU (H : Hp) (U : Addr → Prop) : Prop := ∀ a, U a → ∃ o, H a = some o ∧ (∀ xs, o ≠ .tup xs) ∧ ∀ ob u, o ≠ .frz ob u
def spV (K : PySem.W.Frag) (mg : Str → Option Value) (n : Nat) (F : List Val → R Val) : Sp := fun vs H Q E => ∃ (D : Dr) (U : Addr → Prop) (o : Om) (ds : List Val),
  ds.length = n ∧ Reps K D U H vs ds ∧ (∀ a, D.has a → U a) ∧ domU H U ∧ DOk D o H ∧ Post K mg (fun cls d _ H' => E cls d H') D U [] H (RV K D U) (F ds o) Q
/-- the module has the def x, by its function of n values -/
structure Has (P : Program) (w : World) (K : PySem.W.Frag) (mg : Str → Option Value) (base : Heap) (k : Nat) (x : Str) (n : Nat) (F : List Val → R Val) : Prop where
  ex : ∃ (f : Addr) (fd : FuncData) (ps : List Str), FnG P w K mg base k f fd ps (spV K mg n F) ∧ mg x = some (.ref f) ∧ PySem.W.keepIn K (.ref f) = true ∧ Binds K fd ps []
section
variable {X : Cx} {W : WX} {pos p : Pos} {e : Expr} {es : List Expr} {f : Env → R (List Val)} {x : Str} {n k : Nat} {F : List Val → R Val}
/-- a guard: so many arguments -/
def ofN (n : Nat) (F : List Val → R Val) : List Val → R Val := fun xs => if xs.length = n then F xs else R.stk
theorem run_has {pins : List (Addr × Obj)} {σ : St} {H : Hp} {s : Shared} {Q : VK} {us : List Value} {vs : List V} {fa : Addr} {fd : FuncData} {ps : List Str} {sp : Sp} (G : FnG X.prog X.w X.K X.mg X.base k fa fd ps sp) (hr : Room k X.A) (hg : X.A.guards = some [])
    (tk : Takes X W) (hb : Binds X.K fd ps []) (I : L2.Inv X pins σ H s) (r : Vals vs us) (h : sp vs H Q (fun cls d H' => W cls d σ H')) : wpAny (model X.prog X.w) X.A (call (.ref fa) us) (EP X pins σ Q) X.xe s := by
  have b := hb s us I.kIn (by rw [List.append_nil, ← r.length]; exact G.len _ _ _ _ h)
  rw [List.append_nil] at b
  refine wpAny_call (codeAny_mono (G.run X.A X.stack s H ⟨us, []⟩ us vs Q _ hr hg I.env0 b r h) fun y s' hq => ?_)
  match y, hq with
  | .error e, hq => exact tk e s' (XE.of_call I (fun _ _ _ z => z) hq)
  | .ok (.ret u), hq => exact I.after hq
  | .ok .next, hq => exact hq.elim
  | .ok .brk, hq => exact hq.elim
  | .ok .cont, hq => exact hq.elim
theorem ve_call (h : Has X.prog X.w X.K X.mg X.base k x n F) (hr : Room k X.A) (hgd : X.A.guards = some []) (tk : Takes X W) (hg : Gl X x) (ha : VA X W (e :: es) f) (hdb : (x == ("__debug__" : Str)) = false := by decide)
    (he : starEach (e :: es) X.env = (false, eval e X.env) :: starEach es X.env := by rfl) (hpl : (backTo pos (starEach es X.env)).any (·.1) = false := by rfl) : VE X W (.Call (.Name x p) (e :: es) [] pos) (cA (ofN n F) f) := by
  obtain ⟨fa, fd, ps, G, hm, hk, hb⟩ := h.ex
  refine ⟨fun pins s σ H Q I ⟨D, H0, U, ρ, o, FF, dk, p⟩ => ?_⟩
  refine wpAny_Call_Name_kw (ld_glob I hg hm (PySem.W.callWith_K (h₀ := X.base) I.ok.mod.kin hk (thn (ha.run pos pins s σ H _ I (tG_of FF dk (Post.bind p fun ds o1 vs H1 e1 d1 r1 p1 => ?_))) fun us s1 ⟨vs, H1, I1, r, q⟩ => ⟨I1.kIn, run_has G hr hgd tk hb I1 r q⟩) he hpl) hdb)
  obtain ⟨c, p1⟩ := post_if p1
  have F1 := FF.ext dk e1 d1
  exact ⟨D, U, o1, ds, c, r1, F1.dU, F1.dom, d1, p1⟩
theorem ve_call0 (h : Has X.prog X.w X.K X.mg X.base k x 0 F) (hr : Room k X.A) (hgd : X.A.guards = some []) (tk : Takes X W) (hg : Gl X x) (hdb : (x == ("__debug__" : Str)) = false := by decide) : VE X W (.Call (.Name x p) [] [] pos) (cA (ofN 0 F) cNil) := by
  obtain ⟨fa, fd, ps, G, hm, hk, hb⟩ := h.ex
  refine ⟨fun pins s σ H Q I ⟨D, H0, U, ρ, o, FF, dk, p⟩ => ?_⟩
  exact wpAny_Call_Name_kw (ld_glob I hg hm (PySem.W.callWith_K0 I.kIn hk (run_has (us := []) (vs := []) G hr hgd tk hb I .nil ⟨D, U, o, [], rfl, .nil, FF.dU, FF.dom, dk, p⟩)) hdb)
/-! ## names of the module -/
theorem ve_glob {v : V} {u : Value} {d : Val} (hg : Gl X x) (hm : X.mg x = some u) (r : RelV v u) (hr : ∀ D U H, Rep X.K D U H v d) (hdb : (x == ("__debug__" : Str)) = false := by decide) : VE X W (.Name x pos) (cK d) :=
  peI (pe_glob hg hm r hdb) fun σ H Q ⟨D, H0, U, ρ, o, F, dk, p⟩ => Post.ret p dk (hr _ _ _)
/-! ## isinstance -/
def tyN : Val → String
  | .none => "NoneType"
  | .bool _ => "bool"
  | .int _ => "int"
  | .str _ => "str"
  | .list _ => "list"
  | .tuple _ => "tuple"
  | .dict _ => "dict"
def isTy (T a : String) : Bool := a == T || (a == "bool" && T == "int")
def mark : Val → Bool
  | .dict (_ :: _) => true
  | _ => false
def oIsi (T : String) : Val → R Val := fun v => if mark v = false then pure (.bool (isTy T (tyN v))) else R.stk
variable {K : PySem.W.Frag} {mg : Str → Option Value} {D : Dr} {H0 : Hp} {U : Addr → Prop} {σ : St} {H H' : Hp} {ρ : Env} {o o' : Om}
theorem tyX_tup {a : Addr} {xs : List V} (h : SqT K H a xs) : TyX K H (.ref a) (.type "tuple") := by
  rcases h with (h | ⟨o, h⟩) | ⟨o, its, n, h1, h2, _⟩
  · exact .base (.tup h)
  · exact .fTuple h
  · exact .kTuple h1 h2
theorem rl_ty {x : V} {v : Val} (dk : DOk D o H) (h : RL K D U H x v) (nm : mark v = false) : TyX K H x (.type (tyN v)) := by
  rcases h with h | ⟨p, xs, ds, rfl, rfl, h3, h4, h5⟩
  · cases h with
    | non => exact .base .non
    | bl b => exact .base (.bl b)
    | int i => exact .base (.int i)
    | str s => exact .base (.str s)
    | lst h r => exact .base (.lst h.2)
    | tup h r => exact tyX_tup h
    | dic n h => exact .base (.dK h)
    | drw e => simp [mark, drw] at nm
    | scr e => simp [mark, scrV] at nm
  · exact .base (.lst h4)
/-- the answers of the built-in classes -/
def TyOk (T : String) : Prop := ∀ a ∈ ["NoneType", "bool", "int", "str", "list", "tuple", "dict"], kitB a T = some (isTy T a)
theorem tyN_mem (v : Val) : tyN v ∈ ["NoneType", "bool", "int", "str", "list", "tuple", "dict"] := by cases v <;> simp [tyN]
theorem pa_two {a b : Expr} {ta tb : TE} (ha : PE X a ta) (hb : PE X b tb) (h1 : starEach [a, b] X.env = (false, eval a X.env) :: starEach [b] X.env := by rfl) (h2 : starEach [b] X.env = (false, eval b X.env) :: starEach [] X.env := by rfl) :
    PA X [a, b] (tCons ta (tCons tb tNil)) := pa_cons ha (pa_cons hb pa_nil h2) h1
theorem ve_isi {a : Expr} {fa : Env → R Val} {T : Str} {Ty : String} {p2 : Pos} (hT : TyOk Ty) (hg : Gl X "isinstance") (hm : X.mg "isinstance" = none) (ht : PE X (.Name T p2) (tC (.ty Ty))) (ha : VL X W a fa)
    (he : starEach [a, .Name T p2] X.env = (false, eval a X.env) :: starEach [.Name T p2] X.env := by rfl) (he2 : starEach [.Name T p2] X.env = (false, eval (.Name T p2) X.env) :: starEach [] X.env := by rfl)
    (hpl : (backTo pos (starEach [.Name T p2] X.env)).any (·.1) = false := by rfl) : VE X W (.Call (.Name "isinstance" p) [a, .Name T p2] [] pos) (c1 (oIsi Ty) fa) := by
  refine peI (pe_callB call_isi hg hm (by decide +kernel) (pa_two ha ht he he2) (he := he) (hpl := hpl)) fun σ H Q ⟨D, H0, U, ρ, o, F, dk, q⟩ => tG_of F dk (Post.bind q fun v o1 x H1 e1 d1 r1 q1 => ?_)
  obtain ⟨nm, q1⟩ := post_if q1
  exact ⟨x, .ty Ty, _, _, _, rfl, .ty Ty, rl_ty d1 r1 nm, kit_ty (hT _ (tyN_mem v)), Post.ret q1 d1 (.bl _)⟩
theorem ty_int : TyOk "int" := by unfold TyOk; decide +kernel
theorem ty_bool : TyOk "bool" := by unfold TyOk; decide +kernel
theorem ty_str : TyOk "str" := by unfold TyOk; decide +kernel
theorem ty_tuple : TyOk "tuple" := by unfold TyOk; decide +kernel
theorem ty_list : TyOk "list" := by unfold TyOk; decide +kernel
theorem ty_dict : TyOk "dict" := by unfold TyOk; decide +kernel
/-! ## repr -/
def showOK (d : Val) : Bool := d.canLay0 && d.showable && decide (d.depth ≤ 40 ∧ d.shown.length ≤ LIM)
def oRepr : Val → R Val := fun d => if showOK d = true then pure (.str d.shown) else R.stk
theorem repr_ok (hu : X.A.units + 64 < cLine) (hgd : X.A.guards = some []) : CallR X (.builtin "repr") (fun xs H Q => ∃ x d, xs = [x] ∧ Dp X.K H x d ∧ showOK d = true ∧ Q (.str d.shown) H) := by
  intro pins s σ H xs us Q I r ⟨x, d, e, hd, hs, q⟩
  subst e
  obtain ⟨u, rfl, ru⟩ := vals1 r
  unfold showOK at hs
  simp only [Bool.and_eq_true, decide_eq_true_eq] at hs
  obtain ⟨⟨c1, c2⟩, c3, c4⟩ := hs
  obtain ⟨as, rd⟩ := Dp.reads I d x u hd ru
  have fin : ∀ (h' : Heap) (t tk : Nat), (∀ b o, s.heap.get? b = some o → h'.get? b = some o) → EP X pins σ Q (.str d.shown t) { s with heap := h', toks := tk } := fun h' t tk hk => ⟨.str _, H, I.kept hk, ⟨_, rfl⟩, q⟩
  have big : ∀ {a : Addr}, Reads s.heap (.ref a) d as → wpAny (model X.prog X.w) X.A (call (.builtin "repr") [.ref a]) (EP X pins σ Q) X.xe s := fun rd =>
    repr_of_reads' rd c2 (PyData.noDict_hsm (PyData.hasDict_of_canLay _ c1)) hgd (by omega) (fun _ _ z => z) fin (lim_ok c4)
  cases d with
  | none => cases rd; exact PySem.P.repr_of_none (fin s.heap _ _ fun _ _ z => z)
  | bool b => cases rd; exact PySem.P.repr_of_bool (fin s.heap _ _ fun _ _ z => z)
  | int i =>
    cases rd
    exact PySem.P.repr_of_int (by simpa [PyData.showable] using c2) (fin s.heap _ _ fun _ _ z => z)
  | str z => cases rd; exact PySem.P.repr_of_str (fin s.heap _ _ fun _ _ z => z) (lim_ok (by simpa [PyData.shown] using c4))
  | list xs => cases rd with | list h1 h2 h3 h4 => exact big (.list h1 h2 h3 h4)
  | tuple xs => cases rd with | tuple h1 h2 h3 h4 => exact big (.tuple h1 h2 h3 h4)
  | dict xs => simp [PyData.canLay0] at c1
theorem ve_repr {f : Env → R (List Val)} (hu : X.A.units + 64 < cLine) (hgd : X.A.guards = some []) (hg : Gl X "repr") (hm : X.mg "repr" = none) (ha : VAL X W (e :: es) f) (he : starEach (e :: es) X.env = (false, eval e X.env) :: starEach es X.env := by rfl)
    (hpl : (backTo pos (starEach es X.env)).any (·.1) = false := by rfl) : VE X W (.Call (.Name "repr" p) (e :: es) [] pos) (cA (on1 oRepr) f) :=
  ve_cb (pe_callB (repr_ok hu hgd) hg hm (by decide +kernel) ha (he := he) (hpl := hpl)) fun D H0 U σ H ρ o vs ds Q F dk r p => by
    obtain ⟨v, d, rfl, rfl, h, p2⟩ := on1_ok r p
    obtain ⟨c, p3⟩ := post_if p2
    have c' := c
    unfold showOK at c'
    simp only [Bool.and_eq_true] at c'
    exact ⟨v, d, rfl, h.dp c'.1.1, c, Post.ret p3 dk (.str _)⟩
/-! ## what is walked -/
/-- a loop's source: so many values, one after another, while the heap keeps what stood; U: what may change -/
structure Src (K : PySem.W.Frag) (D : Dr) (J : It) (G : Hp → Prop) (xs : List Val) : Prop where
  go : ∀ i H, i < xs.length → G H → J.go i H
  stop : ∀ H, G H → J.stop xs.length H
  yld : ∀ i H x H', i < xs.length → G H → J.yld i H x H' → Ext D H H' ∧ (∀ o, DOk D o H → DOk D o H') ∧ ∃ v, xs[i]? = some v ∧ ∀ U, Keep D U U H H' → (∀ p, H p = none → ¬ U p) → Rep K D U H' x v
end
end BB
end

section
set_option Elab.async false
set_option linter.all false
set_option maxRecDepth 100000
set_option maxHeartbeats 4000000
namespace BB
open PySem PySem.Spec PyProof.Rows L2 PySem.Builtin.SmallTypes
/-! ## lists and tuples alike -/
inductive Kd where
  | l | t
def Kd.nm : Kd → String
  | .l => "list_iterator"
  | .t => "tuple_iterator"
def SqAt (h : Heap) (k : Kd) (a : Addr) (its : Array Value) : Prop := match k with
  | .l => h.IsList a its
  | .t => h.IsTuple a its
def ItAt (h : Heap) (k : Kd) (it a : Addr) (i : Nat) : Prop := match k with
  | .l => h.IsListIter it a i
  | .t => h.IsTupleIter it a i
def SqG (K : PySem.W.Frag) (H : Hp) (k : Kd) (a : Addr) (xs : List V) : Prop := match k with
  | .l => SqL K H a xs
  | .t => SqT K H a xs
theorem ItAt.at {h h' : Heap} {k : Kd} {it a : Addr} {i : Nat} (x : ItAt h k it a i) (q : ∀ o, h.get? it = some o → h'.get? it = some o) : ItAt h' k it a i := by
  cases k
  · exact Heap.IsListIter.at (show h.IsListIter it a i from x) q
  · exact Heap.IsTupleIter.at (show h.IsTupleIter it a i from x) q
theorem ItAt.ob {h : Heap} {k : Kd} {it a : Addr} {i : Nat} (x : ItAt h k it a i) : ∃ o, h.get? it = some o ∧ ∀ v, o.data ≠ .cell v := by
  cases k
  · obtain ⟨o, e, _, d⟩ := (show h.IsListIter it a i from x)
    exact ⟨o, e, fun v q => by rw [d] at q; cases q⟩
  · obtain ⟨o, e, _, d⟩ := (show h.IsTupleIter it a i from x)
    exact ⟨o, e, fun v q => by rw [d] at q; cases q⟩
theorem SqAt.at {h h' : Heap} {k : Kd} {a : Addr} {its : Array Value} (x : SqAt h k a its) (q : ∀ o, h.get? a = some o → h'.get? a = some o) : SqAt h' k a its := by
  cases k
  · exact Heap.IsList.at (show h.IsList a its from x) q
  · exact Heap.IsTuple.at (show h.IsTuple a its from x) q
theorem SqAt.ob {h : Heap} {k : Kd} {a : Addr} {its : Array Value} (x : SqAt h k a its) : ∃ o, h.get? a = some o ∧ ∃ n, o.data = .seq its n := by
  cases k
  · obtain ⟨o, e, _, n, d⟩ := (show h.IsList a its from x)
    exact ⟨o, e, n, d⟩
  · obtain ⟨o, e, _, n, d⟩ := (show h.IsTuple a its from x)
    exact ⟨o, e, n, d⟩
theorem ne_it {h : Heap} {k : Kd} {it a b : Addr} {i : Nat} {its : Array Value} (x : ItAt h k it b i) {k2 : Kd} (y : SqAt h k2 a its) : a ≠ it := fun e => by
  subst e
  obtain ⟨o, e1, n, d⟩ := y.ob
  cases k
  · obtain ⟨o', e2, _, d'⟩ := (show h.IsListIter a b i from x)
    rw [e1] at e2; cases e2; rw [d] at d'; cases d'
  · obtain ⟨o', e2, _, d'⟩ := (show h.IsTupleIter a b i from x)
    rw [e1] at e2; cases e2; rw [d] at d'; cases d'
section
variable {prog : Program} {w : World} {A : Around} {E : Value → Shared → Prop} {s : Shared}
theorem drawsK (hh : A.handled = none) (k : Kd) (it a : Addr) (hne : a ≠ it) (items : Array Value) :
    Draws prog w A it [it, a] items.size (fun i v => items[i]? = some v) (fun i h => ItAt h k it a i ∧ SqAt h k a items) := by
  cases k
  · exact Draws.list hh it a hne items
  · exact Draws.tuple hh it a hne items
theorem iterK {k : Kd} {a : Addr} {items : Array Value} {Q : Value → Shared → Prop} (h : SqAt s.heap k a items) (q : Q (.ref s.heap.objs.size) { s with heap := s.heap.push { cls := .type k.nm, data := .fields #[.ref a, .int 0 0] } }) : wpAny (model prog w) A (pyIter (.ref a)) Q E s := by
  cases k
  · exact wpAny_pyIter_list h q
  · exact wpAny_pyIter_tuple h q
theorem ItAt.new {k : Kd} {a : Addr} (h : Heap) : ItAt (h.push { cls := .type k.nm, data := .fields #[.ref a, .int 0 0] }) k h.objs.size a 0 := by
  cases k
  · exact ⟨_, Heap.get?_push_size _ rfl, rfl, rfl⟩
  · exact ⟨_, Heap.get?_push_size _ rfl, rfl, rfl⟩
/-! ### zip made -/
abbrev zH1 (h : Heap) (k : Kd) (a : Addr) : Heap := h.push { cls := .type k.nm, data := .fields #[.ref a, .int 0 0] }
abbrev zH3 (h : Heap) (k k2 : Kd) (a b : Addr) : Heap := (zH1 (zH1 h k a) k2 b).push { cls := .type "tuple", data := .seq #[.ref h.objs.size, .ref (zH1 h k a).objs.size] }
abbrev zH5 (h : Heap) (k k2 : Kd) (a b : Addr) : Heap := ((zH3 h k k2 a b).push { cls := .type "tuple", data := .seq #[.none, .none] }).push
  { cls := .type "zip", data := .fields #[.none, .bool false, .bool false, .ref (zH1 (zH1 h k a) k2 b).objs.size, .ref (zH3 h k k2 a b).objs.size] }
theorem zip_meets (k k2 : Kd) (a b : Addr) (xs ys : Array Value) : Meets (Builtin.«zip.__new__» ⟨[.type "zip", .ref a, .ref b], []⟩) (fun _ R s => SqAt s.heap k a xs ∧ SqAt s.heap k2 b ys ∧
    R (.ok (.ret (.ref ((zH3 s.heap k k2 a b).push { cls := .type "tuple", data := .seq #[.none, .none] }).objs.size))) { s with heap := zH5 s.heap k k2 a b }) :=
  .of_wp fun prog w A R s ⟨h1, h2, h⟩ => by
    obtain ⟨hp, g, d, tk, os⟩ := s
    have z := sub_zip
    have q1 : SqAt (Shared.heap ⟨hp, g, d, tk, os⟩) k a xs := h1
    have q2 : SqAt (Shared.heap ⟨zH1 hp k a, g, d, tk, os⟩) k2 b ys := h2.at fun o e => Heap.get?_push_of_some _ e
    wp_walk using iterK q1, iterK q2
    exact ⟨_, rfl, h⟩
theorem zip_made {k k2 : Kd} {a b : Addr} {xs ys : Array Value} {Q : Value → Shared → Prop} (h1 : SqAt s.heap k a xs) (h2 : SqAt s.heap k2 b ys)
    (h : ∀ h', IsZip h' (s.heap.objs.size + 4) (s.heap.objs.size + 2) (s.heap.objs.size + 3) .none → IsPair h' (s.heap.objs.size + 2) (.ref s.heap.objs.size) (.ref (s.heap.objs.size + 1)) → IsPair h' (s.heap.objs.size + 3) .none .none →
      ItAt h' k s.heap.objs.size a 0 → ItAt h' k2 (s.heap.objs.size + 1) b 0 → h'.objs.size = s.heap.objs.size + 5 → (∀ c o, s.heap.get? c = some o → h'.get? c = some o) → Q (.ref (s.heap.objs.size + 4)) { s with heap := h' }) :
    wpAny (model prog w) A (call (.type "zip") [.ref a, .ref b]) Q E s := by
  refine callType_new F.called_zip (by decide) (F.typeCall_zip_2 _ _) (F.newCall_zip_2 _ _) (fun obj => F.args_object_init_3 obj _ _) F.entry_zip_new (zip_meets k k2 a b xs ys) ⟨h1, h2, ?_⟩
  have e1 : (zH1 s.heap k a).objs.size = s.heap.objs.size + 1 := Heap.size_push ..
  have e2 : (zH1 (zH1 s.heap k a) k2 b).objs.size = s.heap.objs.size + 2 := by rw [Heap.size_push, e1]
  have e3 : (zH3 s.heap k k2 a b).objs.size = s.heap.objs.size + 3 := by rw [Heap.size_push, e2]
  have e4 : ((zH3 s.heap k k2 a b).push { cls := .type "tuple", data := .seq #[.none, .none] }).objs.size = s.heap.objs.size + 4 := by rw [Heap.size_push, e3]
  have up := fun (h : Heap) (o : Obj) (b : Addr) (ob : Obj) (e : h.get? b = some ob) => Heap.get?_push_of_some (h := h) o e
  have g5 : (zH5 s.heap k k2 a b).get? (s.heap.objs.size + 4) = some { cls := .type "zip", data := .fields #[.none, .bool false, .bool false, .ref (zH1 (zH1 s.heap k a) k2 b).objs.size, .ref (zH3 s.heap k k2 a b).objs.size] } := by rw [← e4]; exact Heap.get?_push_size _ rfl
  have g4 : (zH5 s.heap k k2 a b).get? (s.heap.objs.size + 3) = some { cls := .type "tuple", data := .seq #[.none, .none] } := by rw [← e3]; exact up _ _ _ _ (Heap.get?_push_size _ rfl)
  have g3 : (zH5 s.heap k k2 a b).get? (s.heap.objs.size + 2) = some { cls := .type "tuple", data := .seq #[.ref s.heap.objs.size, .ref (zH1 s.heap k a).objs.size] } := by rw [← e2]; exact up _ _ _ _ (up _ _ _ _ (Heap.get?_push_size _ rfl))
  rw [e2, e3] at g5
  rw [e1] at g3
  have i2 : ItAt (zH5 s.heap k k2 a b) k2 (s.heap.objs.size + 1) b 0 := by
    rw [← e1]
    exact (ItAt.new (k := k2) (a := b) (zH1 s.heap k a)).at fun o e => up _ _ _ _ (up _ _ _ _ (up _ _ _ _ e))
  have i1 : ItAt (zH5 s.heap k k2 a b) k s.heap.objs.size a 0 := (ItAt.new (k := k) (a := a) s.heap).at fun o e => up _ _ _ _ (up _ _ _ _ (up _ _ _ _ (up _ _ _ _ e)))
  show _ ∧ _
  rw [e4]
  exact ⟨⟨_, g5, rfl⟩, h _ g5 g3 g4 i1 i2 (by rw [Heap.size_push, e4]) fun c o x => up _ _ _ _ (up _ _ _ _ (up _ _ _ _ (up _ _ _ _ (up _ _ _ _ x))))⟩
/-! ### a zip whose last tuple is held -/
section
variable {z TI TO i1 i2 T : Addr} {fp1 fp2 : List Addr} {n1 n2 i : Nat} {P1 P2 : Nat → Value → Prop} {St1 St2 : Nat → Heap → Prop} {f : Bool} {oT : Obj}
theorem zipH_next {Q : Value → Shared → Prop} (S : ZipSep2 z TI TO i1 i2 fp1 fp2) (D1 : Draws prog w A i1 fp1 n1 P1 St1) (D2 : Draws prog w A i2 fp2 n2 P2 St2)
    (hz : IsZipHeld s.heap z TI TO T f) (hT : s.heap.get? T = some oT) (hTI : IsPair s.heap TI (.ref i1) (.ref i2)) (st1 : St1 i s.heap) (st2 : St2 i s.heap) (l1 : i < n1) (l2 : i < n2)
    (hQ : ∀ x y h' tk, P1 i x → P2 i y → IsZipHeld h' z TI TO T true → St1 (i + 1) h' → St2 (i + 1) h' → IsPair h' s.heap.objs.size x y → h'.objs.size = s.heap.objs.size + 1 →
      (∀ c o, c ≠ z → c ≠ i1 → c ≠ i2 → s.heap.get? c = some o → h'.get? c = some o) → Q (.ref s.heap.objs.size) { s with heap := h', toks := tk }) :
    wpAny (model prog w) A (Builtin.«zip.__next__» ⟨[.ref z], []⟩) (fun fin s' => ∃ v, fin = .done (.ret v) ∧ Q v s') E s := by
  obtain ⟨hp, g, d, tk0, os⟩ := s
  show wpAny _ _ (field (.ref z) 2 >>= fun _ => _) _ _ _
  refine wpAny_bind (wpAny_field hz rfl (x := .bool false) rfl ?_)
  show wpAny _ _ (field (.ref z) 3 >>= fun _ => _) _ _ _
  refine wpAny_bind (wpAny_field hz rfl (x := .ref TI) rfl (wpAny_bind (wpAny_seqItems hTI rfl ?_)))
  show wpAny _ _ (ownedTupleIsFree (.ref z) >>= fun _ => _) _ _ _
  refine wpAny_bind (wpAny_tupleHeld_zip hz hT fun h₁ hz₁ s₁ => ?_)
  simp only [Bool.false_eq_true, if_false]
  rw [← Array.forIn_toList]
  simp only [List.forIn_cons, List.forIn_nil]
  refine wpAny_bind (wpAny_bind (wpAny_bind (wpAny_holding ?_)))
  show wpAny _ _ (nextOf (.ref i1) >>= fun _ => _) _ _ _
  refine wpAny_bind (D1.item i ⟨h₁, g, d, tk0, os⟩ _ _ l1 (D1.over st1 s₁ S.zf1) fun x h₂ tk1 px st1' s₂ => wpAny_pure (wpAny_pure ?_))
  replace s₂ : Heap.SameBut i1 h₁ h₂ := s₂
  refine wpAny_bind (wpAny_bind (wpAny_holding ?_))
  show wpAny _ _ (nextOf (.ref i2) >>= fun _ => _) _ _ _
  refine wpAny_bind (D2.item i ⟨h₂, g, d, tk1, os⟩ _ _ l2 (D2.over (D2.over st2 s₁ S.zf2) s₂ S.sep1_2) fun y h₃ tk2 py st2' s₃ => wpAny_pure (wpAny_pure (wpAny_pure ?_)))
  replace s₃ : Heap.SameBut i2 h₂ h₃ := s₃
  show wpAny _ _ (newTuple [x, y] >>= fun _ => _) _ _ _
  have esz : h₃.objs.size = hp.objs.size := by rw [s₃.1, s₂.1, s₁.1]
  have keep : ∀ c o, c ≠ z → c ≠ i1 → c ≠ i2 → hp.get? c = some o → h₃.get? c = some o := fun c o a b c' e => s₃.extBut _ _ c' (s₂.extBut _ _ b (s₁.extBut _ _ a e))
  have hz₃ : IsZipHeld h₃ z TI TO T true := s₃.extBut _ _ S.zi2 (s₂.extBut _ _ S.zi1 hz₁)
  have pu := fun (b : Addr) (o : Obj) (e : h₃.get? b = some o) => Heap.get?_push_of_some (h := h₃) { cls := .type "tuple", data := .seq #[x, y] } e
  have new : IsPair (h₃.push { cls := .type "tuple", data := .seq #[x, y] }) h₃.objs.size x y := Heap.get?_push_size _ rfl
  have fin := hQ x y (h₃.push { cls := .type "tuple", data := .seq #[x, y] }) tk2 px py (pu _ _ hz₃) (D1.frame _ _ _ (D1.over st1' s₃ S.sep2_1) fun b _ o e => pu b o e) (D2.frame _ _ _ st2' fun b _ o e => pu b o e)
    (by rw [esz] at new; exact new) (by rw [Heap.size_push, esz]) fun c o a b c' e => pu c o (keep c o a b c' e)
  refine wpAny_bind (wpAny_newTuple (wpAny_pure ⟨_, rfl, ?_⟩))
  show Q (.ref h₃.objs.size) _
  rw [esz]
  exact fin
theorem zipH_over {Q : Fin → Shared → Prop} (S : ZipSep2 z TI TO i1 i2 fp1 fp2) (D1 : Draws prog w A i1 fp1 n1 P1 St1) (D2 : Draws prog w A i2 fp2 n2 P2 St2)
    (hz : IsZipHeld s.heap z TI TO T f) (hT : s.heap.get? T = some oT) (hTI : IsPair s.heap TI (.ref i1) (.ref i2)) (st1 : St1 i s.heap) (st2 : St2 i s.heap) (l1 : i ≤ n1) (l2 : i ≤ n2) (hend : i = n1 ∨ i = n2)
    (hE : ∀ h' tk e, (∀ c o, c ≠ z → c ≠ i1 → c ≠ i2 → s.heap.get? c = some o → h'.get? c = some o) → (∃ o, h'.get? e = some o ∧ o.cls = .type "StopIteration") → E (.ref e) { s with heap := h', toks := tk }) :
    wpAny (model prog w) A (Builtin.«zip.__next__» ⟨[.ref z], []⟩) Q E s := by
  obtain ⟨hp, g, d, tk0, os⟩ := s
  show wpAny _ _ (field (.ref z) 2 >>= fun _ => _) _ _ _
  refine wpAny_bind (wpAny_field hz rfl (x := .bool false) rfl ?_)
  show wpAny _ _ (field (.ref z) 3 >>= fun _ => _) _ _ _
  refine wpAny_bind (wpAny_field hz rfl (x := .ref TI) rfl (wpAny_bind (wpAny_seqItems hTI rfl ?_)))
  show wpAny _ _ (ownedTupleIsFree (.ref z) >>= fun _ => _) _ _ _
  refine wpAny_bind (wpAny_tupleHeld_zip hz hT fun h₁ hz₁ s₁ => ?_)
  simp only [Bool.false_eq_true, if_false]
  rw [← Array.forIn_toList]
  simp only [List.forIn_cons, List.forIn_nil]
  refine wpAny_bind (wpAny_bind (wpAny_bind (wpAny_holding ?_)))
  show wpAny _ _ (nextOf (.ref i1) >>= fun _ => _) _ _ _
  by_cases e1 : i = n1
  · refine wpAny_bind (D1.done ⟨h₁, g, d, tk0, os⟩ _ _ (by rw [← e1]; exact D1.over st1 s₁ S.zf1) fun h₂ e x he => ?_)
    exact hE h₂ tk0 e (fun c o a b _ q => x _ _ b (s₁.extBut _ _ a q)) he
  · have e2 : i = n2 := hend.resolve_left e1
    refine wpAny_bind (D1.item i ⟨h₁, g, d, tk0, os⟩ _ _ (by omega) (D1.over st1 s₁ S.zf1) fun x h₂ tk1 px st1' s₂ => wpAny_pure (wpAny_pure ?_))
    replace s₂ : Heap.SameBut i1 h₁ h₂ := s₂
    refine wpAny_bind (wpAny_bind (wpAny_holding ?_))
    show wpAny _ _ (nextOf (.ref i2) >>= fun _ => _) _ _ _
    refine wpAny_bind (D2.done ⟨h₂, g, d, tk1, os⟩ _ _ (by rw [← e2]; exact D2.over (D2.over st2 s₁ S.zf2) s₂ S.sep1_2) fun h₃ e x he => ?_)
    exact hE h₃ tk1 e (fun c o a b c' q => x _ _ c' (s₂.extBut _ _ b (s₁.extBut _ _ a q))) he
theorem pyNext_zipH {Q : Option Value → Shared → Prop} (S : ZipSep2 z TI TO i1 i2 fp1 fp2) (D1 : Draws prog w A.in1 i1 fp1 n1 P1 St1) (D2 : Draws prog w A.in1 i2 fp2 n2 P2 St2)
    (hz : IsZipHeld s.heap z TI TO T f) (hT : s.heap.get? T = some oT) (hTI : IsPair s.heap TI (.ref i1) (.ref i2)) (st1 : St1 i s.heap) (st2 : St2 i s.heap) (l1 : i < n1) (l2 : i < n2)
    (hQ : ∀ x y h' tk, P1 i x → P2 i y → IsZipHeld h' z TI TO T true → St1 (i + 1) h' → St2 (i + 1) h' → IsPair h' s.heap.objs.size x y → h'.objs.size = s.heap.objs.size + 1 →
      (∀ c o, c ≠ z → c ≠ i1 → c ≠ i2 → s.heap.get? c = some o → h'.get? c = some o) → Q (some (.ref s.heap.objs.size)) { s with heap := h', toks := tk }) : wpAny (model prog w) A (pyNext (.ref z)) Q E s := by
  have ty : s.TypeIs (.ref z) "zip" := ⟨_, hz, rfl⟩
  unfold pyNext
  exact wpAny_bind (wpAny_attempt (wpAny_callSpecial?_slot (name := Str.ofString "__next__") ty F.slot_zip_next (wpAny_call_entry F.slot_zip_next ty F.entry_zip_next
    (zipH_next S D1 D2 hz hT hTI st1 st2 l1 l2 fun x y h' tk a1 a2 a3 a4 a5 a6 a7 a8 => wpAny_pure (hQ x y h' tk a1 a2 a3 a4 a5 a6 a7 a8)) (F.args_zip_next_1 _))))
theorem pyNext_zipHEnd {Q : Option Value → Shared → Prop} (S : ZipSep2 z TI TO i1 i2 fp1 fp2) (D1 : Draws prog w A.in1 i1 fp1 n1 P1 St1) (D2 : Draws prog w A.in1 i2 fp2 n2 P2 St2)
    (hz : IsZipHeld s.heap z TI TO T f) (hT : s.heap.get? T = some oT) (hTI : IsPair s.heap TI (.ref i1) (.ref i2)) (st1 : St1 i s.heap) (st2 : St2 i s.heap) (l1 : i ≤ n1) (l2 : i ≤ n2) (hend : i = n1 ∨ i = n2)
    (hQ : ∀ h' tk, (∀ c o, c ≠ z → c ≠ i1 → c ≠ i2 → s.heap.get? c = some o → h'.get? c = some o) → Q none { s with heap := h', toks := tk }) : wpAny (model prog w) A (pyNext (.ref z)) Q E s := by
  have ty : s.TypeIs (.ref z) "zip" := ⟨_, hz, rfl⟩
  unfold pyNext
  refine wpAny_bind (wpAny_attempt (wpAny_callSpecial?_slot (name := Str.ofString "__next__") ty F.slot_zip_next (wpAny_call_entry F.slot_zip_next ty F.entry_zip_next
    (zipH_over S D1 D2 hz hT hTI st1 st2 l1 l2 hend fun h' tk e hk ⟨o, ho, hc⟩ => ?_) (F.args_zip_next_1 _))))
  exact wpAny_bind (wpAny_isInstance (T := "StopIteration") (b := true) ⟨o, ho, hc⟩ isSubtype_stop (wpAny_pure (hQ _ _ hk)))
end
end
end BB
end

section
set_option Elab.async false
set_option linter.all false
set_option maxRecDepth 100000
set_option maxHeartbeats 4000000
namespace BB
open PySem PySem.Spec PyProof.Rows L2
section
variable {X : Cx} {pins : List (Addr × Obj)} {σ : St} {H : Hp} {s : Shared}
theorem inv_sq {k : Kd} {a : Addr} {xs : List V} (I : L2.Inv X pins σ H s) (h : SqG X.K H k a xs) : ∃ its : List Value, Vals xs its ∧ SqAt s.heap k a its.toArray ∧ xs.length ≤ sizeLine := by
  cases k
  · obtain ⟨its, r, p, z⟩ := I.list h
    exact ⟨its, r, p.isList, z⟩
  · obtain ⟨its, r, p, z⟩ := I.tuple h
    exact ⟨its, r, p, z⟩
theorem inv_sq_inj {k : Kd} {a : Addr} {xs ys : List V} (I : L2.Inv X pins σ H s) (h : SqG X.K H k a xs) (h' : SqG X.K H k a ys) : xs = ys := by
  cases k
  · exact I.list_inj h h'
  · exact I.tuple_inj h h'
end
/-- pairs of the items of two sequences -/
def ItZ (K : PySem.W.Frag) (k k2 : Kd) (a b : Addr) : It where
  go := fun i H => ∃ (xs ys : List V) (x y : V), SqG K H k a xs ∧ SqG K H k2 b ys ∧ xs[i]? = some x ∧ ys[i]? = some y
  yld := fun i H v H' => ∃ T x y, v = .ref T ∧ H T = none ∧ H' = upd H T (.tup [x, y]) ∧ (∀ xs, SqG K H k a xs → xs[i]? = some x) ∧ ∀ ys, SqG K H k2 b ys → ys[i]? = some y
  stop := fun i H => ∃ xs ys : List V, SqG K H k a xs ∧ SqG K H k2 b ys ∧ i = min xs.length ys.length
/-- the items with their places -/
def ItE (K : PySem.W.Frag) (k : Kd) (a : Addr) : It where
  go := fun i H => ∃ (xs : List V) (x : V), SqG K H k a xs ∧ xs[i]? = some x
  yld := fun i H v H' => ∃ T x, v = .ref T ∧ H T = none ∧ H' = upd H T (.tup [.int (i : Nat), x]) ∧ ∀ xs, SqG K H k a xs → xs[i]? = some x
  stop := fun i H => ∃ xs : List V, SqG K H k a xs ∧ i = xs.length
theorem zsepN (n a b : Nat) (ha : a < n) (hb : b < n) : n + 2 ≠ n + 4 ∧ n + 3 ≠ n + 4 ∧ n + 2 ≠ n + 3 ∧ n + 2 ≠ n ∧ n ∈ [n, a] ∧ n + 4 ∉ [n, a] ∧ n + 3 ∉ [n, a] ∧ n + 2 ≠ n + 1 ∧ n + 1 ∈ [n + 1, b] ∧ n + 4 ∉ [n + 1, b] ∧ n + 3 ∉ [n + 1, b] ∧ n ∉ [n + 1, b] ∧ n + 1 ∉ [n, a] := by
  refine ⟨?_, ?_, ?_, ?_, ?_, ?_, ?_, ?_, ?_, ?_, ?_, ?_, ?_⟩ <;> simp <;> omega
theorem zsep {n a b : Addr} (ha : a < n) (hb : b < n) : ZipSep2 (n + 4) (n + 2) (n + 3) n (n + 1) [n, a] [n + 1, b] := by
  obtain ⟨h1, h2, h3, h4, h5, h6, h7, h8, h9, h10, h11, h12, h13⟩ := zsepN n a b ha hb
  exact ⟨h1, h2, h3, h4, h5, h6, h7, h8, h9, h10, h11, h12, h13⟩
def tnZ (k k2 : Kd) (a b n : Addr) (i : Nat) (h : Heap) : Prop :=
  IsZip h (n + 4) (n + 2) (n + 3) .none ∧ IsPair h (n + 2) (.ref n) (.ref (n + 1)) ∧ (∃ x y, IsPair h (n + 3) x y) ∧ ItAt h k n a i ∧ ItAt h k2 (n + 1) b i
abbrev fpZ (n : Addr) : List Addr := [n + 4, n + 2, n + 3, n, n + 1]
theorem mem_fpZ {n c : Addr} (h : c ∈ fpZ n) : c = n + 4 ∨ c = n + 2 ∨ c = n + 3 ∨ c = n ∨ c = n + 1 := by simpa using h
theorem fpZ_lt (n c m : Nat) (z : n + 4 < m) (h : c = n + 4 ∨ c = n + 2 ∨ c = n + 3 ∨ c = n ∨ c = n + 1) : c < m := by omega
theorem fpZ_le (n c : Nat) (h : c = n + 4 ∨ c = n + 2 ∨ c = n + 3 ∨ c = n ∨ c = n + 1) : n ≤ c := by omega
theorem pair_ok {P : Program} {w : World} {H : Hp} {h : Heap} {T : Addr} {x y : V} {u v : Value} (r : RelV x u) (q : RelV y v) (e : h.get? T = some { cls := .type "tuple", data := .seq #[u, v] }) : ObjOk P w (upd H T (.tup [x, y])) h T (.tup [x, y]) :=
  ⟨(by show 2 ≤ sizeLine; decide), [u, v], .cons r (.cons q .nil), ⟨_, e, rfl, _, rfl⟩⟩
theorem turnZ {P : Program} {w : World} {K : PySem.W.Frag} {elts : List Expr} {kk : Nat} {tpos : Pos} {k k2 : Kd} {a b n : Addr} (ha : a < n) (hb : b < n) : Turn P w K (.Tuple elts kk tpos) (ItZ K k k2 a b) (fpZ n) (n + 4) (tnZ k k2 a b n) where
  mem := by simp
  obj := fun i h ⟨hz, hI, ⟨x, y, hO⟩, h1, h2⟩ c hc => by
    rcases mem_fpZ hc with e | e | e | e | e <;> subst e
    · exact ⟨_, hz, fun v => nofun⟩
    · exact ⟨_, hI, fun v => nofun⟩
    · exact ⟨_, hO, fun v => nofun⟩
    · exact h1.ob
    · exact h2.ob
  keep := fun i h h' ⟨hz, hI, ⟨x, y, hO⟩, h1, h2⟩ kp => ⟨kp _ (by simp) _ hz, kp _ (by simp) _ hI, ⟨x, y, kp _ (by simp) _ hO⟩, h1.at fun o q => kp _ (by simp) o q, h2.at fun o q => kp _ (by simp) o q⟩
  item := by
    intro X hP hw hK hc i pins s σ H E I hf ⟨hz, hI, ⟨x0, y0, hO⟩, h1, h2⟩ ⟨xs, ys, x, y, gx, gy, ex, ey⟩
    subst hP hw hK
    obtain ⟨its, rv, p, _⟩ := inv_sq I gx
    obtain ⟨its2, rv2, p2, _⟩ := inv_sq I gy
    obtain ⟨u, hu, ru⟩ := rv.get ex
    obtain ⟨u2, hu2, ru2⟩ := rv2.get ey
    have S := zsep ha hb
    have zl : n + 4 < s.heap.objs.size := Heap.lt_size hz
    have l1 : i < its.toArray.size := by rw [List.size_toArray]; exact (List.getElem?_eq_some_iff.mp hu).1
    have l2 : i < its2.toArray.size := by rw [List.size_toArray]; exact (List.getElem?_eq_some_iff.mp hu2).1
    refine wpAny_pyNext_zipD2_item S (drawsK (A := X.A.in1) (I.ok.hd hc) k n a (Nat.ne_of_lt ha) its.toArray) (drawsK (A := X.A.in1) (I.ok.hd hc) k2 (n + 1) b (Nat.ne_of_lt (Nat.lt_succ_of_lt hb)) its2.toArray) hz hI hO ⟨h1, p⟩ ⟨h2, p2⟩ l1 l2
      fun v1 v2 h' tk q1 q2 hz' hO' st1 st2 hT hsz hk => ⟨_, rfl, wpAny_letOwnedTupleGo_zip (s := { s with heap := h', toks := tk }) hz' fun h'' z'' sb => ?_⟩
    have e1 : v1 = u := by
      have z : its[i]? = some v1 := by simpa using q1
      rw [hu] at z; exact (Option.some.inj z).symm
    have e2 : v2 = u2 := by
      have z : its2[i]? = some v2 := by simpa using q2
      rw [hu2] at z; exact (Option.some.inj z).symm
    subst e1 e2
    have hT2 := (sb.2 s.heap.objs.size (Nat.ne_of_gt zl)).trans hT
    have I1 : L2.Inv X pins σ (upd H s.heap.objs.size (.tup [x, y])) { s with heap := h'', toks := tk } := I.turnedNew (ch := fpZ n) (fun c o hb' q => (sb.2 c fun z => hb' (by simp [z])).trans
      (hk c o (fun z => hb' (by simp [z])) (fun z => hb' (by simp [z])) (fun z => hb' (by simp [z])) (fun z => hb' (by simp [z])) q)) hf (Nat.le_refl _) (pair_ok ru ru2 hT2)
    have st1' := st1.1
    have st2' := st2.1
    refine ⟨.ref s.heap.objs.size, _, I1, rfl, ⟨_, x, y, rfl, I.hok.fresh (Nat.le_refl _), rfl, fun l hl => by rw [inv_sq_inj I hl gx]; exact ex, fun l hl => by rw [inv_sq_inj I hl gy]; exact ey⟩, ⟨z'', ?_, ⟨v1, v2, ?_⟩, ?_, ?_⟩, fun c hcm => ?_⟩
    · exact (sb.2 _ S.TIz).trans (hk _ _ S.TIz S.TITO S.TIi1 S.TIi2 hI)
    · exact (sb.2 _ S.TOz).trans hO'
    · exact st1'.at fun o q => (sb.2 _ S.zi1.symm).trans q
    · exact st2'.at fun o q => (sb.2 _ S.zi2.symm).trans q
    · have : c < s.heap.objs.size := fpZ_lt n c _ zl (mem_fpZ hcm)
      rw [upd_ne (Nat.ne_of_lt this)]
      exact (hf c hcm).1
  done := by
    intro X hP hw hK hc i pins s σ H E I hf ⟨hz, hI, ⟨x0, y0, hO⟩, h1, h2⟩ ⟨xs, ys, gx, gy, en⟩
    subst hP hw hK
    obtain ⟨its, rv, p, _⟩ := inv_sq I gx
    obtain ⟨its2, rv2, p2, _⟩ := inv_sq I gy
    have l1 : its.toArray.size = xs.length := by rw [List.size_toArray, rv.length]
    have l2 : its2.toArray.size = ys.length := by rw [List.size_toArray, rv2.length]
    exact wpAny_pyNext_zipD2_end (zsep ha hb) (drawsK (A := X.A.in1) (I.ok.hd hc) k n a (Nat.ne_of_lt ha) its.toArray) (drawsK (A := X.A.in1) (I.ok.hd hc) k2 (n + 1) b (Nat.ne_of_lt (Nat.lt_succ_of_lt hb)) its2.toArray) hz hI hO ⟨h1, p⟩ ⟨h2, p2⟩
      (by omega) (by omega) (by omega) fun h' tk hk => ⟨rfl, I.turnedL (ch := fpZ n) (fun c o hb' q => hk c o (fun z => hb' (by simp [z])) (fun z => hb' (by simp [z])) (fun z => hb' (by simp [z])) (fun z => hb' (by simp [z])) q) hf⟩
  self := fun A i s Q E st h => wpAny_pyIter_zip st.1 h
def iZ (K : PySem.W.Frag) (k k2 : Kd) (ta : TA) : TI := fun σ H R => ta σ H fun vs H1 => ∃ a b xs ys, vs = [.ref a, .ref b] ∧ SqG K H1 k a xs ∧ SqG K H1 k2 b ys ∧ R (ItZ K k k2 a b) H1
theorem piZ {X : Cx} {e e2 : Expr} {ta : TA} {p pos tpos : Pos} {elts : List Expr} {kk : Nat} (k k2 : Kd) (hg : Gl X "zip") (hm : X.mg "zip" = none) (ha : PA X [e, e2] ta)
    (hs : starEach [e, e2] X.env = (false, eval e X.env) :: starEach [e2] X.env := by rfl) (hpl : (backTo pos (starEach [e2] X.env)).any (·.1) = false := by rfl) : PI X (.Tuple elts kk tpos) (.Call (.Name "zip" p) [e, e2] [] pos) (iZ X.K k k2 ta) := by
  refine ⟨fun pins s σ H R I h => Call_ (ld_blt I hg hm boot_zip (callWith_type1 (thn (ha.run pos pins s σ H _ I h) fun us s1 ⟨vs, H1, I1, r1, a, b, xs, ys, ev, gx, gy, q⟩ => ?_) hs hpl))⟩
  subst ev
  obtain ⟨u1, u2, rfl, q1, q2⟩ := vals2 r1
  cases q1
  cases q2
  obtain ⟨its, rv, p1, _⟩ := inv_sq I1 gx
  obtain ⟨its2, rv2, p2, _⟩ := inv_sq I1 gy
  have la : a < s1.heap.objs.size := by obtain ⟨o, z, _⟩ := p1.ob; exact Heap.lt_size z
  have lb : b < s1.heap.objs.size := by obtain ⟨o, z, _⟩ := p2.ob; exact Heap.lt_size z
  refine zip_made p1 p2 fun h' hz hI hO i1 i2 hsz hk => wpAny_pyIter_zip hz ?_
  refine ⟨_, fpZ s1.heap.objs.size, _, _, H1, rfl, I1.kept (t' := s1.toks) hk, turnZ la lb, ⟨hz, hI, ⟨_, _, hO⟩, i1, i2⟩, fun c hc => ?_, q⟩
  have le : s1.heap.objs.size ≤ c := fpZ_le _ _ (mem_fpZ hc)
  exact I1.fpOk le (I1.hok.fresh le)
end BB
end

section
set_option Elab.async false
set_option linter.all false
set_option maxRecDepth 100000
set_option maxHeartbeats 4000000
namespace BB
open PySem PySem.Spec PyProof.Rows L2
theorem zip_no_len : typeLookup (.type "zip") "__len__" = pure none := am_miss_of_fast (by decide +kernel)
theorem zip_no_hint : typeLookup (.type "zip") "__length_hint__" = pure none := am_miss_of_fast (by decide +kernel)
abbrev lstO (acc : Array Value) (c : Nat) : Obj := { cls := .type "list", dict := none, data := .seq acc c, slots := #[] }
/-- the pairs that a list holds, all of them behind S -/
def PairsAt (h : Heap) (S : Addr) (acc its its2 : Array Value) : Prop :=
  ∀ (j : Nat) v, acc[j]? = some v → ∃ T x y, v = .ref T ∧ its[j]? = some x ∧ its2[j]? = some y ∧ IsPair h T x y ∧ S < T
theorem PairsAt.keep {h h' : Heap} {S : Addr} {acc its its2 : Array Value} (x : PairsAt h S acc its its2) (k : ∀ c o, S < c → h.get? c = some o → h'.get? c = some o) : PairsAt h' S acc its its2 := fun j v e => by
  obtain ⟨T, a, b, h1, h2, h3, h4, h5⟩ := x j v e
  exact ⟨T, a, b, h1, h2, h3, k _ _ h5 h4, h5⟩
theorem PairsAt.push {h : Heap} {S : Addr} {acc its its2 : Array Value} {T : Addr} {x y : Value} (p : PairsAt h S acc its its2) (e1 : its[acc.size]? = some x) (e2 : its2[acc.size]? = some y) (e3 : IsPair h T x y) (e4 : S < T) :
    PairsAt h S (acc.push (.ref T)) its its2 := fun j v e => by
  rw [Array.getElem?_push] at e
  split at e
  · rename_i q
    cases e
    subst q
    exact ⟨T, x, y, rfl, e1, e2, e3, e4⟩
  · exact p j v e
structure StZ (k k2 : Kd) (a b n S : Addr) (its its2 : Array Value) (i : Nat) (h : Heap) : Prop where
  ti : IsPair h (n + 2) (.ref n) (.ref (n + 1))
  i1 : ItAt h k n a i
  q1 : SqAt h k a its
  i2 : ItAt h k2 (n + 1) b i
  q2 : SqAt h k2 b its2
  z : (IsZip h (n + 4) (n + 2) (n + 3) .none ∧ ∃ x y, IsPair h (n + 3) x y) ∨ ∃ T f oT, IsZipHeld h (n + 4) (n + 2) (n + 3) T f ∧ h.get? T = some oT ∧ T ∉ S :: fpZ n
abbrev badZ (n S : Addr) : List Addr := S :: fpZ n
theorem bad_lt (n S T : Nat) (h : S < T) (h2 : n + 4 < T) : T ∉ badZ n S := by simp; omega
theorem bad_S (n S : Nat) (h : n + 4 < S) : S ≠ n ∧ S ≠ n + 1 ∧ S ≠ n + 2 ∧ S ≠ n + 3 ∧ S ≠ n + 4 := by omega
section
variable {prog : Program} {w : World} {A : Around} {R : Result → Shared → Prop}
theorem drainZ {k k2 : Kd} {a b n S : Addr} {its its2 : Array Value} {res : Value} (hh : A.handled = none) (ha : a < n) (hb : b < n) (hS : n + 4 < S) (hn : min its.size its2.size ≤ sizeLine) :
    ∀ (m i : Nat) (s : Shared) (acc : Array Value) (c : Nat), min its.size its2.size - i = m → i ≤ min its.size its2.size → StZ k k2 a b n S its its2 i s.heap → s.heap.get? S = some (lstO acc c) → acc.size = i → PairsAt s.heap S acc its its2 →
      (∀ h' tk acc' c', (∀ c o, c ∉ badZ n S → s.heap.get? c = some o → h'.get? c = some o) → h'.get? S = some (lstO acc' c') → acc'.size = min its.size its2.size → PairsAt h' S acc' its its2 → R (.ok (.ret res)) { s with heap := h', toks := tk }) →
      codeAny (model prog w) A (.builtin "list.extend.loop" ⟨[.ref S, .ref (n + 4), res], []⟩) R s := by
  have sep := zsep ha hb
  have d1 := drawsK (prog := prog) (w := w) (A := A.in1.in1) hh k n a (Nat.ne_of_lt ha) its
  have d2 := drawsK (prog := prog) (w := w) (A := A.in1.in1) hh k2 (n + 1) b (Nat.ne_of_lt (Nat.lt_succ_of_lt hb)) its2
  obtain ⟨s0, s1, s2, s3, s4⟩ := bad_S n S hS
  have big : ∀ {c : Addr}, S < c → c ∉ badZ n S := fun {c} h => bad_lt n S c h (Nat.lt_trans hS h)
  have out : ∀ {c : Addr}, c ∉ badZ n S → c ≠ S ∧ c ≠ n + 4 ∧ c ≠ n + 2 ∧ c ≠ n + 3 ∧ c ≠ n ∧ c ≠ n + 1 := fun {c} h => by simpa [not_or] using h
  intro m
  induction m with
  | zero =>
    intro i s acc c hm hi st hSl hsz hp hR
    have e : i = min its.size its2.size := by omega
    refine codeAny_builtin F.entry_extend_loop ?_
    rw [Around.under_plainId F.plain_extend_loop _]
    show wpAny _ A.in1 (pyNext (.ref (n + 4)) >>= fun _ => _) _ _ s
    have fin : ∀ h' tk, (∀ c o, c ∉ badZ n S → s.heap.get? c = some o → h'.get? c = some o) → h'.get? S = some (lstO acc c) → R (.ok (.ret res)) { s with heap := h', toks := tk } := fun h' tk hk hS' =>
      hR h' tk acc c hk hS' (by omega) (hp.keep fun c o hc q => hk c o (big hc) q)
    rcases st.z with ⟨hz, x, y, hO⟩ | ⟨T, f, oT, hz, hT, nT⟩
    · refine wpAny_bind (wpAny_pyNext_zipD2_end sep d1 d2 hz st.ti hO ⟨st.i1, st.q1⟩ ⟨st.i2, st.q2⟩ (by omega) (by omega) (by omega) fun h' tk hk => wpAny_pure (fin h' tk (fun c o hc q => ?_) (hk _ _ s4 s3 s0 s1 hSl)))
      obtain ⟨o0, o1, o2, o3, o4, o5⟩ := out hc
      exact hk c o o1 o3 o4 o5 q
    · refine wpAny_bind (pyNext_zipHEnd sep d1 d2 hz hT st.ti ⟨st.i1, st.q1⟩ ⟨st.i2, st.q2⟩ (by omega) (by omega) (by omega) fun h' tk hk => wpAny_pure (fin h' tk (fun c o hc q => ?_) (hk _ _ s4 s0 s1 hSl)))
      obtain ⟨o0, o1, o2, o3, o4, o5⟩ := out hc
      exact hk c o o1 o4 o5 q
  | succ m ih =>
    intro i s acc c hm hi st hSl hsz hp hR
    have l1 : i < its.size := by omega
    have l2 : i < its2.size := by omega
    have zl : n + 4 < s.heap.objs.size := by
      rcases st.z with ⟨hz, _⟩ | ⟨_, _, _, hz, _⟩
      · exact Heap.lt_size hz
      · exact Heap.lt_size hz
    have Sl : S < s.heap.objs.size := Heap.lt_size hSl
    have nT' := bad_lt n S s.heap.objs.size Sl zl
    refine codeAny_builtin F.entry_extend_loop ?_
    rw [Around.under_plainId F.plain_extend_loop _]
    show wpAny _ A.in1 (pyNext (.ref (n + 4)) >>= fun _ => _) _ _ s
    -- one pair more: v1, v2 in a new tuple
    have go : ∀ v1 v2 h' tk, its[i]? = some v1 → its2[i]? = some v2 → (IsZipHeld h' (n + 4) (n + 2) (n + 3) s.heap.objs.size false ∨ ∃ T f oT, IsZipHeld h' (n + 4) (n + 2) (n + 3) T f ∧ h'.get? T = some oT ∧ T ∉ badZ n S) → (ItAt h' k n a (i + 1) ∧ SqAt h' k a its) → (ItAt h' k2 (n + 1) b (i + 1) ∧ SqAt h' k2 b its2) →
        IsPair h' s.heap.objs.size v1 v2 → (∀ c o, c ∉ fpZ n → s.heap.get? c = some o → h'.get? c = some o) → h'.get? (n + 2) = s.heap.get? (n + 2) →
        wpAny (model prog w) A.in1 (updateSeq S (·.push (.ref s.heap.objs.size)) >>= fun _ => again (.builtin "list.extend.loop" ⟨[.ref S, .ref (n + 4), res], []⟩)) (fun fin s' => match fin with | .done f => R (.ok f) s' | .again c' => c'.quiet = true ∧ codeAny (model prog w) A c' R s') (fun e s' => R (.error e) s') { s with heap := h', toks := tk } := by
      intro v1 v2 h' tk e1 e2 hz st1 st2 hP hk hTI
      have hS' : h'.get? S = some (lstO acc c) := hk _ _ (by simpa [not_or] using ⟨s4, s2, s3, s0, s1⟩) hSl
      refine wpAny_bind (wpAny_updateSeq hS' rfl (wpAny_pure ⟨plainId_quiet F.plain_extend_loop _, ?_⟩) (by omega) (by show (acc.push _).size ≤ _; rw [Array.size_push]; omega))
      have oth : ∀ b o, b ≠ S → h'.get? b = some o → (h'.update S (Obj.mapSeq (·.push (.ref s.heap.objs.size)))).get? b = some o := fun b o hb e => (Heap.get?_update_other _ _ (Ne.symm hb)).trans e
      have aS : a ≠ S := fun e => by
        obtain ⟨o, q, n', d⟩ := st1.2.ob
        have : (a : Nat) < n + 4 := Nat.lt_of_lt_of_le ha (Nat.le_add_right n 4)
        exact absurd (e ▸ this) (Nat.not_lt_of_lt hS)
      have bS : b ≠ S := fun e => by
        have : (b : Nat) < n + 4 := Nat.lt_of_lt_of_le hb (Nat.le_add_right n 4)
        exact absurd (e ▸ this) (Nat.not_lt_of_lt hS)
      refine ih (i + 1) { s with heap := h'.update S (Obj.mapSeq (·.push (.ref s.heap.objs.size))), toks := tk } (acc.push (.ref s.heap.objs.size)) _ (by omega) (by omega) ⟨?_, ?_, ?_, ?_, ?_, ?_⟩ (Heap.get?_update_self _ hS' rfl) (by rw [Array.size_push]; omega) ?_ fun h'' tk' acc' c' hk' hS'' hsz' hp' => ?_
      · exact oth _ _ (Ne.symm s2) (hTI.trans st.ti)
      · exact st1.1.at fun o q => oth _ _ (Ne.symm s0) q
      · exact st1.2.at fun o q => oth _ _ aS q
      · exact st2.1.at fun o q => oth _ _ (Ne.symm s1) q
      · exact st2.2.at fun o q => oth _ _ bS q
      · rcases hz with hz | ⟨T, f, oT, hz, hT, nT⟩
        · exact .inr ⟨_, false, _, oth _ _ (Ne.symm s4) hz, oth _ _ (Nat.ne_of_gt Sl) hP, nT'⟩
        · exact .inr ⟨T, f, oT, oth _ _ (Ne.symm s4) hz, oth _ _ (out nT).1 hT, nT⟩
      · refine PairsAt.push ?_ (by rw [hsz]; exact e1) (by rw [hsz]; exact e2) (oth _ _ (Nat.ne_of_gt Sl) hP) Sl
        exact hp.keep fun c o hc q => oth _ _ (out (big hc)).1 (hk _ _ (fun z => big hc (List.mem_cons_of_mem _ z)) q)
      · exact hR h'' tk' acc' c' (fun c o hc q => hk' c o hc (oth _ _ (out hc).1 (hk _ _ (fun z => hc (List.mem_cons_of_mem _ z)) q))) hS'' hsz' hp'
    rcases st.z with ⟨hz, x, y, hO⟩ | ⟨T, f, oT, hz, hT, nT⟩
    · refine wpAny_bind (wpAny_pyNext_zipD2_item sep d1 d2 hz st.ti hO ⟨st.i1, st.q1⟩ ⟨st.i2, st.q2⟩ l1 l2 fun v1 v2 h' tk p1 p2 hz' hO' st1 st2 hP hsz' hk => go v1 v2 h' tk p1 p2 (.inl hz') st1 st2 hP (fun c o hc q => ?_) ((hk _ _ sep.TIz sep.TITO sep.TIi1 sep.TIi2 st.ti).trans st.ti.symm))
      have hc' : c ≠ n + 4 ∧ c ≠ n + 2 ∧ c ≠ n + 3 ∧ c ≠ n ∧ c ≠ n + 1 := by simpa [not_or] using hc
      exact hk c o hc'.1 hc'.2.2.1 hc'.2.2.2.1 hc'.2.2.2.2 q
    · refine wpAny_bind (pyNext_zipH sep d1 d2 hz hT st.ti ⟨st.i1, st.q1⟩ ⟨st.i2, st.q2⟩ l1 l2 fun v1 v2 h' tk p1 p2 hz' st1 st2 hP hsz' hk => go v1 v2 h' tk p1 p2 (.inr ⟨T, true, oT, hz', ?_, nT⟩) st1 st2 hP (fun c o hc q => ?_) ((hk _ _ sep.TIz sep.TIi1 sep.TIi2 st.ti).trans st.ti.symm))
      · obtain ⟨o0, o1, o2, o3, o4, o5⟩ := out nT
        exact hk _ _ o1 o4 o5 hT
      · have hc' : c ≠ n + 4 ∧ c ≠ n + 2 ∧ c ≠ n + 3 ∧ c ≠ n ∧ c ≠ n + 1 := by simpa [not_or] using hc
        exact hk c o hc'.1 hc'.2.2.2.1 hc'.2.2.2.2 q
end
end BB
end

section
set_option Elab.async false
set_option linter.all false
set_option maxRecDepth 100000
set_option maxHeartbeats 4000000
namespace BB
open PySem PySem.Spec PyProof.Rows L2
/-- new things beside what is tracked -/
def addL (H : Hp) (news : List (Addr × HO)) : Hp := fun c => match news.lookup c with
  | some o => some o
  | none => H c
theorem addL_some {H : Hp} {news : List (Addr × HO)} {c : Addr} {o : HO} (h : news.lookup c = some o) : addL H news c = some o := by unfold addL; rw [h]
theorem addL_none {H : Hp} {news : List (Addr × HO)} {c : Addr} (h : news.lookup c = none) : addL H news c = H c := by unfold addL; rw [h]
section
variable {X : Cx} {pins : List (Addr × Obj)} {σ : St} {H : Hp} {s : Shared} {h' : Heap}
/-- many new objects are laid and tracked -/
theorem inv_many (I : L2.Inv X pins σ H s) (tk : Nat) (news : List (Addr × HO)) (k : ∀ b u, s.heap.get? b = some u → h'.get? b = some u)
    (hn : ∀ c o, news.lookup c = some o → s.heap.objs.size ≤ c ∧ ∀ H', ObjOk X.prog X.w H' h' c o) : L2.Inv X pins σ (addL H news) { s with heap := h', toks := tk } := by
  have old : ∀ b u, s.heap.get? b = some u → news.lookup b = none := fun b u e => by
    cases q : news.lookup b with
    | none => rfl
    | some o => exact absurd (Nat.lt_of_lt_of_le (Heap.lt_size e) (hn b o q).1) (Nat.lt_irrefl _)
  have oldH : ∀ b u, H b = some u → news.lookup b = none := fun b u e => by
    cases q : news.lookup b with
    | none => rfl
    | some o => exact absurd (Nat.lt_of_lt_of_le (I.hok.lt e) (hn b o q).1) (Nat.lt_irrefl _)
  refine I.un (t' := tk) ⟨fun b o q _ _ _ => k b o q, fun b o q _ _ _ => ⟨o.slots, k b o q⟩, fun b o q n _ => (addL_none (old b o q)).trans n, fun b o q _ => ⟨o, k b o q⟩, fun b xs q => (addL_none (oldH b _ q)).trans q, fun b o u q => (addL_none (oldH b _ q)).trans q,
    fun b ps q => ⟨#[], by rw [addL_none (oldH b _ q), q]; simp⟩⟩ fun b u e => ?_
  cases q : news.lookup b with
  | some v =>
    rw [addL_some q] at e
    cases e
    exact (hn b _ q).2 _
  | none =>
    rw [addL_none q] at e
    exact (I.hok b u e).stay (fun c v _ z => k c v z) (fun c z => (addL_none (oldH c _ z)).trans z) fun c xs z => (addL_none (oldH c _ z)).trans z
end
/-- the list of pairs that list(zip(..)) makes -/
structure NewZ (H H' : Hp) (q : Addr) (Ts : List Addr) (xs ys : List V) : Prop where
  keep : ∀ c o, H c = some o → H' c = some o
  fresh : H q = none
  lst : H' q = some (.lst (Ts.map V.ref))
  len : Ts.length = min xs.length ys.length
  at_ : ∀ (j : Nat) T, Ts[j]? = some T → ∃ x y, xs[j]? = some x ∧ ys[j]? = some y ∧ H' T = some (.tup [x, y])
def tLZ (K : PySem.W.Frag) (k k2 : Kd) (ta : TA) : TE := fun σ H Q => ta σ H fun vs H1 => ∃ a b xs ys, vs = [.ref a, .ref b] ∧ SqG K H1 k a xs ∧ SqG K H1 k2 b ys ∧ min xs.length ys.length ≤ sizeLine ∧ ∀ q Ts H2, NewZ H1 H2 q Ts xs ys → Q (.ref q) H2
section
variable {prog : Program} {w : World} {A : Around} {E : Value → Shared → Prop} {s : Shared}
/-- list(z) of a new zip -/
theorem list_zip {k k2 : Kd} {a b n : Addr} {its its2 : Array Value} {Q : Value → Shared → Prop} (hh : A.handled = none) (ha : a < n) (hb : b < n) (hn : min its.size its2.size ≤ sizeLine)
    (hz : IsZip s.heap (n + 4) (n + 2) (n + 3) .none) (hI : IsPair s.heap (n + 2) (.ref n) (.ref (n + 1))) (hO : ∃ x y, IsPair s.heap (n + 3) x y) (i1 : ItAt s.heap k n a 0) (q1 : SqAt s.heap k a its) (i2 : ItAt s.heap k2 (n + 1) b 0) (q2 : SqAt s.heap k2 b its2)
    (hQ : ∀ h' tk acc c, (∀ c o, c ∉ fpZ n → s.heap.get? c = some o → h'.get? c = some o) → h'.get? s.heap.objs.size = some (lstO acc c) → acc.size = min its.size its2.size → PairsAt h' s.heap.objs.size acc its its2 → Q (.ref s.heap.objs.size) { s with heap := h', toks := tk }) :
    wpAny (model prog w) A (call (.type "list") [.ref (n + 4)]) Q E s := by
  have zl : n + 4 < s.heap.objs.size := Heap.lt_size hz
  have np : s.heap.objs.size ≠ n + 4 := Nat.ne_of_gt zl
  refine callType_codes (Q₁ := fun obj s₁ => obj = .ref s.heap.objs.size ∧ s₁ = { s with heap := s.heap.push (lstO #[] 0) }) F.called_list (F.typeCall_list_1 _) F.entry_list_init (code_list_new _ ⟨rfl, rfl⟩) fun obj s₁ ⟨e1, e2⟩ => ?_
  subst e1 e2
  have hS : (s.heap.push (lstO #[] 0)).get? s.heap.objs.size = some (lstO #[] 0) := Heap.get?_push_size _ rfl
  refine ⟨⟨_, hS, rfl⟩, F.args_list_init_2 _ _, ?_⟩
  have up : ∀ (h : Heap) (f : Obj → Obj), (∀ b o, s.heap.get? b = some o → h.get? b = some o) → ∀ b o, s.heap.get? b = some o → (h.update s.heap.objs.size f).get? b = some o := fun h f q b o e =>
    (Heap.get?_update_other _ _ (Nat.ne_of_gt (Heap.lt_size e))).trans (q b o e)
  have k1 : ∀ b o, s.heap.get? b = some o → (s.heap.push (lstO #[] 0)).get? b = some o := fun b o e => Heap.get?_push_of_some _ e
  have k2' := up _ (Obj.mapSeq (fun _ => (#[] : Array Value))) k1
  have zty : ∀ {h : Heap} (g d tk os), (∀ b o, s.heap.get? b = some o → h.get? b = some o) → (⟨h, g, d, tk, os⟩ : Shared).TypeIs (.ref (n + 4)) "zip" := fun {h} g d tk os q => ⟨_, q _ _ hz, rfl⟩
  show wpAny _ A.in1.in1 (Builtin.List.listItems (.ref s.heap.objs.size) >>= fun old => Builtin.List.listUpdate (.ref s.heap.objs.size) (fun _ => #[]) >>= fun _ => letGo old.toList.reverse >>= fun _ => Builtin.List.listExtendWith (.ref s.heap.objs.size) (.ref (n + 4)) .none) _ _ _
  refine wpAny_bind ?_
  unfold Builtin.List.listItems
  refine wpAny_bind (wpAny_seqItems hS rfl (wpAny_pure (wpAny_bind ?_)))
  show wpAny _ A.in1.in1 (updateSeq s.heap.objs.size (fun _ => #[])) _ _ _
  refine wpAny_updateSeq hS rfl (wpAny_bind (wpAny_letGo ?_))
  have hS2 := Heap.get?_update_self (Obj.mapSeq (fun _ => (#[] : Array Value))) hS rfl
  unfold Builtin.List.listExtendWith
  refine wpAny_bind (wpAny_typeOf (zty _ _ _ _ k2') ?_)
  have t1 : Builtin.List.listSameRef (.ref s.heap.objs.size) (.ref (n + 4)) = false := by simp [Builtin.List.listSameRef, np]
  have t2 : (Value.type "zip" == Value.type "list") = false := by decide
  have t3 : (Value.type "zip" == Value.type "tuple") = false := by decide
  simp only [t1, t2, t3, Bool.or_false, Bool.false_eq_true, if_false]
  refine wpAny_bind (wpAny_pyIter_zip (k2' _ _ hz) (wpAny_bind (wpAny_holding ?_)))
  unfold Builtin.List.listLengthHint
  refine wpAny_bind (wpAny_specialOf (zty _ _ _ _ k2') zip_no_len ?_)
  show wpAny _ A.in1.in1 (specialOf (Value.ref (n + 4)) (Str.ofString "__length_hint__") >>= fun _ => _) _ _ _
  refine wpAny_bind (wpAny_specialOf (zty _ _ _ _ k2') zip_no_hint (wpAny_pure ?_))
  show wpAny _ A.in1.in1 (rule "list.extend.makes-room" >>= fun _ => Builtin.List.listTouch (.ref s.heap.objs.size) >>= fun _ => again (.builtin "list.extend.loop" ⟨[.ref s.heap.objs.size, .ref (n + 4), .none], []⟩)) _ _ _
  refine wpAny_bind (wpAny_rule (wpAny_bind ?_))
  show wpAny _ A.in1.in1 (updateSeq s.heap.objs.size (·.push .none) >>= fun _ => updateSeq s.heap.objs.size (·.pop)) _ _ _
  refine wpAny_bind (wpAny_updateSeq hS2 rfl ?_)
  have hS3 := Heap.get?_update_self (Obj.mapSeq (·.push Value.none)) hS2 rfl
  refine wpAny_updateSeq (hz := by seq_fits) hS3 rfl (wpAny_pure ⟨plainId_quiet F.plain_extend_loop _, ?_⟩)
  have hS4 := Heap.get?_update_self (Obj.mapSeq (·.pop)) hS3 rfl
  have k4 := up _ (Obj.mapSeq (·.pop)) (up _ (Obj.mapSeq (·.push Value.none)) k2')
  obtain ⟨x, y, hO⟩ := hO
  refine drainZ (A := A.in1) hh ha hb zl hn _ 0 _ #[] _ rfl (Nat.zero_le _) ⟨k4 _ _ hI, i1.at fun o e => k4 _ o e, q1.at fun o e => k4 _ o e, i2.at fun o e => k4 _ o e, q2.at fun o e => k4 _ o e, .inl ⟨k4 _ _ hz, x, y, k4 _ _ hO⟩⟩ hS4 rfl (fun j v e => by simp at e)
    fun h' tk acc c hk hS' hsz hp => ⟨rfl, hQ h' tk acc c (fun b o hb' e => hk b o (fun z => ?_) (k4 b o e)) hS' hsz hp⟩
  rcases List.mem_cons.mp z with z | z
  · exact absurd (Heap.lt_size e) (by rw [z]; exact Nat.lt_irrefl _)
  · exact hb' z
end
end BB
end

section
set_option Elab.async false
set_option linter.all false
set_option maxRecDepth 100000
set_option maxHeartbeats 4000000
namespace BB
open PySem PySem.Spec PyProof.Rows L2
/-- the addresses that a list of references names -/
theorem refs_of {h : Heap} {S : Addr} {acc its its2 : Array Value} {xs ys : List V} (p : PairsAt h S acc its its2) (r1 : Vals xs its.toList) (r2 : Vals ys its2.toList) :
    ∃ Ts : List Addr, acc.toList = Ts.map Value.ref ∧ ∀ (j : Nat) T, Ts[j]? = some T → S < T ∧ ∃ x y, xs[j]? = some x ∧ ys[j]? = some y ∧ ∀ P w H', ObjOk P w H' h T (.tup [x, y]) := by
  refine ⟨acc.toList.map fun v => match v with | .ref T => T | _ => 0, ?_, fun j T e => ?_⟩
  · rw [List.map_map]
    refine (List.map_id _).symm.trans (List.map_congr_left fun v hv => ?_)
    obtain ⟨j, hj⟩ := List.mem_iff_getElem?.mp hv
    obtain ⟨T, _, _, rfl, _⟩ := p j v (by rw [← hj, Array.getElem?_toList])
    rfl
  · rw [List.getElem?_map] at e
    cases q : acc.toList[j]? with
    | none => rw [q] at e; cases e
    | some v =>
      rw [q] at e
      obtain ⟨T', x, y, rfl, ex, ey, hp, hl⟩ := p j v (by rw [← q, Array.getElem?_toList])
      cases e
      have gx : its.toList[j]? = some x := by rw [← ex, Array.getElem?_toList]
      have gy : its2.toList[j]? = some y := by rw [← ey, Array.getElem?_toList]
      obtain ⟨x', hx', rx⟩ : ∃ x', xs[j]? = some x' ∧ RelV x' x := by
        cases z : xs[j]? with
        | none => rw [r1.none_of z] at gx; cases gx
        | some x' =>
          obtain ⟨u, h1, h2⟩ := r1.get z
          rw [gx] at h1; cases h1
          exact ⟨x', rfl, h2⟩
      obtain ⟨y', hy', ry⟩ : ∃ y', ys[j]? = some y' ∧ RelV y' y := by
        cases z : ys[j]? with
        | none => rw [r2.none_of z] at gy; cases gy
        | some y' =>
          obtain ⟨u, h1, h2⟩ := r2.get z
          rw [gy] at h1; cases h1
          exact ⟨y', rfl, h2⟩
      exact ⟨hl, x', y', hx', hy', fun P w H' => ⟨(by show 2 ≤ sizeLine; decide), [x, y], .cons rx (.cons ry .nil), ⟨_, hp, rfl, _, rfl⟩⟩⟩
theorem look_mem {c : Addr} {o : HO} : ∀ {l : List (Addr × HO)}, l.lookup c = some o → (c, o) ∈ l
  | [], h => by cases h
  | (b, u) :: r, h => by
    rw [List.lookup_cons] at h
    cases q : (c == b) with
    | true =>
      rw [q] at h
      cases h
      rw [beq_iff_eq.mp q]
      exact List.mem_cons_self
    | false =>
      rw [q] at h
      exact List.mem_cons_of_mem _ (look_mem h)
theorem look_none {c : Addr} {o : HO} : ∀ {l : List (Addr × HO)}, l.lookup c = none → (c, o) ∉ l
  | [], _, h => by cases h
  | (b, u) :: r, h, m => by
    rw [List.lookup_cons] at h
    cases q : (c == b) with
    | true => rw [q] at h; cases h
    | false =>
      rw [q] at h
      rcases List.mem_cons.mp m with e | m
      · cases e
        simp at q
      · exact look_none h m
theorem vals_refsT : ∀ Ts : List Addr, Vals (Ts.map V.ref) (Ts.map Value.ref)
  | [] => .nil
  | T :: r => .cons rfl (vals_refsT r)
theorem pe_lz {X : Cx} {e e2 : Expr} {ta : TA} {p p2 pos pos2 : Pos} (k k2 : Kd) (hc : X.calm = true) (hg : Gl X "list") (hm : X.mg "list" = none) (hg2 : Gl X "zip") (hm2 : X.mg "zip" = none) (ha : PA X [e, e2] ta)
    (na : starEach [.Call (.Name "zip" p2) [e, e2] [] pos2] X.env = (false, eval (.Call (.Name "zip" p2) [e, e2] [] pos2) X.env) :: starEach [] X.env := by rfl)
    (hs : starEach [e, e2] X.env = (false, eval e X.env) :: starEach [e2] X.env := by rfl) (hpl : (backTo pos2 (starEach [e2] X.env)).any (·.1) = false := by rfl) :
    PE X (.Call (.Name "list" p) [.Call (.Name "zip" p2) [e, e2] [] pos2] [] pos) (tLZ X.K k k2 ta) := by
  refine ⟨fun pins s σ H Q I h => ?_⟩
  refine Call_ (ld_blt I hg hm boot_list (callWith_type1 (args_cons ?_ na) na))
  refine Call_ (ld_blt I hg2 hm2 boot_zip (callWith_type1 (thn (ha.run pos2 pins s σ H _ I h) fun us s1 ⟨vs, H1, I1, r1, a, b, xs, ys, ev, gx, gy, hz, q⟩ => ?_) hs hpl))
  subst ev
  obtain ⟨u1, u2, rfl, q1, q2⟩ := vals2 r1
  cases q1
  cases q2
  obtain ⟨its, rv, p1, _⟩ := inv_sq I1 gx
  obtain ⟨its2, rv2, p2', _⟩ := inv_sq I1 gy
  have la : a < s1.heap.objs.size := by obtain ⟨o, z, _⟩ := p1.ob; exact Heap.lt_size z
  have lb : b < s1.heap.objs.size := by obtain ⟨o, z, _⟩ := p2'.ob; exact Heap.lt_size z
  have sz1 : its.toArray.size = xs.length := by rw [List.size_toArray, rv.length]
  have sz2 : its2.toArray.size = ys.length := by rw [List.size_toArray, rv2.length]
  refine zip_made p1 p2' fun h1 hz1 hI hO i1 i2 hsz hk => args_nil ?_
  have zl : s1.heap.objs.size + 4 < h1.objs.size := Heap.lt_size hz1
  refine list_zip (s := { s1 with heap := h1 }) (I1.ok.hd hc) la lb (by rw [sz1, sz2]; exact hz) hz1 hI ⟨_, _, hO⟩ i1 (p1.at fun o z => hk _ o z) i2 (p2'.at fun o z => hk _ o z) fun h' tk acc c hk' hS hsz' hp => ?_
  obtain ⟨Ts, e1, e2⟩ := refs_of (xs := xs) (ys := ys) hp (by simpa using rv) (by simpa using rv2)
  have k2 : ∀ b u, s1.heap.get? b = some u → h'.get? b = some u := fun b u z => hk' b u (fun m => absurd (Nat.lt_of_lt_of_le (Heap.lt_size z) (fpZ_le _ _ (mem_fpZ m))) (Nat.lt_irrefl _)) (hk b u z)
  have len : Ts.length = min xs.length ys.length := by
    have := congrArg List.length e1
    rw [List.length_map, Array.length_toList, hsz', sz1, sz2] at this
    exact this.symm
  have sl : s1.heap.objs.size < h1.objs.size := Nat.lt_of_le_of_lt (Nat.le_add_right _ 4) zl
  -- what each of them holds
  let pairOf : Nat → HO := fun j => .tup [xs.getD j .non, ys.getD j .non]
  let news : List (Addr × HO) := (h1.objs.size, .lst (Ts.map V.ref)) :: (Ts.zipIdx.map fun (q : Addr × Nat) => (q.1, pairOf q.2))
  have pairs : ∀ c o, (Ts.zipIdx.map fun (q : Addr × Nat) => (q.1, pairOf q.2)).lookup c = some o → h1.objs.size < c ∧ (∀ H', ObjOk X.prog X.w H' h' c o) := fun c o z => by
    have m : (c, o) ∈ Ts.zipIdx.map fun (q : Addr × Nat) => (q.1, pairOf q.2) := look_mem z
    obtain ⟨⟨T, j⟩, hm', hq⟩ := List.mem_map.mp m
    have hj : Ts[j]? = some T := by
      have := List.mem_zipIdx hm'
      simpa using List.mk_mem_zipIdx_iff_getElem?.mp hm'
    obtain ⟨l, x, y, hx, hy, ok⟩ := e2 j T hj
    cases hq
    refine ⟨l, fun H' => ?_⟩
    have : pairOf j = .tup [x, y] := by simp [pairOf, List.getD_eq_getElem?_getD, hx, hy]
    rw [this]
    exact ok _ _ _
  have I2 : L2.Inv X pins σ (addL H1 news) { s1 with heap := h', toks := tk } := inv_many I1 tk news k2 fun c o z => by
    by_cases hcS : c = h1.objs.size
    · subst hcS
      have z' : some (HO.lst (Ts.map V.ref)) = some o := by rw [← z]; simp [news, List.lookup]
      cases z'
      refine ⟨Nat.le_of_lt sl, fun H' => ⟨by rw [List.length_map, len]; exact hz, acc.toList, c, by rw [e1]; exact vals_refsT Ts, by rw [Array.toArray_toList]; exact hS⟩⟩
    · have z' : (Ts.zipIdx.map fun (q : Addr × Nat) => (q.1, pairOf q.2)).lookup c = some o := by
        have hb : (c == h1.objs.size) = false := beq_eq_false_iff_ne.mpr hcS
        simpa [news, List.lookup, hb] using z
      obtain ⟨l, ok⟩ := pairs c o z'
      exact ⟨Nat.le_of_lt (Nat.lt_trans sl l), ok⟩
  refine ⟨.ref h1.objs.size, addL H1 news, I2, rfl, q _ Ts _ ⟨fun c o z => ?_, ?_, ?_, len, fun j T hj => ?_⟩⟩
  · refine (addL_none ?_).trans z
    cases w : news.lookup c with
    | none => rfl
    | some v =>
      have : c < s1.heap.objs.size := I1.hok.lt z
      by_cases hcS : c = h1.objs.size
      · exact absurd (Nat.lt_trans this sl) (by rw [hcS]; exact Nat.lt_irrefl _)
      · have hb : (c == h1.objs.size) = false := beq_eq_false_iff_ne.mpr hcS
        obtain ⟨l, _⟩ := pairs c v (by simpa [news, List.lookup, hb] using w)
        exact absurd (Nat.lt_trans (Nat.lt_trans this sl) l) (Nat.lt_irrefl _)
  · exact I1.hok.fresh (Nat.le_of_lt sl)
  · exact addL_some (by simp [news, List.lookup])
  · obtain ⟨l, x, y, hx, hy, ok⟩ := e2 j T hj
    refine ⟨x, y, hx, hy, ?_⟩
    have hb : (T == h1.objs.size) = false := beq_eq_false_iff_ne.mpr (Nat.ne_of_gt l)
    -- the first place at which T stands
    cases w : (Ts.zipIdx.map fun (q : Addr × Nat) => (q.1, pairOf q.2)).lookup T with
    | none =>
      have m : (T, pairOf j) ∈ Ts.zipIdx.map fun (q : Addr × Nat) => (q.1, pairOf q.2) := List.mem_map.mpr ⟨(T, j), List.mk_mem_zipIdx_iff_getElem?.mpr (by simpa using hj), rfl⟩
      exact absurd m (look_none w)
    | some v =>
      refine (addL_some (by show List.lookup T ((h1.objs.size, _) :: _) = _; rw [List.lookup_cons, hb]; exact w)).trans ?_
      obtain ⟨l', ok'⟩ := pairs T v w
      have m : (T, v) ∈ Ts.zipIdx.map fun (q : Addr × Nat) => (q.1, pairOf q.2) := look_mem w
      obtain ⟨⟨T', j'⟩, hm', hq⟩ := List.mem_map.mp m
      cases hq
      obtain ⟨z1, its1, rv1, t1⟩ := ok' H1
      obtain ⟨z3, its3, rv3, t3⟩ := ok X.prog X.w H1
      obtain ⟨o1, g1, _, n1, d1⟩ := t1
      obtain ⟨o3, g3, _, n3, d3⟩ := t3
      rw [g1] at g3; cases g3
      rw [d1] at d3
      injection d3 with d3 _
      have : its1 = its3 := by simpa using congrArg Array.toList d3
      subst this
      exact congrArg (fun l => some (HO.tup l)) (rv1.inj rv3)
end BB
end

section
set_option Elab.async false
set_option linter.all false
set_option maxRecDepth 100000
set_option maxHeartbeats 4000000
namespace BB
open PySem PySem.Spec PyProof.Rows L2
open PySem.AutoSeq1 (wpAny_loadPart')
section
variable {prog : Program} {w : World} {A : Around} {E : Value → Shared → Prop} {s : Shared}
abbrev eH2 (h : Heap) (k : Kd) (a : Addr) : Heap := (zH1 h k a).push { cls := .type "enumerate", data := .fields #[.none, .bool false, .ref h.objs.size, rawInt 0, .none, .none] }
theorem enum_meets (k : Kd) (a : Addr) (xs : Array Value) : Meets (Builtin.«enumerate.__new__» ⟨[.type "enumerate", .ref a], []⟩) (fun _ R s => SqAt s.heap k a xs ∧
    R (.ok (.ret (.ref (zH1 s.heap k a).objs.size))) { s with heap := eH2 s.heap k a }) :=
  .of_wp fun prog w A R s ⟨h1, h⟩ => by
    obtain ⟨hp, g, d, tk, os⟩ := s
    have z := sub_enumerate
    have q1 : SqAt (Shared.heap ⟨hp, g, d, tk, os⟩) k a xs := h1
    cases k with
    | l =>
      obtain ⟨⟨oc, od, dt, sl⟩, ho, hc, n, hd⟩ := (show hp.IsList a xs from h1)
      cases hc
      cases hd
      wp_walk using wpAny_loadPart' ho
      refine wpAny_stack_any fun st => wpAny_pure ?_
      split
      · rename_i c _ _ _ _ _
        cases (c == Value.type "enumerate") <;> (wp_walk using wpAny_loadPart' ho, iterK q1; exact ⟨_, rfl, h⟩)
      · wp_walk using wpAny_loadPart' ho, iterK q1
        exact ⟨_, rfl, h⟩
    | t =>
      obtain ⟨⟨oc, od, dt, sl⟩, ho, hc, n, hd⟩ := (show hp.IsTuple a xs from h1)
      cases hc
      cases hd
      wp_walk using wpAny_loadPart' ho
      refine wpAny_stack_any fun st => wpAny_pure ?_
      split
      · rename_i c _ _ _ _ _
        cases (c == Value.type "enumerate") <;> (wp_walk using wpAny_loadPart' ho, iterK q1; exact ⟨_, rfl, h⟩)
      · wp_walk using wpAny_loadPart' ho, iterK q1
        exact ⟨_, rfl, h⟩
theorem enum_made {k : Kd} {a : Addr} {xs : Array Value} {Q : Value → Shared → Prop} (h1 : SqAt s.heap k a xs)
    (h : ∀ h', IsEnum h' (s.heap.objs.size + 1) s.heap.objs.size 0 .none → ItAt h' k s.heap.objs.size a 0 → (∀ c o, s.heap.get? c = some o → h'.get? c = some o) → Q (.ref (s.heap.objs.size + 1)) { s with heap := h' }) :
    wpAny (model prog w) A (call (.type "enumerate") [.ref a]) Q E s := by
  refine callType_new F.called_enumerate (by decide) (F.typeCall_enumerate_1 _) (F.newCall_enumerate_1 _) (fun obj => F.args_object_init_2 obj _) F.entry_enumerate_new (enum_meets k a xs) ⟨h1, ?_⟩
  have e1 : (zH1 s.heap k a).objs.size = s.heap.objs.size + 1 := Heap.size_push ..
  have g2 : (eH2 s.heap k a).get? (s.heap.objs.size + 1) = some { cls := .type "enumerate", data := .fields #[.none, .bool false, .ref s.heap.objs.size, rawInt 0, .none, .none] } := by rw [← e1]; exact Heap.get?_push_size _ rfl
  show _ ∧ _
  rw [e1]
  exact ⟨⟨_, g2, rfl⟩, h _ g2 ((ItAt.new (k := k) (a := a) s.heap).at fun o e => Heap.get?_push_of_some _ e) fun c o x => Heap.get?_push_of_some _ (Heap.get?_push_of_some _ x)⟩
end
def tnE (k : Kd) (a n : Addr) (i : Nat) (h : Heap) : Prop := (∃ old, IsEnum h (n + 1) n (i : Nat) old) ∧ ItAt h k n a i
theorem turnE {P : Program} {w : World} {K : PySem.W.Frag} {elts : List Expr} {kk : Nat} {tpos : Pos} {k : Kd} {a n : Addr} (ha : a < n) : Turn P w K (.Tuple elts kk tpos) (ItE K k a) [n + 1, n] (n + 1) (tnE k a n) where
  mem := by simp
  obj := fun i h ⟨⟨old, he⟩, h1⟩ c hc => by
    have : c = n + 1 ∨ c = n := by simpa using hc
    rcases this with e | e <;> subst e
    · exact ⟨_, he, fun v => nofun⟩
    · exact h1.ob
  keep := fun i h h' ⟨⟨old, he⟩, h1⟩ kp => ⟨⟨old, kp _ (by simp) _ he⟩, h1.at fun o q => kp _ (by simp) o q⟩
  item := by
    intro X hP hw hK hc i pins s σ H E I hf ⟨⟨old, he⟩, h1⟩ ⟨xs, x, gx, ex⟩
    subst hP hw hK
    obtain ⟨its, rv, p, _⟩ := inv_sq I gx
    obtain ⟨u, hu, ru⟩ := rv.get ex
    have el : n + 1 < s.heap.objs.size := Heap.lt_size he
    have l1 : i < its.toArray.size := by rw [List.size_toArray]; exact (List.getElem?_eq_some_iff.mp hu).1
    have ne : n + 1 ≠ n := Nat.succ_ne_self n
    have nf : n + 1 ∉ [n, a] := by
      intro m
      have : n + 1 = n ∨ n + 1 = a := by simpa using m
      rcases this with z | z
      · exact ne z
      · exact absurd (Nat.lt_trans (Nat.lt_succ_self n) (z ▸ ha : n + 1 < n)) (Nat.lt_irrefl _)
    refine wpAny_pyNext_enum_itemD (drawsK (A := X.A.in1) (I.ok.hd hc) k n a (Nat.ne_of_lt ha) its.toArray) he ⟨h1, p⟩ l1 ne nf
      fun v1 h' tk q1 ho st1 hT hsz hk => ⟨_, rfl, wpAny_letOwnedTupleGo_enum (s := { s with heap := h', toks := tk + 1 }) ho fun h'' he' sb => ?_⟩
    have e1 : v1 = u := by
      have z : its[i]? = some v1 := by simpa using q1
      rw [hu] at z; exact (Option.some.inj z).symm
    subst e1
    have hT2 := (sb.2 s.heap.objs.size (Nat.ne_of_gt el)).trans hT
    have I1 : L2.Inv X pins σ (upd H s.heap.objs.size (.tup [.int (i : Nat), x])) { s with heap := h'', toks := tk + 1 } := I.turnedNew (ch := [n + 1, n]) (fun c o hb' q => (sb.2 c fun z => hb' (by simp [z])).trans (hk c o (fun z => hb' (by simp [z])) (fun z => hb' (by simp [z])) q)) hf (Nat.le_refl _)
      (pair_ok ⟨_, rfl⟩ ru hT2)
    refine ⟨.ref s.heap.objs.size, _, I1, rfl, ⟨_, x, rfl, I.hok.fresh (Nat.le_refl _), rfl, fun l hl => by rw [inv_sq_inj I hl gx]; exact ex⟩, ⟨⟨v1, ?_⟩, ?_⟩, fun c hcm => ?_⟩
    · have z : ((i + 1 : Nat) : Int) = (i : Int) + 1 := by omega
      rw [z]; exact he'
    · exact st1.1.at fun o q => (sb.2 _ (Ne.symm ne)).trans q
    · have : c < s.heap.objs.size := by
        have : c = n + 1 ∨ c = n := by simpa using hcm
        rcases this with e | e <;> rw [e]
        · exact el
        · exact Nat.lt_of_succ_lt el
      rw [upd_ne (Nat.ne_of_lt this)]
      exact (hf c hcm).1
  done := by
    intro X hP hw hK hc i pins s σ H E I hf ⟨⟨old, he⟩, h1⟩ ⟨xs, gx, en⟩
    subst hP hw hK
    obtain ⟨its, rv, p, _⟩ := inv_sq I gx
    have l1 : its.toArray.size = i := by rw [List.size_toArray, ← rv.length, en]
    refine wpAny_pyNext_enum_endD (drawsK (A := X.A.in1) (I.ok.hd hc) k n a (Nat.ne_of_lt ha) its.toArray) he (by rw [l1]; exact ⟨h1, p⟩) fun h' hk => ⟨rfl, I.turnedL (t' := s.toks) (ch := [n + 1, n]) (fun c o hb' q => hk c o (fun z => hb' (by simp [z])) q) hf⟩
  self := fun A i s Q E ⟨⟨old, he⟩, _⟩ h => wpAny_pyIter_enum he h
def iE (K : PySem.W.Frag) (k : Kd) (ta : TA) : TI := fun σ H R => ta σ H fun vs H1 => ∃ a xs, vs = [.ref a] ∧ SqG K H1 k a xs ∧ R (ItE K k a) H1
theorem piE {X : Cx} {e : Expr} {ta : TA} {p pos tpos : Pos} {elts : List Expr} {kk : Nat} (k : Kd) (hg : Gl X "enumerate") (hm : X.mg "enumerate" = none) (ha : PA X [e] ta) (hs : starEach [e] X.env = [(false, eval e X.env)] := by rfl) :
    PI X (.Tuple elts kk tpos) (.Call (.Name "enumerate" p) [e] [] pos) (iE X.K k ta) := by
  refine ⟨fun pins s σ H R I h => Call_ (ld_blt I hg hm boot_enumerate (callWith_type1 (thn (ha.run pos pins s σ H _ I h) fun us s1 ⟨vs, H1, I1, r1, a, xs, ev, gx, q⟩ => ?_) hs rfl))⟩
  subst ev
  obtain ⟨u1, rfl, q1⟩ := vals1 r1
  cases q1
  obtain ⟨its, rv, p1, _⟩ := inv_sq I1 gx
  have la : a < s1.heap.objs.size := by obtain ⟨o, z, _⟩ := p1.ob; exact Heap.lt_size z
  refine enum_made p1 fun h' he i1 hk => wpAny_pyIter_enum he ?_
  refine ⟨_, [s1.heap.objs.size + 1, s1.heap.objs.size], _, _, H1, rfl, I1.kept (t' := s1.toks) hk, turnE la, ⟨⟨_, he⟩, i1⟩, fun c hc => ?_, q⟩
  have le : s1.heap.objs.size ≤ c := by
    have : c = s1.heap.objs.size + 1 ∨ c = s1.heap.objs.size := by simpa using hc
    rcases this with z | z <;> rw [z]
    · exact Nat.le_succ _
    · exact Nat.le_refl _
  exact I1.fpOk le (I1.hok.fresh le)
end BB
end

section
set_option Elab.async false
set_option linter.all false
set_option maxRecDepth 100000
set_option maxHeartbeats 4000000
namespace BB
open PySem PySem.Spec PyProof.Rows L2
/-! ## sources -/
structure Src2 (K : PySem.W.Frag) (D : Dr) (J : It) (xs : List Val) (G : (Addr → Prop) → Hp → Prop) : Prop where
  keep : ∀ U U' H H', G U H → Keep D U U' H H' → G U' H'
  go : ∀ U H i, G U H → i < xs.length → J.go i H
  stop : ∀ U H, G U H → J.stop xs.length H
  yld : ∀ U H i x H', G U H → i < xs.length → J.yld i H x H' → ∃ v, xs[i]? = some v ∧ ((H' = H ∧ Rep K D U H x v) ∨ ∃ T vs ds, x = .ref T ∧ H T = none ∧ H' = upd H T (.tup vs) ∧ v = .tuple ds ∧ Reps K D U H vs ds)
abbrev RI : Rel It (List Val) := fun K D U H J xs => ∃ G, Src2 K D J xs G ∧ G U H
def VI (X : Cx) (W : WX) (tg e : Expr) (f : Env → R (List Val)) : Prop := PI X tg e (tG X.K X.mg W RI f)
theorem piI {X : Cx} {tg e : Expr} {t t' : TI} (h : PI X tg e t) (i : ∀ σ H R, t' σ H R → t σ H R) : PI X tg e t' := ⟨fun pins s σ H R I q => h.run pins s σ H R I (i σ H R q)⟩
theorem piOr {X : Cx} {tg e : Expr} {t t' : TI} (h : PI X tg e t) (h' : PI X tg e t') : PI X tg e (fun σ H R => t σ H R ∨ t' σ H R) := ⟨fun pins s σ H R I q => q.elim (h.run pins s σ H R I) (h'.run pins s σ H R I)⟩
section
variable {X : Cx} {W : WX} {pos p : Pos} {a b e tg : Expr} {es : List Expr} {fa fb : Env → R Val}
variable {K : PySem.W.Frag} {mg : Str → Option Value} {D : Dr} {H0 : Hp} {U : Addr → Prop} {σ : St} {H H' : Hp} {ρ : Env} {o o' : Om}
theorem src_step {x : V} {v : Val} (F : FR K D H0 U σ H ρ) (dk : DOk D o H) (y : (H' = H ∧ Rep K D U H x v) ∨ ∃ T vs ds, x = .ref T ∧ H T = none ∧ H' = upd H T (.tup vs) ∧ v = .tuple ds ∧ Reps K D U H vs ds) : Ext D H H' ∧ DOk D o H' ∧ Rep K D U H' x v := by
  rcases y with ⟨rfl, h⟩ | ⟨T, vs, ds, rfl, h1, rfl, rfl, h2⟩
  · exact ⟨Ext.refl D _, dk, h⟩
  · exact new_tup (F0 := F) (dk := dk) h1 h2
theorem src_list {a : Addr} {vs : List V} {xs : List Val} (r : Reps K D U H vs xs) (h : LstAt K U H a vs) : RI K D U H (Itl K a) xs := by
  refine ⟨fun U H => LstAt K U H a vs ∧ Reps K D U H vs xs, ⟨fun U U' H H' h k => ⟨k.lst h.1, h.2.keep k⟩, fun U H i h l => ?_, fun U H h => ⟨vs, h.1.sq, by rw [h.2.length]; exact Nat.le_refl _⟩, fun U H i x H' h l y => ?_⟩, h, r⟩
  · exact ⟨vs, vs[i]'(by rw [h.2.length]; exact l), h.1.sq, by simp⟩
  · obtain ⟨e1, e2⟩ := y
    obtain ⟨v, e3, e4⟩ := h.2.get' (e2 vs h.1.sq)
    exact ⟨v, e3, .inl ⟨e1, e4⟩⟩
theorem src_tup {a : Addr} {vs : List V} {xs : List Val} (r : Reps K D U H vs xs) (h : SqT K H a vs) : RI K D U H (Itt K a) xs := by
  refine ⟨fun U H => SqT K H a vs ∧ Reps K D U H vs xs, ⟨fun U U' H H' h k => ⟨k.sqT h.1, h.2.keep k⟩, fun U H i h l => ?_, fun U H h => ⟨vs, h.1, by rw [h.2.length]; exact Nat.le_refl _⟩, fun U H i x H' h l y => ?_⟩, h, r⟩
  · exact ⟨vs, vs[i]'(by rw [h.2.length]; exact l), h.1, by simp⟩
  · obtain ⟨e1, e2⟩ := y
    obtain ⟨v, e3, e4⟩ := h.2.get' (e2 vs h.1)
    exact ⟨v, e3, .inl ⟨e1, e4⟩⟩
def asSeq : Val → R (List Val)
  | .list xs => pure xs
  | .tuple xs => pure xs
  | .dict [(.none, .list xs)] => pure xs
  | _ => R.stk
theorem src_scr {a : Addr} {ns : List Int} (h : SqF K H a (ns.map V.int)) : RI K D U H (Itl K a) (ns.map PyData.int) := by
  refine ⟨fun U H => SqF K H a (ns.map V.int), ⟨fun U U' H H' h k => Keep.sqF (K := K) k h, fun U H i h l => ?_, fun U H h => ⟨_, SqF.sq h, by simp⟩, fun U H i x H' h l y => ?_⟩, h⟩
  · exact ⟨_, (ns.map V.int)[i]'(by simpa using l), SqF.sq h, by simp⟩
  · obtain ⟨e1, e2⟩ := y
    obtain ⟨v, e3, e4⟩ := (Reps.ofInts (K := K) (D := D) (U := U) (H := H) ns).get' (e2 _ (SqF.sq h))
    exact ⟨v, e3, .inl ⟨e1, e4⟩⟩
theorem Post.bindE {α β γ δ : Type} {Q : δ → Hp → Prop} {Q' : γ → Hp → Prop} {Rl : Hp → δ → β → Prop} {Rl' : Hp → γ → α → Prop} {x : Out α} {k : α → R β} (h : Post K mg W D U σ H Rl (x.bind k) Q)
    (n : ∀ v o y H', x = .ok v o → Ext D H H' → DOk D o H' → Rl' H' y v → Post K mg W D U σ H' Rl (k v o) Q → Q' y H') : Post K mg W D U σ H Rl' x Q' := by
  cases x with
  | ok v o => exact fun y H2 e2 d2 r => n v o y H2 rfl e2 d2 r (Post.ext h e2)
  | exc c fs o => exact h
  | stk => exact h
def iSeq (f : Env → R Val) : Env → R (List Val) := fun ρ => f ρ >>= asSeq
theorem vi_seq (ha : VE X W e fa) : VI X W tg e (iSeq fa) := by
  refine piI (piOr (pi_list ha) (pi_tup ha)) fun σ H Q ⟨D, H0, U, ρ, o, F, dk, p⟩ => ?_
  have p' : Post X.K X.mg W D U σ H (RI X.K D U) ((fa ρ o).bind asSeq) Q := p
  cases hx : fa ρ o with
  | stk => rw [hx] at p'; exact p'.elim
  | exc c fs o1 =>
    rw [hx] at p'
    exact .inl (tG_of F dk (by rw [hx]; exact p'))
  | ok v o1 =>
    cases v with
    | list xs =>
      refine .inl (tG_of F dk (Post.bindE p' fun v o2 x H1 he e1 d1 r1 p1 => ?_))
      rw [hx] at he
      cases he
      cases r1 with
      | lst h r => exact ⟨_, rfl, ⟨_, h.sq⟩, Post.ret p1 d1 (src_list r h)⟩
    | tuple xs =>
      refine .inr (tG_of F dk (Post.bindE p' fun v o2 x H1 he e1 d1 r1 p1 => ?_))
      rw [hx] at he
      cases he
      cases r1 with
      | tup h r => exact ⟨_, rfl, ⟨_, h⟩, Post.ret p1 d1 (src_tup r h)⟩
    | dict kvs =>
      match kvs, hx with
      | [(.none, .list xs)], hx =>
        refine .inl (tG_of F dk (Post.bindE p' fun v o2 x H1 he e1 d1 r1 p1 => ?_))
        rw [hx] at he
        cases he
        generalize hv : (PyData.dict [(.none, .list xs)] : Val) = w at r1
        cases r1 with
        | scr h =>
          unfold scrV at hv
          cases hv
          exact ⟨_, rfl, ⟨_, h.sq⟩, Post.ret p1 d1 (src_scr h)⟩
        | drw e => unfold drw at hv; cases hv
        | _ => cases hv
      | [], hx => rw [hx] at p'; exact False.elim p'
      | [(.none, .none)], hx => rw [hx] at p'; exact False.elim p'
      | [(.none, .bool _)], hx => rw [hx] at p'; exact False.elim p'
      | [(.none, .int _)], hx => rw [hx] at p'; exact False.elim p'
      | [(.none, .str _)], hx => rw [hx] at p'; exact False.elim p'
      | [(.none, .tuple _)], hx => rw [hx] at p'; exact False.elim p'
      | [(.none, .dict _)], hx => rw [hx] at p'; exact False.elim p'
      | (.bool _, _) :: _, hx => rw [hx] at p'; exact False.elim p'
      | (.int _, _) :: _, hx => rw [hx] at p'; exact False.elim p'
      | (.str _, _) :: _, hx => rw [hx] at p'; exact False.elim p'
      | (.list _, _) :: _, hx => rw [hx] at p'; exact False.elim p'
      | (.tuple _, _) :: _, hx => rw [hx] at p'; exact False.elim p'
      | (.dict _, _) :: _, hx => rw [hx] at p'; exact False.elim p'
      | (.none, b) :: _ :: _, hx => rw [hx] at p'; cases b <;> exact False.elim p'
    | _ => rw [hx] at p'; exact False.elim p'
/-! ranges -/
def rangeV (lo : Int) (n : Nat) : List Val := (List.range n).map fun i => .int (lo + (i : Nat))
theorem src_range (lo : Int) (n : Nat) : RI K D U H (Itr lo n) (rangeV lo n) := by
  have len : (rangeV lo n).length = n := by simp [rangeV]
  refine ⟨fun _ _ => True, ⟨fun _ _ _ _ _ _ => trivial, fun _ _ i _ l => by rw [len] at l; exact l, fun _ _ _ => by show n ≤ _; rw [len]; exact Nat.le_refl _, fun U H i x H' _ l y => ?_⟩, trivial⟩
  rw [len] at l
  obtain ⟨e1, e2⟩ := y
  exact ⟨.int (lo + (i : Nat)), by simp [rangeV, l], .inl ⟨e1, by rw [e2]; exact .int _⟩⟩
def RMAX : Int := 1000000
def iRange1 : List Val → R (List Val)
  | [.int n] => if n ≤ RMAX ∧ -RMAX ≤ n then pure (rangeV 0 n.toNat) else R.stk
  | _ => R.stk
def iRange2 : List Val → R (List Val)
  | [.int m, .int n] => if (n ≤ RMAX ∧ -RMAX ≤ n) ∧ (m ≤ RMAX ∧ -RMAX ≤ m) then pure (rangeV m (n - m).toNat) else R.stk
  | _ => R.stk
def cAI (g : List Val → R (List Val)) (f : Env → R (List Val)) : Env → R (List Val) := fun ρ => f ρ >>= g
theorem vi_range1 {f : Env → R (List Val)} (hg : Gl X "range") (hm : X.mg "range" = none) (ha : VAL X W [a] f) (hs : starEach [a] X.env = [(false, eval a X.env)] := by rfl) : VI X W tg (.Call (.Name "range" p) [a] [] pos) (cAI iRange1 f) :=
  piI (pi_range1 hg hm ha hs) fun σ H Q ⟨D, H0, U, ρ, o, F, dk, p⟩ => tG_of F dk (Post.bind p fun ds o1 vs H1 e1 d1 r1 p1 => by
    match ds, r1, p1 with
    | [.int n], r1, p1 =>
      obtain ⟨v, rfl, h⟩ := pr1 r1
      obtain ⟨c, p1⟩ := post_if p1
      have : RMAX = 1000000 := rfl
      exact ⟨n, by rw [h.int], by omega, by omega, Post.ret p1 d1 (src_range 0 n.toNat)⟩
    | [], _, p1 => exact False.elim p1
    | [.none], _, p1 => exact False.elim p1
    | [.bool _], _, p1 => exact False.elim p1
    | [.str _], _, p1 => exact False.elim p1
    | [.list _], _, p1 => exact False.elim p1
    | [.tuple _], _, p1 => exact False.elim p1
    | [.dict _], _, p1 => exact False.elim p1
    | a :: _ :: _, _, p1 => cases a <;> exact False.elim p1)
theorem vi_range2 {f : Env → R (List Val)} (hg : Gl X "range") (hm : X.mg "range" = none) (ha : VAL X W [a, b] f) (hs : starEach [a, b] X.env = [(false, eval a X.env), (false, eval b X.env)] := by rfl) (hs2 : starEach [b] X.env = [(false, eval b X.env)] := by rfl) :
    VI X W tg (.Call (.Name "range" p) [a, b] [] pos) (cAI iRange2 f) :=
  piI (pi_range2 hg hm ha hs hs2) fun σ H Q ⟨D, H0, U, ρ, o, F, dk, p⟩ => tG_of F dk (Post.bind p fun ds o1 vs H1 e1 d1 r1 p1 => by
    match ds, r1, p1 with
    | [x, y], r1, p1 =>
      obtain ⟨v, w, rfl, h, h2⟩ := pr2 r1
      cases x <;> cases y <;> try exact False.elim p1
      rename_i m n
      obtain ⟨c, p1⟩ := post_if p1
      have : RMAX = 1000000 := rfl
      exact ⟨m, n, by rw [h.int, h2.int], ⟨by omega, by omega, by omega, by omega⟩, Post.ret p1 d1 (src_range m _)⟩
    | [], _, p1 => exact False.elim p1
    | [a], _, p1 => cases a <;> exact False.elim p1
    | a :: b :: _ :: _, _, p1 => cases a <;> cases b <;> exact False.elim p1)
/-! enumerate, zip -/
def Kd.rep (K : PySem.W.Frag) (U : Addr → Prop) (H : Hp) (k : Kd) (a : Addr) (vs : List V) : Prop := match k with
  | .l => LstAt K U H a vs ∨ SqF K H a vs
  | .t => SqT K H a vs
theorem Kd.rep.sq {k : Kd} {a : Addr} {vs : List V} (h : k.rep K U H a vs) : SqG K H k a vs := by
  cases k
  · rcases h with h | h
    · exact LstAt.sq (U := U) h
    · exact SqF.sq h
  · exact h
theorem Kd.rep.keep {U' : Addr → Prop} {k : Kd} {a : Addr} {vs : List V} (h : k.rep K U H a vs) (q : Keep D U U' H H') : k.rep K U' H' a vs := by
  cases k
  · rcases h with h | h
    · exact .inl (Keep.lst (K := K) q h)
    · exact .inr (Keep.sqF (K := K) q h)
  · exact Keep.sqT (K := K) q h
/-- a sequence's kind, its items -/
def seqK : Val → Option (Kd × List Val)
  | .list xs => some (.l, xs)
  | .tuple xs => some (.t, xs)
  | .dict [(.none, .list xs)] => some (.l, xs)
  | _ => none
theorem rep_seq {x : V} {v : Val} {k : Kd} {xs : List Val} (h : Rep K D U H x v) (e : seqK v = some (k, xs)) : ∃ a vs, x = .ref a ∧ k.rep K U H a vs ∧ Reps K D U H vs xs := by
  cases h with
  | lst h r => cases e; exact ⟨_, _, rfl, .inl h, r⟩
  | tup h r => cases e; exact ⟨_, _, rfl, h, r⟩
  | scr h => cases e; exact ⟨_, _, rfl, .inr h, Reps.ofInts _⟩
  | drw h => cases e
  | _ => cases e
def enumV : List Val → List Val := fun xs => (xs.zipIdx).map fun q => .tuple [.int (q.2 : Nat), q.1]
def iEnumV : List Val → R (List Val)
  | [x] => match seqK x with
    | some (_, xs) => pure (enumV xs)
    | none => R.stk
  | _ => R.stk
theorem src_enum {k : Kd} {a : Addr} {vs : List V} {xs : List Val} (r : Reps K D U H vs xs) (h : k.rep K U H a vs) : RI K D U H (ItE K k a) (enumV xs) := by
  have len : (enumV xs).length = xs.length := by simp [enumV]
  refine ⟨fun U H => k.rep K U H a vs ∧ Reps K D U H vs xs, ⟨fun U U' H H' h q => ⟨h.1.keep q, h.2.keep q⟩, fun U H i h l => ?_, fun U H h => ⟨vs, h.1.sq, by rw [len, h.2.length]⟩, fun U H i x H' h l y => ?_⟩, h, r⟩
  · rw [len] at l
    exact ⟨vs, vs[i]'(by rw [h.2.length]; exact l), h.1.sq, by simp⟩
  · obtain ⟨T, v, e1, e2, e3, e4⟩ := y
    obtain ⟨d, q1, q2⟩ := h.2.get' (e4 vs h.1.sq)
    refine ⟨.tuple [.int (i : Nat), d], ?_, .inr ⟨T, _, _, e1, e2, e3, rfl, .cons (.int _) (.cons q2 .nil)⟩⟩
    simp [enumV, q1]
theorem vi_enum {elts : List Expr} {kk : Nat} {tpos : Pos} {f : Env → R (List Val)} (hg : Gl X "enumerate") (hm : X.mg "enumerate" = none) (ha : VA X W [a] f) (hs : starEach [a] X.env = [(false, eval a X.env)] := by rfl) :
    VI X W (.Tuple elts kk tpos) (.Call (.Name "enumerate" p) [a] [] pos) (cAI iEnumV f) := by
  refine piI (piOr (piE .l hg hm ha hs) (piE .t hg hm ha hs)) fun σ H Q ⟨D, H0, U, ρ, o, F, dk, p⟩ => ?_
  have p' : Post X.K X.mg W D U σ H (RI X.K D U) ((f ρ o).bind iEnumV) Q := p
  cases hx : f ρ o with
  | stk => rw [hx] at p'; exact p'.elim
  | exc c fs o1 => rw [hx] at p'; exact .inl (tG_of F dk (by rw [hx]; exact p'))
  | ok v o1 =>
    match v, hx with
    | [], hx => rw [hx] at p'; exact False.elim p'
    | _ :: _ :: _, hx => rw [hx] at p'; exact False.elim p'
    | [x], hx =>
      cases q : seqK x with
      | none =>
        rw [hx] at p'
        have p2 : Post X.K X.mg W D U σ H (RI X.K D U) ((match seqK x with | some (_, xs) => (pure (enumV xs) : R (List Val)) | none => R.stk) o1) Q := p'
        rw [q] at p2
        exact False.elim p2
      | some kx =>
        obtain ⟨k, xs⟩ := kx
        have main : iE X.K k (tG X.K X.mg W RA f) σ H Q := tG_of F dk (Post.bindE p' fun v o2 y H1 he e1 d1 r1 p1 => by
          rw [hx] at he
          cases he
          cases r1 with
          | cons r2 r3 =>
            cases r3
            obtain ⟨a', vs, rfl, h1, h2⟩ := rep_seq r2 q
            have p2 : Post X.K X.mg W D U σ H1 (RI X.K D U) ((match seqK x with | some (_, xs) => (pure (enumV xs) : R (List Val)) | none => R.stk) o1) Q := p1
            rw [q] at p2
            exact ⟨a', vs, rfl, h1.sq, Post.ret p2 d1 (src_enum h2 h1)⟩)
        cases k
        · exact .inl main
        · exact .inr main
def zipV (xs ys : List Val) : List Val := List.zipWith (fun x y => PyData.tuple [x, y]) xs ys
def iZipV : List Val → R (List Val)
  | [x, y] => match seqK x, seqK y with
    | some (_, xs), some (_, ys) => pure (zipV xs ys)
    | _, _ => R.stk
  | _ => R.stk
theorem src_zip {k k2 : Kd} {a b : Addr} {vs ws : List V} {xs ys : List Val} (r : Reps K D U H vs xs) (h : k.rep K U H a vs) (r2 : Reps K D U H ws ys) (h2 : k2.rep K U H b ws) : RI K D U H (ItZ K k k2 a b) (zipV xs ys) := by
  have len : (zipV xs ys).length = min xs.length ys.length := by simp [zipV]
  refine ⟨fun U H => (k.rep K U H a vs ∧ Reps K D U H vs xs) ∧ k2.rep K U H b ws ∧ Reps K D U H ws ys, ⟨fun U U' H H' h q => ⟨⟨h.1.1.keep q, h.1.2.keep q⟩, h.2.1.keep q, h.2.2.keep q⟩, fun U H i h l => ?_, fun U H h => ⟨vs, ws, h.1.1.sq, h.2.1.sq, by rw [len, h.1.2.length, h.2.2.length]⟩, fun U H i x H' h l y => ?_⟩, ⟨h, r⟩, h2, r2⟩
  · rw [len] at l
    exact ⟨vs, ws, vs[i]'(by rw [h.1.2.length]; omega), ws[i]'(by rw [h.2.2.length]; omega), h.1.1.sq, h.2.1.sq, by simp, by simp⟩
  · obtain ⟨T, v, w, e1, e2, e3, e4, e5⟩ := y
    obtain ⟨d, q1, q2⟩ := h.1.2.get' (e4 vs h.1.1.sq)
    obtain ⟨d2, q3, q4⟩ := h.2.2.get' (e5 ws h.2.1.sq)
    refine ⟨.tuple [d, d2], ?_, .inr ⟨T, _, _, e1, e2, e3, rfl, .cons q2 (.cons q4 .nil)⟩⟩
    simp [zipV, List.getElem?_zipWith, q1, q3]
/-- the values of the arguments pick the rule -/
theorem vi_zip {elts : List Expr} {kk : Nat} {tpos : Pos} {f : Env → R (List Val)} (hg : Gl X "zip") (hm : X.mg "zip" = none) (ha : VA X W [a, b] f)
    (hs : starEach [a, b] X.env = (false, eval a X.env) :: starEach [b] X.env := by rfl) (hpl : (backTo pos (starEach [b] X.env)).any (·.1) = false := by rfl) :
    VI X W (.Tuple elts kk tpos) (.Call (.Name "zip" p) [a, b] [] pos) (cAI iZipV f) := by
  refine piI (piOr (piOr (piZ .l .l hg hm ha hs hpl) (piZ .l .t hg hm ha hs hpl)) (piOr (piZ .t .l hg hm ha hs hpl) (piZ .t .t hg hm ha hs hpl))) fun σ H Q ⟨D, H0, U, ρ, o, F, dk, p⟩ => ?_
  have p' : Post X.K X.mg W D U σ H (RI X.K D U) ((f ρ o).bind iZipV) Q := p
  cases hx : f ρ o with
  | stk => rw [hx] at p'; exact p'.elim
  | exc c fs o1 => rw [hx] at p'; exact .inl (.inl (tG_of F dk (by rw [hx]; exact p')))
  | ok v o1 =>
    match v, hx with
    | [], hx => rw [hx] at p'; exact False.elim p'
    | [_], hx => rw [hx] at p'; exact False.elim p'
    | _ :: _ :: _ :: _, hx => rw [hx] at p'; exact False.elim p'
    | [x, y], hx =>
      cases q : seqK x with
      | none =>
        rw [hx] at p'
        have p2 : Post X.K X.mg W D U σ H (RI X.K D U) ((match seqK x, seqK y with | some (_, xs), some (_, ys) => (pure (zipV xs ys) : R (List Val)) | _, _ => R.stk) o1) Q := p'
        rw [q] at p2
        exact False.elim p2
      | some kx =>
        cases q' : seqK y with
        | none =>
          rw [hx] at p'
          have p2 : Post X.K X.mg W D U σ H (RI X.K D U) ((match seqK x, seqK y with | some (_, xs), some (_, ys) => (pure (zipV xs ys) : R (List Val)) | _, _ => R.stk) o1) Q := p'
          rw [q, q'] at p2
          exact False.elim p2
        | some ky =>
          obtain ⟨k, xs⟩ := kx
          obtain ⟨k2, ys⟩ := ky
          have main : iZ X.K k k2 (tG X.K X.mg W RA f) σ H Q := tG_of F dk (Post.bindE p' fun v o2 y' H1 he e1 d1 r1 p1 => by
            rw [hx] at he
            cases he
            cases r1 with
            | cons r2 r3 =>
              cases r3 with
              | cons r4 r5 =>
                cases r5
                obtain ⟨a', vs, rfl, h1, h2⟩ := rep_seq r2 q
                obtain ⟨b', ws, rfl, h3, h4⟩ := rep_seq r4 q'
                have p2 : Post X.K X.mg W D U σ H1 (RI X.K D U) ((match seqK x, seqK y with | some (_, xs), some (_, ys) => (pure (zipV xs ys) : R (List Val)) | _, _ => R.stk) o1) Q := p1
                rw [q, q'] at p2
                exact ⟨a', b', vs, ws, rfl, h1.sq, h3.sq, Post.ret p2 d1 (src_zip h2 h1 h4 h3)⟩)
          cases k <;> cases k2
          · exact .inl (.inl main)
          · exact .inl (.inr main)
          · exact .inr (.inl main)
          · exact .inr (.inr main)
/-- list(zip(a, b)) -/
def oLZ : List Val → R Val
  | [x, y] => match seqK x, seqK y with
    | some (_, xs), some (_, ys) => if xs.length ≤ LIM then pure (.list (zipV xs ys)) else R.stk
    | _, _ => R.stk
  | _ => R.stk
end
end BB
end

section
set_option Elab.async false
set_option linter.all false
set_option maxRecDepth 100000
set_option maxHeartbeats 4000000
namespace BB
open PySem PySem.Spec PyProof.Rows L2
section
variable {K : PySem.W.Frag} {mg : Str → Option Value} {D : Dr} {H0 : Hp} {U U' : Addr → Prop} {σ σ' : St} {H H' : Hp} {ρ : Env} {o o' : Om}
/-! ## slots that change -/
theorem FR.setVal (F : FR K D H0 U σ H ρ) {i : Nat} {x : V} {v : Val} (r : Rep K D U H x v) : FR K D H0 U (σ.set i (some x)) H (ρ.set i (.val v)) where
  len := by rw [List.length_set, List.length_set]; exact F.len
  val := fun j w h => by
    by_cases e : i = j
    · subst e
      by_cases l : i < ρ.length
      · rw [List.getElem?_set_self l] at h
        cases h
        exact ⟨x, by rw [List.getElem?_set_self (by rw [F.len]; exact l)], r⟩
      · rw [List.getElem?_eq_none (by rw [List.length_set]; omega)] at h; cases h
    · rw [List.getElem?_set_ne e] at h
      obtain ⟨y, h1, h2⟩ := F.val j w h
      exact ⟨y, by rw [List.getElem?_set_ne e]; exact h1, h2⟩
  own := fun j w h => by
    by_cases e : i = j
    · subst e
      by_cases l : i < ρ.length
      · rw [List.getElem?_set_self l] at h; cases h
      · rw [List.getElem?_eq_none (by rw [List.length_set]; omega)] at h; cases h
    · rw [List.getElem?_set_ne e] at h
      obtain ⟨a, xs, h1, h2⟩ := F.own j w h
      exact ⟨a, xs, by rw [List.getElem?_set_ne e]; exact h1, h2⟩
  dis := fun j k a vs ws h1 h2 h3 h4 => by
    have e1 : i ≠ j := fun e => by
      subst e
      by_cases l : i < ρ.length
      · rw [List.getElem?_set_self l] at h1; cases h1
      · rw [List.getElem?_eq_none (by rw [List.length_set]; omega)] at h1; cases h1
    have e2 : i ≠ k := fun e => by
      subst e
      by_cases l : i < ρ.length
      · rw [List.getElem?_set_self l] at h2; cases h2
      · rw [List.getElem?_eq_none (by rw [List.length_set]; omega)] at h2; cases h2
    rw [List.getElem?_set_ne e1] at h1 h3
    rw [List.getElem?_set_ne e2] at h2 h4
    exact F.dis j k a vs ws h1 h2 h3 h4
  exn := fun j a cls d c fs h => by
    by_cases e : i = j
    · subst e
      by_cases l : i < ρ.length
      · rw [List.getElem?_set_self l] at h; cases h
      · rw [List.getElem?_eq_none (by rw [List.length_set]; omega)] at h; cases h
    · rw [List.getElem?_set_ne e] at h
      obtain ⟨h1, h2⟩ := F.exn j a cls d c fs h
      exact ⟨by rw [List.getElem?_set_ne e]; exact h1, h2⟩
  dU := F.dU
  dom := F.dom
theorem FR.setUn (F : FR K D H0 U σ H ρ) {i : Nat} {x : Option V} : FR K D H0 U (σ.set i x) H (ρ.set i .un) where
  len := by rw [List.length_set, List.length_set]; exact F.len
  val := fun j w h => by
    by_cases e : i = j
    · subst e
      by_cases l : i < ρ.length
      · rw [List.getElem?_set_self l] at h; cases h
      · rw [List.getElem?_eq_none (by rw [List.length_set]; omega)] at h; cases h
    · rw [List.getElem?_set_ne e] at h
      obtain ⟨y, h1, h2⟩ := F.val j w h
      exact ⟨y, by rw [List.getElem?_set_ne e]; exact h1, h2⟩
  own := fun j w h => by
    by_cases e : i = j
    · subst e
      by_cases l : i < ρ.length
      · rw [List.getElem?_set_self l] at h; cases h
      · rw [List.getElem?_eq_none (by rw [List.length_set]; omega)] at h; cases h
    · rw [List.getElem?_set_ne e] at h
      obtain ⟨a, xs, h1, h2⟩ := F.own j w h
      exact ⟨a, xs, by rw [List.getElem?_set_ne e]; exact h1, h2⟩
  dis := fun j k a vs ws h1 h2 h3 h4 => by
    have e1 : i ≠ j := fun e => by
      subst e
      by_cases l : i < ρ.length
      · rw [List.getElem?_set_self l] at h1; cases h1
      · rw [List.getElem?_eq_none (by rw [List.length_set]; omega)] at h1; cases h1
    have e2 : i ≠ k := fun e => by
      subst e
      by_cases l : i < ρ.length
      · rw [List.getElem?_set_self l] at h2; cases h2
      · rw [List.getElem?_eq_none (by rw [List.length_set]; omega)] at h2; cases h2
    rw [List.getElem?_set_ne e1] at h1 h3
    rw [List.getElem?_set_ne e2] at h2 h4
    exact F.dis j k a vs ws h1 h2 h3 h4
  exn := fun j a cls d c fs h => by
    by_cases e : i = j
    · subst e
      by_cases l : i < ρ.length
      · rw [List.getElem?_set_self l] at h; cases h
      · rw [List.getElem?_eq_none (by rw [List.length_set]; omega)] at h; cases h
    · rw [List.getElem?_set_ne e] at h
      obtain ⟨h1, h2⟩ := F.exn j a cls d c fs h
      exact ⟨by rw [List.getElem?_set_ne e]; exact h1, h2⟩
  dU := F.dU
  dom := F.dom
/-- the slots of a block's own names forgotten -/
def wipeE (ρ : Env) : List Nat → Env
  | [] => ρ
  | v :: vs => (wipeE ρ vs).set v .un
theorem FR.wipe (F : FR K D H0 U σ H ρ) : ∀ vs : List Nat, FR K D H0 U (wipe σ vs) H (wipeE ρ vs)
  | [] => F
  | v :: vs => (FR.wipe F vs).setUn
/-- more is owned: a thing newly made -/
theorem Keep.new {p : Addr} {u : HO} (hp : H p = none) : Keep D U (fun a => U a ∨ a = p) H (upd H p u) := by
  refine ⟨fun a xs h => ?_, fun a ob x h => ?_, fun a ob h n => ⟨?_, ?_⟩⟩
  · rw [upd_ne (ne_of_none h hp)]; exact h
  · rw [upd_ne (ne_of_none h hp)]; exact h
  · rw [upd_ne (ne_of_none h hp)]; exact h
  · intro z
    rcases z with z | z
    · exact n z
    · exact ne_of_none h hp z
theorem FR.more (F : FR K D H0 U σ H ρ) {p : Addr} {ys : List V} (hp : H p = none) : FR K D H0 (fun a => U a ∨ a = p) σ (upd H p (.lst ys)) ρ where
  len := F.len
  val := fun i v h => by
    obtain ⟨x, h1, h2⟩ := F.val i v h
    exact ⟨x, h1, h2.keep (Keep.new hp)⟩
  own := fun i vs h => by
    obtain ⟨a, xs, h1, h2, h3, h4, h5, h6⟩ := F.own i vs h
    exact ⟨a, xs, h1, .inl h2, h3, h4, by rw [upd_ne (ne_of_none h5 hp)]; exact h5, h6.keep (Keep.new hp)⟩
  dis := F.dis
  exn := fun i a cls d c fs h => ⟨(F.exn i a cls d c fs h).1, (F.exn i a cls d c fs h).2.keep (Keep.new hp)⟩
  dU := fun a h => .inl (F.dU a h)
  dom := fun a h => by
    by_cases e : a = p
    · subst e
      exact ⟨_, upd_same, fun xs => nofun, fun ob u => nofun⟩
    · rcases h with h | h
      · obtain ⟨u, hu, hn⟩ := F.dom a h
        exact ⟨u, by rw [upd_ne e]; exact hu, hn⟩
      · exact absurd h e
/-- an owned list that no name keeps is written -/
theorem Keep.put {p : Addr} {xs ys : List V} (hp : H p = some (.lst xs)) (up : U p) : Keep D U U H (upd H p (.lst ys)) := by
  refine ⟨fun a zs h => ?_, fun a ob x h => ?_, fun a ob h n => ⟨?_, n⟩⟩
  · rw [upd_ne (fun e => by subst e; rw [hp] at h; cases h)]; exact h
  · rw [upd_ne (fun e => by subst e; rw [hp] at h; cases h)]; exact h
  · rw [upd_ne (fun e => by subst e; exact n up)]; exact h
theorem Keep.less {p : Addr} (hp : H p = some u) : Keep D (fun a => U a ∨ a = p) U H H :=
  ⟨fun _ _ h => h, fun _ _ _ h => h, fun a ob h n => ⟨h, fun z => n (.inl z)⟩⟩
theorem FR.put (F : FR K D H0 U σ H ρ) {p : Addr} {xs ys : List V} (hp : H p = some (.lst xs)) (up : U p) (no : ∀ (i : Nat) vs, ρ[i]? = some (.own vs) → σ[i]? ≠ some (some (.ref p))) : FR K D H0 U σ (upd H p (.lst ys)) ρ where
  len := F.len
  val := fun i v h => by
    obtain ⟨x, h1, h2⟩ := F.val i v h
    exact ⟨x, h1, h2.keep (Keep.put hp up)⟩
  own := fun i vs h => by
    obtain ⟨a, xs, h1, h2, h3, h4, h5, h6⟩ := F.own i vs h
    refine ⟨a, xs, h1, h2, h3, h4, ?_, h6.keep (Keep.put hp up)⟩
    rw [upd_ne (fun e => no i vs h (by rw [h1, e]))]; exact h5
  dis := F.dis
  exn := fun i a cls d c fs h => ⟨(F.exn i a cls d c fs h).1, (F.exn i a cls d c fs h).2.keep (Keep.put hp up)⟩
  dU := F.dU
  dom := fun a h => by
    by_cases e : a = p
    · subst e
      exact ⟨_, upd_same, fun xs => nofun, fun ob u => nofun⟩
    · obtain ⟨u, hu, hn⟩ := F.dom a h
      exact ⟨u, by rw [upd_ne e]; exact hu, hn⟩
theorem FR.noOwn (F : FR K D H0 U σ H ρ) {p : Addr} (hp : H p = none) : ∀ (i : Nat) vs, ρ[i]? = some (.own vs) → σ[i]? ≠ some (some (.ref p)) := fun i vs h e => by
  obtain ⟨a, xs, h1, h2, h3, h4, h5, h6⟩ := F.own i vs h
  rw [h1] at e
  have : a = p := by injection (Option.some.inj e) with e; injection e
  subst this
  rw [h5] at hp; cases hp
end
/-! ## targets -/
def tB (K : PySem.W.Frag) (is : List Nat) (g : Val → Env → Option Env) : TG := fun v σ H Q => ∃ (D : Dr) (H0 : Hp) (U : Addr → Prop) (ρ ρ' : Env) (d : Val),
  FR K D H0 U σ H ρ ∧ Rep K D U H v d ∧ g d ρ = some ρ' ∧ ∀ σ', FR K D H0 U σ' H ρ' → σ'.length = σ.length → (∀ j, j ∉ is → σ'[j]? = σ[j]?) → Q σ' H
def tBs (K : PySem.W.Frag) (is : List Nat) (g : List Val → Env → Option Env) : TGs := fun vs σ H Q => ∃ (D : Dr) (H0 : Hp) (U : Addr → Prop) (ρ ρ' : Env) (ds : List Val),
  FR K D H0 U σ H ρ ∧ Reps K D U H vs ds ∧ g ds ρ = some ρ' ∧ ∀ σ', FR K D H0 U σ' H ρ' → σ'.length = σ.length → (∀ j, j ∉ is → σ'[j]? = σ[j]?) → Q σ' H
structure VG (X : Cx) (tg : Expr) (is : List Nat) (g : Val → Env → Option Env) : Prop where
  pg : PG X tg (tB X.K is g)
structure VGs (X : Cx) (ts : List Expr) (is : List Nat) (g : List Val → Env → Option Env) : Prop where
  pg : PGs X ts (tBs X.K is g)
  /-- so many -/
  len : ∀ ds ρ ρ', g ds ρ = some ρ' → ds.length = ts.length
def gN (i : Nat) : Val → Env → Option Env := fun v ρ => some (ρ.set i (.val v))
def gNl : List Val → Env → Option Env
  | [], ρ => some ρ
  | _ :: _, _ => none
def gCn (g : Val → Env → Option Env) (h : List Val → Env → Option Env) : List Val → Env → Option Env
  | v :: vs, ρ => (g v ρ).bind fun ρ' => h vs ρ'
  | [], _ => none
def gTp (h : List Val → Env → Option Env) : Val → Env → Option Env
  | .tuple ds, ρ => h ds ρ
  | _, _ => none
section
variable {X : Cx} {pos : Pos} {is js : List Nat} {g : Val → Env → Option Env} {h : List Val → Env → Option Env} {tg : Expr} {ts : List Expr}
theorem vg_name {i : Nat} {x : Str} (hN : X.N.Nodup) (hi : X.N[i]? = some x) (hx : Loc X.env.scope x) (hf : X.fn x = true ∨ X.env.scope.names.lookup x = some .local := by first | exact .inl rfl | exact .inr rfl | assumption) : VG X (.Name x pos) [i] (gN i) :=
  ⟨⟨fun pins s σ H v u Q I r ⟨D, H0, U, ρ, ρ', d, F, rp, e, q⟩ => (pg_name hN hi hx hf).run pins s σ H v u Q I r (by
    cases e
    exact q _ (F.setVal rp) (List.length_set ..) fun j hj => List.getElem?_set_ne (fun z => hj (by simp [z])))⟩⟩
theorem vgs_nil : VGs X [] [] gNl :=
  ⟨⟨fun pins s σ H vs us Q I r ⟨D, H0, U, ρ, ρ', ds, F, rp, e, q⟩ => pgs_nil.run pins s σ H vs us Q I r (by
    cases rp with
    | nil => cases e; exact ⟨rfl, q σ F rfl fun _ _ => rfl⟩
    | cons _ _ => cases e)⟩, fun ds ρ ρ' e => by cases ds; rfl; cases e⟩
theorem vgs_cons (h1 : VG X tg is g) (h2 : VGs X ts js h) (hs : (assignEach (tg :: ts) X.env).map (·.2) = assign tg X.env :: (assignEach ts X.env).map (·.2) := by rfl) : VGs X (tg :: ts) (is ++ js) (gCn g h) := by
  refine ⟨⟨fun pins s σ H vs us Q I r ⟨D, H0, U, ρ, ρ', ds, F, rp, e, q⟩ => (pgs_cons h1.pg h2.pg hs).run pins s σ H vs us Q I r ?_⟩, fun ds ρ ρ' e => ?_⟩
  · cases rp with
    | nil => cases e
    | @cons v vs' d ds' r1 r2 =>
      have e' : (g d ρ).bind (fun ρ' => h ds' ρ') = some ρ' := e
      cases hg : g d ρ with
      | none => rw [hg] at e'; cases e'
      | some ρ1 =>
        rw [hg] at e'
        refine ⟨_, _, rfl, ⟨D, H0, U, ρ, ρ1, _, F, r1, hg, fun σ1 F1 l1 k1 => ⟨D, H0, U, ρ1, ρ', ds', F1, r2, e', fun σ2 F2 l2 k2 => q σ2 F2 (l2.trans l1) fun j hj => ?_⟩⟩⟩
        rw [List.mem_append, not_or] at hj
        rw [k2 j hj.2, k1 j hj.1]
  · cases ds with
    | nil => cases e
    | cons d ds' =>
      have e' : (g d ρ).bind (fun ρ' => h ds' ρ') = some ρ' := e
      cases hg : g d ρ with
      | none => rw [hg] at e'; cases e'
      | some ρ1 =>
        rw [hg] at e'
        simp [h2.len _ _ _ e']
theorem vg_tup {k : Nat} (hc : X.calm = true) (h2 : VGs X ts is h) (hn : (assignEach ts X.env).length = ts.length := by rfl) (hst : (assignEach ts X.env).findIdx? (·.1) = none := by rfl) : VG X (.Tuple ts k pos) is (gTp h) :=
  ⟨⟨fun pins s σ H v u Q I r ⟨D, H0, U, ρ, ρ', d, F, rp, e, q⟩ => (pg_tup hc h2.pg hn hst).run pins s σ H v u Q I r (by
    cases rp with
    | tup h1 r2 => exact ⟨_, _, rfl, h1, by rw [r2.length]; exact h2.len _ _ _ e, D, H0, U, ρ, ρ', _, F, r2, e, q⟩
    | _ => cases e)⟩⟩
end
/-! ## comprehensions -/
def W0 : WX := fun _ _ _ _ => False
def Out.nx {α : Type} : Out α → Out α
  | .exc _ _ _ => .stk
  | x => x
def R.nx {α : Type} (m : R α) : R α := fun o => (m o).nx
def lcStep (g : Val → Env → Option Env) (ft : Env → R Bool) (fe : Env → R Val) (ρ : Env) (x : Val) : R (List Val) := match g x ρ with
  | none => R.stk
  | some ρ' => R.nx (ft ρ') >>= fun b => if b = true then R.nx (fe ρ') >>= fun y => pure [y] else pure []
def lcGo (g : Val → Env → Option Env) (ft : Env → R Bool) (fe : Env → R Val) (ρ : Env) : List Val → R (List Val)
  | [] => pure []
  | x :: xs => lcStep g ft fe ρ x >>= fun r => lcGo g ft fe ρ xs >>= fun rs => pure (r ++ rs)
def cLc (vs : List Nat) (fi : Env → R (List Val)) (g : Val → Env → Option Env) (ft : Env → R Bool) (fe : Env → R Val) : Env → R Val := fun ρ =>
  fi ρ >>= fun xs => if xs.length ≤ LIM then lcGo g ft fe (wipeE ρ vs) xs >>= fun ys => pure (.list ys) else R.stk
/-- a list newly made -/
def RFr (K : PySem.W.Frag) (D : Dr) (U : Addr → Prop) (H : Hp) : Hp → V → Val → Prop := fun H' y v => ∃ a xs ds, y = .ref a ∧ v = .list ds ∧ H a = none ∧ ¬ U a ∧ H' a = some (.lst xs) ∧ Reps K D (fun b => U b ∨ b = a) H' xs ds
def tF (K : PySem.W.Frag) (mg : Str → Option Value) (W : WX) (f : Env → R Val) : TE := fun σ H Q => ∃ (D : Dr) (H0 : Hp) (U : Addr → Prop) (ρ : Env) (o : Om),
  FR K D H0 U σ H ρ ∧ DOk D o H ∧ Post K mg W D U σ H (RFr K D U H) (f ρ o) Q
def VF (X : Cx) (W : WX) (e : Expr) (f : Env → R Val) : Prop := PE X e (tF X.K X.mg W f)
section
variable {X : Cx} {W : WX} {e : Expr} {f : Env → R Val}
variable {K : PySem.W.Frag} {mg : Str → Option Value} {D : Dr} {H0 : Hp} {U U' : Addr → Prop} {σ σ' : St} {H H' H1 : Hp} {ρ : Env} {o o' : Om}
theorem VF.ve (h : VF X W e f) : VE X W e f := peI h fun σ H Q ⟨D, H0, U, ρ, o, F, dk, p⟩ => ⟨D, H0, U, ρ, o, F, dk, p.imp (Ext.refl D H) (fun H' y v ⟨a, xs, ds, h1, h2, h3, h4, h5, h6⟩ => by
  subst h1; subst h2; exact .lst ⟨h4, h5⟩ (h6.keep (Keep.less h5))) fun _ _ z => z⟩
/-- a step that raises nothing, at a heap further on -/
theorem Post.bindN {α β γ δ : Type} {Q : δ → Hp → Prop} {Q' : γ → Hp → Prop} {Rl : Hp → δ → β → Prop} {Rl' : Hp → γ → α → Prop} {x : Out α} {k : α → R β} (h : Post K mg W D U σ H1 Rl (x.nx.bind k) Q)
    (n : ∀ v o y H', Ext D H H' → DOk D o H' → Rl' H' y v → Post K mg W D U σ H1 Rl (k v o) Q → Q' y H') : Post K mg W0 D U' σ' H Rl' x Q' := by
  cases x with
  | ok v o => exact fun y H2 e2 d2 r => n v o y H2 e2 d2 r h
  | exc c fs o => exact h.elim
  | stk => exact h
theorem bindAss {α β γ : Type} (x : Out α) (f : α → R β) (g : β → R γ) : (x.bind f).bind g = x.bind fun a => f a >>= g := by cases x <;> rfl
theorem wipe_same : ∀ {vs is : List Nat} {σ σ' : St}, σ'.length = σ.length → (∀ j, j ∉ vs → σ'[j]? = σ[j]?) → wipe σ' vs = wipe σ vs := fun {vs is σ σ'} hl hk => by
  apply List.ext_getElem?
  intro j
  by_cases hj : j ∈ vs
  · have two : ∀ (τ : St), (wipe τ vs)[j]? = if j < τ.length then some none else none := fun τ => by
      clear hk hl
      induction vs with
      | nil => cases hj
      | cons v vs ih =>
        unfold wipe
        by_cases e : v = j
        · subst e
          rw [List.getElem?_set]
          simp [wipe_length]
        · rw [List.getElem?_set_ne e]
          exact ih ((List.mem_cons.mp hj).resolve_left fun z => e z.symm)
    rw [two, two, hl]
  · rw [wipe_out hj, wipe_out hj]
    exact hk j hj
theorem wipe_wipe (σ : St) (vs : List Nat) : wipe (wipe σ vs) vs = wipe σ vs := wipe_same (is := vs) (wipe_length _ _) fun j hj => wipe_out hj
/-- the loop -/
theorem lc_of {J : It} {xs : List Val} {G : (Addr → Prop) → Hp → Prop} {g : Val → Env → Option Env} {is vs : List Nat} {ft : Env → R Bool} {fe : Env → R Val} {Q : VK} (sub : ∀ j ∈ is, j ∈ vs)
    (F : FR K D H0 U σ H ρ) (dk : DOk D o H) (S : Src2 K D J xs G) (g0 : G U H) (hl : xs.length ≤ LIM) (hf : ∀ a, H a = none → H1 a = none)
    (p : Post K mg W D U σ H (RFr K D U H1) ((lcGo g ft fe (wipeE ρ vs) xs o).bind fun ys => pure (.list ys)) Q) :
    ∀ L, H L = none → ∃ Wx : Nat → Nat → Hp → Prop, (∃ m, Wx 0 m (upd H L (.lst []))) ∧ ∀ i m H, Wx i m H →
      (J.stop i H ∧ Q (.ref L) H) ∨ (J.go i H ∧ ∃ Nx : Hp → Prop, (∀ H', Nx H' → ∃ m', m' < m ∧ Wx (i + 1) m' H') ∧ ∀ x H', J.yld i H x H' → tB K is g x (wipe σ vs) H' fun σ2 H2 => wipe σ2 vs = wipe σ vs ∧ tG K mg W0 RB ft σ2 H2 fun b H3 =>
        if b = true then tG K mg W0 RV fe σ2 H3 fun y H4 => ∃ acc, H4 L = some (.lst acc) ∧ acc.length < sizeLine ∧ Nx (upd H4 L (.lst (acc ++ [y]))) else Nx H3) := by
  intro L hL
  have nD : ¬ D.has L := fun z => by
    obtain ⟨u, hu, _⟩ := dk.dom z
    rw [hL] at hu; cases hu
  have nU : ¬ U L := F.fresh hL
  let U2 : Addr → Prop := fun a => U a ∨ a = L
  let Pv : Nat → Hp → Prop := fun i H' => ∃ (o' : Om) (accv : List V) (acc : List Val), FR K D H0 U2 (wipe σ vs) H' (wipeE ρ vs) ∧ DOk D o' H' ∧ Ext D H H' ∧ H' L = some (.lst accv) ∧ Reps K D U2 H' accv acc ∧ accv.length ≤ i ∧ G U2 H' ∧
    Post K mg W D U σ H (RFr K D U H1) ((lcGo g ft fe (wipeE ρ vs) (xs.drop i) o').bind fun ys => pure (.list (acc ++ ys))) Q
  refine ⟨fun i m H' => m = xs.length - i ∧ i ≤ xs.length ∧ Pv i H', ⟨xs.length, by simp, Nat.zero_le _, ?_⟩, ?_⟩
  · refine ⟨o, [], [], (F.more hL).wipe vs, dk.upd hL, Ext.upd hL, upd_same, .nil, Nat.zero_le _, S.keep _ _ _ _ g0 (Keep.new hL), ?_⟩
    simpa using p
  rintro i m H2 ⟨rfl, hi, o2, accv, acc, F2, d2, e2, hL2, ra, la, g2, p2⟩
  by_cases hlt : i < xs.length
  · have hx : xs.drop i = xs[i] :: xs.drop (i + 1) := List.drop_eq_getElem_cons hlt
    rw [hx] at p2
    refine .inr ⟨S.go _ _ _ g2 hlt, Pv (i + 1), fun H' q => ⟨xs.length - (i + 1), by omega, rfl, hlt, q⟩, fun x H3 y => ?_⟩
    obtain ⟨v, hv, y⟩ := S.yld _ _ _ _ _ g2 hlt y
    have ev : xs[i] = v := by rw [List.getElem?_eq_getElem hlt] at hv; exact Option.some.inj hv
    rw [ev] at p2
    obtain ⟨e3, d3, r3⟩ := src_step F2 d2 y
    have F3 := F2.ext d2 e3 d3
    have hL3 : H3 L = some (.lst accv) := e3 L _ hL2 nD
    have ra3 := ra.keep (F2.keep d2 e3)
    have g3 := S.keep _ _ _ _ g2 (F2.keep d2 e3)
    have p3 : Post K mg W D U σ H (RFr K D U H1) ((lcStep g ft fe (wipeE ρ vs) v o2).bind fun r => (fun o => ((lcGo g ft fe (wipeE ρ vs) (xs.drop (i + 1)) o).bind fun ys => pure (PyData.list (acc ++ (r ++ ys)))))) Q := by
      have : (lcGo g ft fe (wipeE ρ vs) (v :: xs.drop (i + 1)) o2).bind (fun ys => (pure (.list (acc ++ ys)) : R Val)) = (lcStep g ft fe (wipeE ρ vs) v o2).bind (fun r => (fun o => ((lcGo g ft fe (wipeE ρ vs) (xs.drop (i + 1)) o).bind fun ys => pure (PyData.list (acc ++ (r ++ ys)))))) := by
        show ((lcStep g ft fe (wipeE ρ vs) v o2).bind (fun r => lcGo g ft fe (wipeE ρ vs) (xs.drop (i + 1)) >>= fun rs => pure (r ++ rs))).bind (fun ys => (pure (.list (acc ++ ys)) : R Val)) = _
        rw [bindAss]
        congr 1
        funext r
        funext o
        show ((lcGo g ft fe (wipeE ρ vs) (xs.drop (i + 1)) o).bind (fun rs => (pure (r ++ rs) : R (List Val)))).bind (fun ys => (pure (.list (acc ++ ys)) : R Val)) = _
        rw [bindAss]
        rfl
      rw [this] at p2
      exact p2
    unfold lcStep at p3
    cases hg : g v (wipeE ρ vs) with
    | none => rw [hg] at p3; exact p3.elim
    | some ρ' =>
      rw [hg] at p3
      refine ⟨D, H0, U2, wipeE ρ vs, ρ', v, F3, r3, hg, fun σ2 F4 l4 k4 => ⟨?_, ?_⟩⟩
      · refine (wipe_same (is := vs) l4 fun j hj => k4 j fun z => hj (sub j z)).trans (wipe_wipe σ vs)
      · have back : ∀ {H' : Hp} {o' : Om}, Ext D H3 H' → DOk D o' H' → FR K D H0 U2 (wipe σ vs) H' (wipeE ρ vs) := fun e' d' => F3.ext d3 e' d'
        refine tG_of F4 d3 (Post.bindN (k := fun b => ((if b = true then R.nx (fe ρ') >>= fun y => pure [y] else pure []) : R (List Val)) >>= fun r => (fun o => ((lcGo g ft fe (wipeE ρ vs) (xs.drop (i + 1)) o).bind fun ys => pure (PyData.list (acc ++ (r ++ ys)))))) (by
          have z := p3
          have : (((R.nx (ft ρ') >>= fun b => if b = true then R.nx (fe ρ') >>= fun y => pure [y] else pure []) : R (List Val)) o2) = ((ft ρ' o2).nx).bind (fun b => if b = true then R.nx (fe ρ') >>= fun y => pure [y] else pure []) := rfl
          have z' := z
          rw [show (match some ρ' with | none => (R.stk : R (List Val)) | some ρ' => R.nx (ft ρ') >>= fun b => if b = true then R.nx (fe ρ') >>= fun y => pure [y] else pure []) = (R.nx (ft ρ') >>= fun b => if b = true then R.nx (fe ρ') >>= fun y => pure [y] else pure []) from rfl, this, bindAss] at z'
          exact z') fun b o5 y5 H5 e5 d5 r5 p5 => ?_)
        subst r5
        have F5 := F4.ext d3 e5 d5
        have Fb := back e5 d5
        have hL5 : H5 L = some (.lst accv) := e5 L _ hL3 nD
        have ra5 := ra3.keep (F3.keep d3 e5)
        have g5 := S.keep _ _ _ _ g3 (F3.keep d3 e5)
        cases y5 with
        | false =>
          simp only [Bool.false_eq_true, if_false] at p5 ⊢
          exact ⟨o5, accv, acc, Fb, d5, (e2.trans e3).trans e5, hL5, ra5, by omega, g5, by simpa [bindE, pureE, Out.bind] using p5⟩
        | true =>
          simp only [if_true] at p5 ⊢
          refine tG_of F5 d5 (Post.bindN (k := fun y => (pure [y] : R (List Val)) >>= fun r => (fun o => ((lcGo g ft fe (wipeE ρ vs) (xs.drop (i + 1)) o).bind fun ys => pure (PyData.list (acc ++ (r ++ ys)))))) (by
            have z := p5
            rw [bindE, bindE, bindAss] at z
            exact z) fun v6 o6 y6 H6 e6 d6 r6 p6 => ?_)
          have F6 := Fb.ext d5 e6 d6
          have hL6 : H6 L = some (.lst accv) := e6 L _ hL5 nD
          have ra6 := ra5.keep (Fb.keep d5 e6)
          have g6 := S.keep _ _ _ _ g5 (Fb.keep d5 e6)
          refine ⟨accv, hL6, Nat.lt_of_lt_of_le (by omega : accv.length < LIM + 1) (by have := lim_ok (Nat.le_refl LIM); unfold sizeLine; decide), ?_⟩
          have kp : Keep D U2 U2 H6 (upd H6 L (.lst (accv ++ [y6]))) := Keep.put hL6 (.inr rfl)
          have e7 : Ext D H (upd H6 L (.lst (accv ++ [y6]))) := fun a u hu nd => by
            rw [upd_ne (ne_of_none hu hL)]
            exact (((e2.trans e3).trans e5).trans e6) a u hu nd
          refine ⟨o6, accv ++ [y6], acc ++ [v6], F6.put hL6 (.inr rfl) (fun j ws h e => ?_), d6.same fun a ha => ?_, e7, upd_same, (ra6.append (.cons r6 .nil)).keep kp, by simp; omega, S.keep _ _ _ _ g6 kp, ?_⟩
          · obtain ⟨a, zs, h1, h2, h3, h4, h5, h6⟩ := (F.wipe vs).own j ws h
            rw [h1] at e
            have : a = L := by injection (Option.some.inj e) with e; injection e
            subst this
            rw [h5] at hL; cases hL
          · exact upd_ne (fun e => by subst e; exact nD ha)
          · have : (pure [v6] : R (List Val)) o6 = .ok [v6] o6 := rfl
            simpa [this, bindE, pureE, Out.bind] using p6
  · have e : i = xs.length := by omega
    subst e
    refine .inl ⟨S.stop _ _ g2, ?_⟩
    rw [List.drop_length] at p2
    have p3 : Post K mg W D U σ H (RFr K D U H1) (R.pure (.list acc) o2) Q := by
      have z := p2
      simp only [lcGo] at z
      have : ((pure ([] : List Val) : R (List Val)) o2).bind (fun ys => (pure (.list (acc ++ ys)) : R Val)) = R.pure (.list acc) o2 := by simp [pure, R.pure, Out.bind]
      rw [this] at z
      exact z
    exact p3 _ _ e2 d2 ⟨L, accv, acc, rfl, rfl, hf L hL, nU, hL2, ra⟩
theorem lc_te {g : Val → Env → Option Env} {is vs : List Nat} {fi : Env → R (List Val)} {ft : Env → R Bool} {fe : Env → R Val} (sub : ∀ j ∈ is, j ∈ vs) {Q : VK} (h : tF K mg W (cLc vs fi g ft fe) σ H Q) :
    tLc (tG K mg W RI fi) (tB K is g) (tG K mg W0 RB ft) (tG K mg W0 RV fe) vs σ H Q := by
  obtain ⟨D, H0, U, ρ, o, F, dk, p⟩ := h
  refine tG_of F dk (Post.bind p fun xs o1 J H1 e1 d1 ⟨G, S, g0⟩ p1 => ?_)
  obtain ⟨c, p1⟩ := post_if p1
  exact lc_of (H1 := H) sub (F.ext dk e1 d1) d1 S g0 c (fun a ha => by
    cases q : H a with
    | none => rfl
    | some u =>
      exfalso
      by_cases z : D.has a
      · obtain ⟨w, hw, _⟩ := d1.dom z
        rw [ha] at hw; cases hw
      · rw [e1 a u q z] at ha; cases ha) p1
theorem pts_none : PTs X [] (tG X.K X.mg W0 RB fun _ => pure true) := ⟨fun pins s σ H Q I ⟨D, H0, U, ρ, o, F, dk, p⟩ => pts_nil.run pins s σ H Q I (Post.ret p dk rfl)⟩
variable {elt tg iter : Expr} {ifs : List Expr} {scope : Scope} {own : List (Str × Nat)} {pos : Pos} {g : Val → Env → Option Env} {is : List Nat} {fi : Env → R (List Val)} {ft : Env → R Bool} {fe : Env → R Val}
/-- the block's context -/
abbrev BK (X : Cx) (scope : Scope) (φ : Cx → Prop) : Prop := ∀ (s : Shared) (H : Hp) (C : Addr) (cl : List (Str × Addr)) (fp : List Addr), φ (X.blk s H scope (compEnvC scope cl C X.env) fp)
theorem vf_lc (hc : X.calm = true) (hN : X.N.Nodup) (hi : VI X W tg iter fi) (ok : BlkOk X.N X.env.scope scope own) (sub : ∀ j ∈ is, j ∈ own.map (·.2))
    (hg : BK X scope fun Y => VG Y tg is g) (he : BK X scope fun Y => VE Y W0 elt fe) (hs : ∀ x, foldedSetIterable iter X.env x = pure x := by intro _; rfl) :
    VF X W (.ListComp elt [⟨tg, iter, [], 0⟩] scope pos) (cLc (own.map (·.2)) fi g (fun _ => pure true) fe) :=
  peI (pe_lc hc hN hi ok (te := tG X.K X.mg W0 RV fe) (g := tB X.K is g) (fun s H C cl fp => (hg s H C cl fp).pg) (tt := tG X.K X.mg W0 RB fun _ => pure true) (fun s H C cl fp => pts_none (X := X.blk s H scope (compEnvC scope cl C X.env) fp)) (fun s H C cl fp => he s H C cl fp) hs) fun σ H Q h => lc_te sub h
theorem vf_lcif {t : Expr} (hc : X.calm = true) (hN : X.N.Nodup) (hi : VI X W tg iter fi) (ok : BlkOk X.N X.env.scope scope own) (sub : ∀ j ∈ is, j ∈ own.map (·.2))
    (hg : BK X scope fun Y => VG Y tg is g) (ht : BK X scope fun Y => VT Y W0 t ft) (he : BK X scope fun Y => VE Y W0 elt fe) (hs : ∀ x, foldedSetIterable iter X.env x = pure x := by intro _; rfl) :
    VF X W (.ListComp elt [⟨tg, iter, [t], 0⟩] scope pos) (cLc (own.map (·.2)) fi g ft fe) :=
  peI (pe_lc hc hN hi ok (te := tG X.K X.mg W0 RV fe) (g := tB X.K is g) (fun s H C cl fp => (hg s H C cl fp).pg) (tt := tG X.K X.mg W0 RB ft) (fun s H C cl fp => pts_one (show PT (X.blk s H scope (compEnvC scope cl C X.env) fp) t (tG X.K X.mg W0 RB ft) from ht s H C cl fp)) (fun s H C cl fp => he s H C cl fp) hs) fun σ H Q h => lc_te sub h
theorem takes0 (h : X.xe = fun _ _ => False) : Takes X W0 := fun u s' ⟨a, B, sI, pins, σ, H, cls, d, e, I, nb, up, sky, na, os, ag, w⟩ => w.elim
end
end BB
end

section
set_option Elab.async false
set_option linter.all false
set_option maxRecDepth 100000
set_option maxHeartbeats 4000000
namespace BB
open PySem PySem.Spec PyProof.Rows L2
/-! ## statements -/
inductive SO where
  | nx (ρ : Env)
  | rt (v : Val)
  | bk (ρ : Env)
  | ct (ρ : Env)
  | ex (c : Str) (fs : List (Str × Val)) (ρ : Env)
abbrev SF := Env → R SO
/-- H0, U0: at the def's entry; Hb, Ub: a place ahead -/
structure FS (K : PySem.W.Frag) (D : Dr) (H0 : Hp) (U0 : Addr → Prop) (Hb : Hp) (Ub U : Addr → Prop) (σ : St) (H : Hp) (ρ : Env) : Prop where
  fr : FR K D H0 U σ H ρ
  ext : Ext D H0 H
  sub : ∀ a, U0 a → U a
  dom0 : ∀ a, U0 a → ∃ o, H0 a = some o
  kp : Keep D Ub U Hb H
def SPost (K : PySem.W.Frag) (mg : Str → Option Value) (W : WX) (Z : Ends) (D : Dr) (H0 : Hp) (U0 : Addr → Prop) (Hb : Hp) (Ub : Addr → Prop) : Out SO → Prop
  | .ok (.nx ρ) o => ∀ U σ H, FS K D H0 U0 Hb Ub U σ H ρ → DOk D o H → Z.nx σ H
  | .ok (.bk ρ) o => ∀ U σ H, FS K D H0 U0 Hb Ub U σ H ρ → DOk D o H → Z.bk σ H
  | .ok (.ct ρ) o => ∀ U σ H, FS K D H0 U0 Hb Ub U σ H ρ → DOk D o H → Z.ct σ H
  | .ok (.rt v) o => ∀ y H, Ext D H0 H → DOk D o H → Rep K D U0 H y v → Z.rt y H
  | .ok (.ex c fs ρ) o => ∀ U σ H cls d, FS K D H0 U0 Hb Ub U σ H ρ → DOk D o H → ExR K mg D U H c fs cls d → W cls d σ H
  | .exc _ _ _ => False
  | .stk => False
def tS (K : PySem.W.Frag) (mg : Str → Option Value) (W : WX) (f : SF) : TS := fun Z σ H => ∃ (D : Dr) (H0 : Hp) (U0 : Addr → Prop) (Hb : Hp) (Ub U : Addr → Prop) (ρ : Env) (o : Om),
  FS K D H0 U0 Hb Ub U σ H ρ ∧ DOk D o H ∧ SPost K mg W Z D H0 U0 Hb Ub (f ρ o)
def VS (X : Cx) (W : WX) (st : Stmt) (f : SF) : Prop := PS X st (tS X.K X.mg W f)
def VSs (X : Cx) (W : WX) (st : List Stmt) (f : SF) : Prop := PSs X st (tS X.K X.mg W f)
theorem Keep.refl {D : Dr} {U : Addr → Prop} {H : Hp} : Keep D U U H H := ⟨fun _ _ h => h, fun _ _ _ h => h, fun _ _ h n => ⟨h, n⟩⟩
theorem Keep.trans {D : Dr} {U U1 U2 : Addr → Prop} {H H1 H2 : Hp} (a : Keep D U U1 H H1) (b : Keep D U1 U2 H1 H2) : Keep D U U2 H H2 :=
  ⟨fun x xs h => b.1 _ _ (a.1 _ _ h), fun x ob u h => b.2.1 _ _ _ (a.2.1 _ _ _ h), fun x ob h n => b.2.2 _ _ (a.2.2 _ _ h n).1 (a.2.2 _ _ h n).2⟩
section
variable {K : PySem.W.Frag} {mg : Str → Option Value} {D : Dr} {H0 Hb Hc : Hp} {U0 Ub Uc U U' : Addr → Prop} {σ σ' : St} {H H' H1 : Hp} {ρ ρ' : Env} {o o' : Om} {W : WX} {Z : Ends}
theorem FS.ext1 (F : FS K D H0 U0 Hb Ub U σ H ρ) (dk : DOk D o H) (e : Ext D H H') (dk' : DOk D o' H') : FS K D H0 U0 Hb Ub U σ H' ρ :=
  ⟨F.fr.ext dk e dk', F.ext.trans e, F.sub, F.dom0, F.kp.trans (F.fr.keep dk e)⟩
theorem FS.withR (F : FS K D H0 U0 Hb Ub U σ H ρ) (R : FR K D H0 U σ' H ρ') : FS K D H0 U0 Hb Ub U σ' H ρ' := ⟨R, F.ext, F.sub, F.dom0, F.kp⟩
/-- another place ahead -/
theorem FS.base (F : FS K D H0 U0 Hc Uc U σ H ρ) (k : Keep D Ub Uc Hb Hc) : FS K D H0 U0 Hb Ub U σ H ρ := ⟨F.fr, F.ext, F.sub, F.dom0, k.trans F.kp⟩
theorem FS.here (F : FS K D H0 U0 Hb Ub U σ H ρ) : FS K D H0 U0 H U U σ H ρ := ⟨F.fr, F.ext, F.sub, F.dom0, Keep.refl⟩
/-- a value that is handed back -/
theorem FS.ret (F : FS K D H0 U0 Hb Ub U σ H ρ) : Keep D U U0 H H := ⟨fun _ _ h => h, fun _ _ _ h => h, fun a ob h n => ⟨h, fun z => n (F.sub a z)⟩⟩
theorem SPost.base {x : Out SO} (p : SPost K mg W Z D H0 U0 Hb Ub x) (k : Keep D Ub Uc Hb Hc) : SPost K mg W Z D H0 U0 Hc Uc x := by
  cases x with
  | ok s o =>
    cases s with
    | nx ρ => exact fun U σ H F d => p U σ H (F.base k) d
    | bk ρ => exact fun U σ H F d => p U σ H (F.base k) d
    | ct ρ => exact fun U σ H F d => p U σ H (F.base k) d
    | rt v => exact p
    | ex c fs ρ => exact fun U σ H cls dd F d => p U σ H cls dd (F.base k) d
  | exc c fs o => exact p
  | stk => exact p
/-- an expression, then the rest -/
def liftE {α : Type} (fe : Env → R α) (k : α → SF) : SF := fun ρ o => match fe ρ o with
  | .ok v o' => k v ρ o'
  | .exc c fs o' => .ok (.ex c fs ρ) o'
  | .stk => .stk
theorem post_lift {γ α : Type} {Rl : Hp → γ → α → Prop} {fe : Env → R α} {k : α → SF} {Q : γ → Hp → Prop} (F : FS K D H0 U0 Hb Ub U σ H ρ) (dk : DOk D o H) (p : SPost K mg W Z D H0 U0 Hb Ub (liftE fe k ρ o))
    (n : ∀ v o' y H', Ext D H H' → DOk D o' H' → FS K D H0 U0 Hb Ub U σ H' ρ → Rl H' y v → SPost K mg W Z D H0 U0 Hb Ub (k v ρ o') → Q y H') : Post K mg W D U σ H Rl (fe ρ o) Q := by
  unfold liftE at p
  cases h : fe ρ o with
  | ok v o' =>
    rw [h] at p
    exact fun y H' e d r => n v o' y H' e d (F.ext1 dk e d) r p
  | exc c fs o' =>
    rw [h] at p
    exact fun cls d H' e dd x => p U σ H' cls d (F.ext1 dk e dd) dd x
  | stk => rw [h] at p; exact p
end
def sNil : SF := fun ρ => pure (.nx ρ)
def sSeq (f g : SF) : SF := fun ρ => f ρ >>= fun s => match s with
  | .nx ρ' => g ρ'
  | r => pure r
def sStk : SF := fun _ => R.stk
section
variable {X : Cx} {W : WX} {st : Stmt} {rest : List Stmt} {f g : SF} {e : Expr} {fe : Env → R Val} {pos : Pos}
theorem vss_nil : VSs X W [] sNil := pssI pss_nil fun Z σ H ⟨D, H0, U0, Hb, Ub, U, ρ, o, F, dk, p⟩ => p U σ H F dk
theorem vss_cons (h1 : VS X W st f) (h2 : VSs X W rest g) : VSs X W (st :: rest) (sSeq f g) := pssI (pss_cons h1 h2) fun Z σ H ⟨D, H0, U0, Hb, Ub, U, ρ, o, F, dk, p⟩ => by
  refine ⟨D, H0, U0, Hb, Ub, U, ρ, o, F, dk, ?_⟩
  have p' : SPost X.K X.mg W Z D H0 U0 Hb Ub ((f ρ o).bind fun s => match s with | .nx ρ' => g ρ' | r => pure r) := p
  cases h : f ρ o with
  | ok s o1 =>
    rw [h] at p'
    cases s with
    | nx ρ1 => exact fun U1 σ1 H1 F1 d1 => ⟨D, H0, U0, Hb, Ub, U1, ρ1, o1, F1, d1, p'⟩
    | bk ρ1 => exact p'
    | ct ρ1 => exact p'
    | rt v => exact p'
    | ex c fs ρ1 => exact p'
  | exc c fs o1 => rw [h] at p'; exact p'
  | stk => rw [h] at p'; exact p'
theorem vss_one (h1 : VS X W st f) : VSs X W [st] f := pssI (pss_one h1) fun Z σ H h => h
/-- code that is never come to -/
theorem vs_stk : VS X W st sStk := psI ps_never fun Z σ H ⟨D, H0, U0, Hb, Ub, U, ρ, o, F, dk, p⟩ => p
theorem vss_stk {sts : List Stmt} : VSs X W sts sStk := pssI pss_never fun Z σ H ⟨D, H0, U0, Hb, Ub, U, ρ, o, F, dk, p⟩ => p
theorem vs_pass : VS X W (.Pass pos) sNil := psI ps_pass fun Z σ H ⟨D, H0, U0, Hb, Ub, U, ρ, o, F, dk, p⟩ => p U σ H F dk
def sBk : SF := fun ρ => pure (.bk ρ)
def sCt : SF := fun ρ => pure (.ct ρ)
theorem vs_break : VS X W (.Break pos) sBk := psI ps_break fun Z σ H ⟨D, H0, U0, Hb, Ub, U, ρ, o, F, dk, p⟩ => p U σ H F dk
theorem vs_continue : VS X W (.Continue pos) sCt := psI ps_continue fun Z σ H ⟨D, H0, U0, Hb, Ub, U, ρ, o, F, dk, p⟩ => p U σ H F dk
/-- e -/
def sExpr (fe : Env → R Val) : SF := liftE fe fun _ ρ => pure (.nx ρ)
theorem vs_expr (he : VE X W e fe) (hs : swapsWith e none pos.line X.env = pure false := by rfl) : VS X W (.Expr e pos) (sExpr fe) := psI (ps_expr he hs) fun Z σ H ⟨D, H0, U0, Hb, Ub, U, ρ, o, F, dk, p⟩ =>
  tG_of F.fr dk (post_lift F dk p fun v o1 y H1 e1 d1 F1 r1 p1 => p1 U σ H1 F1 d1)
/-- return e -/
def sRet (fe : Env → R Val) : SF := liftE fe fun v _ => pure (.rt v)
theorem vs_ret (he : VE X W e fe) : VS X W (.Return (some e) pos) (sRet fe) := psI (ps_ret he) fun Z σ H ⟨D, H0, U0, Hb, Ub, U, ρ, o, F, dk, p⟩ =>
  tG_of F.fr dk (post_lift F dk p fun v o1 y H1 e1 d1 F1 r1 p1 => p1 y H1 F1.ext d1 (r1.keep F1.ret))
def sRetN : SF := fun _ => pure (.rt .none)
theorem vs_retN : VS X W (.Return none pos) sRetN := psI ps_retN fun Z σ H ⟨D, H0, U0, Hb, Ub, U, ρ, o, F, dk, p⟩ => p .non H F.ext dk .non
/-- return of an owned list (a name) -/
theorem FS.own0 {K : PySem.W.Frag} {D : Dr} {H0 Hb : Hp} {U0 Ub U : Addr → Prop} {σ : St} {H : Hp} {ρ : Env} (F : FS K D H0 U0 Hb Ub U σ H ρ) {i : Nat} {vs : List Val} (h : ρ[i]? = some (.own vs)) : ∃ a, σ[i]? = some (some (.ref a)) ∧ Rep K D U0 H (.ref a) (.list vs) := by
  obtain ⟨a, xs, h1, h2, h3, h4, h5, h6⟩ := F.fr.own i vs h
  refine ⟨a, h1, .lst ⟨fun z => ?_, h5⟩ (h6.keep F.ret)⟩
  obtain ⟨ob, e⟩ := F.dom0 a z
  rw [h4] at e; cases e
def sRetO (i : Nat) : SF := fun ρ => match ρ[i]? with
  | some (.own vs) => pure (.rt (.list vs))
  | _ => R.stk
theorem vs_retO {i : Nat} (h : PE X e (tVar i)) : VS X W (.Return (some e) pos) (sRetO i) := psI (ps_ret h) fun Z σ H ⟨D, H0, U0, Hb, Ub, U, ρ, o, F, dk, p⟩ => by
  unfold sRetO at p
  cases q : ρ[i]? with
  | none => rw [q] at p; exact p.elim
  | some s =>
    cases s with
    | own vs =>
      rw [q] at p
      obtain ⟨a, h1, h2⟩ := F.own0 q
      exact ⟨_, h1, p _ H F.ext dk h2⟩
    | un => rw [q] at p; exact p.elim
    | val v => rw [q] at p; exact p.elim
    | exn a cls d c fs => rw [q] at p; exact p.elim
/-- if -/
def sIf (fc : Env → R Bool) (f g : SF) : SF := liftE fc fun b => if b = true then f else g
theorem vs_if {c : Expr} {a b : List Stmt} {fc : Env → R Bool} (hc : VT X W c fc) (ha : VSs X W a f) (hb : VSs X W b g) : VS X W (.If c a b pos) (sIf fc f g) := psI (ps_if hc ha hb) fun Z σ H ⟨D, H0, U0, Hb, Ub, U, ρ, o, F, dk, p⟩ =>
  tG_of F.fr dk (post_lift F dk p fun v o1 y H1 e1 d1 F1 r1 p1 => by
    subst r1
    cases y with
    | true => exact ⟨D, H0, U0, Hb, Ub, U, ρ, o1, F1, d1, p1⟩
    | false => exact ⟨D, H0, U0, Hb, Ub, U, ρ, o1, F1, d1, p1⟩)
/-- name = e -/
def sSet (i : Nat) (fe : Env → R Val) : SF := liftE fe fun v ρ => pure (.nx (ρ.set i (.val v)))
theorem vs_set {i : Nat} {x : Str} {pos' : Pos} (hN : X.N.Nodup) (hi : X.N[i]? = some x) (hx : Loc X.env.scope x) (he : VE X W e fe) (hs : swapsWith e (some (.Name x pos')) pos.line X.env = pure false := by rfl) (hf : X.fn x = true ∨ X.env.scope.names.lookup x = some .local := by first | exact .inl rfl | exact .inr rfl | assumption) :
    VS X W (.Assign [.Name x pos'] e pos) (sSet i fe) := psI (ps_set hN hi hx he hs hf) fun Z σ H ⟨D, H0, U0, Hb, Ub, U, ρ, o, F, dk, p⟩ =>
  tG_of F.fr dk (post_lift F dk p fun v o1 y H1 e1 d1 F1 r1 p1 => p1 U _ H1 (F1.withR (F1.fr.setVal r1)) d1)
/-- name = [..], the list the def's own -/
def sOwn (i : Nat) (fe : Env → R Val) : SF := liftE fe fun v ρ => match v with
  | .list vs => pure (.nx (ρ.set i (.own vs)))
  | _ => R.stk
theorem own_set {K : PySem.W.Frag} {D : Dr} {H0 Hb : Hp} {U0 Ub U : Addr → Prop} {σ : St} {H H' : Hp} {ρ : Env} {o o' : Om} {i : Nat} {a : Addr} {xs : List V} {vs : List Val} (F : FS K D H0 U0 Hb Ub U σ H ρ) (dk : DOk D o H) (e : Ext D H H') (dk' : DOk D o' H')
    (ha : H a = none) (hu : ¬ U a) (hl : H' a = some (.lst xs)) (r : Reps K D (fun b => U b ∨ b = a) H' xs vs) : FS K D H0 U0 Hb Ub (fun b => U b ∨ b = a) (σ.set i (some (.ref a))) H' (ρ.set i (.own vs)) := by
  have F1 := F.ext1 dk e dk'
  have nD : ¬ D.has a := fun z => by
    obtain ⟨u, q, _⟩ := dk.dom z
    rw [ha] at q; cases q
  have kp : Keep D U (fun b => U b ∨ b = a) H H' := by
    have k := F.fr.keep dk e
    refine ⟨k.1, k.2.1, fun b ob h n => ⟨(k.2.2 b ob h n).1, fun z => ?_⟩⟩
    rcases z with z | z
    · exact n z
    · exact ne_of_none h ha z
  have h0 : H0 a = none := by
    cases q : H0 a with
    | none => rfl
    | some u => rw [F.ext a u q nD] at ha; cases ha
  have ne : ∀ (j : Nat) b ws, ρ[j]? = some (.own ws) → σ[j]? = some (some (.ref b)) → b ≠ a := fun j b ws h1 h2 z => by
    subst z
    exact F.fr.noOwn ha j ws h1 h2
  refine ⟨⟨by rw [List.length_set, List.length_set]; exact F.fr.len, fun j w h => ?_, fun j w h => ?_, fun j k b v1 v2 h1 h2 h3 h4 => ?_, fun j b cls d c fs h => ?_, fun b h => .inl (F.fr.dU b h), fun b h => ?_⟩, F1.ext, fun b h => .inl (F.sub b h), F.dom0, F.kp.trans kp⟩
  · by_cases q : i = j
    · subst q
      by_cases l : i < ρ.length
      · rw [List.getElem?_set_self l] at h; cases h
      · rw [List.getElem?_eq_none (by rw [List.length_set]; omega)] at h; cases h
    · rw [List.getElem?_set_ne q] at h
      obtain ⟨x, h1, h2⟩ := F.fr.val j w h
      exact ⟨x, by rw [List.getElem?_set_ne q]; exact h1, h2.keep kp⟩
  · by_cases q : i = j
    · subst q
      by_cases l : i < ρ.length
      · rw [List.getElem?_set_self l] at h
        cases h
        exact ⟨a, xs, by rw [List.getElem?_set_self (by rw [F.fr.len]; exact l)], .inr rfl, nD, h0, hl, r⟩
      · rw [List.getElem?_eq_none (by rw [List.length_set]; omega)] at h; cases h
    · rw [List.getElem?_set_ne q] at h
      obtain ⟨b, ys, h1, h2, h3, h4, h5, h6⟩ := F.fr.own j w h
      exact ⟨b, ys, by rw [List.getElem?_set_ne q]; exact h1, .inl h2, h3, h4, e b _ h5 h3, h6.keep kp⟩
  · by_cases q1 : i = j
    · by_cases q2 : i = k
      · omega
      · exfalso
        subst q1
        rw [List.getElem?_set_ne q2] at h2 h4
        have : i < σ.length := by
          by_cases l : i < σ.length
          · exact l
          · rw [List.getElem?_eq_none (by rw [List.length_set]; omega)] at h3; cases h3
        rw [List.getElem?_set_self this] at h3
        cases h3
        exact ne k _ _ h2 h4 rfl
    · by_cases q2 : i = k
      · exfalso
        subst q2
        rw [List.getElem?_set_ne q1] at h1 h3
        have : i < σ.length := by
          by_cases l : i < σ.length
          · exact l
          · rw [List.getElem?_eq_none (by rw [List.length_set]; omega)] at h4; cases h4
        rw [List.getElem?_set_self this] at h4
        cases h4
        exact ne j _ _ h1 h3 rfl
      · rw [List.getElem?_set_ne q1] at h1 h3
        rw [List.getElem?_set_ne q2] at h2 h4
        exact F.fr.dis j k b v1 v2 h1 h2 h3 h4
  · by_cases q : i = j
    · subst q
      by_cases l : i < ρ.length
      · rw [List.getElem?_set_self l] at h; cases h
      · rw [List.getElem?_eq_none (by rw [List.length_set]; omega)] at h; cases h
    · rw [List.getElem?_set_ne q] at h
      obtain ⟨h1, h2⟩ := F.fr.exn j b cls d c fs h
      exact ⟨by rw [List.getElem?_set_ne q]; exact h1, h2.keep kp⟩
  · rcases h with h | h
    · exact F1.fr.dom b h
    · subst h
      exact ⟨_, hl, fun xs => nofun, fun ob u => nofun⟩
theorem tF_own {K : PySem.W.Frag} {mg : Str → Option Value} {i : Nat} {Z : Ends} {σ : St} {H : Hp} (h : tS K mg W (sOwn i fe) Z σ H) : tF K mg W fe σ H (fun x H1 => Z.nx (σ.set i (some x)) H1) := by
  obtain ⟨D, H0, U0, Hb, Ub, U, ρ, o, F, dk, p⟩ := h
  refine ⟨D, H0, U, ρ, o, F.fr, dk, post_lift F dk p fun v o1 y H1 e1 d1 F1 ⟨a, xs, ds, h1, h2, h3, h4, h5, h6⟩ p1 => ?_⟩
  subst h1; subst h2
  exact p1 _ _ H1 (own_set F dk e1 d1 h3 h4 h5 h6) d1
theorem vs_own {i : Nat} {x : Str} {pos' : Pos} (hN : X.N.Nodup) (hi : X.N[i]? = some x) (hx : Loc X.env.scope x) (he : VF X W e fe) (hs : swapsWith e (some (.Name x pos')) pos.line X.env = pure false := by rfl) (hf : X.fn x = true ∨ X.env.scope.names.lookup x = some .local := by first | exact .inl rfl | exact .inr rfl | assumption) :
    VS X W (.Assign [.Name x pos'] e pos) (sOwn i fe) := psI (ps_set hN hi hx he hs hf) fun Z σ H h => tF_own h
/-- name = [.. for ..] on one line -/
theorem vs_ownLc {i : Nat} {y : Str} {py : Pos} {elt tg iter : Expr} {scope : Scope} {own : List (Str × Nat)} {spos : Pos} {g : Val → Env → Option Env} {is : List Nat} {fi : Env → R (List Val)} (hc : X.calm = true) (hN : X.N.Nodup) (hy : X.N[i]? = some y) (hyl : X.env.scope.names.lookup y = some .local)
    (hsw : swapsWith (.ListComp elt [⟨tg, iter, [], 0⟩] scope pos) (some (.Name y py)) spos.line X.env = pure true) (hi : VI X W tg iter fi) (ok : BlkOk X.N X.env.scope scope own) (sub : ∀ j ∈ is, j ∈ own.map (·.2))
    (hg : BK X scope fun Y => VG Y tg is g) (he : BK X scope fun Y => VE Y W0 elt fe) (hs : ∀ x, foldedSetIterable iter X.env x = pure x := by intro _; rfl) :
    VS X W (.Assign [.Name y py] (.ListComp elt [⟨tg, iter, [], 0⟩] scope pos) spos) (sOwn i (cLc (own.map (·.2)) fi g (fun _ => pure true) fe)) :=
  psI (ps_setLc hc hN hy hyl hsw hi ok (te := tG X.K X.mg W0 RV fe) (g := tB X.K is g) (fun s H C cl fp => (hg s H C cl fp).pg) (tt := tG X.K X.mg W0 RB fun _ => pure true) (fun s H C cl fp => pts_none (X := X.blk s H scope (compEnvC scope cl C X.env) fp)) (fun s H C cl fp => he s H C cl fp) hs)
    fun Z σ H h => lc_te sub (tF_own h)
theorem vs_ownLcIf {t : Expr} {i : Nat} {y : Str} {py : Pos} {elt tg iter : Expr} {scope : Scope} {own : List (Str × Nat)} {spos : Pos} {g : Val → Env → Option Env} {is : List Nat} {fi : Env → R (List Val)} {ft : Env → R Bool} (hc : X.calm = true) (hN : X.N.Nodup) (hy : X.N[i]? = some y) (hyl : X.env.scope.names.lookup y = some .local)
    (hsw : swapsWith (.ListComp elt [⟨tg, iter, [t], 0⟩] scope pos) (some (.Name y py)) spos.line X.env = pure true) (hi : VI X W tg iter fi) (ok : BlkOk X.N X.env.scope scope own) (sub : ∀ j ∈ is, j ∈ own.map (·.2))
    (hg : BK X scope fun Y => VG Y tg is g) (ht : BK X scope fun Y => VT Y W0 t ft) (he : BK X scope fun Y => VE Y W0 elt fe) (hs : ∀ x, foldedSetIterable iter X.env x = pure x := by intro _; rfl) :
    VS X W (.Assign [.Name y py] (.ListComp elt [⟨tg, iter, [t], 0⟩] scope pos) spos) (sOwn i (cLc (own.map (·.2)) fi g ft fe)) :=
  psI (ps_setLc hc hN hy hyl hsw hi ok (te := tG X.K X.mg W0 RV fe) (g := tB X.K is g) (fun s H C cl fp => (hg s H C cl fp).pg) (tt := tG X.K X.mg W0 RB ft) (fun s H C cl fp => pts_one (show PT (X.blk s H scope (compEnvC scope cl C X.env) fp) t (tG X.K X.mg W0 RB ft) from ht s H C cl fp)) (fun s H C cl fp => he s H C cl fp) hs)
    fun Z σ H h => lc_te sub (tF_own h)
/-- (a, b, ..) = e -/
def sTgt (g : Val → Env → Option Env) (fe : Env → R Val) : SF := liftE fe fun v ρ => match g v ρ with
  | some ρ' => pure (.nx ρ')
  | none => R.stk
theorem vs_tgt {tg : Expr} {is : List Nat} {g : Val → Env → Option Env} (he : VE X W e fe) (hg : VG X tg is g) (hs : swapsWithSole [tg] e pos.line X.env = pure false := by rfl) (hw : swappedStores [tg] e X.env = pure none := by rfl)
    (h1 : (assignEach [tg] X.env).map (·.2) = [assign tg X.env] := by rfl) : VS X W (.Assign [tg] e pos) (sTgt g fe) := psI (ps_asg he hg.pg hs hw h1) fun Z σ H ⟨D, H0, U0, Hb, Ub, U, ρ, o, F, dk, p⟩ =>
  tG_of F.fr dk (post_lift F dk p fun v o1 y H1 e1 d1 F1 r1 p1 => by
    cases q : g v ρ with
    | none => rw [q] at p1; exact p1.elim
    | some ρ' =>
      rw [q] at p1
      exact ⟨D, H0, U, ρ, ρ', v, F1.fr, r1, q, fun σ' F' _ _ => p1 U σ' H1 (F1.withR F') d1⟩)
/-- a, b = x, y -/
def sPar (i j : Nat) (fa : Env → R (List Val)) : SF := liftE fa fun vs ρ => match vs with
  | [v, w] => pure (.nx ((ρ.set i (.val v)).set j (.val w)))
  | _ => R.stk
theorem vs_par {i j : Nat} {x y : Str} {a b : Expr} {fa : Env → R (List Val)} {px py pt : Pos} {kt k2 pt2} (hc : X.calm = true) (hN : X.N.Nodup) (hi : X.N[i]? = some x) (hj : X.N[j]? = some y) (hij : i ≠ j)
    (hx : X.env.scope.names.lookup x = some .local) (hy : X.env.scope.names.lookup y = some .local) (ha : VA X W [a, b] fa)
    (hw : swappedStores [.Tuple [.Name x px, .Name y py] kt pt] (.Tuple [a, b] k2 pt2) X.env = pure (some [x, y]))
    (hs : swapsWithSole [.Tuple [.Name x px, .Name y py] kt pt] (.Tuple [a, b] k2 pt2) pos.line X.env = pure false := by rfl) :
    VS X W (.Assign [.Tuple [.Name x px, .Name y py] kt pt] (.Tuple [a, b] k2 pt2) pos) (sPar i j fa) := psI (ps_par hc hN hi hj hij hx hy ha hw hs) fun Z σ H ⟨D, H0, U0, Hb, Ub, U, ρ, o, F, dk, p⟩ =>
  tG_of F.fr dk (post_lift F dk p fun v o1 y H1 e1 d1 F1 r1 p1 => by
    match v, r1, p1 with
    | [v, w], r1, p1 =>
      cases r1 with
      | cons r2 r4 =>
        cases r4 with
        | cons r3 r5 =>
          cases r5
          exact ⟨_, _, rfl, p1 U _ H1 (F1.withR ((F1.fr.setVal r2).setVal r3)) d1⟩
    | [], _, p1 => exact p1.elim
    | [_], _, p1 => exact p1.elim
    | _ :: _ :: _ :: _, _, p1 => exact p1.elim)
/-- loops -/
def forGo (g : Val → Env → Option Env) (fb : SF) : List Val → SF
  | [] => fun ρ => pure (.nx ρ)
  | x :: xs => fun ρ => match g x ρ with
    | none => R.stk
    | some ρ1 => fb ρ1 >>= fun s => match s with
      | .nx ρ2 => forGo g fb xs ρ2
      | .ct ρ2 => forGo g fb xs ρ2
      | .bk ρ2 => pure (.nx ρ2)
      | r => pure r
def sFor (fi : Env → R (List Val)) (g : Val → Env → Option Env) (fb : SF) : SF := liftE fi fun xs => forGo g fb xs
theorem vs_for {tg iter : Expr} {body : List Stmt} {fi : Env → R (List Val)} {is : List Nat} {g : Val → Env → Option Env} {fb : SF} (hp : PassesOwn (model X.prog X.w) X.A X.env X.xe) (hc : X.calm = true) (hi : VI X W tg iter fi) (hg : VG X tg is g) (hb : VSs X W body fb)
    (hs : ∀ x, foldedSetIterable iter X.env x = pure x := by intro _; rfl) : VS X W (.For tg iter body [] pos) (sFor fi g fb) := psI (ps_for hp hc hi hg.pg hb hs) fun Z σ H ⟨D, H0, U0, Hb, Ub, U, ρ, o, F, dk, p⟩ => by
  refine tG_of F.fr dk (post_lift F dk p fun xs o1 J H1 e1 d1 F1 ⟨G, S, g0⟩ p1 => ?_)
  let Pv : Nat → St → Hp → Prop := fun i σ' H' => ∃ (U' : Addr → Prop) (ρ' : Env) (o' : Om), FS X.K D H0 U0 Hb Ub U' σ' H' ρ' ∧ DOk D o' H' ∧ G U' H' ∧ SPost X.K X.mg W Z D H0 U0 Hb Ub (forGo g fb (xs.drop i) ρ' o')
  refine ⟨fun i m σ' H' => m = xs.length - i ∧ i ≤ xs.length ∧ Pv i σ' H', ⟨xs.length, by simp, Nat.zero_le _, U, ρ, o1, F1, d1, g0, p1⟩, ?_⟩
  rintro i m σ2 H2 ⟨rfl, hi, U2, ρ2, o2, F2, d2, g2, p2⟩
  by_cases hlt : i < xs.length
  · have hx : xs.drop i = xs[i] :: xs.drop (i + 1) := List.drop_eq_getElem_cons hlt
    rw [hx] at p2
    refine .inr ⟨S.go _ _ _ g2 hlt, Pv (i + 1), fun σ' H' q => ⟨xs.length - (i + 1), by omega, rfl, hlt, q⟩, fun x H3 y => ?_⟩
    obtain ⟨v, hv, y⟩ := S.yld _ _ _ _ _ g2 hlt y
    have ev : xs[i] = v := by rw [List.getElem?_eq_getElem hlt] at hv; exact Option.some.inj hv
    rw [ev] at p2
    obtain ⟨e3, d3, r3⟩ := src_step F2.fr d2 y
    have F3 := F2.ext1 d2 e3 d3
    have g3 := S.keep _ _ _ _ g2 (F2.fr.keep d2 e3)
    unfold forGo at p2
    cases hg : g v ρ2 with
    | none => simp only [hg] at p2; exact p2.elim
    | some ρ' =>
      simp only [hg] at p2
      refine ⟨D, H0, U2, ρ2, ρ', v, F3.fr, r3, hg, fun σ4 F4 _ _ => ⟨D, H0, U0, H3, U2, U2, ρ', o2, (F3.withR F4).here, d3, ?_⟩⟩
      have k3 : Keep D Ub U2 Hb H3 := F3.kp
      rw [bindE] at p2
      cases hb : fb ρ' o2 with
      | exc c fs o5 => rw [hb] at p2; exact p2
      | stk => rw [hb] at p2; exact p2
      | ok s o5 =>
        rw [hb] at p2
        cases s with
        | nx ρ5 => exact fun U5 σ5 H5 F5 d5 => ⟨U5, ρ5, o5, F5.base k3, d5, S.keep _ _ _ _ g3 F5.kp, p2⟩
        | ct ρ5 => exact fun U5 σ5 H5 F5 d5 => ⟨U5, ρ5, o5, F5.base k3, d5, S.keep _ _ _ _ g3 F5.kp, p2⟩
        | bk ρ5 => exact fun U5 σ5 H5 F5 d5 => p2 U5 σ5 H5 (F5.base k3) d5
        | rt w => exact p2
        | ex c fs ρ5 => exact fun U5 σ5 H5 cls dd F5 d5 => p2 U5 σ5 H5 cls dd (F5.base k3) d5
  · have e : i = xs.length := by omega
    subst e
    rw [List.drop_length] at p2
    exact .inl ⟨S.stop _ _ g2, p2 U2 σ2 H2 F2 d2⟩
end
end BB
end

section
set_option Elab.async false
set_option linter.all false
set_option maxRecDepth 100000
set_option maxHeartbeats 4000000
namespace BB
open PySem PySem.Spec PyProof.Rows L2
section
variable {X : Cx} {W : WX} {pos p p2 pos2 : Pos} {a b e : Expr} {f : Env → R (List Val)} {fe : Env → R Val}
variable {K : PySem.W.Frag} {mg : Str → Option Value} {D : Dr} {H0 Hb : Hp} {U0 Ub U U' : Addr → Prop} {σ : St} {H H' : Hp} {ρ : Env} {o o' : Om}
/-! ## list(zip(a, b)) -/
theorem peOr {e : Expr} {t t' : TE} (h : PE X e t) (h' : PE X e t') : PE X e (fun σ H R => t σ H R ∨ t' σ H R) := ⟨fun pins s σ H R I q => q.elim (h.run pins s σ H R I) (h'.run pins s σ H R I)⟩
theorem Reps.ofIx : ∀ {vs : List V} {ds : List Val}, vs.length = ds.length → (∀ (j : Nat) v d, vs[j]? = some v → ds[j]? = some d → Rep K D U H v d) → Reps K D U H vs ds
  | [], [], _, _ => .nil
  | [], _ :: _, h, _ => by cases h
  | _ :: _, [], h, _ => by cases h
  | v :: vs, d :: ds, h, q => .cons (q 0 v d rfl rfl) (Reps.ofIx (by simpa using h) fun j v' d' h1 h2 => q (j + 1) v' d' (by simpa using h1) (by simpa using h2))
def oLzV : List Val → R Val
  | [x, y] => match seqK x, seqK y with
    | some (_, xs), some (_, ys) => if xs.length ≤ LIM then pure (.list (zipV xs ys)) else R.stk
    | _, _ => R.stk
  | _ => R.stk
theorem ve_lz (hc : X.calm = true) (hg : Gl X "list") (hm : X.mg "list" = none) (hg2 : Gl X "zip") (hm2 : X.mg "zip" = none) (ha : VA X W [a, b] f)
    (na : starEach [.Call (.Name "zip" p2) [a, b] [] pos2] X.env = (false, eval (.Call (.Name "zip" p2) [a, b] [] pos2) X.env) :: starEach [] X.env := by rfl)
    (hs : starEach [a, b] X.env = (false, eval a X.env) :: starEach [b] X.env := by rfl) (hpl : (backTo pos2 (starEach [b] X.env)).any (·.1) = false := by rfl) :
    VE X W (.Call (.Name "list" p) [.Call (.Name "zip" p2) [a, b] [] pos2] [] pos) (cA oLzV f) := by
  refine peI (peOr (peOr (pe_lz .l .l hc hg hm hg2 hm2 ha na hs hpl) (pe_lz .l .t hc hg hm hg2 hm2 ha na hs hpl)) (peOr (pe_lz .t .l hc hg hm hg2 hm2 ha na hs hpl) (pe_lz .t .t hc hg hm hg2 hm2 ha na hs hpl))) fun σ H Q ⟨D, H0, U, ρ, o, F, dk, p⟩ => ?_
  have p' : Post X.K X.mg W D U σ H (RV X.K D U) ((f ρ o).bind oLzV) Q := p
  cases hx : f ρ o with
  | stk => rw [hx] at p'; exact p'.elim
  | exc c fs o1 => rw [hx] at p'; exact .inl (.inl (tG_of F dk (by rw [hx]; exact p')))
  | ok v o1 =>
    match v, hx with
    | [], hx => rw [hx] at p'; exact False.elim p'
    | [_], hx => rw [hx] at p'; exact False.elim p'
    | _ :: _ :: _ :: _, hx => rw [hx] at p'; exact False.elim p'
    | [x, y], hx =>
      cases q : seqK x with
      | none =>
        rw [hx] at p'
        have p3 : Post X.K X.mg W D U σ H (RV X.K D U) ((match seqK x, seqK y with | some (_, xs), some (_, ys) => (if xs.length ≤ LIM then pure (.list (zipV xs ys)) else R.stk : R Val) | _, _ => R.stk) o1) Q := p'
        rw [q] at p3
        exact False.elim p3
      | some kx =>
        cases q' : seqK y with
        | none =>
          rw [hx] at p'
          have p3 : Post X.K X.mg W D U σ H (RV X.K D U) ((match seqK x, seqK y with | some (_, xs), some (_, ys) => (if xs.length ≤ LIM then pure (.list (zipV xs ys)) else R.stk : R Val) | _, _ => R.stk) o1) Q := p'
          rw [q, q'] at p3
          exact False.elim p3
        | some ky =>
          obtain ⟨k, xs⟩ := kx
          obtain ⟨k2, ys⟩ := ky
          have main : tLZ X.K k k2 (tG X.K X.mg W RA f) σ H Q := tG_of F dk (Post.bindE p' fun v o2 y' H1 he e1 d1 r1 p1 => by
            rw [hx] at he
            cases he
            cases r1 with
            | cons r2 r3 =>
              cases r3 with
              | cons r4 r5 =>
                cases r5
                obtain ⟨a', vs, rfl, h1, h2⟩ := rep_seq r2 q
                obtain ⟨b', ws, rfl, h3, h4⟩ := rep_seq r4 q'
                have p3 : Post X.K X.mg W D U σ H1 (RV X.K D U) ((match seqK x, seqK y with | some (_, xs), some (_, ys) => (if xs.length ≤ LIM then pure (.list (zipV xs ys)) else R.stk : R Val) | _, _ => R.stk) o1) Q := p1
                rw [q, q'] at p3
                obtain ⟨c, p3⟩ := post_if p3
                have l1 := h2.length
                have l2 := h4.length
                have F1 := F.ext dk e1 d1
                refine ⟨a', b', vs, ws, rfl, h1.sq, h3.sq, Nat.le_trans (Nat.min_le_left _ _) (by rw [l1]; exact lim_ok c), fun q0 Ts H2 N => ?_⟩
                have e2 : Ext D H1 H2 := fun c o h _ => N.keep c o h
                have d2 : DOk D o1 H2 := d1.same fun c hc => by
                  obtain ⟨u, hu, _⟩ := d1.dom hc
                  rw [hu, N.keep c u hu]
                have kp := F1.keep d1 e2
                refine p3 _ H2 e2 d2 (.lst ⟨F1.fresh N.fresh, N.lst⟩ (Reps.ofIx (by simp [zipV, N.len, l1, l2]) fun j v d hv hd => ?_))
                rw [List.getElem?_map] at hv
                cases hT : Ts[j]? with
                | none => rw [hT] at hv; cases hv
                | some T =>
                  rw [hT] at hv
                  cases hv
                  obtain ⟨xv, yv, hx1, hy1, ht⟩ := N.at_ j T hT
                  obtain ⟨dx, hdx, rx⟩ := h2.get' hx1
                  obtain ⟨dy, hdy, ry⟩ := h4.get' hy1
                  have : d = .tuple [dx, dy] := by
                    simp only [zipV, List.getElem?_zipWith, hdx, hdy] at hd
                    exact (Option.some.inj hd).symm
                  subst this
                  exact .tup (.inl (.inl ht)) (.cons (rx.keep kp) (.cons (ry.keep kp) .nil)))
          cases k <;> cases k2
          · exact .inl (.inl main)
          · exact .inl (.inr main)
          · exact .inr (.inl main)
          · exact .inr (.inr main)
/-! ## owned lists written -/
theorem FS.ownPut (F : FS K D H0 U0 Hb Ub U σ H ρ) (dk : DOk D o H) {i : Nat} {vs ds : List Val} {a : Addr} {ys : List V} (hi : ρ[i]? = some (.own vs)) (ha : σ[i]? = some (some (.ref a))) (r : Reps K D U H ys ds) :
    FS K D H0 U0 Hb Ub U σ (upd H a (.lst ys)) (ρ.set i (.own ds)) ∧ DOk D o (upd H a (.lst ys)) := by
  obtain ⟨a', xs, h1, h2, h3, h4, h5, h6⟩ := F.fr.own i vs hi
  rw [ha] at h1
  cases h1
  have kp : Keep D U U H (upd H a (.lst ys)) := Keep.put h5 h2
  have li : i < ρ.length := by
    by_cases l : i < ρ.length
    · exact l
    · rw [List.getElem?_eq_none (by omega)] at hi; cases hi
  have dk' : DOk D o (upd H a (.lst ys)) := dk.same fun c hc => upd_ne (fun e => by subst e; exact h3 hc)
  refine ⟨⟨⟨by rw [List.length_set]; exact F.fr.len, fun j w h => ?_, fun j w h => ?_, fun j k b v1 v2 q1 q2 q3 q4 => ?_, fun j b cls d c fs h => ?_, F.fr.dU, fun b h => ?_⟩, fun b u q n => ?_, F.sub, F.dom0, F.kp.trans kp⟩, dk'⟩
  · by_cases q : i = j
    · subst q; rw [List.getElem?_set_self li] at h; cases h
    · rw [List.getElem?_set_ne q] at h
      obtain ⟨x, g1, g2⟩ := F.fr.val j w h
      exact ⟨x, g1, g2.keep kp⟩
  · by_cases q : i = j
    · subst q
      rw [List.getElem?_set_self li] at h
      cases h
      exact ⟨a, ys, ha, h2, h3, h4, upd_same, r.keep kp⟩
    · rw [List.getElem?_set_ne q] at h
      obtain ⟨b, zs, g1, g2, g3, g4, g5, g6⟩ := F.fr.own j w h
      have : b ≠ a := fun e => by
        subst e
        exact q (F.fr.dis i j b vs w hi h ha g1)
      exact ⟨b, zs, g1, g2, g3, g4, by rw [upd_ne this]; exact g5, g6.keep kp⟩
  · have find : ∀ (j : Nat) w, (ρ.set i (.own ds))[j]? = some (.own w) → ∃ w', ρ[j]? = some (.own w') := fun j w h => by
      by_cases q : i = j
      · subst q; exact ⟨_, hi⟩
      · rw [List.getElem?_set_ne q] at h; exact ⟨_, h⟩
    obtain ⟨w1, g1⟩ := find j v1 q1
    obtain ⟨w2, g2⟩ := find k v2 q2
    exact F.fr.dis j k b w1 w2 g1 g2 q3 q4
  · by_cases q : i = j
    · subst q; rw [List.getElem?_set_self li] at h; cases h
    · rw [List.getElem?_set_ne q] at h
      obtain ⟨g1, g2⟩ := F.fr.exn j b cls d c fs h
      exact ⟨g1, g2.keep kp⟩
  · by_cases q : b = a
    · subst q
      exact ⟨_, upd_same, fun xs => nofun, fun ob u => nofun⟩
    · obtain ⟨u, hu, hn⟩ := F.fr.dom b h
      exact ⟨u, by rw [upd_ne q]; exact hu, hn⟩
  · rw [upd_ne (fun e => by subst e; rw [h4] at q; cases q)]
    exact F.ext b u q n
/-- xs.append(e) -/
def sApp (i : Nat) (fe : Env → R Val) : SF := fun ρ => match ρ[i]? with
  | some (.own vs) => if vs.length < LIM then liftE fe (fun v ρ => pure (.nx (ρ.set i (.own (vs ++ [v]))))) ρ else R.stk
  | _ => R.stk
theorem vs_app {i : Nat} {ot : Expr} {apos cpos : Pos} (ho : PE X ot (tVar i)) (he : VE X W e fe) (hbase : attributeBase ot "append" X.env (eval ot X.env) = eval ot X.env := by rfl)
    (hfew : ((backTo cpos (starEach (e :: []) X.env)).all (fun x => !x.1) && (backToKw cpos (keywordEach [] X.env)).all (fun x => x.1.isSome)
      && decide ((e :: []).length + ([] : List Keyword).length + (if ([] : List Keyword).isEmpty then 0 else 1) < 30)) = true := by rfl)
    (hline : (apos.endLine == cpos.line) = true := by rfl) (hs : starEach (e :: []) X.env = (false, eval e X.env) :: starEach [] X.env := by rfl) (hplain : (backTo cpos (starEach [] X.env)).any (·.1) = false := by rfl)
    (hsw : swapsWith (.Call (.Attribute ot "append" apos) [e] [] cpos) none pos.line X.env = pure false := by rfl) :
    VS X W (.Expr (.Call (.Attribute ot "append" apos) [e] [] cpos) pos) (sApp i fe) :=
  psI (ps_expr (pe_bm PySem.F.plainAttrs_list PySem.F.slot_list_append PySem.F.type_list_append mt_append ho (va_cons he va_nil hs) hbase hfew hline hs hplain) hsw) fun Z σ H ⟨D, H0, U0, Hb, Ub, U, ρ, o, F, dk, p⟩ => by
    unfold sApp at p
    cases hi : ρ[i]? with
    | none => rw [hi] at p; exact p.elim
    | some s =>
      cases s with
      | un => rw [hi] at p; exact p.elim
      | val v => rw [hi] at p; exact p.elim
      | exn a cls d c fs => rw [hi] at p; exact p.elim
      | own vs =>
        rw [hi] at p
        by_cases c : vs.length < LIM
        · have p' : SPost X.K X.mg W Z D H0 U0 Hb Ub (liftE fe (fun v ρ => pure (.nx (ρ.set i (.own (vs ++ [v]))))) ρ o) := by
            have z := p
            simp only [if_pos c] at z
            exact z
          obtain ⟨a, xs, h1, h2, h3, h4, h5, h6⟩ := F.fr.own i vs hi
          refine ⟨_, h1, .inl ⟨rfl, _, .inl (.inl h5)⟩, ?_⟩
          have wr : ∀ (v : Val) (o1 : Om) (y : V) (H1 : Hp), Ext D H H1 → DOk D o1 H1 → FS X.K D H0 U0 Hb Ub U σ H1 ρ → Rep X.K D U H1 y v → SPost X.K X.mg W Z D H0 U0 Hb Ub ((pure (.nx (ρ.set i (.own (vs ++ [v])))) : R SO) o1) →
              rAppend (.ref a) [y] H1 (fun _ H2 => Z.nx σ H2) := fun v o1 y H1 e1 d1 F1 r1 p1 => by
            have h5' := e1 a _ h5 h3
            obtain ⟨a', xs', g1, g2, g3, g4, g5, g6⟩ := F1.fr.own i vs hi
            rw [h1] at g1
            cases g1
            rw [h5'] at g5
            cases g5
            obtain ⟨F2, d2⟩ := F1.ownPut d1 hi h1 (g6.append (.cons r1 .nil))
            refine ⟨a, xs, y, rfl, rfl, h5', Nat.lt_of_lt_of_le (by rw [g6.length]; exact c) (lim_ok (Nat.le_refl _)), ?_⟩
            exact p1 U σ _ F2 d2
          refine tG_of F.fr dk (post_lift (Z := Z) (k := fun vs' ρ => match vs' with | [v] => pure (.nx (ρ.set i (.own (vs ++ [v])))) | _ => R.stk) F dk ?_ fun v o1 y H1 e1 d1 F1 r1 p1 => ?_)
          · unfold liftE at p' ⊢
            have e1 : cCons fe cNil ρ o = (fe ρ o).bind fun v => (fun o => .ok [v] o) := by
              unfold cCons cNil
              cases hf : fe ρ o <;> simp [bindE, hf, Out.bind, pureE]
            rw [e1]
            cases hf : fe ρ o with
            | ok v o1 => rw [hf] at p'; exact p'
            | exc c fs o1 => rw [hf] at p'; exact p'
            | stk => rw [hf] at p'; exact p'
          · match v, r1, p1 with
            | [v], .cons r1 .nil, p1 => exact wr v o1 _ H1 e1 d1 F1 r1 p1
            | [], _, p1 => exact p1.elim
            | _ :: _ :: _, _, p1 => exact p1.elim
        · simp only [if_neg c] at p
          exact p.elim
/-- xs[k] = e -/
def sSetIx (i : Nat) (fk : Env → R Val) (fe : Env → R Val) : SF := liftE fe fun v ρ => match ρ[i]? with
  | some (.own vs) => liftE fk (fun k ρ => match k with
    | .int k => match ixN vs.length k with
      | some j => pure (.nx (ρ.set i (.own (vs.set j v))))
      | none => R.stk
    | _ => R.stk) ρ
  | _ => R.stk
theorem vs_setix {i : Nat} {ot ix : Expr} {fk : Env → R Val} {ipos : Pos} (ho : PE X ot (tVar i)) (hk : VE X W ix fk) (he : VE X W e fe)
    (ha : ∀ v, assign (.Subscript ot ix ipos) X.env v = (do
      let ov ← holding [v] (eval ot X.env)
      let iv ← holding [v, ov] (eval ix X.env)
      standAt ipos
      holding [v, ov, iv] (setItem ov iv v)
      release [v, ov, iv] []) := by intro _; rfl)
    (hs : swapsWithSole [.Subscript ot ix ipos] e pos.line X.env = pure false := by rfl) (hw : swappedStores [.Subscript ot ix ipos] e X.env = pure none := by rfl)
    (h1 : (assignEach [.Subscript ot ix ipos] X.env).map (·.2) = [assign (.Subscript ot ix ipos) X.env] := by rfl) :
    VS X W (.Assign [.Subscript ot ix ipos] e pos) (sSetIx i fk fe) :=
  psI (ps_asg he (pg_sub ho hk set_list ha) hs hw h1) fun Z σ H ⟨D, H0, U0, Hb, Ub, U, ρ, o, F, dk, p⟩ =>
  tG_of F.fr dk (post_lift F dk p fun v o1 y H1 e1 d1 F1 r1 p1 => by
    cases hi : ρ[i]? with
    | none => rw [hi] at p1; exact p1.elim
    | some sl =>
      cases sl with
      | un => rw [hi] at p1; exact p1.elim
      | val v => rw [hi] at p1; exact p1.elim
      | exn a cls d c fs => rw [hi] at p1; exact p1.elim
      | own vs =>
        rw [hi] at p1
        obtain ⟨a, xs, g1, g2, g3, g4, g5, g6⟩ := F1.fr.own i vs hi
        refine ⟨_, g1, tG_of F1.fr d1 (post_lift F1 d1 p1 fun k o2 z H2 e2 d2 F2 r2 p2 => ?_)⟩
        cases k <;> try exact False.elim p2
        rename_i k
        have g5' := e2 a _ g5 g3
        obtain ⟨a', xs', q1, q2, q3, q4, q5, q6⟩ := F2.fr.own i vs hi
        rw [g1] at q1
        cases q1
        rw [g5'] at q5
        cases q5
        have p3 : SPost X.K X.mg W Z D H0 U0 Hb Ub ((match ixN vs.length k with | some j => pure (.nx (ρ.set i (.own (vs.set j v)))) | none => R.stk : R SO) o2) := p2
        cases hj : ixN vs.length k with
        | none => rw [hj] at p3; exact p3.elim
        | some j =>
          rw [hj] at p3
          obtain ⟨F3, d3⟩ := F2.ownPut d2 hi g1 (Reps.set (r1.keep (F1.fr.keep d1 e2)) j q6)
          exact ⟨a, xs, k, j, rfl, by cases r2; rfl, g5', by rw [q6.length]; exact hj, p3 U σ _ F3 d3⟩)
end
end BB
end

section
set_option Elab.async false
set_option linter.all false
set_option maxRecDepth 100000
set_option maxHeartbeats 4000000
/-! own errors of the law's programs: __init__ says super().__init__('..') and self.f = f; the class below one of the program's own below ValueError -/
namespace OwnE
open PySem PySem.Spec PySem.W PySem.Calls PyProof.Rows PySem.HandSPX
/-- an __init__'s text: its message, where its parts stand -/
structure Tx where
  m : Str
  k : Nat
  a1 : Pos
  a2 : Pos
  p1 : Pos
  p2 : Pos
  p3 : Pos
  p4 : Pos
  p5 : Pos
  p6 : Pos
  q1 : Pos
  q2 : Pos
  q3 : Pos
  q4 : Pos
  deriving DecidableEq
def iA (f : Str) (t : Tx) : Arguments := { posonlyargs := [], args := [{ arg := "self", annotation := none, pos := t.a1 }, { arg := f, annotation := none, pos := t.a2 }], vararg := none, kwonlyargs := [], kw_defaults := [], kwarg := none, defaults := [] }
def eSup (t : Tx) : Expr := .Call (.Attribute (.Call (.Name "super" t.p1) [] [] t.p2) "__init__" t.p3) [.Constant (.str t.m) t.k t.p4] [] t.p5
def iB (f : Str) (t : Tx) : List Stmt := [.Expr (eSup t) t.p6, .Assign [.Attribute (.Name "self" t.q1) f t.q2] (.Name f t.q3) t.q4]
def iS (f : Str) : Scope := { kind := .function, names := [(PySem.Str.ofString "self", .local), (f, .local), (PySem.Str.ofString "__class__", .free), (PySem.Str.ofString "super", .globalImplicit)], isGenerator := false, isCoroutine := false, more := [] }
/-- the text is no odd one -/
structure FOk (f : Str) (t : Tx) : Prop where
  bind : ∀ (qual : Str) (doc pm : Value) (an : Option Addr) (cdv ct : Value) (cc x : Addr) (v : Value),
    bindArgs (ksFn "__init__" qual (iA f t) (iB f t) (iS f) .none .none doc pm an cdv ct cc) ⟨[.ref x, v], []⟩ = pure [(PySem.Str.ofString "self", Value.ref x), (f, v)]
  eq : ∀ (env : Env), ∃ pl : Sem Bool, eval (eSup t) env = (do
      let ov ← attributeBase (.Call (.Name "super" t.p1) [] [] t.p2) "__init__" env (eval (.Call (.Name "super" t.p1) [] [] t.p2) env)
      standAt t.p3.atName
      let (f, first) ← holding [ov] (getMethod ov "__init__" pl)
      callWith t.p5 f first (backTo t.p5 (starEach [.Constant (.str t.m) t.k t.p4] env)) [])
  n1 : (iS f).names.lookup ("self" : Str) = some .local
  n2 : (iS f).names.lookup f = some .local
  n3 : (iS f).names.lookup ("__class__" : Str) = some .free
  n4 : (iS f).names.lookup ("super" : Str) = some .globalImplicit
  r1 : ∀ (x : Addr) (v : Value), List.lookup ("self" : Str) [(f, v), (PySem.Str.ofString "self", Value.ref x)] = some (.ref x)
  r2 : ∀ (x : Addr) (v : Value), List.lookup f [(f, v), (PySem.Str.ofString "self", Value.ref x)] = some v
  dbg : (f == ("__debug__" : Str)) = false
  cell : ∀ x ∈ (iS f).names, x.2 ≠ .cell
structure Txt (P : Program) (K : Frag) (mg : Str → Option Value) (n f : Str) (t : Tx) (C fI cc cda : Addr) : Prop where
  gC : mg n = some (.ref C)
  cls : ∃ nm q N bs bm sn sub ab col dd k0 k1 k2 k3 k5, K.lookup C = some (excClassObj nm q C N bs bm true sn sub ab col dd k0 k1 k2 k3 k5 "ValueError.__new__") ∧ refsVE bm = true
  sa : findIn K (.ref C) "__setattr__" = some (some (.builtin "object.__setattr__"))
  ga : findIn K (.ref C) "__getattribute__" = some (some (.builtin "BaseException.__getattribute__"))
  gg : findIn K (.ref C) "__getattr__" = some none
  noN : findIn K (.ref C) f = some none
  iC : findIn K (.ref C) "__init__" = some (some (.ref fI))
  tC : typeIn K (.ref fI) = some (.type "function")
  kC : keepIn K (.ref C) = true
  exC : subIn K (.ref C) (.type "BaseException") = some true
  vC : subIn K (.ref C) (.type "ValueError") = some true
  sC : mroIn K C (.ref C) = some true
  tyC : typeIn K (.ref C) = some (.type "type")
  hdC : hasDictIn K C = true
  su : ks_superIn K C C "__init__" = some (some (.builtin "ValueError.__init__"))
  op : nsIn K cStatics "thirdparty.any" = some none
  fn : ∃ (oc : Value) (od : Option Addr) (doc pm : Value) (an : Option Addr) (ct : Value) (osl : Array (Option Value)) (qual : Str),
    K.lookup fI = some ⟨oc, od, .func (ksFn "__init__" qual (iA f t) (iB f t) (iS f) .none .none doc pm an (.ref cda) ct cc), osl⟩ ∧ codeIn K (.ref cda) qual = true
  cell : ∃ cl cld csl, K.lookup cc = some ⟨cl, cld, .cell (some (.ref C)), csl⟩
  cod : ∃ ccl cdd vs ccs file tf, K.lookup cda = some ⟨ccl, cdd, .fields vs, ccs⟩ ∧ vs[2]? = some (.str file tf) ∧ ((P.main.file : Str) == file) = true
  top : (P.main.scope.names.lookup ("super" : Str)).isSome = false
  nsup : mg "super" = none
section
variable {prog : Program} {w : World} {M : Model} {A : Around} {E : Value → Shared → Prop} {h : Heap} {g : Array GenState} {d : Drawn} {t : Nat} {os : OsState}
/-- the bound built-in __init__ is called -/
theorem mw_call {nm q : Str} {C N : Addr} {bs bm : List Value} {hdct : Bool} {sn : List Str} {sub : List Value} {ab : Bool} {col : Option Bool} {dd : Option Addr} {k0 k1 k2 k3 k5 : Option Value} {u e t0 : Addr} {rest : List Value} {Q : Value → Shared → Prop}
    (hC : h.get? C = some (excClassObj nm q C N bs bm hdct sn sub ab col dd k0 k1 k2 k3 k5 "ValueError.__new__")) (he : h.get? e = some (excO C t0)) (hu : h.get? u = some (kxs_mw "ValueError.__init__" e)) (hrest : rest.length ≤ sizeLine)
    (hq : ∀ h' t1, (∀ b o, b ≠ e → h.get? b = some o → h'.get? b = some o) → h'.get? e = some (excO C t1) → Q .none ⟨h', g, d, t, os⟩) :
    wpAny (model prog w) A (call (.ref u) rest) Q E ⟨h, g, d, t, os⟩ := by
  refine wpAny_call (codeAny_of_tree ?_)
  show wpAny _ A.in1 (callAny (.ref u) ⟨rest, []⟩) _ _ _
  simp only [callAny]
  refine wpAny_bind (wpAny_load hu ?_)
  simp only [kxs_mw, show (Value.type "method-wrapper" == Value.type "method" || Value.type "method-wrapper" == Value.type "builtin_function_or_method" || Value.type "method-wrapper" == Value.type "method-wrapper") = true by decide, if_true]
  refine KFB.if_so (by decide) ?_
  refine wpAny_bind (check_bound_init F.excBase_ValueError.toExcCallFacts hC he rfl ?_)
  refine wpAny_bind (wpAny_pure (wpAny_pure ?_))
  refine ⟨plainId_quiet F.excBase_ValueError.init.plain _, codeAny_builtin F.excBase_ValueError.initEntry ?_⟩
  exact exc_init_tree (cls := .ref C) (t0 := t0) (dv := none) (c2 := .none) (c3 := .none) (b4 := .bool false) he hrest fun h' k e' _ => hq h' _ k e'
end
/-- what __init__ leaves -/
structure Left (h h' : Heap) (f : Str) (x C dx t1 : Addr) (v : Value) : Prop where
  keep : ∀ b o, b ≠ x → h.get? b = some o → h'.get? b = some o
  obj : h'.get? x = some { cls := .ref C, dict := some dx, data := .fields #[.ref t1, .none, .none, .none, .bool false, .none] }
  big : h.objs.size ≤ dx
  ne : dx ≠ x
  ns : h'.Ns1 dx (fun y => if y = f then some v else none)
theorem in_but {K : Frag} {h h' : Heap} {x : Addr} (X : K.In h) (hx : K.lookup x = none) (k : ∀ b o, b ≠ x → h.get? b = some o → h'.get? b = some o) : K.In h' := fun a o e => k a o (fun z => by rw [z, hx] at e; cases e) (X a o e)
section
variable {prog : Program} {w : World} {A : Around} {E : Value → Shared → Prop} {R : Result → Shared → Prop} {s : Shared} {K : Frag} {mg mb : Str → Option Value} {n f : Str} {t : Tx} {C fI cc cda : Addr}
theorem init_runs (FO : FOk f t) (T : Txt prog K mg n f t C fI cc cda) {x t0 : Addr} {v : Value} (X : K.In s.heap) (hg : s.heap.Ns mainGlobals mg) (hb : s.heap.Ns builtinsNs mb) (hsb : mb "super" = some (.type "super")) (hlim : s.heap.NoLimit) (hx : s.heap.get? x = some (excO C t0)) (hnx : K.lookup x = none) (hroom : A.depth < recursionLimit)
    (hq : ∀ h' tk dx t1, Left s.heap h' f x C dx t1 v → R (.ok (.ret .none)) { s with heap := h', toks := tk }) :
    codeAny (model prog w) A (.call (.ref fI) ⟨[.ref x, v], []⟩) R s := by
  obtain ⟨oc, od, doc, pm, an, ct, osl, qual, ho, hcd⟩ := T.fn
  obtain ⟨nm, q, N, bs, bm, sn, sub, ab, col, dd, k0, k1, k2, k3, k5, hC, hbm⟩ := T.cls
  obtain ⟨cl, cld, csl, hcell⟩ := T.cell
  obtain ⟨ccl, cdd, vs, ccs, file, tf, hcod, hvs, hfile⟩ := T.cod
  have hcl : clsIn K C = some { name := nm, bases := bs, mro := .ref C :: bm, ns := N, qualname := q, hasDict := true, slotNames := sn, subclasses := sub, abstract := ab, collection := col, hasDel := false } := by unfold clsIn; rw [hC] <;> rfl
  refine ks_codeAny_call_defAt (fd := ksFn "__init__" qual (iA f t) (iB f t) (iS f) .none .none doc pm an (.ref cda) ct cc) (body := iB f t) (binds := [("self", .ref x), (f, v)]) hroom (X _ _ ho) rfl hlim (codeRec_of X hcd) rfl
    (BindsTo.of_eq (FO.bind ..)) FO.cell ?loc (fun h₁ hns hk₁ => ?body)
  case loc =>
    intro y hy
    simp only [List.mem_cons, List.not_mem_nil, or_false] at hy
    rcases hy with rfl | rfl
    · exact FO.n1
    · exact FO.n2
  case body =>
    obtain ⟨hp, g, d, tk, os⟩ := s
    have X₁ : K.In h₁ := X.keeps hk₁
    have hx₁ := hk₁ _ _ hx
    have hD1 := X₁ _ _ hC
    have hxC : x ≠ C := fun z => by
      rw [z] at hnx
      rw [hC] at hnx; cases hnx
    have I : InstAt h₁ x (excO C t0) C none := ⟨hx₁, rfl, rfl, trivial⟩
    obtain ⟨pl, heq⟩ := FO.eq (callEnv (ksFn "__init__" qual (iA f t) (iB f t) (iS f) .none .none doc pm an (.ref cda) ct cc) hp.objs.size fI)
    refine ks_wpAt_execs_cons (ks_wpAt_Expr_any (ks_wpAt_MethodCall (pl := pl) (ks_wpAt_super_base FO.n4 FO.n3 (by rfl) rfl (X₁ _ _ ho) rfl rfl rfl (X₁ _ _ hcod) rfl hvs hfile T.top ?_) heq))
    refine ks_loadName_global (by rfl) FO.n4 (loadGlobal_builtin (hg.keeps hk₁) T.nsup (hb.keeps hk₁) hsb ⟨rfl, ?_⟩)
    refine wpAny_loadName_free (by rfl) FO.n3 (by rfl) ⟨_, X₁ _ _ hcell, rfl⟩ ?_
    refine wpAny_loadName_local (by rfl) FO.n1 hns (FO.r1 x v) ?_
    refine ks_wpAny_isType_cls hD1 rfl ⟨rfl, ?_⟩
    refine ks_wpAny_call_super hD1 rfl hx₁ rfl (fun c e => by cases e) (looks_mroIn X₁ T.sC) (fun h₂ hso k₂ => ?_)
    have X₂ : K.In h₂ := X₁.keeps k₂
    have hx₂ := k₂ _ _ hx₁
    have I₂ : InstAt h₂ x (excO C t0) C none := ⟨hx₂, rfl, rfl, trivial⟩
    have hI : Looks (model prog w) h₂ (isInstance (.ref x) (.type "ValueError")) true := I₂.type.andThen (looks_subIn X₂ T.vC)
    have hsu : alongIn K "__init__" (((Value.ref C :: bm).dropWhile (· != .ref C)).drop 1) = some (some (.builtin "ValueError.__init__")) := by
      have z := T.su
      unfold ks_superIn at z
      rw [hcl] at z
      exact z
    refine kxs_getMethod kxs_ValueError hso (looks_opaque X₂ T.op) (l₀ := .ref C :: bm) (fun A Q E s k q => wpAny_bind ((looks_clsIn X₂ hcl) A _ E s k (wpAny_pure q))) rfl X₂ hsu hI hxC (by rfl) ?_
    have k₃ : ∀ b o, h₂.get? b = some o → (h₂.push (kxs_mw "ValueError.__init__" x)).get? b = some o := fun b o e => Heap.get?_push_of_some _ e
    have hmw : (h₂.push (kxs_mw "ValueError.__init__" x)).get? h₂.objs.size = some (kxs_mw "ValueError.__init__" x) := Heap.get?_push_at rfl rfl
    refine kxs_callWith (i := "ValueError.__init__") (x := x) (by rfl) (evalArgs_plain (args_cons (e := .Constant (.str t.m) t.k t.p4) (rest := []) (pos := t.p5) (env := callEnv (ksFn "__init__" qual (iA f t) (iB f t) (iS f) .none .none doc pm an (.ref cda) ct cc) hp.objs.size fI) ?_ (by rfl)))
    refine Calls.Constant_str (args_nil ⟨hmw, ?_⟩)
    have X₃ : K.In (h₂.push (kxs_mw "ValueError.__init__" x)) := X₂.keeps k₃
    refine mw_call (X₃ _ _ hC) (k₃ _ _ hx₂) hmw (by show 1 ≤ sizeLine; rw [sizeLine_eq]; omega) (fun h₄ t1 k₄ hx₄ => ?_)
    have X₄ : K.In h₄ := in_but X₃ hnx k₄
    have back : ∀ b o, b ≠ x → h₁.get? b = some o → h₄.get? b = some o := fun b o hb e => k₄ b o hb (k₃ b o (k₂ b o e))
    have hxL : hp.objs.size ≠ x := Nat.ne_of_gt (Heap.lt_size hx)
    have hns₄ : h₄.Ns hp.objs.size (fun y => [(PySem.Str.ofString "self", Value.ref x), (f, v)].reverse.lookup y) := hns.at fun o q => back _ o hxL q
    have I₄ : InstAt h₄ x (excO C t1) C none := ⟨hx₄, rfl, rfl, trivial⟩
    show PySem.wpAt (model prog w) _ _ (execs [.Assign [.Attribute (.Name "self" t.q1) f t.q2] (.Name f t.q3) t.q4] _) _ _ _
    refine ks_wpAt_execs_cons (ks_wpAt_Assign_Attr (wpAt_of_wpAny (wpAny_Name (wpAny_loadName_local (by rfl) FO.n2 hns₄ (FO.r2 x v) (wpAny_Name (wpAny_loadName_local (by rfl) FO.n1 hns₄ (FO.r1 x v) ?_) (by decide))) FO.dbg)))
    refine set_plain X₄ I₄ T.sa ?_
    refine exc_osa X₄ hx₄ hcl (show refsVE (.ref C :: bm) = true from hbm) rfl T.noN (fun h₅ tk₅ dx k₅ dn dne hx₅ hn₅ => ?_)
    refine wpAt_of_wpAny (wpAny_execs_nil ?_)
    have z : hp.objs.size < h₄.objs.size := hns₄.lt
    exact hq h₅ tk₅ dx t1 ⟨fun b o hb e => k₅ b o hb (back b o hb (hk₁ b o e)), hx₅, Nat.le_of_lt (Nat.lt_of_lt_of_le z dn), dne, hn₅⟩
end
end OwnE
end

section
set_option Elab.async false
set_option linter.all false
set_option maxRecDepth 100000
set_option maxHeartbeats 4000000
namespace OwnE
open PySem PySem.Spec PySem.W PySem.Calls PyProof.Rows PySem.HandSPX
/-- a made error -/
structure Made (h h' : Heap) (f : Str) (e C d : Addr) (v : Value) : Prop where
  old : ∀ b o, h.get? b = some o → h'.get? b = some o
  fresh : h.objs.size ≤ e
  obj : ∃ oe vs, h'.get? e = some oe ∧ oe.cls = .ref C ∧ oe.dict = some d ∧ oe.data = .fields vs ∧ vs[1]? = some .none
  big : h.objs.size ≤ d
  ne : d ≠ e
  ns : h'.Ns1 d (fun y => if y = f then some v else none)
section
variable {prog : Program} {w : World} {A : Around} {E : Value → Shared → Prop} {R : Result → Shared → Prop} {s : Shared} {K : Frag} {mg mb : Str → Option Value} {n f : Str} {t : Tx} {C fI cc cda : Addr}
theorem one_line (v : Value) : [v].length ≤ sizeLine := by
  show 1 ≤ sizeLine
  rw [sizeLine_eq]; omega
theorem made (FO : FOk f t) (T : Txt prog K mg n f t C fI cc cda) {v : Value} (X : K.In s.heap) (hg : s.heap.Ns mainGlobals mg) (hb : s.heap.Ns builtinsNs mb) (hsb : mb "super" = some (.type "super")) (hlim : s.heap.NoLimit) (hroom : A.depth + 1 < recursionLimit)
    (hq : ∀ h' tk e d, Made s.heap h' f e C d v → R (.ok (.ret (.ref e))) { s with heap := h', toks := tk }) :
    codeAny (model prog w) A (.call (.ref C) ⟨[v], []⟩) R s := by
  obtain ⟨nm, q, N, bs, bm, sn, sub, ab, col, dd, k0, k1, k2, k3, k5, hC, hbm⟩ := T.cls
  obtain ⟨hp, g, dr, tk, os⟩ := s
  have k : ∀ b o, hp.get? b = some o → ((hp.push (kdv_tup [v])).push (excO C hp.objs.size)).get? b = some o := fun b o e => Heap.get?_push_of_some _ (Heap.get?_push_of_some _ e)
  have hme : ((hp.push (kdv_tup [v])).push (excO C hp.objs.size)).get? (hp.objs.size + 1) = some (excO C hp.objs.size) := by heap_get
  have hno : K.lookup (hp.objs.size + 1) = none := by
    cases e : K.lookup (hp.objs.size + 1) with
    | none => rfl
    | some o => exact absurd (Nat.lt_of_succ_lt (Heap.lt_size (X _ _ e))) (Nat.lt_irrefl _)
  refine call_own F.excBase_ValueError (fun Y => refsVE_contains Y bm hbm) (X _ _ hC) (looks_findIn X T.iC) (fun self => bind_fn X self T.tC) (one_line v) ?_
  refine init_runs (s := ⟨(hp.push (kdv_tup [v])).push (excO C hp.objs.size), g, dr, tk, os⟩) FO T (X.keeps k) (hg.keeps k) (hb.keeps k) hsb (hlim.keeps k) hme hno ?_ fun h' tk' dx t1 ⟨k', hx, dn, dne, hns⟩ => ?_
  · exact hroom
  · have z : hp.objs.size + 1 + 1 ≤ dx := by
      first
        | (simpa only [Heap.size_push] using dn)
        | (have q := dn; rw [Heap.size_push, Heap.size_push] at q; exact q)
    exact ⟨rfl, hq h' tk' (hp.objs.size + 1) dx ⟨fun b o e => k' b o (Nat.ne_of_lt (Nat.lt_succ_of_lt (Heap.lt_size e))) (k b o e), Nat.le_succ _, ⟨_, _, hx, rfl, rfl, rfl, rfl⟩, Nat.le_trans (Nat.le_trans (Nat.le_succ _) (Nat.le_succ _)) z, dne, hns⟩⟩
end
end OwnE
namespace BB
open PySem PySem.Spec PyProof.Rows L2
theorem relO_one {v : V} {v' : Value} (r : RelV v v') (f y : Str) : RelO (List.lookup y [(f, v)]) (if y = f then some v' else none) := by
  by_cases h : y = f
  · subst h
    rw [if_pos rfl]
    have e : List.lookup y [(y, v)] = some v := by simp [List.lookup]
    rw [e]; exact r
  · rw [if_neg h]
    have b : (y == f) = false := by simpa using h
    have e : List.lookup y [(f, v)] = none := by simp [List.lookup, b]
    rw [e]; trivial
section
variable {X : Cx} {W : WX} {n f : Str} {t : OwnE.Tx} {C fI cc cda : Addr}
def tMk (C : Addr) (f : Str) (ta : TA) : St → Hp → XK → Prop := fun σ H Q => ta σ H fun vs H1 => ∃ v, vs = [v] ∧ ∀ d, H1 d = none → Q (.ref C) (some d) (upd H1 d (.xd [(f, v)]))
/-- N(e) -/
theorem pmk_one {a : Expr} {ta : TA} {p pos : Pos} {k : Nat} (FO : OwnE.FOk f t) (T : OwnE.Txt X.prog X.K X.mg n f t C fI cc cda) (hr : Room k X.A) (ha : PA X [a] ta) (hg : Gl X n) (hdb : (n == ("__debug__" : Str)) = false := by decide)
    (he : starEach (a :: []) X.env = (false, eval a X.env) :: starEach [] X.env := by rfl) (hpl : (backTo pos (starEach [] X.env)).any (·.1) = false := by rfl) :
    PMk X (.Call (.Name n p) [a] [] pos) (tMk C f ta) := by
  intro pins s σ H Q I h
  refine wpAny_Call_Name_kw (ld_glob I hg T.gC ?_ hdb)
  refine PySem.W.callWith_K (h₀ := X.base) I.ok.mod.kin T.kC (thn (ha.run pos pins s σ H _ I h) fun us s1 hh => ?_) he hpl
  obtain ⟨vs, H1, I1, r1, v, ev, q1⟩ := hh
  subst ev
  refine ⟨I1.kIn, ?_⟩
  cases r1 with
  | cons rv rn =>
    rename_i v' us'
    cases rn
    show wpAny _ _ (call (.ref C) [v']) _ _ _
    have hlim := I1.nolimit
    obtain ⟨mb, hmb, hbb⟩ := I1.ok.mod.blt
    have hgl := I1.ok.mod.glob.keeps I1.bk
    have hbl := hmb.keeps I1.bk
    have hsb : mb "super" = some (.type "super") := (hbb _ (by decide)).trans (by rfl)
    obtain ⟨hp, g, dr, tk, os⟩ := s1
    refine wpAny_call (OwnE.made FO T I1.kIn hgl hbl hsb hlim (by have := hr.dp; omega) fun h' tk' e d M => ?_)
    show MkP X pins σ Q (.ref e) ⟨h', g, dr, tk', os⟩
    obtain ⟨oe, fv, hoe, hc, hd, hdat, h1⟩ := M.obj
    have hns := M.ns
    obtain ⟨G', g1, g2⟩ := restrict h' fun b => decide (b ≠ e)
    have gk : ∀ b, b ≠ e → G'.get? b = h'.get? b := fun b hb => g1 b (decide_eq_true hb)
    have ge : G'.get? e = none := g2 e (by simp)
    have old : ∀ b o, hp.get? b = some o → G'.get? b = some o := fun b o q => (gk b (Nat.ne_of_lt (Nat.lt_of_lt_of_le (Heap.lt_size q) M.fresh))).trans (M.old b o q)
    have ob : ObjOk X.prog X.w (upd H1 d (.xd [(f, v)])) G' d (.xd [(f, v)]) := ⟨_, hns.at (fun o q => (gk d M.ne).trans q), fun y => relO_one rv f y⟩
    have J : L2.Inv X pins σ (upd H1 d (.xd [(f, v)])) ⟨G', g, dr, tk', os⟩ := I1.laid (t' := tk') old M.big ob
    refine ⟨e, oe, fv, ⟨G', g, dr, tk', os⟩, _, .ref C, some d, rfl, J, fun b o q => ?_, ge, hoe, ⟨hc, hd⟩, hdat, h1, ?_, rfl, I1.bare, raises_own T.exC T.tyC, q1 d (I1.hok.fresh M.big)⟩
    · by_cases hb : b = e
      · have q' : G'.get? b = some o := q
        rw [hb, ge] at q'; cases q'
      · exact (gk b hb).symm.trans q
    · rw [upd_ne (Ne.symm M.ne)]
      exact I1.hok.fresh M.fresh
/-- raise N(e) -/
def sRaise1 (n f : Str) (fe : Env → R Val) : SF := liftE fe fun v ρ => pure (.ex n [(f, v)] ρ)
theorem vs_raise1 {a : Expr} {fe : Env → R Val} {p pos pos2 : Pos} {k : Nat} (FO : OwnE.FOk f t) (T : OwnE.Txt X.prog X.K X.mg n f t C fI cc cda) (hc : X.calm = true) (hr : Room k X.A) (tk : Takes X W) (ha : VE X W a fe) (hg : Gl X n) (hdb : (n == ("__debug__" : Str)) = false := by decide)
    (he : starEach (a :: []) X.env = (false, eval a X.env) :: starEach [] X.env := by rfl) (hpl : (backTo pos (starEach [] X.env)).any (·.1) = false := by rfl) :
    VS X W (.Raise (some (.Call (.Name n p) [a] [] pos)) none pos2) (sRaise1 n f fe) :=
  psI (ps_raise hc tk (pmk_one FO T hr (va_cons ha va_nil he) hg hdb he hpl)) fun Z σ H ⟨D, H0, U0, Hb, Ub, U, ρ, o, F, dk, p⟩ => by
    refine tG_of F.fr dk (post_lift (Z := Z) (k := fun vs ρ => match vs with | [v] => pure (.ex n [(f, v)] ρ) | _ => R.stk) F dk ?_ fun v o1 y H1 e1 d1 F1 r1 p1 => ?_)
    · unfold sRaise1 at p
      unfold liftE at p ⊢
      have e1 : cCons fe cNil ρ o = (fe ρ o).bind fun v => (fun o => .ok [v] o) := by
        unfold cCons cNil
        cases hf : fe ρ o <;> simp [bindE, hf, Out.bind, pureE]
      rw [e1]
      cases hf : fe ρ o with
      | ok v o1 => rw [hf] at p; exact p
      | exc c fs o1 => rw [hf] at p; exact p
      | stk => rw [hf] at p; exact p
    · match v, y, r1, p1 with
      | [v], [y], .cons r1 .nil, p1 =>
        refine ⟨_, rfl, fun d hd => ?_⟩
        have e2 : Ext D H1 (upd H1 d (.xd [(f, y)])) := Ext.upd hd
        have d2 := d1.upd (u := .xd [(f, y)]) hd
        have F2 := F1.ext1 d1 e2 d2
        exact p1 U σ _ _ _ F2 d2 ⟨C, T.gC, rfl, (.inr ⟨d, [(f, y)], rfl, F1.fr.fresh hd, upd_same, rfl, .cons (r1.keep (F1.fr.keep d1 e2)) .nil⟩)⟩
      | [], _, _, p1 => exact p1.elim
      | _ :: _ :: _, _, _, p1 => exact p1.elim
end
end BB
end

section
set_option Elab.async false
set_option linter.all false
set_option maxRecDepth 100000
set_option maxHeartbeats 4000000
/-! isinstance of a caught error that has a dict -/
namespace PySem.W
open PySem PySem.Calls PyProof.Rows
section
variable {prog : Program} {w : World} {A : Around} {E : Value → Shared → Prop} {s : Shared} {K : Frag} {x D : Addr} {ox : Obj} {od : Option Obj}
theorem fo_data {C : Addr} {name : Str} {a g : Value} (hc : (clsIn K C).isSome = true) (ha : findIn K (.ref C) name = some (some a)) (hg : specialIn K a "__get__" = some (some g)) (ht : takesIn K a = some true) : findObj K C od name = some (.bind g a) := by
  obtain ⟨cd, hc⟩ := Option.isSome_iff_exists.mp hc
  unfold findObj
  rw [hc, Option.bind_some, ha, Option.bind_some] <;> simp [hg, ht]
theorem kin_clsD {Q : Option Value → Shared → Prop} (C : L2.ExcC K D) (X : K.In s.heap) (I : InstAt s.heap x ox D od) (h : Q (some (.ref D)) { s with toks := s.toks + 1 }) : wpAny (model prog w) A (getAttr? (.ref x) "__class__") Q E s := by
  have hf : findObj K D od "__class__" = some (.bind (.builtin "getset_descriptor.__get__") (.builtin "object.__class__")) :=
    fo_data (by obtain ⟨cd, hc, _⟩ := any_some C.hd; rw [hc]; rfl) C.ha C.hn C.ht
  obtain ⟨hp, g, d, t, os⟩ := s
  have La := I.type (M := model prog w); have Lb := looks_findIn (M := model prog w) X C.hg
  have Lc := looks_findIn (M := model prog w) X C.hk; have Ld := looks_find (M := model prog w) X I hf
  have sb : Looks (model prog w) hp (isInstance (.ref x) (.type "BaseException")) true := La.andThen (looks_subIn X C.hs)
  have z0 : (false && onTheHeap (Value.builtin "BaseException.__getattribute__")) = false := rfl
  have z2 : (Value.builtin "BaseException.__getattribute__" == Value.builtin "object.__getattribute__") = false := by decide +kernel
  have z1 : (onTheHeap (Value.ref D) && Value.builtin "BaseException.__getattribute__" == Value.builtin "object.__getattribute__") = false := by rw [z2]; rfl
  unfold getAttr? getAttrBy? getAttrBy
  refine wpAny_bind (wpAny_mkText (wpAny_bind (wpAny_attempt (wpAny_holding (wpAny_bind (La.at (wpAny_bind (Lb.at ?_))))))))
  show wpAny _ _ (if (onTheHeap (Value.ref D) && Value.builtin "BaseException.__getattribute__" == Value.builtin "object.__getattribute__") = true then _ else _) _ _ _; rw [z1, if_neg Bool.false_ne_true]
  unfold getAttrByItsOwn hookBefore
  refine wpAny_bind ?_
  rw [if_pos (show onTheHeap (Value.ref D) = true from rfl)]; refine Lc.at ?_; refine wpAny_bind (wpAny_attempt (wpAny_holding ?_))
  unfold callGetattribute
  rw [z0, if_neg Bool.false_ne_true]
  unfold boundAndCalled
  rw [PySem.F.excAttr_ValueError.ga.bind (.ref x)]; refine wpAny_bind (wpAny_pure ?_)
  show wpAny _ _ (call (.builtin "BaseException.__getattribute__") [.ref x, .str "__class__" t]) _ _ _; refine wpAny_call (codeAny_call_builtin PySem.F.excAttr_ValueError.ga.plain PySem.F.entry_bexc_ga ?_)
  refine @check_slot (model prog w) _ _ ⟨hp, g, d, t + 1, os⟩ "BaseException.__getattribute__" "BaseException" "__getattribute__" (.ref x) [.str "__class__" t] [] _ (by decide +kernel) (by decide +kernel) sb (PySem.F.args_bexc_ga (.ref x) (.str "__class__" t)) ?_
  unfold Builtin.«object.__getattribute__»
  refine wpAny_bind (wpAny_of_eq (a := ((Value.ref x : Value), [Value.str "__class__" t])) (by first | rfl | (simp only [slotArgs]; rfl)) ?_); refine wpAny_bind (wpAny_pure (wpAny_bind (La.at (wpAny_bind (Ld.at ?_)))))
  show wpAny _ _ (holding [Value.builtin "object.__class__"] (call (.builtin "getset_descriptor.__get__") [.builtin "object.__class__", .ref x, .ref D]) >>= ret) _ _ _
  refine wpAny_bind (wpAny_holding (wpAny_call (class_get (s := ⟨hp, g, d, t + 1, os⟩) (ox := ox) (od := od) X I C.hm ?_)))
  refine wpAny_pure ?_
  show wpAny _ _ (handedOut (.ref D)) _ _ _; rw [handedOut_of (v := .ref D) rfl]
  first
    | exact wpAny_pure (wpAny_pure h)
    | exact wpAny_pure h
    | exact wpAny_pure (wpAny_bind (wpAny_pure (wpAny_pure h)))
theorem kitx_D (C : L2.ExcC K D) : KitX K (.ref x) (.ref D) (fun h => InstAt h x ox D od) where
  ty := fun _ _ _ I => I.type
  it := fun _ _ X _ => by
    obtain ⟨cd, hc, _⟩ := any_some C.hd
    unfold clsIn at hc
    split at hc
    · rename_i c' d' cd' sl' ho
      intro A' Q' E' s' k q
      unfold isType loadHead; exact wpAny_bind (wpAny_loadPart (k _ _ (X _ _ ho)) (wpAny_pure q))
    · cases hc
  ne := fun h tp dd its n sl X htp => by
    obtain ⟨cd, hc, _⟩ := any_some C.hd
    refine Bool.eq_false_iff.mpr fun q => ?_
    have e : D = tp := Value.ref.inj (beq_iff_eq.mp q)
    subst e
    unfold clsIn at hc
    split at hc
    · rename_i c' d' cd' sl' ho
      have z := (X _ _ ho).symm.trans htp; cases z
    · cases hc
  ca := fun X I k => kin_clsD C X I k
end
end PySem.W
namespace BB
open PySem PySem.Spec PyProof.Rows L2
/-- isinstance(e, c): e the error that the suite holds -/
theorem call_isD {X : Cx} {a D : Addr} {d : Option Addr} {oe : Obj} {pn : List (Addr × Obj)} (C : ExcC X.K D) (hz : Zc (.ref D) d oe) (hf : ∃ vs, oe.data = .fields vs) :
    CallR (X.suite a ((a, oe) :: pn)) (.builtin "isinstance") (fun xs H Q => ∃ (c : V) (cv : Value) (b : Bool), xs = [.ref a, c] ∧ (∀ u, RelV c u → u = cv) ∧ PySem.W.kitOne X.K (.ref D) cv = some b ∧ (∀ dd, d = some dd → ∃ vs, H dd = some (.xd vs)) ∧ Q (.bl b) H) := by
  intro pins s σ H xs us Q I r h
  obtain ⟨c, cv, b, rfl, hcv, e, hdd, q⟩ := h
  cases r with
  | cons rx rr =>
    cases rr with
    | cons rt rr =>
      cases rr
      cases rx
      have ec := hcv _ rt
      subst ec
      obtain ⟨hget, _⟩ := I.pin (a, oe) (List.mem_append.mpr (.inl List.mem_cons_self))
      obtain ⟨vs, hv⟩ := hf
      have J : ∃ od, PySem.W.InstAt s.heap a oe D od := by
        cases d with
        | none =>
          obtain ⟨oc, od, oda, osl⟩ := oe
          obtain ⟨h1, h2⟩ := hz
          dsimp only at h1 h2 hv
          subst h1 h2 hv
          exact ⟨none, hget, rfl, rfl, trivial⟩
        | some dd =>
          obtain ⟨ws, hw⟩ := hdd dd rfl
          obtain ⟨mA, hns, _⟩ := I.hok dd _ hw
          obtain ⟨od, ho, _⟩ := lookIn_ns hns
          exact ⟨some od, hget, hz.1, by unfold PySem.W.notCls; rw [hv] <;> rfl, by rw [hz.2]; exact ho⟩
      obtain ⟨od, J⟩ := J
      exact PySem.W.kia_one (PySem.W.kitx_D C) I.kIn J e (fun z => nomatch z) fun tk => ⟨.bl b, H, I.kept (t' := tk) fun _ _ z => z, rfl, q⟩
end BB
end

section
set_option Elab.async false
set_option linter.all false
set_option maxRecDepth 100000
set_option maxHeartbeats 4000000
namespace BB
open PySem PySem.Spec PyProof.Rows L2
section
variable {K : PySem.W.Frag} {mg : Str → Option Value} {D : Dr} {H0 Hb : Hp} {U0 Ub U U' : Addr → Prop} {σ : St} {H H' : Hp} {ρ : Env} {o o' : Om}
theorem FR.setExn (F : FR K D H0 U σ H ρ) {i : Nat} {a : Addr} {cls : Value} {d : Option Addr} {c : Str} {fs : List (Str × Val)} (r : XR K D U H fs d) : FR K D H0 U (σ.set i (some (.ref a))) H (ρ.set i (.exn a cls d c fs)) where
  len := by rw [List.length_set, List.length_set]; exact F.len
  val := fun j w h => by
    by_cases e : i = j
    · subst e
      by_cases l : i < ρ.length
      · rw [List.getElem?_set_self l] at h; cases h
      · rw [List.getElem?_eq_none (by rw [List.length_set]; omega)] at h; cases h
    · rw [List.getElem?_set_ne e] at h
      obtain ⟨y, h1, h2⟩ := F.val j w h
      exact ⟨y, by rw [List.getElem?_set_ne e]; exact h1, h2⟩
  own := fun j w h => by
    by_cases e : i = j
    · subst e
      by_cases l : i < ρ.length
      · rw [List.getElem?_set_self l] at h; cases h
      · rw [List.getElem?_eq_none (by rw [List.length_set]; omega)] at h; cases h
    · rw [List.getElem?_set_ne e] at h
      obtain ⟨b, xs, h1, h2⟩ := F.own j w h
      exact ⟨b, xs, by rw [List.getElem?_set_ne e]; exact h1, h2⟩
  dis := fun j k b vs ws h1 h2 h3 h4 => by
    have e1 : i ≠ j := fun e => by
      subst e
      by_cases l : i < ρ.length
      · rw [List.getElem?_set_self l] at h1; cases h1
      · rw [List.getElem?_eq_none (by rw [List.length_set]; omega)] at h1; cases h1
    have e2 : i ≠ k := fun e => by
      subst e
      by_cases l : i < ρ.length
      · rw [List.getElem?_set_self l] at h2; cases h2
      · rw [List.getElem?_eq_none (by rw [List.length_set]; omega)] at h2; cases h2
    rw [List.getElem?_set_ne e1] at h1 h3
    rw [List.getElem?_set_ne e2] at h2 h4
    exact F.dis j k b vs ws h1 h2 h3 h4
  exn := fun j b cls' d' c' fs' h => by
    by_cases e : i = j
    · subst e
      by_cases l : i < ρ.length
      · rw [List.getElem?_set_self l] at h
        cases h
        exact ⟨by rw [List.getElem?_set_self (by rw [F.len]; exact l)], r⟩
      · rw [List.getElem?_eq_none (by rw [List.length_set]; omega)] at h; cases h
    · rw [List.getElem?_set_ne e] at h
      obtain ⟨h1, h2⟩ := F.exn j b cls' d' c' fs' h
      exact ⟨by rw [List.getElem?_set_ne e]; exact h1, h2⟩
  dU := F.dU
  dom := F.dom
end
/-! ## try, one clause with a name -/
def SO.less (i : Nat) : Out SO → Out SO
  | .ok (.nx ρ) o => .ok (.nx (ρ.set i .un)) o
  | .ok (.bk ρ) o => .ok (.bk (ρ.set i .un)) o
  | .ok (.ct ρ) o => .ok (.ct (ρ.set i .un)) o
  | .ok (.rt v) o => .ok (.rt v) o
  | _ => .stk
def sTryAs (hit : Str → Option Bool) (fb : SF) (fh : Str → List (Str × Val) → SF) : SF := fun ρ => fb ρ >>= fun s => match s with
  | .ex c fs ρ1 => (match hit c with
    | none => R.stk
    | some false => pure (.ex c fs ρ1)
    | some true => fh c fs ρ1)
  | r => pure r
section
variable {X : Cx} {W : WX} {n x : Str} {cv : Value} {i : Nat} {body suite : List Stmt} {b₀ : Stmt} {np pos pos' : Pos} {fb : SF} {fs : Addr → Value → Option Addr → SF} {fh : Str → List (Str × Val) → SF} {hit : Str → Option Bool}
theorem vs_try_as (hs : X.stack = X.env :: X.outer) (hf : X.env.frame = some X.env.locals) (hN : X.N.Nodup) (hi : X.N[i]? = some n) (hln : X.env.kindOf n = some .local) (hc : Names X x cv) (tk : Takes X W)
    (hb : ∀ (W' : WX) (pn : List (Addr × Obj)) (xe : Value → Shared → Prop), Takes (X.tr pn xe) W' → PassesOwn (model X.prog X.w) X.A X.env xe → VSs (X.tr pn xe) W' body fb)
    (hsu : ∀ (a : Addr) (oe : Obj) (cls : Value) (d : Option Addr) (pn : List (Addr × Obj)), Zc cls d oe → (∃ vs, oe.data = .fields vs) → VSs (X.suite a ((a, oe) :: pn)) W0 (b₀ :: suite) (fs a cls d))
    (hhit : ∀ c b C, hit c = some b → X.mg c = some (.ref C) → PySem.W.exmOne X.K (.ref C) cv = some b)
    (hfh : ∀ a C d c flds ρ o, X.mg c = some (.ref C) → hit c = some true → SO.less i (fs a (.ref C) d (ρ.set i (.exn a (.ref C) d c flds)) o) = fh c flds ρ o) :
    VS X W (.Try body [.ExceptHandler (some (.Name x np)) (some n) (b₀ :: suite) pos'] [] [] pos) (sTryAs hit fb fh) := by
  refine psI (ps_try_as (tb := fun W' => tS X.K X.mg W' fb) (ts := fun a cls d => tS X.K X.mg W0 (fs a cls d)) hs hf hN hi hln hc tk hb hsu) fun Z σ H ⟨D, H0, U0, Hb, Ub, U, ρ, o, F, dk, p⟩ => ?_
  refine ⟨D, H0, U0, Hb, Ub, U, ρ, o, F, dk, ?_⟩
  have p' : SPost X.K X.mg W Z D H0 U0 Hb Ub ((fb ρ o).bind fun s => match s with
    | .ex c fs ρ1 => (match hit c with
      | none => R.stk
      | some false => pure (.ex c fs ρ1)
      | some true => fh c fs ρ1)
    | r => pure r) := p
  clear p
  cases h : fb ρ o with
  | exc c fs o1 => rw [h] at p'; exact p'
  | stk => rw [h] at p'; exact p'
  | ok s o1 =>
    rw [h] at p'
    cases s with
    | nx ρ1 => exact p'
    | bk ρ1 => exact p'
    | ct ρ1 => exact p'
    | rt v => exact p'
    | ex c flds ρ1 =>
      intro U1 σ1 H1 cls d F1 d1 x1
      obtain ⟨C, hC, rfl, xr⟩ := x1
      have p2 : SPost X.K X.mg W Z D H0 U0 Hb Ub ((match hit c with
        | none => R.stk
        | some false => pure (.ex c flds ρ1)
        | some true => fh c flds ρ1 : R SO) o1) := p'
      cases hh : hit c with
      | none => rw [hh] at p2; exact p2.elim
      | some b =>
        rw [hh] at p2
        refine ⟨b, hhit c b C hh hC, fun e a ha => ?_, fun e => ?_⟩
        · subst e
          refine ⟨D, H0, U0, Hb, Ub, U1, ρ1.set i (.exn a (.ref C) d c flds), o1, F1.withR (F1.fr.setExn xr), d1, ?_⟩
          have p3 : SPost X.K X.mg W Z D H0 U0 Hb Ub (fh c flds ρ1 o1) := p2
          rw [← hfh a C d c flds ρ1 o1 hC hh] at p3
          cases h2 : fs a (.ref C) d (ρ1.set i (.exn a (.ref C) d c flds)) o1 with
          | exc c2 fs2 o2 => rw [h2] at p3; exact p3
          | stk => rw [h2] at p3; exact p3
          | ok s2 o2 =>
            rw [h2] at p3
            cases s2 with
            | nx ρ2 => exact fun U2 σ2 H2 F2 d2 => p3 U2 (σ2.set i none) H2 (F2.withR F2.fr.setUn) d2
            | bk ρ2 => exact fun U2 σ2 H2 F2 d2 => p3 U2 (σ2.set i none) H2 (F2.withR F2.fr.setUn) d2
            | ct ρ2 => exact fun U2 σ2 H2 F2 d2 => p3 U2 (σ2.set i none) H2 (F2.withR F2.fr.setUn) d2
            | rt v => exact p3
            | ex c2 fs2 ρ2 => exact p3.elim
        · subst e
          exact p2 U1 σ1 H1 (.ref C) d F1 d1 ⟨C, hC, rfl, xr⟩
/-! ## the caught error -/
theorem XR.look {K : PySem.W.Frag} {D : Dr} {U : Addr → Prop} {H : Hp} {f : Str} {v : Val} : ∀ {vs : List (Str × V)} {fs : List (Str × Val)}, vs.map (·.1) = fs.map (·.1) → Reps K D U H (vs.map (·.2)) (fs.map (·.2)) → fs.lookup f = some v → ∃ x, vs.lookup f = some x ∧ Rep K D U H x v
  | [], [], _, _, h => by cases h
  | [], _ :: _, h, _, _ => by cases h
  | _ :: _, [], h, _, _ => by cases h
  | (a, x) :: vs, (b, y) :: fs, h, r, l => by
    have e : a = b := by simpa using (List.cons.inj h).1
    subst e
    cases r with
    | cons r1 r2 =>
      rw [List.lookup_cons] at l ⊢
      cases q : f == a with
      | true => rw [q] at l; cases l; exact ⟨x, rfl, r1⟩
      | false => rw [q] at l; exact XR.look (List.cons.inj h).2 r2 l
def isX (a : Addr) (cls : Value) (d : Option Addr) : Option Slot → Option (Str × List (Str × Val))
  | some (.exn a' cls' d' c fs) => if a' = a ∧ cls' = cls ∧ d' = d then some (c, fs) else none
  | _ => none
theorem isX_ok {a : Addr} {cls : Value} {d : Option Addr} {s : Option Slot} {c : Str} {fs : List (Str × Val)} (h : isX a cls d s = some (c, fs)) : s = some (.exn a cls d c fs) := by
  unfold isX at h
  split at h
  · split at h
    · rename_i hh
      obtain ⟨rfl, rfl, rfl⟩ := hh
      cases h; rfl
    · cases h
  · cases h
/-- e.f -/
def cXf (i : Nat) (a : Addr) (cls : Value) (d : Option Addr) (CL : List Addr) (f : Str) : Env → R Val := fun ρ => match isX a cls d ρ[i]? with
  | some (_, fs) => if cls ∈ CL.map Value.ref then (match fs.lookup f with | some v => pure v | none => R.stk) else R.stk
  | none => R.stk
theorem ve_xf {a : Addr} {oe : Obj} {cls : Value} {d : Option Addr} {pn : List (Addr × Obj)} {e : Expr} {f : Str} {CL : List Addr} (T : ∀ C ∈ CL, XfC X.K C ∧ PySem.W.findIn X.K (.ref C) f = some none)
    (hz : Zc cls d oe) (hf : ∃ vs, oe.data = .fields vs) (he : PE (X.suite a ((a, oe) :: pn)) e (tVar i)) (hb : attributeBase e f X.env (eval e X.env) = eval e X.env := by rfl) : VE (X.suite a ((a, oe) :: pn)) W (.Attribute e f pos) (cXf i a cls d CL f) := by
  by_cases hm : cls ∈ CL.map Value.ref
  · obtain ⟨C, hC, rfl⟩ := List.mem_map.mp hm
    refine peI (pe_xf (T C hC).1 (T C hC).2 hz hf he hb) fun σ H Q ⟨D, H0, U, ρ, o, F, dk, p⟩ => ?_
    unfold cXf at p
    cases hx : isX a (.ref C) d ρ[i]? with
    | none => rw [hx] at p; exact p.elim
    | some q =>
      obtain ⟨c, fs⟩ := q
      simp only [hx, if_pos hm] at p
      obtain ⟨h1, h2⟩ := F.exn _ _ _ _ _ _ (isX_ok hx)
      cases hl : fs.lookup f with
      | none => rw [hl] at p; exact p.elim
      | some v =>
        rw [hl] at p
        rcases h2 with ⟨rfl, _⟩ | ⟨dd, vs, h3, h4, h5, h6, h7⟩
        · cases hl
        · obtain ⟨x, h8, h9⟩ := XR.look h6 h7 hl
          exact ⟨_, h1, rfl, rfl, dd, vs, x, h3, h5, h8, Post.ret p dk h9⟩
  · refine ⟨fun pins s σ H Q I ⟨D, H0, U, ρ, o, F, dk, p⟩ => ?_⟩
    unfold cXf at p
    cases hx : isX a cls d ρ[i]? with
    | none => rw [hx] at p; exact p.elim
    | some q => simp only [hx, if_neg hm] at p; exact p.elim
/-- isinstance(e, c) -/
def cIsx (i : Nat) (a : Addr) (cls : Value) (d : Option Addr) (tab : List (Addr × Bool)) : Env → R Val := fun ρ => match isX a cls d ρ[i]? with
  | some _ => (match cls with
    | .ref C => (match tab.lookup C with | some b => pure (.bool b) | none => R.stk)
    | _ => R.stk)
  | none => R.stk
theorem ve_isx {a : Addr} {oe : Obj} {cls : Value} {d : Option Addr} {pn : List (Addr × Obj)} {e : Expr} {T : Str} {B : Addr} {tab : List (Addr × Bool)} {p p2 : Pos} (hT : ∀ C b, tab.lookup C = some b → ExcC X.K C ∧ PySem.W.kitOne X.K (.ref C) (.ref B) = some b)
    (hz : Zc cls d oe) (hf : ∃ vs, oe.data = .fields vs) (hg : Gl (X.suite a ((a, oe) :: pn)) "isinstance") (hm : X.mg "isinstance" = none) (he : PE (X.suite a ((a, oe) :: pn)) e (tVar i)) (ht : PE (X.suite a ((a, oe) :: pn)) (.Name T p2) (tC (.ref B)))
    (hs : starEach [e, .Name T p2] X.env = (false, eval e X.env) :: starEach [.Name T p2] X.env := by rfl) (hs2 : starEach [.Name T p2] X.env = (false, eval (.Name T p2) X.env) :: starEach [] X.env := by rfl)
    (hpl : (backTo pos (starEach [.Name T p2] X.env)).any (·.1) = false := by rfl) : VE (X.suite a ((a, oe) :: pn)) W (.Call (.Name "isinstance" p) [e, .Name T p2] [] pos) (cIsx i a cls d tab) := by
  by_cases hm2 : ∃ C b, cls = .ref C ∧ tab.lookup C = some b
  · obtain ⟨C, b, rfl, hb⟩ := hm2
    refine peI (pe_callB (call_isD (hT C b hb).1 hz hf) hg hm (by decide +kernel) (pa_two he ht hs hs2) (he := hs) (hpl := hpl)) fun σ H Q ⟨D, H0, U, ρ, o, F, dk, p⟩ => ?_
    unfold cIsx at p
    cases hx : isX a (.ref C) d ρ[i]? with
    | none => rw [hx] at p; exact p.elim
    | some q =>
      obtain ⟨c, fs⟩ := q
      simp only [hx, hb] at p
      obtain ⟨h1, h2⟩ := F.exn _ _ _ _ _ _ (isX_ok hx)
      refine ⟨_, h1, .ref B, .ref B, b, rfl, fun u hu => hu, (hT C b hb).2, fun dd hd => ?_, Post.ret p dk (.bl _)⟩
      rcases h2 with ⟨_, z⟩ | ⟨dd', vs, h3, h4, h5, h6, h7⟩
      · rw [z] at hd; cases hd
      · rw [h3] at hd; cases hd; exact ⟨vs, h5⟩
  · cases cls with
    | ref C =>
      cases hb : tab.lookup C with
      | some b => exact absurd ⟨C, b, rfl, hb⟩ hm2
      | none =>
        refine ⟨fun pins s σ H Q I ⟨D, H0, U, ρ, o, F, dk, p⟩ => ?_⟩
        unfold cIsx at p
        cases hx : isX a (.ref C) d ρ[i]? with
        | none => rw [hx] at p; exact p.elim
        | some q => simp only [hx, hb] at p; exact p.elim
    | _ =>
      refine ⟨fun pins s σ H Q I ⟨D, H0, U, ρ, o, F, dk, p⟩ => ?_⟩
      unfold cIsx at p
      cases hx : isX a _ d ρ[i]? with
      | none => rw [hx] at p; exact p.elim
      | some q => rw [hx] at p; exact p.elim
end
/-! ## a def -/
def env0 (n : Nat) (ds : List Val) : Env := ds.map .val ++ List.replicate (n - ds.length) .un
def fnR (n : Nat) (fb : SF) (ds : List Val) : R Val := fun o => match fb (env0 n ds) o with
  | .ok (.rt v) o' => .ok v o'
  | .ok (.nx _) o' => .ok .none o'
  | .ok (.ex c fs _) o' => .exc c fs o'
  | _ => .stk
section
variable {K : PySem.W.Frag} {mg : Str → Option Value} {D : Dr} {H0 : Hp} {U : Addr → Prop} {H : Hp} {o : Om}
theorem env0_at {n : Nat} {ds : List Val} {i : Nat} {s : Slot} (h : (env0 n ds)[i]? = some s) : (∃ d, ds[i]? = some d ∧ s = .val d) ∨ s = .un := by
  unfold env0 at h
  by_cases l : i < ds.length
  · rw [List.getElem?_append_left (by simpa using l), List.getElem?_map] at h
    cases q : ds[i]? with
    | none => rw [q] at h; cases h
    | some d => rw [q] at h; exact .inl ⟨d, rfl, (Option.some.inj h).symm⟩
  · rw [List.getElem?_append_right (by simpa using l), List.getElem?_replicate] at h
    split at h
    · exact .inr (Option.some.inj h).symm
    · cases h
theorem fr_start {N : List Str} {vs : List V} {ds : List Val} (r : Reps K D U H vs ds) (dU : ∀ a, D.has a → U a) (dm : domU H U) : FR K D H0 U (start N vs) H (env0 N.length ds) where
  len := by simp [L2.start, env0, r.length]
  val := fun i v h => by
    rcases env0_at h with ⟨d, h1, h2⟩ | h2
    · cases h2
      obtain ⟨x, h3, h4⟩ := r.get h1
      refine ⟨x, ?_, h4⟩
      have l : i < vs.length := by
        by_cases l : i < vs.length
        · exact l
        · rw [List.getElem?_eq_none (by omega)] at h3; cases h3
      show (vs.map some ++ _)[i]? = _
      rw [List.getElem?_append_left (by simpa using l), List.getElem?_map, h3]
      rfl
    · cases h2
  own := fun i v h => by
    rcases env0_at h with ⟨d, h1, h2⟩ | h2 <;> cases h2
  dis := fun i j a v w h1 h2 h3 h4 => by
    rcases env0_at h1 with ⟨d, h1, h2⟩ | h2 <;> cases h2
  exn := fun i a cls d c fs h => by
    rcases env0_at h with ⟨d, h1, h2⟩ | h2 <;> cases h2
  dU := dU
  dom := dm
theorem fn_post {x : Out SO} {Q : VK} {E : XK} (p : Post K mg (fun cls d _ H' => E cls d H') D U [] H (RV K D U) (match x with
    | .ok (.rt v) o' => .ok v o'
    | .ok (.nx _) o' => .ok .none o'
    | .ok (.ex c fs _) o' => .exc c fs o'
    | _ => .stk) Q) : SPost K mg (fun cls d _ H' => E cls d H') { nx := fun _ H' => Q .non H', rt := Q } D H U H U x := by
  cases x with
  | exc c fs o1 => exact p
  | stk => exact p
  | ok s o1 =>
    cases s with
    | nx ρ => exact fun U1 σ1 H1 F1 d1 => p .non H1 F1.ext d1 .non
    | bk ρ => exact p.elim
    | ct ρ => exact p.elim
    | rt v => exact fun y H1 e1 d1 r1 => p y H1 e1 d1 r1
    | ex c fs ρ =>
      intro U1 σ1 H1 cls d F1 d1 x1
      obtain ⟨C, h1, h2, h3⟩ := x1
      exact p cls d H1 F1.ext d1 ⟨C, h1, h2, h3.keep F1.ret⟩
end
section
variable {P : Program} {w : World} {K : PySem.W.Frag} {mg : Str → Option Value} {base : Heap}
/-- a def's context -/
abbrev CXo (P : Program) (w : World) (K : PySem.W.Frag) (mg : Str → Option Value) (base : Heap) (N : List Str) (qual : Str) (sc : Scope) (f : Addr) (cv : Value) (A : Around) (out : List PySem.Env) (s : Shared) (H : Hp) (E : XK) : Cx := cxOf (L2.CX P w) P w K mg base N qual sc f cv A out s H E
theorem takes_cx {N : List Str} {qual : Str} {sc : Scope} {f : Addr} {cv : Value} {A : Around} {out : List PySem.Env} {s : Shared} {H : Hp} {E : XK} : Takes (CXo P w K mg base N qual sc f cv A out s H E) (fun cls d _ H' => E cls d H') := takes_of rfl rfl rfl rfl
theorem passes_cx {N : List Str} {qual : Str} {sc : Scope} {f : Addr} {cv : Value} {A : Around} {out : List PySem.Env} {s : Shared} {H : Hp} {E : XK} : PassesOwn (model P w) (CXo P w K mg base N qual sc f cv A out s H E).A (CXo P w K mg base N qual sc f cv A out s H E).env (CXo P w K mg base N qual sc f cv A out s H E).xe := passes_of (X := CXo P w K mg base N qual sc f cv A out s H E) rfl
theorem fnV_of {x qual : Str} {pa : Arguments} {body : List Stmt} {sc : Scope} {dvs : List V} {kws : List (Str × V)} {f : Addr} {fd : FuncData} {N ps : List Str} {k n : Nat} {fb : SF} (F : FunD K x qual pa body sc dvs kws f fd) (S : FnScope N ps sc) (hn : ps.length = n)
    (hb : ∀ (cv : Value) (A : Around) (out : List PySem.Env) (s : Shared) (H : Hp) (E : XK), Room k (A.deeper (envOfC qual sc s.heap.objs.size f cv)) → A.guards = some [] → VSs (CXo P w K mg base N qual sc f cv A out s H E) (fun cls d _ H' => E cls d H') body fb) :
    FnG P w K mg base (k + 1) f fd ps (spV K mg n (fnR N.length fb)) := by
  refine fnG_of F S (fun vs H Q E ⟨D, U, o, ds, h1, h2, _⟩ => by rw [h2.length, h1, hn]) fun cv A out s H vs Q E hr hg ⟨D, U, o, ds, h1, h2, h3, h4, h5, h6⟩ => ?_
  refine ⟨_, hb cv A out s H E hr hg, D, H, U, H, U, U, env0 N.length ds, o, ⟨fr_start h2 h3 h4, Ext.refl D H, fun _ z => z, fun a z => ?_, Keep.refl⟩, h5, fn_post h6⟩
  obtain ⟨ob, e, _⟩ := h4 a z
  exact ⟨ob, e⟩
theorem has_of {x xq : Str} {pa : Arguments} {body : List Stmt} {sc : Scope} {f : Addr} {fd : FuncData} {N ps : List Str} {k n : Nat} {fb : SF} (F : FunD K x xq pa body sc [] [] f fd) (S : FnScope N ps sc) (hn : ps.length = n) (hmg : mg x = some (.ref f)) (hbi : Binds K fd ps [])
    (hb : ∀ (cv : Value) (A : Around) (out : List PySem.Env) (s : Shared) (H : Hp) (E : XK), Room k (A.deeper (envOfC xq sc s.heap.objs.size f cv)) → A.guards = some [] → VSs (CXo P w K mg base N xq sc f cv A out s H E) (fun cls d _ H' => E cls d H') body fb) :
    Has P w K mg base (k + 1) x n (fnR N.length fb) := ⟨f, fd, ps, fnV_of F S hn hb, hmg, F.kp, hbi⟩
end
end BB
end

section
set_option Elab.async false
set_option linter.all false
set_option maxRecDepth 100000
set_option maxHeartbeats 4000000
namespace BB
open PySem PySem.Spec PyProof.Rows L2
/-! ## a dict of the module, ints to ints -/
def intEnt : List DictEntry → List (Int × Int) → Bool
  | [], [] => true
  | e :: es, (k, v) :: r => (match e.key, e.val with
    | .int k' _, .int v' _ => decide (k' = k) && (decide (v' = v) && decide (e.hash = hashInt k'))
    | _, _ => false) && intEnt es r
  | _, _ => false
def intD (K : PySem.W.Frag) (a : Addr) (kvs : List (Int × Int)) : Bool := match K.lookup a with
  | some ⟨.type "dict", none, .dict es _, sl⟩ => sl.isEmpty && intEnt es.toList kvs
  | _ => false
theorem intEnt_keys {prog : Program} {w : World} : ∀ {es : List DictEntry} {kvs : List (Int × Int)}, intEnt es kvs = true → ∀ e ∈ es, ∃ k, (mixKind prog w).is k e.key = true ∧ e.hash = (mixKind prog w).hash k
  | [], _, _, e, m => by cases m
  | e :: es, [], h, _, _ => by simp [intEnt] at h
  | e :: es, (k, v) :: r, h, e', m => by
    unfold intEnt at h
    obtain ⟨h1, h2⟩ := Bool.and_eq_true_iff.mp h
    rcases List.mem_cons.mp m with rfl | m
    · split at h1
      · rename_i k' t v' t' hk hv
        obtain ⟨h3, h4⟩ := Bool.and_eq_true_iff.mp h1
        obtain ⟨h5, h6⟩ := Bool.and_eq_true_iff.mp h4
        exact ⟨.inl k', by rw [hk]; exact keyIs_int k' t, by rw [of_decide_eq_true h6]; rfl⟩
      · cases h1
    · exact intEnt_keys h2 e' m
theorem intEnt_find {prog : Program} {w : World} {k : Int} {v : Int} : ∀ {es : List DictEntry} {kvs : List (Int × Int)}, intEnt es kvs = true → kvs.lookup k = some v → ∃ t, (es.find? fun d => (mixKind prog w).is (.inl k) d.key).map (·.val) = some (.int v t)
  | [], [], _, h => by cases h
  | [], _ :: _, h, _ => by simp [intEnt] at h
  | e :: es, [], h, _ => by simp [intEnt] at h
  | e :: es, (k1, v1) :: r, h, l => by
    unfold intEnt at h
    obtain ⟨h1, h2⟩ := Bool.and_eq_true_iff.mp h
    split at h1
    · rename_i k' t v' t' hk hv
      obtain ⟨h3, h4⟩ := Bool.and_eq_true_iff.mp h1
      obtain ⟨h5, h6⟩ := Bool.and_eq_true_iff.mp h4
      have e1 := of_decide_eq_true h3
      have e2 := of_decide_eq_true h5
      subst e1; subst e2
      rw [List.lookup_cons] at l
      by_cases q : k = k'
      · subst q
        simp only [beq_self_eq_true] at l
        cases l
        refine ⟨t', ?_⟩
        rw [List.find?_cons_of_pos (by show (mixKind prog w).is (.inl k) e.key = true; rw [hk]; exact keyIs_int k t), Option.map_some, hv]
      · have q' : (k == k') = false := by simpa using q
        rw [q'] at l
        obtain ⟨t2, h7⟩ := intEnt_find (prog := prog) (w := w) h2 l
        refine ⟨t2, ?_⟩
        rw [List.find?_cons_of_neg (by
          show ¬ (mixKind prog w).is (.inl k) e.key = true
          rw [hk]
          intro z
          have := keyIs_shape (show keyIs (.inl k) (.int k' t) = true from z)
          rcases this with ⟨i, u, a, b⟩ | ⟨x, u, a, b⟩
          · cases a; cases b; exact q rfl
          · cases a)]
        exact h7
    · cases h1
section
variable {X : Cx} {W : WX} {pos : Pos} {o i : Expr} {ty : TE} {a : Addr} {kvs : List (Int × Int)}
theorem pe_kget (hd : intD X.K a kvs = true) (ho : PE X o (tC (.ref a))) (hi : PE X i ty) (hs : NoSl i) : PE X (.Subscript o i pos) (fun σ H Q => ty σ H fun y H1 => ∃ k v, y = .int k ∧ kvs.lookup k = some v ∧ Q (.int v) H1) := by
  refine ⟨fun pins s σ H Q I h => ?_⟩
  refine subD_of PySem.F.slot_dict_getitem.lookup hs (thn (ho.run pins s σ H (fun x H1 => x = .ref a ∧ H1 = H) I ⟨rfl, rfl⟩) fun u s1 ⟨x, H1, I1, rx, ex, eh⟩ => ?_)
  subst ex; subst eh
  refine thn (hi.run pins s1 σ H1 _ I1 h) fun iv s2 ⟨y, H2, I2, ry, k, v, ey, hl, q⟩ => ?_
  subst ey
  obtain rfl : u = Value.ref a := rx
  obtain ⟨t, rfl⟩ := ry
  unfold intD at hd
  split at hd
  · rename_i es ep sl hK
    obtain ⟨h1, h2⟩ := Bool.and_eq_true_iff.mp hd
    have hobj := I2.kIn _ _ hK
    have hm : s2.heap.MapOf (mixKind X.prog X.w) a (fun k => PySem.findBy (mixKind X.prog X.w).is es k) :=
      ⟨_, es, ep, hobj, ⟨rfl, rfl, Array.isEmpty_iff.mp h1⟩, rfl, fun e he => intEnt_keys h2 e (Array.mem_toList_iff.mpr he), fun _ => rfl⟩
    obtain ⟨tv, hf⟩ := intEnt_find (prog := X.prog) (w := X.w) h2 hl
    refine ⟨⟨_, hobj, rfl⟩, wpAny_getItem_of (k := Sum.inl k) (keyIs_int k t) hm (v := .int v tv) ?_ ⟨.int v, H2, I2.tok _, ⟨tv, rfl⟩, q⟩⟩
    obtain ⟨l⟩ := es
    unfold PySem.findBy
    rw [List.find?_toArray]
    exact hf
  · cases hd
def oKget (kvs : List (Int × Int)) : Val → R Val
  | .int k => match kvs.lookup k with
    | some v => pure (.int v)
    | none => R.stk
  | _ => R.stk
theorem ve_kget {f : Env → R Val} (hd : intD X.K a kvs = true) (ho : PE X o (tC (.ref a))) (hi : VE X W i f) (hs : NoSl i := by intro _ _; rfl) : VE X W (.Subscript o i pos) (c1 (oKget kvs) f) :=
  peI (pe_kget hd ho hi hs) fun σ H Q ⟨D, H0, U, ρ, o, F, dk, p⟩ => tG_of F dk (Post.bind p fun v o1 x H1 e1 d1 r1 p1 => by
    cases v <;> try exact False.elim p1
    rename_i k
    have p2 : Post X.K X.mg W D U σ H1 (RV X.K D U) ((match kvs.lookup k with | some v => pure (.int v) | none => R.stk : R Val) o1) Q := p1
    cases hl : kvs.lookup k with
    | none => rw [hl] at p2; exact p2.elim
    | some v =>
      rw [hl] at p2
      exact ⟨k, v, by cases r1; rfl, hl, Post.ret p2 d1 (.int _)⟩)
end
/-! ## the law is called -/
section
variable {P : Program} {w : World} {K : PySem.W.Frag} {mg mb : Str → Option Value} {k : Nat} {fa a : Addr} {fd : FuncData} {x : Str} {sp : Sp} {s₁ : Shared} {vs : List Value} {ns : List Int}
theorem lawG (KX : K.In s₁.heap) (hns : s₁.heap.Ns mainGlobals mg) (hb : s₁.heap.Ns builtinsNs mb) (hbb : ∀ x : Str, x ≠ "__name__" → mb x = bootBuiltins x) (hlim : s₁.heap.NoLimit) (hg : s₁.gens = #[])
    (ha : s₁.heap.get? a = some { cls := .type "list", data := .seq vs.toArray }) (hi : IntsAre vs ns) (hl : ns.length ≤ sizeLine) (hr : Room k callerA) (hgd : callerA.guards = some [])
    (F : ∀ base : Heap, K.In base → base.Ns mainGlobals mg → FnG P w K mg base k fa fd [x] sp) (hbind : ∀ (s : Shared) (u : Value), BindsTo s fd ⟨[u], []⟩ [(x, u)])
    (hsp : ∀ H : Hp, Only H → SqL K H a (ns.map V.int) → sp [.ref a] H (fun v _ => v = .bl true) fun _ _ _ => False)
    (hCX : ∀ H e s', L2.CX P w [] H s₁ (fun _ _ _ => False) e s' → False) :
    codeAny (model P w) callerA (.call (.ref fa) ⟨[.ref a], []⟩) (fun r s' => r = .ok (.ret (.bool true)) ∧ OldK s₁.heap s'.heap ∧ s'.os = s₁.os ∧ AllBare s'.gens) s₁ := by
  have rv := vals_ints hi; have lenV := hi.length
  have main : ∀ H : Hp, Only H → SqL K H a (ns.map V.int) → HOk P w H s₁.heap → (∀ b, H b ≠ none → b = a) → (H a ≠ none → K.lookup a = none) →
      codeAny (model P w) callerA (.call (.ref fa) ⟨[.ref a], []⟩) (fun r s' => r = .ok (.ret (.bool true)) ∧ OldK s₁.heap s'.heap ∧ s'.os = s₁.os ∧ AllBare s'.gens) s₁ := fun H hO hS hok hA hK => by
    have onlyA : ∀ {b : Addr} {u : HO}, H b = some u → b = a := fun {b u} q => hA b (by rw [q]; simp)
    have keepB : ∀ {b : Addr} {o : Obj}, s₁.heap.get? b = some o → H b = none → (hidT s₁.heap H).get? b = some o := fun e n => hidT_get e n
    have noD : ∀ {b : Addr} {o : Obj} {es : Array DictEntry} {ep : Nat}, s₁.heap.get? b = some o → o.data = .dict es ep → H b = none := fun {b o es ep} e d => by
      cases q : H b with
      | none => rfl
      | some u =>
        have z := onlyA q
        subst z
        rw [ha] at e; cases e; cases (show Data.seq vs.toArray _ = Data.dict es ep from d)
    have nsB : ∀ {b : Addr} {m : Str → Option Value}, s₁.heap.Ns b m → (hidT s₁.heap H).Ns b m := fun {b m} ⟨o, es, ep, e, d, r⟩ => ⟨o, es, ep, keepB e (noD e d), d, r⟩
    have inB : K.In (hidT s₁.heap H) := fun b o e => keepB (KX b o e) (by
      cases q : H b with
      | none => rfl
      | some u =>
        have z := onlyA q
        subst z
        rw [hK (by rw [q]; simp)] at e; cases e)
    have md : Mod K mg (hidT s₁.heap H) := ⟨inB, nsB hns, ⟨mb, nsB hb, hbb⟩, let ⟨mc, h1, h2⟩ := hlim; ⟨mc, nsB h1, h2⟩⟩
    have e0 : Env0 P w K mg (hidT s₁.heap H) callerA [] s₁ H := ⟨rfl, md, fun b o e => of_hidT e, Nat.le_of_eq (hidT_size _ _), trivial, fun b hb => absurd (show b ∈ ([] : List Addr) from hb) (by simp), hok, .of_eq hg⟩
    refine codeAny_mono ((F _ inB (nsB hns)).run callerA [] s₁ H ⟨[.ref a], []⟩ [.ref a] [.ref a] _ _ hr hgd e0 (hbind s₁ (.ref a)) (.cons rfl .nil) (hsp H hO hS)) fun r s' h => ?_
    match r, h with
    | .error e, h => exact (hCX H e s' h).elim
    | .ok .next, h => exact False.elim h
    | .ok .brk, h => exact False.elim h
    | .ok .cont, h => exact False.elim h
    | .ok (.ret u), h =>
      obtain ⟨v, H', os, bare, un, hok', r', q⟩ := h
      have q' : v = .bl true := q
      subst q'
      obtain rfl : u = Value.bool true := r'
      refine ⟨rfl, OldK.of_keep fun b o e => ?_, os, bare⟩
      cases q : H b with
      | none => exact un.keep b o e q (fun z => absurd (show b ∈ ([] : List Addr) from z) (by simp)) (by simp)
      | some u =>
        rcases hO b with z | ⟨ob, xs, z⟩
        · rw [q] at z; cases z
        · obtain ⟨e1, _⟩ := hok b _ z
          obtain ⟨e2, _⟩ := hok' b _ (un.frzs b ob _ z)
          rw [e] at e1; cases e1; exact e2
  cases hk : K.lookup a with
  | some o =>
    have e := KX a o hk
    rw [ha] at e; cases e
    exact main (fun _ => none) (fun _ => .inl rfl) (.inr ⟨_, vs.toArray, _, hk, rfl, rfl, rfl, by rw [List.size_toArray, lenV]; exact hl, by simpa using rv⟩) (fun b u z => by cases (show (none : Option HO) = some u from z)) (fun b z => absurd rfl z) fun z => absurd rfl z
  | none =>
    refine main (fun b => if b = a then some (.frz { cls := .type "list", data := .seq vs.toArray } (.lst (ns.map V.int))) else none) (fun b => ?_) (.inl (.inr ⟨_, if_pos rfl⟩)) (fun b u z => ?_) (fun b z => ?_) fun _ => hk
    · by_cases h : b = a
      · exact .inr ⟨_, _, if_pos h⟩
      · exact .inl (if_neg h)
    · by_cases h : b = a
      · cases (if_pos h).symm.trans z
        subst h
        exact ⟨ha, by rw [List.length_map]; exact hl, vs, _, rv, ha⟩
      · cases (if_neg h).symm.trans z
    · by_cases h : b = a
      · exact h
      · exact absurd (if_neg h) z
end
/-- the law's walk, from its promise -/
theorem walkG {l : PySem.W.OpenLaw} {n k : Nat} {q : Program} {loose : List Str} {XP : (Str → Option Value) → Heap → Prop} {YP : World → Heap → Prop} {d : DefRec} {x : Str}
    (hn : l.most = some n) (hn2 : n ≤ sizeLine) (hdf : d.params.defaults = []) (hr : Room k callerA) (hgd : callerA.guards = some [])
    (F : ∀ (w : World) (mg : Str → Option Value) (fa : Addr) (h : Heap), YP w h → h.Ns mainGlobals mg → mg d.name = some (.ref fa) →
      ∃ (K : PySem.W.Frag) (fd : FuncData) (sp : Sp), K.In h ∧ (∀ (s : Shared) (u : Value), BindsTo s fd ⟨[u], []⟩ [(x, u)]) ∧
        (∀ (H : Hp) (a : Addr) (ns : List Int), ns.length ≤ n → Only H → SqL K H a (ns.map V.int) → sp [.ref a] H (fun v _ => v = .bl true) fun _ _ _ => False) ∧
        ∀ base : Heap, K.In base → base.Ns mainGlobals mg → FnG l.prog w K mg base k fa fd [x] sp)
    (hCX : ∀ (w : World) (H : Hp) (s : Shared) (e : Value) (s' : Shared), L2.CX l.prog w [] H s (fun _ _ _ => False) e s' → False) :
    PySem.W.WalkO q loose XP YP l.row.toRowW d [] (fun f vs => PySem.call f vs) := by
  refine Att.attach_call hn hdf fun w s₀ s₁ mg mb fa o pm cd doc a vs ns G Y ho hd hcd hmg hobj hints hlen hg => ?_
  obtain ⟨K, fd, sp, KX, hb, hsp, hF⟩ := F w mg fa _ Y G.T.g hmg
  exact lawG KX G.T.g G.T.b G.T.builtins G.T.nolimit hg hobj hints (Nat.le_trans hlen hn2) hr hgd hF hb (fun H hO hS => hsp H a ns hlen hO hS) fun H e s' => hCX w H s₁ e s'
end BB
end

section
set_option Elab.async false
set_option linter.all false
set_option maxRecDepth 100000
set_option maxHeartbeats 4000000
namespace BB
open PySem PySem.Spec PyProof.Rows L2
section
variable {X : Cx} {W : WX} {pos p : Pos} {a b e : Expr} {fa fb fe : Env → R Val}
theorem pvv {i : Nat} {x : Str} (hN : X.N[i]? = some x := by rfl) (hv : Vis X.env.scope x := by first | exact .inl rfl | exact .inr (.inl rfl) | exact .inr (.inr rfl)) (hd : (x == ("__debug__" : Str)) = false := by decide) (hcd : (x == ("__classdict__" : Str)) = false := by decide) : PE X (.Name x pos) (tVar i) := pe_var hN hv hd hcd
theorem ve_v (i : Nat) {x : Str} (hN : X.N[i]? = some x := by rfl) (hv : Vis X.env.scope x := by first | exact .inl rfl | exact .inr (.inl rfl) | exact .inr (.inr rfl)) (hd : (x == ("__debug__" : Str)) = false := by decide) (hcd : (x == ("__classdict__" : Str)) = false := by decide) : VE X W (.Name x pos) (cV i) := ve_var (pe_var hN hv hd hcd)
theorem vl_v (i : Nat) {x : Str} (hN : X.N[i]? = some x := by rfl) (hv : Vis X.env.scope x := by first | exact .inl rfl | exact .inr (.inl rfl) | exact .inr (.inr rfl)) (hd : (x == ("__debug__" : Str)) = false := by decide) (hcd : (x == ("__classdict__" : Str)) = false := by decide) : VL X W (.Name x pos) (cL i) := vl_var (pe_var hN hv hd hcd)
theorem vg_v (i : Nat) {x : Str} (hN : X.N.Nodup) (hi : X.N[i]? = some x := by rfl) (hx : Loc X.env.scope x := by first | exact .inl rfl | exact .inr rfl) (hf : X.fn x = true ∨ X.env.scope.names.lookup x = some .local := by first | exact .inl rfl | exact .inr rfl) : VG X (.Name x pos) [i] (gN i) := vg_name hN hi hx hf
theorem vs_st (i : Nat) {x : Str} {pos' : Pos} (hN : X.N.Nodup) (he : VE X W e fe) (hi : X.N[i]? = some x := by rfl) (hx : Loc X.env.scope x := by first | exact .inl rfl | exact .inr rfl) (hs : swapsWith e (some (.Name x pos')) pos.line X.env = pure false := by rfl) (hf : X.fn x = true ∨ X.env.scope.names.lookup x = some .local := by first | exact .inl rfl | exact .inr rfl) :
    VS X W (.Assign [.Name x pos'] e pos) (sSet i fe) := vs_set hN hi hx he hs hf
theorem vs_ow (i : Nat) {x : Str} {pos' : Pos} (hN : X.N.Nodup) (he : VF X W e fe) (hi : X.N[i]? = some x := by rfl) (hx : Loc X.env.scope x := by first | exact .inl rfl | exact .inr rfl) (hs : swapsWith e (some (.Name x pos')) pos.line X.env = pure false := by rfl) (hf : X.fn x = true ∨ X.env.scope.names.lookup x = some .local := by first | exact .inl rfl | exact .inr rfl) :
    VS X W (.Assign [.Name x pos'] e pos) (sOwn i fe) := vs_own hN hi hx he hs hf
theorem tk0 : Takes X W0 := fun u s' ⟨a, B, sI, pins, σ, H, cls, d, e, I, nb, up, sky, na, os, ag, w⟩ => w.elim
theorem un64 {k : Nat} {A : Around} (h : Room k A) : A.units + 64 < cLine := by have := h.un; omega
/-- {} -/
theorem ve_dic : VE X W (.Dict [] [] pos) (cK (.dict [])) := peI pe_dnewK fun σ H Q ⟨D, H0, U, ρ, o, F, dk, p⟩ => by
  intro q hq
  have e := Ext.upd (D := D) (o := HO.dK []) hq
  exact p _ _ e (dk.upd hq) (.dic (F.fresh hq) upd_same)
/-- [a, ..], the list new -/
theorem vf_lst {es : List Expr} {f : Env → R (List Val)} (h : VA X W es f) : VF X W (.List es pos) (cA oLst f) :=
  peI (pe_lst h) fun σ H Q ⟨D, H0, U, ρ, o, F, dk, p⟩ => tG_of F dk (Post.bind p fun vs o1 xs H1 e1 d1 r1 p1 => by
    obtain ⟨c, p1⟩ := post_if p1
    refine ⟨lim_ok (by rw [Reps.length r1]; exact c), fun q hq => ?_⟩
    have e2 := Ext.upd (D := D) (o := HO.lst xs) hq
    refine p1 _ _ e2 (d1.upd hq) ⟨q, xs, vs, rfl, rfl, ?_, (F.ext dk e1 d1).fresh hq, upd_same, r1.keep (Keep.new hq)⟩
    cases z : H q with
    | none => rfl
    | some u =>
      exfalso
      by_cases y : D.has q
      · obtain ⟨w, hw, _⟩ := d1.dom y
        rw [hq] at hw; cases hw
      · rw [e1 q u z y] at hq; cases hq)
/-- name = [.. for ..] on one line, as a value -/
theorem tF_set {K : PySem.W.Frag} {mg : Str → Option Value} {i : Nat} {Z : Ends} {σ : St} {H : Hp} (h : tS K mg W (sSet i fe) Z σ H) : tF K mg W fe σ H (fun x H1 => Z.nx (σ.set i (some x)) H1) := by
  obtain ⟨D, H0, U0, Hb, Ub, U, ρ, o, F, dk, p⟩ := h
  refine ⟨D, H0, U, ρ, o, F.fr, dk, post_lift F dk p fun v o1 y H1 e1 d1 F1 ⟨a, xs, ds, h1, h2, h3, h4, h5, h6⟩ p1 => ?_⟩
  subst h1; subst h2
  exact p1 _ _ H1 (F1.withR (F1.fr.setVal (.lst ⟨h4, h5⟩ (h6.keep (Keep.less h5))))) d1
variable {elt tg iter t : Expr} {scope : Scope} {own : List (Str × Nat)} {spos py : Pos} {g : Val → Env → Option Env} {is : List Nat} {fi : Env → R (List Val)} {ft : Env → R Bool}
theorem vs_lc (i : Nat) {y : Str} (hc : X.calm = true) (hN : X.N.Nodup) (hi : VI X W tg iter fi) (ok : BlkOk X.N X.env.scope scope own) (sub : ∀ j ∈ is, j ∈ own.map (·.2))
    (hg : BK X scope fun Y => VG Y tg is g) (he : BK X scope fun Y => VE Y W0 elt fe) (hy : X.N[i]? = some y := by rfl) (hyl : X.env.scope.names.lookup y = some .local := by rfl)
    (hsw : swapsWith (.ListComp elt [⟨tg, iter, [], 0⟩] scope pos) (some (.Name y py)) spos.line X.env = pure true := by exact sw_true rfl rfl rfl rfl) (hs : ∀ x, foldedSetIterable iter X.env x = pure x := by intro _; rfl) :
    VS X W (.Assign [.Name y py] (.ListComp elt [⟨tg, iter, [], 0⟩] scope pos) spos) (sSet i (cLc (own.map (·.2)) fi g (fun _ => pure true) fe)) :=
  psI (ps_setLc hc hN hy hyl hsw hi ok (te := tG X.K X.mg W0 RV fe) (g := tB X.K is g) (fun s H C cl fp => (hg s H C cl fp).pg) (tt := tG X.K X.mg W0 RB fun _ => pure true) (fun s H C cl fp => pts_none (X := X.blk s H scope (compEnvC scope cl C X.env) fp)) (fun s H C cl fp => he s H C cl fp) hs)
    fun Z σ H h => lc_te sub (tF_set h)
theorem vs_lco (i : Nat) {y : Str} (hc : X.calm = true) (hN : X.N.Nodup) (hi : VI X W tg iter fi) (ok : BlkOk X.N X.env.scope scope own) (sub : ∀ j ∈ is, j ∈ own.map (·.2))
    (hg : BK X scope fun Y => VG Y tg is g) (he : BK X scope fun Y => VE Y W0 elt fe) (hy : X.N[i]? = some y := by rfl) (hyl : X.env.scope.names.lookup y = some .local := by rfl)
    (hsw : swapsWith (.ListComp elt [⟨tg, iter, [], 0⟩] scope pos) (some (.Name y py)) spos.line X.env = pure true := by exact sw_true rfl rfl rfl rfl) (hs : ∀ x, foldedSetIterable iter X.env x = pure x := by intro _; rfl) :
    VS X W (.Assign [.Name y py] (.ListComp elt [⟨tg, iter, [], 0⟩] scope pos) spos) (sOwn i (cLc (own.map (·.2)) fi g (fun _ => pure true) fe)) :=
  vs_ownLc hc hN hy hyl hsw hi ok sub hg he hs
end
/-! ## a tuple of ints of the module -/
def intsOf : List Value → Option (List Int)
  | [] => some []
  | .int i _ :: r => (intsOf r).map (i :: ·)
  | _ => none
theorem intsOf_vals : ∀ {vs : List Value} {ns : List Int}, intsOf vs = some ns → Vals (ns.map V.int) vs
  | [], ns, h => by cases h; exact .nil
  | v :: r, ns, h => by
    cases v with
    | int i t =>
      have h' : (intsOf r).map (i :: ·) = some ns := h
      cases q : intsOf r with
      | none => rw [q] at h'; cases h'
      | some ms =>
        rw [q] at h'
        cases h'
        exact .cons ⟨t, rfl⟩ (intsOf_vals q)
    | _ => exact absurd (show (none : Option (List Int)) = some ns from h) (fun z => nomatch z)
def intT (K : PySem.W.Frag) (a : Addr) (ns : List Int) : Bool := match K.lookup a with
  | some ⟨.type "tuple", _, .seq its _, _⟩ => decide (intsOf its.toList = some ns) && decide (its.size ≤ 1000)
  | _ => false
theorem intT_rep {K : PySem.W.Frag} {a : Addr} {ns : List Int} (h : intT K a ns = true) (D : Dr) (U : Addr → Prop) (H : Hp) : Rep K D U H (.ref a) (.tuple (ns.map PyData.int)) := by
  unfold intT at h
  split at h
  · rename_i its n sl hK
    obtain ⟨h1, h2⟩ := Bool.and_eq_true_iff.mp h
    exact .tup (.inr ⟨_, its, n, hK, rfl, rfl, Nat.le_trans (of_decide_eq_true h2) (by unfold sizeLine; decide), intsOf_vals (of_decide_eq_true h1)⟩) (Reps.ofInts ns)
  · cases h
end BB
end

section
set_option Elab.async false
set_option linter.all false
set_option maxRecDepth 100000
set_option maxHeartbeats 4000000
namespace BB
open PySem PySem.Spec PyProof.Rows L2
section
variable {X : Cx} {W : WX} {pos p : Pos} {a b e : Expr} {fa fb fe : Env → R Val}
theorem pe_tyn {T : Str} {Ty : String} (hg : Gl X T) (hm : X.mg T = none) (hv : bootBuiltins T = some (.type Ty)) (hn : T ≠ "__name__" := by decide) (hd : (T == ("__debug__" : Str)) = false := by decide) : PE X (.Name T pos) (tC (.ty Ty)) :=
  ⟨fun pins s σ H Q I h => ld_blt I hg hm hv ⟨.ty Ty, H, I, rfl, h⟩ hn hd⟩
end
/-- a comparison as a test -/
theorem test_of_cmp {M : Model} {A : Around} {E : Value → Shared → Prop} {s : Shared} {env : PySem.Env} {l r : Expr} {op : CmpOp} {pos : Pos} {whole : Sem Value} {Q : Bool → Shared → Prop} (hm : behindInMarks op r = false)
    (h : wpAny M A (eval (.Compare l [op] [r] pos) env) (fun c s₃ => wpAny M A (truthy c) Q E s₃) E s) : wpAny M A (isTrue (.Compare l [op] [r] pos) env whole) Q E s := fun Γ p hΓ => by
  have z := h Γ p hΓ
  simp only [eval_Compare1, markedBehindIn_of_false hm, Sem.wp_bind', Sem.wp_holding, Sem.wp_cmd_standAt, Sem.wp_operate] at z
  simp only [isTrue_Compare1, markedBehindIn_of_false hm, Sem.wp_bind', Sem.wp_holding, Sem.wp_cmd_standAt, Sem.wp_operate]
  exact Sem.wp_mono M Γ _ (fun a p₁ s₁ h₁ => Sem.wp_mono M Γ _ (fun b p₂ s₂ h₂ => Sem.wp_mono M Γ _ (fun c p₃ s₃ h₃ => h₃ Γ p₃ hΓ) (fun _ _ _ h' => h') _ _ h₂) (fun _ _ _ h' => h') _ _ h₁) (fun _ _ _ h' => h') _ _ z
section
variable {X : Cx} {W : WX} {pos : Pos} {a b : Expr} {f : Env → R Val}
theorem vt_cmp {op : CmpOp} (h : VE X W (.Compare a [op] [b] pos) f) (hm : behindInMarks op b = false := by first | exact nomark _ | rfl) : VT X W (.Compare a [op] [b] pos) (cT f) := by
  refine ⟨fun pins s σ H Q I ⟨D, H0, U, ρ, o, F, dk, p⟩ => test_of_cmp hm (thn (h.run pins s σ H _ I (tG_of F dk (Post.bind p fun v o1 x H1 e1 d1 r1 p1 => ?_))) fun u s1 ⟨x, H1, I1, r1, q1⟩ => tru_ok pins s1 σ H1 x u Q I1 r1 q1)⟩
  exact truth_ok d1 (.inl r1) p1
end
/-- the module's free names -/
structure MG (mg : Str → Option Value) : Prop where
  len : mg "len" = none
  tuple : mg "tuple" = none
  list : mg "list" = none
  abs : mg "abs" = none
  int : mg "int" = none
  bool : mg "bool" = none
  sum : mg "sum" = none
  any : mg "any" = none
  all : mg "all" = none
  isi : mg "isinstance" = none
  repr : mg "repr" = none
  enum : mg "enumerate" = none
  range : mg "range" = none
  zip : mg "zip" = none
  gcd : mg "gcd" = some (.builtin "math.gcd")
theorem boot_int' : bootBuiltins "int" = some (.type "int") := by rfl
theorem boot_bool' : bootBuiltins "bool" = some (.type "bool") := by rfl
theorem boot_tuple' : bootBuiltins "tuple" = some (.type "tuple") := by rfl
theorem boot_list' : bootBuiltins "list" = some (.type "list") := by rfl
end BB
end

section
set_option Elab.async false
set_option linter.all false
set_option maxRecDepth 100000
set_option maxHeartbeats 4000000
namespace BB
open PySem PySem.Spec PyProof.Rows L2
/-! ## by hand beside the values: no drawer, nothing owned -/
section
variable {K : PySem.W.Frag} {mg : Str → Option Value} {H H' H0 : Hp}
abbrev U0 : Addr → Prop := fun _ => False
inductive SV (K : PySem.W.Frag) (H : Hp) : St → BB.Env → Prop
  | nil : SV K H [] []
  | un {x : Option V} {σ : St} {ρ : BB.Env} : SV K H σ ρ → SV K H (x :: σ) (.un :: ρ)
  | vl {x : V} {v : Val} {σ : St} {ρ : BB.Env} : Rep K none U0 H x v → SV K H σ ρ → SV K H (some x :: σ) (.val v :: ρ)
theorem SV.len : ∀ {σ : St} {ρ : BB.Env}, SV K H σ ρ → σ.length = ρ.length
  | _, _, .nil => rfl
  | _, _, .un h => by simp [h.len]
  | _, _, .vl _ h => by simp [h.len]
theorem SV.at_ : ∀ {σ : St} {ρ : BB.Env} {i : Nat} {s : Slot}, SV K H σ ρ → ρ[i]? = some s → s = .un ∨ ∃ x v, s = .val v ∧ σ[i]? = some (some x) ∧ Rep K none U0 H x v
  | _, _, i, s, .nil, e => by simp at e
  | _, _, 0, s, .un h, e => by simp at e; exact .inl e.symm
  | _, _, i + 1, s, .un h, e => by
    rcases SV.at_ (i := i) h (by simpa using e) with h | ⟨x, v, h1, h2, h3⟩
    · exact .inl h
    · exact .inr ⟨x, v, h1, by simpa using h2, h3⟩
  | _, _, 0, s, .vl r h, e => by simp at e; exact .inr ⟨_, _, e.symm, rfl, r⟩
  | _, _, i + 1, s, .vl r h, e => by
    rcases SV.at_ (i := i) h (by simpa using e) with h | ⟨x, v, h1, h2, h3⟩
    · exact .inl h
    · exact .inr ⟨x, v, h1, by simpa using h2, h3⟩
theorem SV.fr {σ : St} {ρ : BB.Env} (h : SV K H σ ρ) : FR K none H0 U0 σ H ρ where
  len := h.len
  val := fun i v e => by
    rcases h.at_ e with h | ⟨x, w, h1, h2, h3⟩
    · cases h
    · cases h1; exact ⟨x, h2, h3⟩
  own := fun i v e => by
    rcases h.at_ e with h | ⟨x, w, h1, h2, h3⟩
    · cases h
    · cases h1
  dis := fun i j a v w e => by
    rcases h.at_ e with h | ⟨x, w, h1, h2, h3⟩
    · cases h
    · cases h1
  exn := fun i a cls d c fs e => by
    rcases h.at_ e with h | ⟨x, w, h1, h2, h3⟩
    · cases h
    · cases h1
  dU := fun a h => h.elim
  dom := fun a h => h.elim
/-- heaps that grow -/
def Gr (H H' : Hp) : Prop := ∀ a u, H a = some u → H' a = some u
theorem Gr.refl (H : Hp) : Gr H H := fun _ _ h => h
theorem Gr.trans {H1 : Hp} (a : Gr H H1) (b : Gr H1 H') : Gr H H' := fun x u h => b _ _ (a _ _ h)
theorem Gr.upd {p : Addr} {u : HO} (h : H p = none) : Gr H (upd H p u) := fun a o e => by rw [upd_ne (ne_of_none e h)]; exact e
theorem Gr.dok {D : Dr} {o : Om} (g : Gr H H') (d : DOk D o H) : DOk D o H' := d.same fun a ha => by
  obtain ⟨u, hu, _⟩ := d.dom ha
  rw [hu, g a u hu]
theorem Gr.ext {D : Dr} (g : Gr H H') : Ext D H H' := fun a o h _ => g a o h
theorem tG_raw {W : WX} {f : BB.Env → R Val} {v : Val} {σ : St} {ρ : BB.Env} {Q : VK} (h : SV K H σ ρ) (e : ∀ o, f ρ o = .ok v o) (n : ∀ y H', Gr H H' → Rep K none U0 H' y v → Q y H') : tG K mg W RV f σ H Q :=
  ⟨none, H, U0, ρ, ⟨[], [], 0⟩, h.fr, trivial, by rw [e]; exact fun y H' e d r => n y H' (fun a u h => e a u h id) r⟩
theorem tT_raw {W : WX} {f : BB.Env → R Bool} {v : Bool} {σ : St} {ρ : BB.Env} {Q : Bool → Hp → Prop} (h : SV K H σ ρ) (e : ∀ o, f ρ o = .ok v o) (n : ∀ H', Gr H H' → Q v H') : tG K mg W RB f σ H Q :=
  ⟨none, H, U0, ρ, ⟨[], [], 0⟩, h.fr, trivial, by rw [e]; exact fun y H' e d r => by cases r; exact n H' (fun a u h => e a u h id)⟩
end
theorem canAll_ints (ns : List Int) : PyData.canLayAll0 (ns.map PyData.int) = true := by
  induction ns with
  | nil => simp [PyData.canLayAll0]
  | cons n ns ih => simp [PyData.canLayAll0, PyData.canLay0, ih]
theorem depthAll_ints (ns : List Int) : PyData.depthAll (ns.map PyData.int) = 0 := by
  induction ns with
  | nil => simp [PyData.depthAll]
  | cons n ns ih => simp [PyData.depthAll, PyData.depth, ih]
theorem shaped_ints (ns : List Int) : SeqAt.shaped (.list (ns.map PyData.int)) = true := by
  unfold SeqAt.shaped
  simp [PyData.canLay0, canAll_ints, PyData.depth, depthAll_ints]
theorem eqv_nil (ns : List Int) : PyData.eqv (.list (ns.map PyData.int)) (.list []) = ns.isEmpty := by
  cases ns <;> simp [PyData.eqv, PyData.eqvAll]
theorem dp_ints {K : PySem.W.Frag} {H : Hp} {a : Addr} {ns : List Int} (h : SqL K H a (ns.map V.int)) : Dp K H (.ref a) (.list (ns.map PyData.int)) :=
  .lst h ((Reps.ofInts (K := K) (D := none) (U := U0) (H := H) ns).dp (canAll_ints ns))
end BB
end

section
set_option Elab.async false
set_option linter.all false
set_option maxRecDepth 100000
set_option maxHeartbeats 4000000
namespace BB
open PySem
/-! ## sizes -/
def Bd (k : Nat) (a : Int) : Prop := a.natAbs < 2 ^ k
theorem Bd.mono {k l : Nat} {a : Int} (h : Bd k a) (q : k ≤ l) : Bd l a := Nat.lt_of_lt_of_le h (Nat.pow_le_pow_right (by decide) q)
theorem Bd.mul {k l : Nat} {a b : Int} (h : Bd k a) (q : Bd l b) : Bd (k + l) (a * b) := by
  unfold Bd at *
  rw [Int.natAbs_mul, Nat.pow_add]
  exact Nat.mul_lt_mul'' h q
theorem Bd.add {k : Nat} {a b : Int} (h : Bd k a) (q : Bd k b) : Bd (k + 1) (a + b) := by
  unfold Bd at *
  have := Int.natAbs_add_le a b
  rw [Nat.pow_succ]
  omega
theorem Bd.neg {k : Nat} {a : Int} (h : Bd k a) : Bd k (-a) := by
  unfold Bd at *
  rw [Int.natAbs_neg]; exact h
theorem Bd.sub {k : Nat} {a b : Int} (h : Bd k a) (q : Bd k b) : Bd (k + 1) (a - b) := by
  rw [Int.sub_eq_add_neg]
  exact h.add q.neg
theorem gm {k l : Nat} {a b : Int} (h : Bd k a) (q : Bd l b) (hk : k ≤ 4096 := by decide) (hl : l ≤ 4096 := by decide) : gMul a b = true :=
  decide_eq_true ⟨h.mono (l := BIG) (by unfold BIG; exact hk), q.mono (l := BIG) (by unfold BIG; exact hl)⟩
theorem gd {k : Nat} {i j : Int} (h : j ≠ 0) (q : Bd k j) (hk : k ≤ 4096 := by decide) : gDiv i j = true := decide_eq_true ⟨h, q.mono (l := BIG) (by unfold BIG; exact hk)⟩
theorem fmod_bd {k : Nat} {i j : Int} (h : 0 < j) (q : Bd k j) : Bd k (Int.fmod i j) := by
  unfold Bd at *
  have h1 := Int.fmod_nonneg_of_pos i h
  have h2 := Int.fmod_lt_of_pos i h
  omega
theorem fdiv_bd {k : Nat} {i j : Int} (h : 0 < j) (q : Bd k i) : Bd (k + 1) (Int.fdiv i j) := by
  unfold Bd at *
  rw [Int.fdiv_eq_ediv_of_nonneg _ (by omega)]
  have h1 : (i / j).natAbs ≤ i.natAbs + 1 := by
    rcases Int.lt_or_le i 0 with hi | hi
    · have a1 : i ≤ i / j := by
        have e := Int.mul_ediv_add_emod i j
        have e2 := Int.emod_nonneg i (show j ≠ 0 by omega)
        have e3 := Int.emod_lt_of_pos i h
        rcases Int.lt_or_le (i / j) i with c | c
        · exfalso
          have c1 : i / j + 1 ≤ i := c
          have c2 : j * (i / j + 1) ≤ j * i := Int.mul_le_mul_of_nonneg_left c1 (by omega)
          have c3 : j * i ≤ 1 * i := Int.mul_le_mul_of_nonpos_right (by omega) (by omega)
          rw [Int.mul_add] at c2
          omega
        · exact c
      have a2 : i / j < 0 := Int.ediv_neg_of_neg_of_pos hi h
      omega
    · have a1 := Int.ediv_nonneg hi (show 0 ≤ j by omega)
      have a2 := Int.ediv_le_self j hi
      omega
  rw [Nat.pow_succ]
  have : 0 < 2 ^ k := Nat.two_pow_pos k
  omega
theorem bd_lit {k : Nat} {a : Int} (h : a.natAbs < 2 ^ k := by decide) : Bd k a := h
end BB
end

section
set_option Elab.async false
set_option linter.all false
set_option maxRecDepth 100000
set_option maxHeartbeats 4000000
namespace BB
open PySem
/-! ## what mirrors tell -/
theorem okB {α β : Type} (a : α) (o : Om) (f : α → R β) : (Out.ok a o).bind f = f a o := rfl
/-- no draw: one value -/
def Is {α : Type} (m : R α) (v : α) : Prop := ∀ o, m o = .ok v o
theorem Is.bind {α β : Type} {m : R α} {v : α} {f : α → R β} {u : β} (h : Is m v) (q : Is (f v) u) : Is (m >>= f) u := fun o => by rw [bindE, h o]; exact q o
theorem Is.pure {α : Type} {v : α} : Is (pure v : R α) v := fun _ => rfl
theorem Is.nx {α : Type} {m : R α} {v : α} (h : Is m v) : Is (R.nx m) v := fun o => by unfold R.nx; rw [h o]; rfl
theorem is_lc {vs : List Nat} {fi : Env → R (List Val)} {g : Val → Env → Option Env} {fe : Env → R Val} {xs : List Val} {h : Val → Val} {ρ : Env} (hf : Is (fi ρ) xs) (hl : xs.length ≤ LIM)
    (hs : ∀ x ∈ xs, ∃ ρ', g x (wipeE ρ vs) = some ρ' ∧ Is (fe ρ') (h x)) : Is (cLc vs fi g (fun _ => Pure.pure true) fe ρ) (.list (xs.map h)) := by
  have go : ∀ ys : List Val, (∀ x ∈ ys, ∃ ρ', g x (wipeE ρ vs) = some ρ' ∧ Is (fe ρ') (h x)) → Is (lcGo g (fun _ => Pure.pure true) fe (wipeE ρ vs) ys) (ys.map h) := by
    intro ys
    induction ys with
    | nil => intro _; exact Is.pure
    | cons y ys ih =>
      intro hy
      obtain ⟨ρ', h1, h2⟩ := hy y List.mem_cons_self
      unfold lcGo lcStep
      simp only [h1]
      refine Is.bind (v := [h y]) (Is.bind (v := true) (Is.nx Is.pure) ?_) (Is.bind (ih fun x hx => hy x (List.mem_cons_of_mem _ hx)) Is.pure)
      rw [if_pos rfl]
      exact Is.bind (Is.nx h2) Is.pure
  unfold cLc
  refine Is.bind hf ?_
  rw [if_pos hl]
  exact Is.bind (go xs hs) Is.pure
theorem is_lcif {vs : List Nat} {fi : Env → R (List Val)} {g : Val → Env → Option Env} {ft : Env → R Bool} {fe : Env → R Val} {xs : List Val} {t : Val → Bool} {h : Val → Val} {ρ : Env} (hf : Is (fi ρ) xs) (hl : xs.length ≤ LIM)
    (hs : ∀ x ∈ xs, ∃ ρ', g x (wipeE ρ vs) = some ρ' ∧ Is (ft ρ') (t x) ∧ (t x = true → Is (fe ρ') (h x))) : Is (cLc vs fi g ft fe ρ) (.list ((xs.filter t).map h)) := by
  have go : ∀ ys : List Val, (∀ x ∈ ys, ∃ ρ', g x (wipeE ρ vs) = some ρ' ∧ Is (ft ρ') (t x) ∧ (t x = true → Is (fe ρ') (h x))) → Is (lcGo g ft fe (wipeE ρ vs) ys) ((ys.filter t).map h) := by
    intro ys
    induction ys with
    | nil => intro _; exact Is.pure
    | cons y ys ih =>
      intro hy
      obtain ⟨ρ', h1, h2, h3⟩ := hy y List.mem_cons_self
      have rest := ih fun x hx => hy x (List.mem_cons_of_mem _ hx)
      unfold lcGo lcStep
      simp only [h1]
      cases ht : t y with
      | true =>
        rw [List.filter_cons_of_pos ht]
        refine Is.bind (v := [h y]) (Is.bind (v := true) (Is.nx (by rw [← ht]; exact h2)) ?_) (Is.bind rest Is.pure)
        rw [if_pos rfl]
        exact Is.bind (Is.nx (h3 ht)) Is.pure
      | false =>
        rw [List.filter_cons_of_neg (by rw [ht]; exact Bool.false_ne_true)]
        refine Is.bind (v := []) (Is.bind (v := false) (Is.nx (by rw [← ht]; exact h2)) ?_) (Is.bind rest Is.pure)
        rw [if_neg Bool.false_ne_true]
        exact Is.pure
  unfold cLc
  refine Is.bind hf ?_
  rw [if_pos hl]
  exact Is.bind (go xs hs) Is.pure
/-- a loop that is left at its end -/
theorem is_for {g : Val → Env → Option Env} {fb : SF} {xs : List Val} {ρ : Env} (I : Nat → Env → Prop) (h0 : I 0 ρ)
    (hs : ∀ i x ρ, xs[i]? = some x → I i ρ → ∃ ρ1 ρ2, g x ρ = some ρ1 ∧ Is (fb ρ1) (.nx ρ2) ∧ I (i + 1) ρ2) : ∃ ρ', I xs.length ρ' ∧ Is (forGo g fb xs ρ) (.nx ρ') := by
  have go : ∀ (ys : List Val) (i : Nat) (ρ : Env), xs.drop i = ys → I i ρ → ∃ ρ', I (i + ys.length) ρ' ∧ Is (forGo g fb ys ρ) (.nx ρ') := by
    intro ys
    induction ys with
    | nil => intro i ρ _ h; exact ⟨ρ, h, Is.pure⟩
    | cons y ys ih =>
      intro i ρ e h
      have l : i < xs.length := by
        by_cases l : i < xs.length
        · exact l
        · rw [List.drop_eq_nil_of_le (by omega)] at e; cases e
      rw [List.drop_eq_getElem_cons l] at e
      obtain ⟨e1, e2⟩ := List.cons.inj e
      obtain ⟨ρ1, ρ2, h1, h2, h3⟩ := hs i y ρ (by rw [List.getElem?_eq_getElem l, e1]) h
      obtain ⟨ρ', h4, h5⟩ := ih (i + 1) ρ2 e2 h3
      refine ⟨ρ', by rw [List.length_cons, show i + (ys.length + 1) = i + 1 + ys.length by omega]; exact h4, ?_⟩
      unfold forGo
      simp only [h1]
      exact Is.bind h2 h5
  obtain ⟨ρ', h1, h2⟩ := go xs 0 ρ (by simp) h0
  exact ⟨ρ', by simpa using h1, h2⟩
theorem is_seq {f g : SF} {ρ ρ' : Env} {s : SO} (h : Is (f ρ) (.nx ρ')) (q : Is (g ρ') s) : Is (sSeq f g ρ) s := Is.bind h q
theorem is_lift {α : Type} {fe : Env → R α} {k : α → SF} {ρ : Env} {v : α} {s : SO} (h : Is (fe ρ) v) (q : Is (k v ρ) s) : Is (liftE fe k ρ) s := fun o => by unfold liftE; rw [h o]; exact q o
theorem is_fn {n : Nat} {fb : SF} {ds : List Val} {v : Val} (h : Is (fb (env0 n ds)) (.rt v)) : Is (fnR n fb ds) v := fun o => by unfold fnR; rw [h o]
/-! ## draws -/
def OmOk (k : Nat) (o : Om) : Prop := o.cells.length = 64 ∧ (∀ c ∈ o.cells, c.natAbs < 2 ^ 31) ∧ o.spot + k ≤ 1000000
def Tr {α : Type} (k : Nat) (m : R α) (P : α → Prop) : Prop := ∀ o, OmOk k o → ∃ v o', m o = .ok v o' ∧ OmOk 0 o' ∧ o'.spot ≤ o.spot + k ∧ P v
theorem OmOk.mono {k l : Nat} {o : Om} (h : OmOk k o) (q : l ≤ k) : OmOk l o := ⟨h.1, h.2.1, by have := h.2.2; omega⟩
theorem Tr.imp {α : Type} {k l : Nat} {m : R α} {P Q : α → Prop} (h : Tr k m P) (q : k ≤ l) (i : ∀ v, P v → Q v) : Tr l m Q := fun o ok => by
  obtain ⟨v, o', h1, h2, h3, h4⟩ := h o (ok.mono q)
  exact ⟨v, o', h1, h2, by omega, i v h4⟩
theorem Tr.bind {α β : Type} {k l : Nat} {m : R α} {f : α → R β} {P : α → Prop} {Q : β → Prop} (h : Tr k m P) (q : ∀ v, P v → Tr l (f v) Q) : Tr (k + l) (m >>= f) Q := fun o ok => by
  obtain ⟨v, o', h1, h2, h3, h4⟩ := h o (ok.mono (by omega))
  obtain ⟨u, o2, g1, g2, g3, g4⟩ := q v h4 o' ⟨h2.1, h2.2.1, by have := ok.2.2; omega⟩
  exact ⟨u, o2, by rw [bindE, h1]; exact g1, g2, by omega, g4⟩
theorem Tr.is {α : Type} {k : Nat} {m : R α} {v : α} {P : α → Prop} (h : Is m v) (p : P v) : Tr k m P := fun o ok => ⟨v, o, h o, ok.mono (Nat.zero_le _), by omega, p⟩
theorem Tr.isb {α β : Type} {l : Nat} {m : R α} {v : α} {f : α → R β} {Q : β → Prop} (h : Is m v) (q : Tr l (f v) Q) : Tr l (m >>= f) Q := fun o ok => by
  obtain ⟨u, o2, g1, g2⟩ := q o ok
  exact ⟨u, o2, by rw [bindE, h o]; exact g1, g2⟩
theorem Tr.nx {α : Type} {k : Nat} {m : R α} {P : α → Prop} (h : Tr k m P) : Tr k (R.nx m) P := fun o ok => by
  obtain ⟨v, o', h1, h2⟩ := h o ok
  exact ⟨v, o', by unfold R.nx; rw [h1]; rfl, h2⟩
theorem Tr.lift {α : Type} {k l : Nat} {fe : Env → R α} {kk : α → SF} {ρ : Env} {P : α → Prop} {Q : SO → Prop} (h : Tr k (fe ρ) P) (q : ∀ v, P v → Tr l (kk v ρ) Q) : Tr (k + l) (liftE fe kk ρ) Q := fun o ok => by
  obtain ⟨v, o', h1, h2, h3, h4⟩ := h o (ok.mono (by omega))
  obtain ⟨u, o2, g1, g2, g3, g4⟩ := q v h4 o' ⟨h2.1, h2.2.1, by have := ok.2.2; omega⟩
  exact ⟨u, o2, by unfold liftE; rw [h1]; exact g1, g2, by omega, g4⟩
theorem Tr.seq {k l : Nat} {f g : SF} {ρ : Env} {P : Env → Prop} {Q : SO → Prop} (h : Tr k (f ρ) fun s => (∃ ρ', s = .nx ρ' ∧ P ρ') ∨ ((∀ ρ', s ≠ .nx ρ') ∧ Q s)) (q : ∀ ρ', P ρ' → Tr l (g ρ') Q) : Tr (k + l) (sSeq f g ρ) Q :=
  Tr.bind h fun s hs => by
    rcases hs with ⟨ρ', rfl, p⟩ | ⟨n, p⟩
    · exact q ρ' p
    · cases s with
      | nx ρ' => exact absurd rfl (n ρ')
      | _ => exact Tr.is Is.pure p
/-- a statement that always goes on -/
theorem Tr.seqN {k l : Nat} {f g : SF} {ρ : Env} {P : Env → Prop} {Q : SO → Prop} (h : Tr k (f ρ) fun s => ∃ ρ', s = .nx ρ' ∧ P ρ') (q : ∀ ρ', P ρ' → Tr l (g ρ') Q) : Tr (k + l) (sSeq f g ρ) Q :=
  Tr.seq (h.imp (Nat.le_refl _) fun s hs => .inl hs) q
theorem Tr.fn {k n : Nat} {fb : SF} {ds : List Val} {Q : Val → Prop} (h : Tr k (fb (env0 n ds)) fun s => ∃ v, s = .rt v ∧ Q v) : Tr k (fnR n fb ds) Q := fun o ok => by
  obtain ⟨s, o', h1, h2, h3, v, rfl, h4⟩ := h o ok
  exact ⟨v, o', by unfold fnR; rw [h1], h2, h3, h4⟩
theorem Tr.lc {k : Nat} {vs : List Nat} {fi : Env → R (List Val)} {g : Val → Env → Option Env} {fe : Env → R Val} {xs : List Val} {ρ : Env} {P : Val → Prop} (hf : Is (fi ρ) xs) (hl : xs.length ≤ LIM)
    (hs : ∀ x ∈ xs, ∃ ρ', g x (wipeE ρ vs) = some ρ' ∧ Tr k (fe ρ') P) : Tr (xs.length * k) (cLc vs fi g (fun _ => Pure.pure true) fe ρ) (fun v => ∃ ys, v = .list ys ∧ ys.length = xs.length ∧ ∀ y ∈ ys, P y) := by
  have go : ∀ ys : List Val, (∀ x ∈ ys, ∃ ρ', g x (wipeE ρ vs) = some ρ' ∧ Tr k (fe ρ') P) → Tr (ys.length * k) (lcGo g (fun _ => Pure.pure true) fe (wipeE ρ vs) ys) (fun zs => zs.length = ys.length ∧ ∀ y ∈ zs, P y) := by
    intro ys
    induction ys with
    | nil => intro _; exact Tr.is Is.pure ⟨rfl, fun y hy => by cases hy⟩
    | cons y ys ih =>
      intro hy
      obtain ⟨ρ', h1, h2⟩ := hy y List.mem_cons_self
      have rest := ih fun x hx => hy x (List.mem_cons_of_mem _ hx)
      unfold lcGo lcStep
      simp only [h1]
      refine Tr.imp (k := k + (ys.length * k + 0)) (Tr.bind (P := fun zs => ∃ z, zs = [z] ∧ P z) (Tr.isb (v := true) (Is.nx Is.pure) ?_) fun zs ⟨z, hz, pz⟩ => Tr.bind rest fun ws hw => Tr.is (k := 0) Is.pure ?_) (by rw [List.length_cons, Nat.succ_mul]; omega) (fun _ h => h)
      · rw [if_pos rfl]
        exact Tr.bind (l := 0) (Tr.nx h2) fun z pz => Tr.is Is.pure ⟨z, rfl, pz⟩
      · subst hz
        refine ⟨by simp [hw.1], fun q hq => ?_⟩
        rcases List.mem_cons.mp hq with rfl | hq
        · exact pz
        · exact hw.2 q hq
  unfold cLc
  refine Tr.isb hf ?_
  rw [if_pos hl]
  exact Tr.bind (l := 0) (go xs hs) fun ys hy => Tr.is Is.pure ⟨ys, rfl, hy.1, hy.2⟩
end BB
end

section
set_option Elab.async false
set_option linter.all false
set_option maxRecDepth 100000
set_option maxHeartbeats 4000000
/-! an own error's text, looked up in the written part -/
namespace OwnE
open PySem PySem.Spec PySem.W PySem.Calls PyProof.Rows PySem.HandSPX
def bodyB (f : Str) (t : Tx) : FuncBody → Bool
  | .stmts [.Expr (.Call (.Attribute (.Call (.Name n1 p1) [] [] p2) n2 p3) [.Constant (.str m) k p4] [] p5) p6, .Assign [.Attribute (.Name n3 q1) n4 q2] (.Name n5 q3) q4] =>
    decide (n1 = "super") && (decide (n2 = "__init__") && (decide (m = t.m) && (decide (k = t.k) && (decide (n3 = "self") && (decide (n4 = f) && (decide (n5 = f) &&
      (decide (p1 = t.p1) && (decide (p2 = t.p2) && (decide (p3 = t.p3) && (decide (p4 = t.p4) && (decide (p5 = t.p5) && (decide (p6 = t.p6) && (decide (q1 = t.q1) && (decide (q2 = t.q2) && (decide (q3 = t.q3) && decide (q4 = t.q4))))))))))))))))
  | _ => false
theorem bodyB_ok {f : Str} {t : Tx} {b : FuncBody} (h : bodyB f t b = true) : b = .stmts (iB f t) := by
  unfold bodyB at h
  split at h
  · simp only [Bool.and_eq_true, decide_eq_true_eq] at h
    obtain ⟨h1, h2, h3, h4, h5, h6, h7, g1, g2, g3, g4, g5, g6, k1, k2, k3, k4⟩ := h
    subst h1 h2 h3 h4 h5 h6 g1 g2 g3 g4 g5 g6 k1 k2 k3 k4
    rw [h7]
    rfl
  · cases h
def argsB (f : Str) (t : Tx) : Arguments → Bool
  | ⟨[], [⟨a1, none, p1⟩, ⟨a2, none, p2⟩], none, [], [], none, []⟩ => decide (a1 = "self") && (decide (a2 = f) && (decide (p1 = t.a1) && decide (p2 = t.a2)))
  | _ => false
theorem argsB_ok {f : Str} {t : Tx} {a : Arguments} (h : argsB f t a = true) : a = iA f t := by
  unfold argsB at h
  split at h
  · simp only [Bool.and_eq_true, decide_eq_true_eq] at h
    obtain ⟨h1, h2, h3, h4⟩ := h
    subst h1 h2 h3 h4
    rfl
  · cases h
def isNone : Value → Bool
  | .none => true
  | _ => false
theorem isNone_ok {v : Value} (h : isNone v = true) : v = .none := by cases v <;> first | rfl | cases h
/-- the def __init__ -/
def fnB (f : Str) (t : Tx) (K : Frag) : Option Obj → Option (Addr × Addr)
  | some ⟨_, _, .func fd, _⟩ => (match fd.closure, fd.code with
    | [(x, cc)], .ref cda => if (decide (x = "__class__") && (decide (fd.name = "__init__") && (argsB f t fd.params && (bodyB f t fd.body && (decide (fd.scope = iS f) && (decide (fd.globals = mainGlobals) && (decide (fd.builtins = builtinsNs) && (isNone fd.defaults && (isNone fd.kwdefaults && codeIn K (.ref cda) fd.qualname))))))))) = true then some (cc, cda) else none
    | _, _ => none)
  | _ => none
theorem fnB_ok {f : Str} {t : Tx} {K : Frag} {ob : Option Obj} {cc cda : Addr} (h : fnB f t K ob = some (cc, cda)) : ∃ (oc : Value) (od : Option Addr) (doc pm : Value) (an : Option Addr) (ct : Value) (osl : Array (Option Value)) (qual : Str),
    ob = some ⟨oc, od, .func (ksFn "__init__" qual (iA f t) (iB f t) (iS f) .none .none doc pm an (.ref cda) ct cc), osl⟩ ∧ codeIn K (.ref cda) qual = true := by
  unfold fnB at h
  split at h
  · rename_i oc od fd osl
    split at h
    · rename_i x cc' cda' hc hcd
      split at h
      · rename_i hb
        cases h
        simp only [Bool.and_eq_true, decide_eq_true_eq] at hb
        obtain ⟨h1, h2, h3, h4, h5, h6, h7, h8, h9, h10⟩ := hb
        obtain ⟨nm, qn, pa, bo, sc, gl, cl, df, kd, doc, pm, an, co, ct, bu⟩ := fd
        dsimp only at h2 h3 h4 h5 h6 h7 h8 h9 h10 hc hcd
        have e3 := argsB_ok h3
        have e4 := bodyB_ok h4
        have e8 := isNone_ok h8
        have e9 := isNone_ok h9
        subst h1 h2 h5 h6 h7 e3 e4 e8 e9 hc hcd
        exact ⟨oc, od, doc, pm, an, ct, osl, qn, rfl, h10⟩
      · cases h
    · cases h
  · cases h
/-- the class -/
def clsB (C : Addr) : Option Obj → Bool
  | some ⟨.type c, _, .cls cd, ⟨[_, _, _, _, some (.builtin n), _]⟩⟩ => decide (c = "type") && (cd.hasDict && (!cd.hasDel && (decide (n = "ValueError.__new__") && (match cd.mro with
    | .ref a :: bm => decide (a = C) && refsVE bm
    | _ => false))))
  | _ => false
theorem clsB_ok {C : Addr} {ob : Option Obj} (h : clsB C ob = true) : ∃ nm q N bs bm sn sub ab col dd k0 k1 k2 k3 k5, ob = some (excClassObj nm q C N bs bm true sn sub ab col dd k0 k1 k2 k3 k5 "ValueError.__new__") ∧ refsVE bm = true := by
  unfold clsB at h
  split at h
  · rename_i c dd cd k0 k1 k2 k3 n k5
    simp only [Bool.and_eq_true, decide_eq_true_eq, Bool.not_eq_true'] at h
    obtain ⟨h1, h2, h3, h4, h5⟩ := h
    obtain ⟨nm, bs, mro, ns, qn, hd, sn, sub, ab, col, del⟩ := cd
    dsimp only at h2 h3 h5
    split at h5
    · rename_i a bm
      simp only [Bool.and_eq_true, decide_eq_true_eq] at h5
      obtain ⟨h6, h7⟩ := h5
      subst h1 h2 h3 h4 h6
      exact ⟨nm, qn, ns, bs, bm, sn, sub, ab, col, dd, k0, k1, k2, k3, k5, rfl, h7⟩
    · cases h5
  · cases h
def cellB (C : Addr) : Option Obj → Bool
  | some ⟨_, _, .cell (some (.ref a)), _⟩ => decide (a = C)
  | _ => false
theorem cellB_ok {C : Addr} {ob : Option Obj} (h : cellB C ob = true) : ∃ cl cld csl, ob = some ⟨cl, cld, .cell (some (.ref C)), csl⟩ := by
  unfold cellB at h
  split at h
  · have := of_decide_eq_true h
    subst this
    exact ⟨_, _, _, rfl⟩
  · cases h
def codB (file : Str) : Option Obj → Bool
  | some ⟨_, _, .fields vs, _⟩ => (match (vs[2]? : Option Value) with
    | some (Value.str x _) => decide (x = file)
    | _ => false)
  | _ => false
theorem codB_ok {file : Str} {ob : Option Obj} (h : codB file ob = true) : ∃ ccl cdd vs ccs tf, ob = some ⟨ccl, cdd, .fields vs, ccs⟩ ∧ vs[2]? = some (.str file tf) := by
  unfold codB at h
  split at h
  · split at h
    · rename_i hv
      have := of_decide_eq_true h
      subst this
      exact ⟨_, _, _, _, _, rfl, hv⟩
    · cases h
  · cases h
/-- all that an own error with a field is asked -/
def ownB (file n f : Str) (t : Tx) (K : Frag) : Bool :=
  let C := He.ga K n
  let fI := He.ma K C "__init__"
  He.eqO (nsIn K mainGlobals n) (some (some (.ref C))) && (clsB C (K.lookup C) && (He.eqO (findIn K (.ref C) "__setattr__") (some (some (.builtin "object.__setattr__"))) &&
    (He.eqO (findIn K (.ref C) "__getattribute__") (some (some (.builtin "BaseException.__getattribute__"))) && (He.eqO (findIn K (.ref C) "__getattr__") (some none) && (He.eqO (findIn K (.ref C) f) (some none) &&
    (He.eqO (findIn K (.ref C) "__init__") (some (some (.ref fI))) && (decide (typeIn K (.ref fI) = some (.type "function")) && (keepIn K (.ref C) && (decide (subIn K (.ref C) (.type "BaseException") = some true) &&
    (decide (subIn K (.ref C) (.type "ValueError") = some true) && (decide (mroIn K C (.ref C) = some true) && (decide (typeIn K (.ref C) = some (.type "type")) && (hasDictIn K C &&
    (He.eqO (ks_superIn K C C "__init__") (some (some (.builtin "ValueError.__init__"))) && (He.eqO (nsIn K cStatics "thirdparty.any") (some none) && (match fnB f t K (K.lookup fI) with
      | some (cc, cda) => cellB C (K.lookup cc) && codB file (K.lookup cda)
      | none => false))))))))))))))))
theorem ownB_ok {P : Program} {mg : Str → Option Value} {file n f : Str} {t : Tx} {K : Frag} {h : Heap} (hb : ownB file n f t K = true) (X : K.In h) (G : h.Ns mainGlobals mg) (hf : ((P.main.file : Str) == file) = true) (top : (P.main.scope.names.lookup ("super" : Str)).isSome = false) (ns : mg "super" = none) :
    ∃ cc cda, Txt P K mg n f t (He.ga K n) (He.ma K (He.ga K n) "__init__") cc cda := by
  unfold ownB at hb
  simp only [Bool.and_eq_true, decide_eq_true_eq] at hb
  obtain ⟨h1, h2, h3, h4, h5, h6, h7, h8, h9, h10, h11, h12, h13, h14, h15, h16, h17⟩ := hb
  split at h17
  · rename_i cc cda hfn
    simp only [Bool.and_eq_true] at h17
    obtain ⟨h18, h19⟩ := h17
    obtain ⟨ccl, cdd, vs, ccs, tf, c1, c2⟩ := codB_ok h19
    refine ⟨cc, cda, ⟨mg_of X G (He.eqO_ok h1), clsB_ok h2, He.eqO_ok h3, He.eqO_ok h4, He.eqO_ok h5, He.eqO_ok h6, He.eqO_ok h7, h8, h9, h10, h11, h12, h13, h14, He.eqO_ok h15, He.eqO_ok h16, fnB_ok hfn, cellB_ok h18, ⟨ccl, cdd, vs, ccs, file, tf, c1, c2, hf⟩, top, ns⟩⟩
  · cases h17
end OwnE
end

section
set_option Elab.async false
set_option linter.all false
set_option maxRecDepth 100000
set_option maxHeartbeats 4000000
namespace K21
open PySem PySem.Spec PyProof.Rows L2 BB
structure CD where
  aD : Addr
  aW : Addr
  tM : Tok
  B : Addr
  C : Addr
  fI : Addr
  cc : Addr
  cda : Addr
def top (i : Nat) : Stmt := PySem.Challenge.pw_bodybars_k21_whole_axes_and_pitches.main.body.getD i (.Pass ⟨0, 0, 0, 0⟩)
def tx_BadRow : OwnE.Tx := ⟨"not a row of integers", 0, ⟨11, 17, 11, 21⟩, ⟨11, 23, 11, 28⟩, ⟨12, 8, 12, 13⟩, ⟨12, 8, 12, 15⟩, ⟨12, 8, 12, 24⟩, ⟨12, 25, 12, 48⟩, ⟨12, 8, 12, 49⟩, ⟨12, 8, 12, 49⟩, ⟨13, 8, 13, 12⟩, ⟨13, 8, 13, 18⟩, ⟨13, 21, 13, 26⟩, ⟨13, 8, 13, 26⟩⟩
theorem fok_BadRow : OwnE.FOk "index" tx_BadRow := ⟨fun _ _ _ _ _ _ _ _ _ => by with_unfolding_all rfl, fun _ => ⟨_, rfl⟩, rfl, rfl, rfl, rfl, fun _ _ => rfl, fun _ _ => rfl, rfl, by decide +kernel⟩
structure CG (P : Program) (K : PySem.W.Frag) (mg : Str → Option Value) (x : CD) : Prop where
  mp : mg "MOST_PLACE" = some (.int 1000000000 x.tM)
  dm : mg "DIMENSIONS" = some (.ref x.aD)
  dt : intT K x.aD [1, 3, 6] = true
  wm : mg "WIDE" = some (.ref x.aW)
  wd : intD K x.aW [(3, 2), (6, 3)] = true
  br : OwnE.Txt P K mg "BadRow" "index" tx_BadRow x.C x.fI x.cc x.cda
  be : mg "BodyError" = some (.ref x.B)
  xf : ∀ c ∈ [x.C], XfC K c ∧ PySem.W.findIn K (.ref c) "index" = some none
  isx : ∀ c b, [(x.C, true)].lookup c = some b → ExcC K c ∧ PySem.W.kitOne K (.ref c) (.ref x.B) = some b
  exm : PySem.W.exmOne K (.ref x.C) (.ref x.C) = some true
def mixI (cell n : Int) : Int := Int.fdiv (Int.fmod ((Int.fmod ((cell * (1 + 2 * n)) * 48271) 2147483647 + 7919 * n * n + 104729 * n) * 69621) 2147483629) 7
def cellsF (o : Om) (lim : Int) : Int := Int.fmod (mixI (mixI ((o.cells.getD (o.spot % 64) 0) + 31 * Int.fdiv o.spot 64) o.spot) (o.spot + 7)) lim
def hereF (o : Om) : Nat := o.spot % o.great.length
def drawF (o : Om) (lim : Int) : Int × Om :=
  if o.great ≠ [] ∧ 0 < o.great.getD (hereF o) 0 then (Int.fmod (o.great.getD (hereF o) 0) lim, { o with spot := o.spot + 1, great := o.great.set (hereF o) (Int.fdiv (o.great.getD (hereF o) 0) lim) })
  else (cellsF o lim, { o with spot := o.spot + 1 })
def OkO (o : Om) : Prop := o.cells.length = 64 ∧ (∀ c ∈ o.cells, c.natAbs < 2 ^ 31) ∧ o.spot ≤ 1000000
instance (o : Om) : Decidable (OkO o) := by unfold OkO; infer_instance
def F__law_draw : List Val → R Val
  | [.dict [(.none, .none)], .int lim] => fun o => if 0 < lim ∧ lim ≤ 1000000000000000000000 ∧ OkO o then .ok (.int (drawF o lim).1) (drawF o lim).2 else .stk
  | _ => R.stk
section
variable {P : Program} {w : World} {K : PySem.W.Frag} {mg : Str → Option Value} {base : Heap}
def f_is_whole : SF := sRet (cAnd (c1 (oIsi "int") (cV 0)) (cNot (c1 (oIsi "bool") (cV 0))))
def F_is_whole : List Val → R Val := fnR 1 f_is_whole
theorem sc_is_whole : FnScope ["value"] ["value"] (defScope (top 8)) := ⟨rfl, rfl, rfl, by decide +kernel, rfl, by decide +kernel, by decide +kernel⟩
theorem h_is_whole {f : Addr} {fd : FuncData} (G : MG mg) {x : CD} (C : CG P K mg x)  (D : FunD K "is_whole" "is_whole" (defArgs (top 8)) (defBody (top 8)) (defScope (top 8)) [] [] f fd) (hmg : mg "is_whole" = some (.ref f)) : Has P w K mg base 1 "is_whole" 1 F_is_whole :=
  has_of (N := ["value"]) (ps := ["value"]) D sc_is_whole rfl hmg (D.bindsN fun _ _ _ _ _ _ us hl => match us, hl with | [_], _ => rfl) fun cv A out s H E hr hg =>
    have hN := sc_is_whole.nd
    vss_one (vs_ret (ve_and (ve_isi ty_int (by rfl) G.isi (pe_tyn (by rfl) G.int boot_int') ((ve_v 0).vl)) (ve_b1 (ve_not ((ve_isi ty_bool (by rfl) G.isi (pe_tyn (by rfl) G.bool boot_bool') ((ve_v 0).vl)).vl)))))
def f_is_row : SF := sRet (cAnd (c1 (oIsi "tuple") (cV 0)) (c2 (oEq false) (cA (on1 oLen) (cCons (cV 0) (cNil))) (cV 1)))
def F_is_row : List Val → R Val := fnR 2 f_is_row
theorem sc_is_row : FnScope ["value", "many"] ["value", "many"] (defScope (top 10)) := ⟨rfl, rfl, rfl, by decide +kernel, rfl, by decide +kernel, by decide +kernel⟩
theorem h_is_row {f : Addr} {fd : FuncData} (G : MG mg) {x : CD} (C : CG P K mg x)  (D : FunD K "is_row" "is_row" (defArgs (top 10)) (defBody (top 10)) (defScope (top 10)) [] [] f fd) (hmg : mg "is_row" = some (.ref f)) : Has P w K mg base 1 "is_row" 2 F_is_row :=
  has_of (N := ["value", "many"]) (ps := ["value", "many"]) D sc_is_row rfl hmg (D.bindsN fun _ _ _ _ _ _ us hl => match us, hl with | [_, _], _ => rfl) fun cv A out s H E hr hg =>
    have hN := sc_is_row.nd
    vss_one (vs_ret (ve_and (ve_isi ty_tuple (by rfl) G.isi (pe_tyn (by rfl) G.tuple boot_tuple') ((ve_v 0).vl)) (ve_b1 (ve_eq (un64 hr) ((ve_len (by rfl) G.len (val_cons ((ve_v 0).vl) (val_nil))).vl) ((ve_v 1).vl)))))
def f_product_of : SF := sRet (cA (on1 oSum) (cCons (cLc [2, 3] (cAI iZipV (cCons (cV 0) (cCons (cV 1) (cNil)))) (gTp (gCn (gN 2) (gCn (gN 3) (gNl)))) (fun _ => pure true) (c2 oMul (cV 2) (cV 3))) (cNil)))
def F_product_of : List Val → R Val := fnR 4 f_product_of
theorem sc_product_of : FnScope ["row", "other", "one", "two"] ["row", "other"] (defScope (top 23)) := ⟨rfl, rfl, rfl, by decide +kernel, rfl, by decide +kernel, by decide +kernel⟩
theorem h_product_of {f : Addr} {fd : FuncData} (G : MG mg) {x : CD} (C : CG P K mg x)  (D : FunD K "product_of" "product_of" (defArgs (top 23)) (defBody (top 23)) (defScope (top 23)) [] [] f fd) (hmg : mg "product_of" = some (.ref f)) : Has P w K mg base 1 "product_of" 2 F_product_of :=
  has_of (N := ["row", "other", "one", "two"]) (ps := ["row", "other"]) D sc_product_of rfl hmg (D.bindsN fun _ _ _ _ _ _ us hl => match us, hl with | [_, _], _ => rfl) fun cv A out s H E hr hg =>
    have hN := sc_product_of.nd
    vss_one (vs_ret (ve_sum (by rfl) (by rfl) G.sum (val_cons (((vf_lc (own := [("one", 2), ("two", 3)]) (by rfl) hN (vi_zip (by rfl) G.zip (va_cons (ve_v 0) (va_cons (ve_v 1) (va_nil)))) (show BlkOk ["row", "other", "one", "two"] (defScope (top 23)) _ [("one", 2), ("two", 3)] from ⟨rfl, by decide +kernel, by decide +kernel, by decide +kernel, by decide +kernel⟩) (by decide) (fun _ _ _ _ _ => vg_tup (by rfl) (vgs_cons (vg_v 2 hN) (vgs_cons (vg_v 3 hN) (vgs_nil)))) (fun _ _ _ _ _ => ve_mul ((ve_v 2).vl) ((ve_v 3).vl))).ve).vl) (val_nil))))
def f_cross : SF := sSeq (sTgt (gTp (gCn (gTp (gCn (gN 2) (gCn (gN 3) (gCn (gN 4) (gNl))))) (gCn (gTp (gCn (gN 5) (gCn (gN 6) (gCn (gN 7) (gNl))))) (gNl)))) (cA oTup (cCons (cV 0) (cCons (cV 1) (cNil))))) (sRet (cA oTup (cCons (c2 oSub (c2 oMul (cV 3) (cV 7)) (c2 oMul (cV 4) (cV 6))) (cCons (c2 oSub (c2 oMul (cV 4) (cV 5)) (c2 oMul (cV 2) (cV 7))) (cCons (c2 oSub (c2 oMul (cV 2) (cV 6)) (c2 oMul (cV 3) (cV 5))) (cNil))))))
def F_cross : List Val → R Val := fnR 8 f_cross
theorem sc_cross : FnScope ["one", "other", "x", "y", "z", "u", "v", "w"] ["one", "other"] (defScope (top 28)) := ⟨rfl, rfl, rfl, by decide +kernel, rfl, by decide +kernel, by decide +kernel⟩
theorem h_cross {f : Addr} {fd : FuncData} (G : MG mg) {x : CD} (C : CG P K mg x)  (D : FunD K "cross" "cross" (defArgs (top 28)) (defBody (top 28)) (defScope (top 28)) [] [] f fd) (hmg : mg "cross" = some (.ref f)) : Has P w K mg base 1 "cross" 2 F_cross :=
  has_of (N := ["one", "other", "x", "y", "z", "u", "v", "w"]) (ps := ["one", "other"]) D sc_cross rfl hmg (D.bindsN fun _ _ _ _ _ _ us hl => match us, hl with | [_, _], _ => rfl) fun cv A out s H E hr hg =>
    have hN := sc_cross.nd
    vss_cons (vs_tgt (ve_tup (va_cons (ve_v 0) (va_cons (ve_v 1) (va_nil)))) (vg_tup (by rfl) (vgs_cons (vg_tup (by rfl) (vgs_cons (vg_v 2 hN) (vgs_cons (vg_v 3 hN) (vgs_cons (vg_v 4 hN) (vgs_nil))))) (vgs_cons (vg_tup (by rfl) (vgs_cons (vg_v 5 hN) (vgs_cons (vg_v 6 hN) (vgs_cons (vg_v 7 hN) (vgs_nil))))) (vgs_nil))))) (vss_one (vs_ret (ve_tup (va_cons (ve_sub ((ve_mul ((ve_v 3).vl) ((ve_v 7).vl)).vl) ((ve_mul ((ve_v 4).vl) ((ve_v 6).vl)).vl)) (va_cons (ve_sub ((ve_mul ((ve_v 4).vl) ((ve_v 5).vl)).vl) ((ve_mul ((ve_v 2).vl) ((ve_v 7).vl)).vl)) (va_cons (ve_sub ((ve_mul ((ve_v 2).vl) ((ve_v 6).vl)).vl) ((ve_mul ((ve_v 3).vl) ((ve_v 5).vl)).vl)) (va_nil)))))))
def f_lowest_terms : SF := sSeq (sSet 2 (cV 0)) (sSeq (sFor (iSeq (cV 1)) (gN 3) (sSet 2 (cA (on2 oGcd) (cCons (cV 2) (cCons (cV 3) (cNil)))))) (sSeq (sSet 2 (cIf (cT (c2 (oCmp fun i j => decide (j < i)) (cV 0) (cK (.int 0)))) (cA (on1 oAbs) (cCons (cV 2) (cNil))) (c1 oNeg (cA (on1 oAbs) (cCons (cV 2) (cNil)))))) (sRet (cA oTup (cCons (c2 (oI gDiv Int.fdiv) (cV 0) (cV 2)) (cCons (cA (on1 oTuple) (cCons (cLc [3] (iSeq (cV 1)) (gN 3) (fun _ => pure true) (c2 (oI gDiv Int.fdiv) (cV 3) (cV 2))) (cNil))) (cNil)))))))
def F_lowest_terms : List Val → R Val := fnR 4 f_lowest_terms
theorem sc_lowest_terms : FnScope ["count", "numbers", "share", "number"] ["count", "numbers"] (defScope (top 29)) := ⟨rfl, rfl, rfl, by decide +kernel, rfl, by decide +kernel, by decide +kernel⟩
theorem h_lowest_terms {f : Addr} {fd : FuncData} (G : MG mg) {x : CD} (C : CG P K mg x)  (D : FunD K "lowest_terms" "lowest_terms" (defArgs (top 29)) (defBody (top 29)) (defScope (top 29)) [] [] f fd) (hmg : mg "lowest_terms" = some (.ref f)) : Has P w K mg base 1 "lowest_terms" 2 F_lowest_terms :=
  has_of (N := ["count", "numbers", "share", "number"]) (ps := ["count", "numbers"]) D sc_lowest_terms rfl hmg (D.bindsN fun _ _ _ _ _ _ us hl => match us, hl with | [_, _], _ => rfl) fun cv A out s H E hr hg =>
    have hN := sc_lowest_terms.nd
    vss_cons (vs_st 2 hN (ve_v 0)) (vss_cons (vs_for passes_cx (by rfl) (vi_seq (ve_v 1)) (vg_v 3 hN) (vss_one (vs_st 2 hN (ve_gcd (by rfl) G.gcd (val_cons ((ve_v 2).vl) (val_cons ((ve_v 3).vl) (val_nil))))))) (vss_cons (vs_st 2 hN (ve_if (vt_cmp (ve_gt ((ve_v 0).vl) ((ve_int).vl))) (ve_abs (by rfl) G.abs (val_cons ((ve_v 2).vl) (val_nil))) (ve_neg ((ve_abs (by rfl) G.abs (val_cons ((ve_v 2).vl) (val_nil))).vl)))) (vss_one (vs_ret (ve_tup (va_cons (ve_fdiv ((ve_v 0).vl) ((ve_v 2).vl)) (va_cons (ve_tuple (by rfl) G.tuple (val_cons (((vf_lc (own := [("number", 3)]) (by rfl) hN (vi_seq (ve_v 1)) (show BlkOk ["count", "numbers", "share", "number"] (defScope (top 29)) _ [("number", 3)] from ⟨rfl, by decide +kernel, by decide +kernel, by decide +kernel, by decide +kernel⟩) (by decide) (fun _ _ _ _ _ => vg_v 3 hN) (fun _ _ _ _ _ => ve_fdiv ((ve_v 3).vl) ((ve_v 2).vl))).ve).vl) (val_nil))) (va_nil))))))))
def f__law_mixed : SF := sSeq (sSet 2 (c2 oAdd (c2 oAdd (c2 (oI gMod Int.fmod) (cA (on1 oInt) (cCons (c2 oMul (c2 oMul (cV 0) (c2 oAdd (cK (.int 1)) (c2 oMul (cK (.int 2)) (cV 1)))) (cK (.int 48271))) (cNil))) (cK (.int 2147483647))) (c2 oMul (c2 oMul (cK (.int 7919)) (cV 1)) (cV 1))) (c2 oMul (cK (.int 104729)) (cV 1)))) (sRet (c2 (oI gDiv Int.fdiv) (c2 (oI gMod Int.fmod) (cA (on1 oInt) (cCons (c2 oMul (cV 2) (cK (.int 69621))) (cNil))) (cK (.int 2147483629))) (cK (.int 7))))
def F__law_mixed : List Val → R Val := fnR 3 f__law_mixed
theorem sc__law_mixed : FnScope ["cell", "n", "blend"] ["cell", "n"] (defScope (top 35)) := ⟨rfl, rfl, rfl, by decide +kernel, rfl, by decide +kernel, by decide +kernel⟩
theorem h__law_mixed {f : Addr} {fd : FuncData} (G : MG mg) {x : CD} (C : CG P K mg x)  (D : FunD K "_law_mixed" "_law_mixed" (defArgs (top 35)) (defBody (top 35)) (defScope (top 35)) [] [] f fd) (hmg : mg "_law_mixed" = some (.ref f)) : Has P w K mg base 1 "_law_mixed" 2 F__law_mixed :=
  has_of (N := ["cell", "n", "blend"]) (ps := ["cell", "n"]) D sc__law_mixed rfl hmg (D.bindsN fun _ _ _ _ _ _ us hl => match us, hl with | [_, _], _ => rfl) fun cv A out s H E hr hg =>
    have hN := sc__law_mixed.nd
    vss_cons (vs_st 2 hN (ve_add ((ve_add ((ve_mod ((ve_intOf (by rfl) G.int (val_cons ((ve_mul ((ve_mul ((ve_v 0).vl) ((ve_add ((ve_int).vl) ((ve_mul ((ve_int).vl) ((ve_v 1).vl)).vl)).vl)).vl) ((ve_int).vl)).vl) (val_nil))).vl) ((ve_int).vl)).vl) ((ve_mul ((ve_mul ((ve_int).vl) ((ve_v 1).vl)).vl) ((ve_v 1).vl)).vl)).vl) ((ve_mul ((ve_int).vl) ((ve_v 1).vl)).vl))) (vss_one (vs_ret (ve_fdiv ((ve_mod ((ve_intOf (by rfl) G.int (val_cons ((ve_mul ((ve_v 2).vl) ((ve_int).vl)).vl) (val_nil))).vl) ((ve_int).vl)).vl) ((ve_int).vl))))
def f__law_folded : SF := sSeq (sOwn 1 (cLc [2] (cAI iRange1 (cCons (cK (.int 64)) (cNil))) (gN 2) (fun _ => pure true) (c2 oAdd (cK (.int 17)) (cV 2)))) (sSeq (sFor (cAI iEnumV (cCons (cV 0) (cNil))) (gTp (gCn (gN 2) (gCn (gN 3) (gNl)))) (sSetIx 1 (c2 (oI gMod Int.fmod) (cA (on1 oInt) (cCons (cV 2) (cNil))) (cK (.int 64))) (c2 (oI gMod Int.fmod) (cA (on1 oInt) (cCons (c2 oAdd (c2 oMul (c2 oIx (cL 1) (c2 (oI gMod Int.fmod) (cA (on1 oInt) (cCons (cV 2) (cNil))) (cK (.int 64)))) (cK (.int 48271))) (cV 3)) (cNil))) (cK (.int 2147483647))))) (sSeq (sFor (cAI iRange2 (cCons (cK (.int 1)) (cCons (cK (.int 64)) (cNil)))) (gN 2) (sSetIx 1 (cV 2) (c2 (oI gMod Int.fmod) (cA (on1 oInt) (cCons (c2 oAdd (c2 oIx (cL 1) (cV 2)) (c2 oMul (c2 oIx (cL 1) (c2 oSub (cV 2) (cK (.int 1)))) (cK (.int 16807)))) (cNil))) (cK (.int 2147483647))))) (sRetO 1)))
def F__law_folded : List Val → R Val := fnR 4 f__law_folded
theorem sc__law_folded : FnScope ["script", "found", "n", "cell"] ["script"] (defScope (top 36)) := ⟨rfl, rfl, rfl, by decide +kernel, rfl, by decide +kernel, by decide +kernel⟩
theorem h__law_folded {f : Addr} {fd : FuncData} (G : MG mg) {x : CD} (C : CG P K mg x)  (D : FunD K "_law_folded" "_law_folded" (defArgs (top 36)) (defBody (top 36)) (defScope (top 36)) [] [] f fd) (hmg : mg "_law_folded" = some (.ref f)) : Has P w K mg base 1 "_law_folded" 1 F__law_folded :=
  has_of (N := ["script", "found", "n", "cell"]) (ps := ["script"]) D sc__law_folded rfl hmg (D.bindsN fun _ _ _ _ _ _ us hl => match us, hl with | [_], _ => rfl) fun cv A out s H E hr hg =>
    have hN := sc__law_folded.nd
    vss_cons (vs_lco 1 (own := [("n", 2)]) (by rfl) hN (vi_range1 (by rfl) G.range (val_cons ((ve_int).vl) (val_nil))) (show BlkOk ["script", "found", "n", "cell"] (defScope (top 36)) _ [("n", 2)] from ⟨rfl, by decide +kernel, by decide +kernel, by decide +kernel, by decide +kernel⟩) (by decide) (fun _ _ _ _ _ => vg_v 2 hN) (fun _ _ _ _ _ => ve_add ((ve_int).vl) ((ve_v 2).vl))) (vss_cons (vs_for passes_cx (by rfl) (vi_enum (by rfl) G.enum (va_cons (ve_v 0) (va_nil))) (vg_tup (by rfl) (vgs_cons (vg_v 2 hN) (vgs_cons (vg_v 3 hN) (vgs_nil)))) (vss_one (vs_setix pvv (ve_mod ((ve_intOf (by rfl) G.int (val_cons ((ve_v 2).vl) (val_nil))).vl) ((ve_int).vl)) (ve_mod ((ve_intOf (by rfl) G.int (val_cons ((ve_add ((ve_mul ((ve_ix (vl_v 1) ((ve_mod ((ve_intOf (by rfl) G.int (val_cons ((ve_v 2).vl) (val_nil))).vl) ((ve_int).vl)).vl) (by intro _ _; rfl)).vl) ((ve_int).vl)).vl) ((ve_v 3).vl)).vl) (val_nil))).vl) ((ve_int).vl))))) (vss_cons (vs_for passes_cx (by rfl) (vi_range2 (by rfl) G.range (val_cons ((ve_int).vl) (val_cons ((ve_int).vl) (val_nil)))) (vg_v 2 hN) (vss_one (vs_setix pvv (ve_v 2) (ve_mod ((ve_intOf (by rfl) G.int (val_cons ((ve_add ((ve_ix (vl_v 1) ((ve_v 2).vl) (by intro _ _; rfl)).vl) ((ve_mul ((ve_ix (vl_v 1) ((ve_sub ((ve_v 2).vl) ((ve_int).vl)).vl) (by intro _ _; rfl)).vl) ((ve_int).vl)).vl)).vl) (val_nil))).vl) ((ve_int).vl))))) (vss_one (vs_retO pvv))))
def f__law_like : SF := sRet (c2 (oEq false) (cA (on1 oRepr) (cCons (cV 0) (cNil))) (cA (on1 oRepr) (cCons (cV 1) (cNil))))
def F__law_like : List Val → R Val := fnR 2 f__law_like
theorem sc__law_like : FnScope ["got", "due"] ["got", "due"] (defScope (top 39)) := ⟨rfl, rfl, rfl, by decide +kernel, rfl, by decide +kernel, by decide +kernel⟩
theorem h__law_like {f : Addr} {fd : FuncData} (G : MG mg) {x : CD} (C : CG P K mg x)  (D : FunD K "_law_like" "_law_like" (defArgs (top 39)) (defBody (top 39)) (defScope (top 39)) [] [] f fd) (hmg : mg "_law_like" = some (.ref f)) : Has P w K mg base 1 "_law_like" 2 F__law_like :=
  has_of (N := ["got", "due"]) (ps := ["got", "due"]) D sc__law_like rfl hmg (D.bindsN fun _ _ _ _ _ _ us hl => match us, hl with | [_, _], _ => rfl) fun cv A out s H E hr hg =>
    have hN := sc__law_like.nd
    vss_one (vs_ret (ve_eq (un64 hr) ((ve_repr (un64 hr) hg (by rfl) G.repr (val_cons ((ve_v 0).vl) (val_nil))).vl) ((ve_repr (un64 hr) hg (by rfl) G.repr (val_cons ((ve_v 1).vl) (val_nil))).vl)))
def f__law_four_gcd : SF := sSeq (sFor (cAI iRange1 (cCons (cK (.int 2000)) (cNil))) (gN 2) (sSeq (sIf (cT (c2 (oEq false) (cV 1) (cK (.int 0)))) (sBk) (sNil)) (sPar 0 1 (cCons (cV 1) (cCons (c2 (oI gMod Int.fmod) (cA (on1 oInt) (cCons (cV 0) (cNil))) (cV 1)) (cNil)))))) (sRet (cV 0))
def F__law_four_gcd : List Val → R Val := fnR 3 f__law_four_gcd
theorem sc__law_four_gcd : FnScope ["one", "other", "turn"] ["one", "other"] (defScope (top 42)) := ⟨rfl, rfl, rfl, by decide +kernel, rfl, by decide +kernel, by decide +kernel⟩
theorem h__law_four_gcd {f : Addr} {fd : FuncData} (G : MG mg) {x : CD} (C : CG P K mg x)  (D : FunD K "_law_four_gcd" "_law_four_gcd" (defArgs (top 42)) (defBody (top 42)) (defScope (top 42)) [] [] f fd) (hmg : mg "_law_four_gcd" = some (.ref f)) : Has P w K mg base 1 "_law_four_gcd" 2 F__law_four_gcd :=
  has_of (N := ["one", "other", "turn"]) (ps := ["one", "other"]) D sc__law_four_gcd rfl hmg (D.bindsN fun _ _ _ _ _ _ us hl => match us, hl with | [_, _], _ => rfl) fun cv A out s H E hr hg =>
    have hN := sc__law_four_gcd.nd
    vss_cons (vs_for passes_cx (by rfl) (vi_range1 (by rfl) G.range (val_cons ((ve_int).vl) (val_nil))) (vg_v 2 hN) (vss_cons (vs_if (vt_cmp (ve_eq (un64 hr) ((ve_v 1).vl) ((ve_int).vl))) (vss_one (vs_break)) (vss_nil)) (vss_one (vs_par (i := 0) (j := 1) (by rfl) hN (by rfl) (by rfl) (by decide) (by rfl) (by rfl) (va_cons (ve_v 1) (va_cons (ve_mod ((ve_intOf (by rfl) G.int (val_cons ((ve_v 0).vl) (val_nil))).vl) ((ve_v 1).vl)) (va_nil))) (by rfl))))) (vss_one (vs_ret (ve_v 0)))
def f__law_three_dot : SF := sRet (cA (on1 oSum) (cCons (cLc [2, 3] (iSeq (cA oLzV (cCons (cV 0) (cCons (cV 1) (cNil))))) (gTp (gCn (gN 2) (gCn (gN 3) (gNl)))) (fun _ => pure true) (c2 oMul (cV 2) (cV 3))) (cNil)))
def F__law_three_dot : List Val → R Val := fnR 4 f__law_three_dot
theorem sc__law_three_dot : FnScope ["one", "other", "first", "second"] ["one", "other"] (defScope (top 45)) := ⟨rfl, rfl, rfl, by decide +kernel, rfl, by decide +kernel, by decide +kernel⟩
theorem h__law_three_dot {f : Addr} {fd : FuncData} (G : MG mg) {x : CD} (C : CG P K mg x)  (D : FunD K "_law_three_dot" "_law_three_dot" (defArgs (top 45)) (defBody (top 45)) (defScope (top 45)) [] [] f fd) (hmg : mg "_law_three_dot" = some (.ref f)) : Has P w K mg base 1 "_law_three_dot" 2 F__law_three_dot :=
  has_of (N := ["one", "other", "first", "second"]) (ps := ["one", "other"]) D sc__law_three_dot rfl hmg (D.bindsN fun _ _ _ _ _ _ us hl => match us, hl with | [_, _], _ => rfl) fun cv A out s H E hr hg =>
    have hN := sc__law_three_dot.nd
    vss_one (vs_ret (ve_sum (by rfl) (by rfl) G.sum (val_cons (((vf_lc (own := [("first", 2), ("second", 3)]) (by rfl) hN (vi_seq (ve_lz (by rfl) (by rfl) G.list (by rfl) G.zip (va_cons (ve_v 0) (va_cons (ve_v 1) (va_nil))))) (show BlkOk ["one", "other", "first", "second"] (defScope (top 45)) _ [("first", 2), ("second", 3)] from ⟨rfl, by decide +kernel, by decide +kernel, by decide +kernel, by decide +kernel⟩) (by decide) (fun _ _ _ _ _ => vg_tup (by rfl) (vgs_cons (vg_v 2 hN) (vgs_cons (vg_v 3 hN) (vgs_nil)))) (fun _ _ _ _ _ => ve_mul ((ve_v 2).vl) ((ve_v 3).vl))).ve).vl) (val_nil))))
def f__law_three_cross : SF := sSeq (sOwn 2 (cA oLst (cNil))) (sSeq (sFor (cAI iRange1 (cCons (cK (.int 3)) (cNil))) (gN 3) (sApp 2 (c2 oSub (c2 oMul (c2 oIx (cV 0) (c2 (oI gMod Int.fmod) (c2 oAdd (cV 3) (cK (.int 1))) (cK (.int 3)))) (c2 oIx (cV 1) (c2 (oI gMod Int.fmod) (c2 oAdd (cV 3) (cK (.int 2))) (cK (.int 3))))) (c2 oMul (c2 oIx (cV 0) (c2 (oI gMod Int.fmod) (c2 oAdd (cV 3) (cK (.int 2))) (cK (.int 3)))) (c2 oIx (cV 1) (c2 (oI gMod Int.fmod) (c2 oAdd (cV 3) (cK (.int 1))) (cK (.int 3)))))))) (sRet (cA (on1 oTuple) (cCons (cL 2) (cNil)))))
def F__law_three_cross : List Val → R Val := fnR 4 f__law_three_cross
theorem sc__law_three_cross : FnScope ["one", "other", "found", "n"] ["one", "other"] (defScope (top 46)) := ⟨rfl, rfl, rfl, by decide +kernel, rfl, by decide +kernel, by decide +kernel⟩
theorem h__law_three_cross {f : Addr} {fd : FuncData} (G : MG mg) {x : CD} (C : CG P K mg x)  (D : FunD K "_law_three_cross" "_law_three_cross" (defArgs (top 46)) (defBody (top 46)) (defScope (top 46)) [] [] f fd) (hmg : mg "_law_three_cross" = some (.ref f)) : Has P w K mg base 1 "_law_three_cross" 2 F__law_three_cross :=
  has_of (N := ["one", "other", "found", "n"]) (ps := ["one", "other"]) D sc__law_three_cross rfl hmg (D.bindsN fun _ _ _ _ _ _ us hl => match us, hl with | [_, _], _ => rfl) fun cv A out s H E hr hg =>
    have hN := sc__law_three_cross.nd
    vss_cons (vs_ow 2 hN (vf_lst (va_nil))) (vss_cons (vs_for passes_cx (by rfl) (vi_range1 (by rfl) G.range (val_cons ((ve_int).vl) (val_nil))) (vg_v 3 hN) (vss_one (vs_app pvv (ve_sub ((ve_mul ((ve_ix ((ve_v 0).vl) ((ve_mod ((ve_add ((ve_v 3).vl) ((ve_int).vl)).vl) ((ve_int).vl)).vl) (by intro _ _; rfl)).vl) ((ve_ix ((ve_v 1).vl) ((ve_mod ((ve_add ((ve_v 3).vl) ((ve_int).vl)).vl) ((ve_int).vl)).vl) (by intro _ _; rfl)).vl)).vl) ((ve_mul ((ve_ix ((ve_v 0).vl) ((ve_mod ((ve_add ((ve_v 3).vl) ((ve_int).vl)).vl) ((ve_int).vl)).vl) (by intro _ _; rfl)).vl) ((ve_ix ((ve_v 1).vl) ((ve_mod ((ve_add ((ve_v 3).vl) ((ve_int).vl)).vl) ((ve_int).vl)).vl) (by intro _ _; rfl)).vl)).vl))))) (vss_one (vs_ret (ve_tuple (by rfl) G.tuple (val_cons (vl_v 2) (val_nil))))))
def f__law_three_plus : SF := sRet (cA (on1 oTuple) (cCons (cLc [3, 4] (iSeq (cA oLzV (cCons (cV 0) (cCons (cV 2) (cNil))))) (gTp (gCn (gN 3) (gCn (gN 4) (gNl)))) (fun _ => pure true) (c2 oAdd (cV 3) (c2 oMul (cV 1) (cV 4)))) (cNil)))
def F__law_three_plus : List Val → R Val := fnR 5 f__law_three_plus
theorem sc__law_three_plus : FnScope ["one", "times", "other", "first", "second"] ["one", "times", "other"] (defScope (top 47)) := ⟨rfl, rfl, rfl, by decide +kernel, rfl, by decide +kernel, by decide +kernel⟩
theorem h__law_three_plus {f : Addr} {fd : FuncData} (G : MG mg) {x : CD} (C : CG P K mg x)  (D : FunD K "_law_three_plus" "_law_three_plus" (defArgs (top 47)) (defBody (top 47)) (defScope (top 47)) [] [] f fd) (hmg : mg "_law_three_plus" = some (.ref f)) : Has P w K mg base 1 "_law_three_plus" 3 F__law_three_plus :=
  has_of (N := ["one", "times", "other", "first", "second"]) (ps := ["one", "times", "other"]) D sc__law_three_plus rfl hmg (D.bindsN fun _ _ _ _ _ _ us hl => match us, hl with | [_, _, _], _ => rfl) fun cv A out s H E hr hg =>
    have hN := sc__law_three_plus.nd
    vss_one (vs_ret (ve_tuple (by rfl) G.tuple (val_cons (((vf_lc (own := [("first", 3), ("second", 4)]) (by rfl) hN (vi_seq (ve_lz (by rfl) (by rfl) G.list (by rfl) G.zip (va_cons (ve_v 0) (va_cons (ve_v 2) (va_nil))))) (show BlkOk ["one", "times", "other", "first", "second"] (defScope (top 47)) _ [("first", 3), ("second", 4)] from ⟨rfl, by decide +kernel, by decide +kernel, by decide +kernel, by decide +kernel⟩) (by decide) (fun _ _ _ _ _ => vg_tup (by rfl) (vgs_cons (vg_v 3 hN) (vgs_cons (vg_v 4 hN) (vgs_nil)))) (fun _ _ _ _ _ => ve_add ((ve_v 3).vl) ((ve_mul ((ve_v 1).vl) ((ve_v 4).vl)).vl))).ve).vl) (val_nil))))
def f__law_three_is_row : SF := sSeq (sIf (cOrT (cNotT (cT (c1 (oIsi "tuple") (cV 0)))) (cT (c2 (oEq true) (cA (on1 oLen) (cCons (cV 0) (cNil))) (cV 1)))) (sRet (cK (.bool false))) (sNil)) (sRet (c2 (oEq false) (cLc [2] (iSeq (cV 0)) (gN 2) (cOrT (cT (c1 (oIsi "bool") (cV 2))) (cNotT (cT (c1 (oIsi "int") (cV 2))))) (cK (.int 1))) (cA oLst (cNil))))
def F__law_three_is_row : List Val → R Val := fnR 3 f__law_three_is_row
theorem sc__law_three_is_row : FnScope ["value", "wide", "number"] ["value", "wide"] (defScope (top 48)) := ⟨rfl, rfl, rfl, by decide +kernel, rfl, by decide +kernel, by decide +kernel⟩
theorem h__law_three_is_row {f : Addr} {fd : FuncData} (G : MG mg) {x : CD} (C : CG P K mg x)  (D : FunD K "_law_three_is_row" "_law_three_is_row" (defArgs (top 48)) (defBody (top 48)) (defScope (top 48)) [] [] f fd) (hmg : mg "_law_three_is_row" = some (.ref f)) : Has P w K mg base 1 "_law_three_is_row" 2 F__law_three_is_row :=
  has_of (N := ["value", "wide", "number"]) (ps := ["value", "wide"]) D sc__law_three_is_row rfl hmg (D.bindsN fun _ _ _ _ _ _ us hl => match us, hl with | [_, _], _ => rfl) fun cv A out s H E hr hg =>
    have hN := sc__law_three_is_row.nd
    vss_cons (vs_if (vt_w (vw_or (vt_not (vt_of ((ve_isi ty_tuple (by rfl) G.isi (pe_tyn (by rfl) G.tuple boot_tuple') ((ve_v 0).vl)).vl) (by intro _; rfl))) (vw_or1 (vt_cmp (ve_ne (un64 hr) ((ve_len (by rfl) G.len (val_cons ((ve_v 0).vl) (val_nil))).vl) ((ve_v 1).vl)))))) (vss_one (vs_ret (ve_bl))) (vss_nil)) (vss_one (vs_ret (ve_eq (un64 hr) (((vf_lcif (own := [("number", 2)]) (by rfl) hN (vi_seq (ve_v 0)) (show BlkOk ["value", "wide", "number"] (defScope (top 48)) _ [("number", 2)] from ⟨rfl, by decide +kernel, by decide +kernel, by decide +kernel, by decide +kernel⟩) (by decide) (fun _ _ _ _ _ => vg_v 2 hN) (fun _ _ _ _ _ => vt_w (vw_or (vt_of ((ve_isi ty_bool (by rfl) G.isi (pe_tyn (by rfl) G.bool boot_bool') ((ve_v 2).vl)).vl) (by intro _; rfl)) (vw_or1 (vt_not (vt_of ((ve_isi ty_int (by rfl) G.isi (pe_tyn (by rfl) G.int boot_int') ((ve_v 2).vl)).vl) (by intro _; rfl)))))) (fun _ _ _ _ _ => ve_int)).ve).vl) ((ve_lst (va_nil)).vl))))
def f_is_within : SF := sRet (cAnd (cA (ofN 1 F_is_whole) (cCons (cV 0) (cNil))) (cChain (fun i j => decide (i ≤ j)) (fun i j => decide (i ≤ j)) (cV 1) (cV 0) (cV 2)))
def F_is_within : List Val → R Val := fnR 3 f_is_within
theorem sc_is_within : FnScope ["value", "least", "most"] ["value", "least", "most"] (defScope (top 9)) := ⟨rfl, rfl, rfl, by decide +kernel, rfl, by decide +kernel, by decide +kernel⟩
theorem h_is_within {f : Addr} {fd : FuncData} (G : MG mg) {x : CD} (C : CG P K mg x)  (H_is_whole : Has P w K mg base 1 "is_whole" 1 F_is_whole) (D : FunD K "is_within" "is_within" (defArgs (top 9)) (defBody (top 9)) (defScope (top 9)) [] [] f fd) (hmg : mg "is_within" = some (.ref f)) : Has P w K mg base 2 "is_within" 3 F_is_within :=
  has_of (N := ["value", "least", "most"]) (ps := ["value", "least", "most"]) D sc_is_within rfl hmg (D.bindsN fun _ _ _ _ _ _ us hl => match us, hl with | [_, _, _], _ => rfl) fun cv A out s H E hr hg =>
    have hN := sc_is_within.nd
    vss_one (vs_ret (ve_and (ve_call H_is_whole (hr.mono (by decide)) hg takes_cx (by rfl) (va_cons (ve_v 0) (va_nil))) (ve_b1 (ve_chain op_le op_le ((ve_v 1).vl) ((ve_v 0).vl) ((ve_v 2).vl)))))
def f_is_dimension : SF := sRet (cAnd (cA (ofN 1 F_is_whole) (cCons (cV 0) (cNil))) (c2 (oIn false) (cV 0) (cK (.tuple [.int 1, .int 3, .int 6]))))
def F_is_dimension : List Val → R Val := fnR 1 f_is_dimension
theorem sc_is_dimension : FnScope ["value"] ["value"] (defScope (top 13)) := ⟨rfl, rfl, rfl, by decide +kernel, rfl, by decide +kernel, by decide +kernel⟩
theorem h_is_dimension {f : Addr} {fd : FuncData} (G : MG mg) {x : CD} (C : CG P K mg x)  (H_is_whole : Has P w K mg base 1 "is_whole" 1 F_is_whole) (D : FunD K "is_dimension" "is_dimension" (defArgs (top 13)) (defBody (top 13)) (defScope (top 13)) [] [] f fd) (hmg : mg "is_dimension" = some (.ref f)) : Has P w K mg base 2 "is_dimension" 1 F_is_dimension :=
  has_of (N := ["value"]) (ps := ["value"]) D sc_is_dimension rfl hmg (D.bindsN fun _ _ _ _ _ _ us hl => match us, hl with | [_], _ => rfl) fun cv A out s H E hr hg =>
    have hN := sc_is_dimension.nd
    vss_one (vs_ret (ve_and (ve_call H_is_whole (hr.mono (by decide)) hg takes_cx (by rfl) (va_cons (ve_v 0) (va_nil))) (ve_b1 (ve_in (by rfl) ((ve_v 0).vl) ((ve_glob (by rfl) C.dm (by rfl) (fun D U H => intT_rep C.dt D U H)).vl)))))
def f_is_numbers : SF := sRet (cAnd (cA (ofN 2 F_is_row) (cCons (cV 0) (cCons (cV 1) (cNil)))) (cA (on1 (oTru fun ks => ks.all id)) (cCons (cLc [2] (iSeq (cV 0)) (gN 2) (fun _ => pure true) (cA (ofN 1 F_is_whole) (cCons (cV 2) (cNil)))) (cNil))))
def F_is_numbers : List Val → R Val := fnR 3 f_is_numbers
theorem sc_is_numbers : FnScope ["value", "many", "number"] ["value", "many"] (defScope (top 20)) := ⟨rfl, rfl, rfl, by decide +kernel, rfl, by decide +kernel, by decide +kernel⟩
theorem h_is_numbers {f : Addr} {fd : FuncData} (G : MG mg) {x : CD} (C : CG P K mg x)  (H_is_row : Has P w K mg base 1 "is_row" 2 F_is_row) (H_is_whole : Has P w K mg base 1 "is_whole" 1 F_is_whole) (D : FunD K "is_numbers" "is_numbers" (defArgs (top 20)) (defBody (top 20)) (defScope (top 20)) [] [] f fd) (hmg : mg "is_numbers" = some (.ref f)) : Has P w K mg base 2 "is_numbers" 2 F_is_numbers :=
  has_of (N := ["value", "many", "number"]) (ps := ["value", "many"]) D sc_is_numbers rfl hmg (D.bindsN fun _ _ _ _ _ _ us hl => match us, hl with | [_, _], _ => rfl) fun cv A out s H E hr hg =>
    have hN := sc_is_numbers.nd
    vss_one (vs_ret (ve_and (ve_call H_is_row (hr.mono (by decide)) hg takes_cx (by rfl) (va_cons (ve_v 0) (va_cons (ve_v 1) (va_nil)))) (ve_b1 (ve_all (by rfl) (by rfl) G.all (val_cons (((vf_lc (own := [("number", 2)]) (by rfl) hN (vi_seq (ve_v 0)) (show BlkOk ["value", "many", "number"] (defScope (top 20)) _ [("number", 2)] from ⟨rfl, by decide +kernel, by decide +kernel, by decide +kernel, by decide +kernel⟩) (by decide) (fun _ _ _ _ _ => vg_v 2 hN) (fun _ _ _ _ _ => ve_call H_is_whole (hr.mono (by decide)) hg tk0 (by rfl) (va_cons (ve_v 2) (va_nil)))).ve).vl) (val_nil))))))
def f__law_four_short : SF := sSeq (sSet 1 (cK (.int 0))) (sSeq (sFor (iSeq (cV 0)) (gN 2) (sSet 1 (cA (ofN 2 F__law_four_gcd) (cCons (cA (on1 oAbs) (cCons (cV 2) (cNil))) (cCons (cV 1) (cNil)))))) (sRet (cIf (cT (c2 (oCmp fun i j => decide (j < i)) (cV 1) (cK (.int 1)))) (cLc [2] (iSeq (cV 0)) (gN 2) (fun _ => pure true) (c2 (oI gDiv Int.fdiv) (cV 2) (cV 1))) (cA (on1 oList) (cCons (cV 0) (cNil))))))
def F__law_four_short : List Val → R Val := fnR 3 f__law_four_short
theorem sc__law_four_short : FnScope ["row", "share", "number"] ["row"] (defScope (top 43)) := ⟨rfl, rfl, rfl, by decide +kernel, rfl, by decide +kernel, by decide +kernel⟩
theorem h__law_four_short {f : Addr} {fd : FuncData} (G : MG mg) {x : CD} (C : CG P K mg x)  (H__law_four_gcd : Has P w K mg base 1 "_law_four_gcd" 2 F__law_four_gcd) (D : FunD K "_law_four_short" "_law_four_short" (defArgs (top 43)) (defBody (top 43)) (defScope (top 43)) [] [] f fd) (hmg : mg "_law_four_short" = some (.ref f)) : Has P w K mg base 2 "_law_four_short" 1 F__law_four_short :=
  has_of (N := ["row", "share", "number"]) (ps := ["row"]) D sc__law_four_short rfl hmg (D.bindsN fun _ _ _ _ _ _ us hl => match us, hl with | [_], _ => rfl) fun cv A out s H E hr hg =>
    have hN := sc__law_four_short.nd
    vss_cons (vs_st 1 hN (ve_int)) (vss_cons (vs_for passes_cx (by rfl) (vi_seq (ve_v 0)) (vg_v 2 hN) (vss_one (vs_st 1 hN (ve_call H__law_four_gcd (hr.mono (by decide)) hg takes_cx (by rfl) (va_cons (ve_abs (by rfl) G.abs (val_cons ((ve_v 2).vl) (val_nil))) (va_cons (ve_v 1) (va_nil))))))) (vss_one (vs_ret (ve_if (vt_cmp (ve_gt ((ve_v 1).vl) ((ve_int).vl))) ((vf_lc (own := [("number", 2)]) (by rfl) hN (vi_seq (ve_v 0)) (show BlkOk ["row", "share", "number"] (defScope (top 43)) _ [("number", 2)] from ⟨rfl, by decide +kernel, by decide +kernel, by decide +kernel, by decide +kernel⟩) (by decide) (fun _ _ _ _ _ => vg_v 2 hN) (fun _ _ _ _ _ => ve_fdiv ((ve_v 2).vl) ((ve_v 1).vl))).ve) (ve_list (by rfl) G.list (val_cons ((ve_v 0).vl) (val_nil)))))))
def f__law_scaled : SF := sRet (cA (ofN 3 F__law_three_plus) (cCons (cLc [3] (iSeq (cSl (cV 0) (pNo) (pSo (cK (.int 3))))) (gN 3) (fun _ => pure true) (c2 oMul (cV 1) (cV 3))) (cCons (cK (.int 1)) (cCons (cA (ofN 2 F__law_three_cross) (cCons (cSl (cV 0) (pSo (cK (.int 3))) (pNo)) (cCons (cV 2) (cNil)))) (cNil)))))
def F__law_scaled : List Val → R Val := fnR 4 f__law_scaled
theorem sc__law_scaled : FnScope ["motion", "count", "numbers", "number"] ["motion", "count", "numbers"] (defScope (top 51)) := ⟨rfl, rfl, rfl, by decide +kernel, rfl, by decide +kernel, by decide +kernel⟩
theorem h__law_scaled {f : Addr} {fd : FuncData} (G : MG mg) {x : CD} (C : CG P K mg x)  (H__law_three_cross : Has P w K mg base 1 "_law_three_cross" 2 F__law_three_cross) (H__law_three_plus : Has P w K mg base 1 "_law_three_plus" 3 F__law_three_plus) (D : FunD K "_law_scaled" "_law_scaled" (defArgs (top 51)) (defBody (top 51)) (defScope (top 51)) [] [] f fd) (hmg : mg "_law_scaled" = some (.ref f)) : Has P w K mg base 2 "_law_scaled" 3 F__law_scaled :=
  has_of (N := ["motion", "count", "numbers", "number"]) (ps := ["motion", "count", "numbers"]) D sc__law_scaled rfl hmg (D.bindsN fun _ _ _ _ _ _ us hl => match us, hl with | [_, _, _], _ => rfl) fun cv A out s H E hr hg =>
    have hN := sc__law_scaled.nd
    vss_one (vs_ret (ve_call H__law_three_plus (hr.mono (by decide)) hg takes_cx (by rfl) (va_cons ((vf_lc (own := [("number", 3)]) (by rfl) hN (vi_seq (ve_sl ((ve_v 0).vl) (vo_no) (vo_so ((ve_int).vl)))) (show BlkOk ["motion", "count", "numbers", "number"] (defScope (top 51)) _ [("number", 3)] from ⟨rfl, by decide +kernel, by decide +kernel, by decide +kernel, by decide +kernel⟩) (by decide) (fun _ _ _ _ _ => vg_v 3 hN) (fun _ _ _ _ _ => ve_mul ((ve_v 1).vl) ((ve_v 3).vl))).ve) (va_cons (ve_int) (va_cons (ve_call H__law_three_cross (hr.mono (by decide)) hg takes_cx (by rfl) (va_cons (ve_sl ((ve_v 0).vl) (vo_so ((ve_int).vl)) (vo_no)) (va_cons (ve_v 2) (va_nil)))) (va_nil))))))
def f_need_dimension : SF := sSeq (sIf (cNotT (cT (cA (ofN 1 F_is_dimension) (cCons (cV 0) (cNil))))) (sStk) (sNil)) (sRet (cV 0))
def F_need_dimension : List Val → R Val := fnR 1 f_need_dimension
theorem sc_need_dimension : FnScope ["value"] ["value"] (defScope (top 14)) := ⟨rfl, rfl, rfl, by decide +kernel, rfl, by decide +kernel, by decide +kernel⟩
theorem h_need_dimension {f : Addr} {fd : FuncData} (G : MG mg) {x : CD} (C : CG P K mg x)  (H_is_dimension : Has P w K mg base 2 "is_dimension" 1 F_is_dimension) (D : FunD K "need_dimension" "need_dimension" (defArgs (top 14)) (defBody (top 14)) (defScope (top 14)) [] [] f fd) (hmg : mg "need_dimension" = some (.ref f)) : Has P w K mg base 3 "need_dimension" 1 F_need_dimension :=
  has_of (N := ["value"]) (ps := ["value"]) D sc_need_dimension rfl hmg (D.bindsN fun _ _ _ _ _ _ us hl => match us, hl with | [_], _ => rfl) fun cv A out s H E hr hg =>
    have hN := sc_need_dimension.nd
    vss_cons (vs_if (vt_not (vt_of ((ve_call H_is_dimension (hr.mono (by decide)) hg takes_cx (by rfl) (va_cons (ve_v 0) (va_nil))).vl) (by intro _; rfl))) (vss_one (vs_stk)) (vss_nil)) (vss_one (vs_ret (ve_v 0)))
def f_is_place : SF := sSeq (sIf (cOrT (cNotT (cT (c1 (oIsi "tuple") (cV 1)))) (cT (c2 (oEq true) (cA (on1 oLen) (cCons (cV 1) (cNil))) (c1 (oKget [(3, 2), (6, 3)]) (cV 0))))) (sRet (cK (.bool false))) (sNil)) (sRet (cA (on1 (oTru fun ks => ks.all id)) (cCons (cLc [2] (iSeq (cV 1)) (gN 2) (fun _ => pure true) (cA (ofN 3 F_is_within) (cCons (cV 2) (cCons (c1 oNeg (cK (.int 1000000000))) (cCons (cK (.int 1000000000)) (cNil)))))) (cNil))))
def F_is_place : List Val → R Val := fnR 3 f_is_place
theorem sc_is_place : FnScope ["dimension", "value", "number"] ["dimension", "value"] (defScope (top 18)) := ⟨rfl, rfl, rfl, by decide +kernel, rfl, by decide +kernel, by decide +kernel⟩
theorem h_is_place {f : Addr} {fd : FuncData} (G : MG mg) {x : CD} (C : CG P K mg x)  (H_is_within : Has P w K mg base 2 "is_within" 3 F_is_within) (D : FunD K "is_place" "is_place" (defArgs (top 18)) (defBody (top 18)) (defScope (top 18)) [] [] f fd) (hmg : mg "is_place" = some (.ref f)) : Has P w K mg base 3 "is_place" 2 F_is_place :=
  has_of (N := ["dimension", "value", "number"]) (ps := ["dimension", "value"]) D sc_is_place rfl hmg (D.bindsN fun _ _ _ _ _ _ us hl => match us, hl with | [_, _], _ => rfl) fun cv A out s H E hr hg =>
    have hN := sc_is_place.nd
    vss_cons (vs_if (vt_w (vw_or (vt_not (vt_of ((ve_isi ty_tuple (by rfl) G.isi (pe_tyn (by rfl) G.tuple boot_tuple') ((ve_v 1).vl)).vl) (by intro _; rfl))) (vw_or1 (vt_cmp (ve_ne (un64 hr) ((ve_len (by rfl) G.len (val_cons ((ve_v 1).vl) (val_nil))).vl) ((ve_kget C.wd (pe_glob (by rfl) C.wm (by rfl)) (ve_v 0)).vl)))))) (vss_one (vs_ret (ve_bl))) (vss_nil)) (vss_one (vs_ret (ve_all (by rfl) (by rfl) G.all (val_cons (((vf_lc (own := [("number", 2)]) (by rfl) hN (vi_seq (ve_v 1)) (show BlkOk ["dimension", "value", "number"] (defScope (top 18)) _ [("number", 2)] from ⟨rfl, by decide +kernel, by decide +kernel, by decide +kernel, by decide +kernel⟩) (by decide) (fun _ _ _ _ _ => vg_v 2 hN) (fun _ _ _ _ _ => ve_call H_is_within (hr.mono (by decide)) hg tk0 (by rfl) (va_cons (ve_v 2) (va_cons (ve_neg ((ve_glob (by rfl) C.mp (by exact ⟨_, rfl⟩) (fun _ _ _ => .int _)).vl)) (va_cons (ve_glob (by rfl) C.mp (by exact ⟨_, rfl⟩) (fun _ _ _ => .int _)) (va_nil)))))).ve).vl) (val_nil)))))
def f_need_row : SF := sSeq (sIf (cNotT (cT (cA (ofN 2 F_is_numbers) (cCons (cV 0) (cCons (cV 1) (cNil)))))) (sRaise1 "BadRow" "index" (cV 2)) (sNil)) (sRet (cV 0))
def F_need_row : List Val → R Val := fnR 3 f_need_row
theorem sc_need_row : FnScope ["row", "wide", "index"] ["row", "wide", "index"] (defScope (top 22)) := ⟨rfl, rfl, rfl, by decide +kernel, rfl, by decide +kernel, by decide +kernel⟩
theorem h_need_row {f : Addr} {fd : FuncData} (G : MG mg) {x : CD} (C : CG P K mg x)  (H_is_numbers : Has P w K mg base 2 "is_numbers" 2 F_is_numbers) (D : FunD K "need_row" "need_row" (defArgs (top 22)) (defBody (top 22)) (defScope (top 22)) [] [] f fd) (hmg : mg "need_row" = some (.ref f)) : Has P w K mg base 3 "need_row" 3 F_need_row :=
  has_of (N := ["row", "wide", "index"]) (ps := ["row", "wide", "index"]) D sc_need_row rfl hmg (D.bindsN fun _ _ _ _ _ _ us hl => match us, hl with | [_, _, _], _ => rfl) fun cv A out s H E hr hg =>
    have hN := sc_need_row.nd
    vss_cons (vs_if (vt_not (vt_of ((ve_call H_is_numbers (hr.mono (by decide)) hg takes_cx (by rfl) (va_cons (ve_v 0) (va_cons (ve_v 1) (va_nil)))).vl) (by intro _; rfl))) (vss_one (vs_raise1 fok_BadRow C.br (by rfl) hr takes_cx (ve_v 2) (by rfl))) (vss_nil)) (vss_one (vs_ret (ve_v 0)))
def f__law_of : SF := sRet (c2 oIx (cV 1) (cA (ofN 2 F__law_draw) (cCons (cV 0) (cCons (cA (on1 oLen) (cCons (cV 1) (cNil))) (cNil)))))
def F__law_of : List Val → R Val := fnR 2 f__law_of
theorem sc__law_of : FnScope ["m", "some"] ["m", "some"] (defScope (top 40)) := ⟨rfl, rfl, rfl, by decide +kernel, rfl, by decide +kernel, by decide +kernel⟩
theorem h__law_of {f : Addr} {fd : FuncData} (G : MG mg) {x : CD} (C : CG P K mg x)  (H__law_draw : Has P w K mg base 2 "_law_draw" 2 F__law_draw) (D : FunD K "_law_of" "_law_of" (defArgs (top 40)) (defBody (top 40)) (defScope (top 40)) [] [] f fd) (hmg : mg "_law_of" = some (.ref f)) : Has P w K mg base 3 "_law_of" 2 F__law_of :=
  has_of (N := ["m", "some"]) (ps := ["m", "some"]) D sc__law_of rfl hmg (D.bindsN fun _ _ _ _ _ _ us hl => match us, hl with | [_, _], _ => rfl) fun cv A out s H E hr hg =>
    have hN := sc__law_of.nd
    vss_one (vs_ret (ve_ix ((ve_v 1).vl) ((ve_call H__law_draw (hr.mono (by decide)) hg takes_cx (by rfl) (va_cons (ve_v 0) (va_cons (ve_len (by rfl) G.len (val_cons ((ve_v 1).vl) (val_nil))) (va_nil)))).vl) (by intro _ _; rfl)))
def f__law_four_place : SF := sRet (cA (on1 oTuple) (cCons (cLc [3] (cAI iRange1 (cCons (cIf (cT (c2 (oEq false) (cV 1) (cK (.int 3)))) (cK (.int 2)) (cK (.int 3))) (cNil))) (gN 3) (fun _ => pure true) (c2 oSub (cA (ofN 2 F__law_draw) (cCons (cV 0) (cCons (c2 oAdd (c2 oMul (cK (.int 2)) (cV 2)) (cK (.int 1))) (cNil)))) (cV 2))) (cNil)))
def F__law_four_place : List Val → R Val := fnR 4 f__law_four_place
theorem sc__law_four_place : FnScope ["m", "dimension", "reach", "turn"] ["m", "dimension", "reach"] (defScope (top 41)) := ⟨rfl, rfl, rfl, by decide +kernel, rfl, by decide +kernel, by decide +kernel⟩
theorem h__law_four_place {f : Addr} {fd : FuncData} (G : MG mg) {x : CD} (C : CG P K mg x)  (H__law_draw : Has P w K mg base 2 "_law_draw" 2 F__law_draw) (D : FunD K "_law_four_place" "_law_four_place" (defArgs (top 41)) (defBody (top 41)) (defScope (top 41)) [] [] f fd) (hmg : mg "_law_four_place" = some (.ref f)) : Has P w K mg base 3 "_law_four_place" 3 F__law_four_place :=
  has_of (N := ["m", "dimension", "reach", "turn"]) (ps := ["m", "dimension", "reach"]) D sc__law_four_place rfl hmg (D.bindsN fun _ _ _ _ _ _ us hl => match us, hl with | [_, _, _], _ => rfl) fun cv A out s H E hr hg =>
    have hN := sc__law_four_place.nd
    vss_one (vs_ret (ve_tuple (by rfl) G.tuple (val_cons (((vf_lc (own := [("turn", 3)]) (by rfl) hN (vi_range1 (by rfl) G.range (val_cons ((ve_if (vt_cmp (ve_eq (un64 hr) ((ve_v 1).vl) ((ve_int).vl))) (ve_int) (ve_int)).vl) (val_nil))) (show BlkOk ["m", "dimension", "reach", "turn"] (defScope (top 41)) _ [("turn", 3)] from ⟨rfl, by decide +kernel, by decide +kernel, by decide +kernel, by decide +kernel⟩) (by decide) (fun _ _ _ _ _ => vg_v 3 hN) (fun _ _ _ _ _ => ve_sub ((ve_call H__law_draw (hr.mono (by decide)) hg tk0 (by rfl) (va_cons (ve_v 0) (va_cons (ve_add ((ve_mul ((ve_int).vl) ((ve_v 2).vl)).vl) ((ve_int).vl)) (va_nil)))).vl) ((ve_v 2).vl))).ve).vl) (val_nil))))
def f__law_three_number : SF := sRet (c2 oSub (cA (ofN 2 F__law_draw) (cCons (cV 0) (cCons (c2 oAdd (c2 oMul (cK (.int 2)) (cV 1)) (cK (.int 1))) (cNil)))) (cV 1))
def F__law_three_number : List Val → R Val := fnR 2 f__law_three_number
theorem sc__law_three_number : FnScope ["m", "most"] ["m", "most"] (defScope (top 44)) := ⟨rfl, rfl, rfl, by decide +kernel, rfl, by decide +kernel, by decide +kernel⟩
theorem h__law_three_number {f : Addr} {fd : FuncData} (G : MG mg) {x : CD} (C : CG P K mg x)  (H__law_draw : Has P w K mg base 2 "_law_draw" 2 F__law_draw) (D : FunD K "_law_three_number" "_law_three_number" (defArgs (top 44)) (defBody (top 44)) (defScope (top 44)) [] [] f fd) (hmg : mg "_law_three_number" = some (.ref f)) : Has P w K mg base 3 "_law_three_number" 2 F__law_three_number :=
  has_of (N := ["m", "most"]) (ps := ["m", "most"]) D sc__law_three_number rfl hmg (D.bindsN fun _ _ _ _ _ _ us hl => match us, hl with | [_, _], _ => rfl) fun cv A out s H E hr hg =>
    have hN := sc__law_three_number.nd
    vss_one (vs_ret (ve_sub ((ve_call H__law_draw (hr.mono (by decide)) hg takes_cx (by rfl) (va_cons (ve_v 0) (va_cons (ve_add ((ve_mul ((ve_int).vl) ((ve_v 1).vl)).vl) ((ve_int).vl)) (va_nil)))).vl) ((ve_v 1).vl)))
def f__law_axis_right : SF := sSeq (sIf (cOrT (cNotT (cT (c1 (oIsi "tuple") (cV 1)))) (cOrT (cT (c2 (oEq true) (cA (on1 oLen) (cCons (cV 1) (cNil))) (cK (.int 3)))) (cOrT (cNotT (cT (cA (ofN 2 F__law_three_is_row) (cCons (cA oTup (cCons (c2 oIx (cV 1) (cK (.int 0))) (cNil))) (cCons (cK (.int 1)) (cNil)))))) (cT (c2 (oCmp fun i j => decide (i < j)) (c2 oIx (cV 1) (cK (.int 0))) (cK (.int 1))))))) (sRet (cK (.bool false))) (sNil)) (sSeq (sTgt (gTp (gCn (gN 3) (gCn (gN 4) (gCn (gN 5) (gNl))))) (cV 1)) (sSeq (sIf (cOrT (cNotT (cT (cA (ofN 2 F__law_three_is_row) (cCons (cV 4) (cCons (cK (.int 3)) (cNil)))))) (cT (c2 (oEq true) (cA (on1 oList) (cCons (c2 oAdd (cA oTup (cCons (cV 3) (cNil))) (cV 4)) (cNil))) (cA (ofN 1 F__law_four_short) (cCons (c2 oAdd (cA oTup (cCons (cV 3) (cNil))) (cV 4)) (cNil)))))) (sRet (cK (.bool false))) (sNil)) (sSeq (sSet 6 (cSl (cV 0) (pSo (cK (.int 3))) (pNo))) (sSeq (sIf (cNotT (cT (cA (ofN 2 F__law_like) (cCons (cV 5) (cCons (cA (on1 oTuple) (cCons (cA (ofN 1 F__law_four_short) (cCons (cV 6) (cNil))) (cNil))) (cNil)))))) (sRet (cK (.bool false))) (sNil)) (sSeq (sIf (cT (c2 (oEq true) (cA (ofN 2 F__law_three_dot) (cCons (cV 4) (cCons (cV 6) (cNil)))) (cK (.int 0)))) (sRet (cK (.bool false))) (sNil)) (sSeq (sIf (cOrT (cNotT (cT (cA (ofN 2 F__law_three_is_row) (cCons (cV 2) (cCons (cK (.int 2)) (cNil)))))) (cOrT (cT (c2 (oCmp fun i j => decide (i < j)) (c2 oIx (cV 2) (cK (.int 1))) (cK (.int 1)))) (cT (c2 (oEq true) (cA (on1 oList) (cCons (cV 2) (cNil))) (cA (ofN 1 F__law_four_short) (cCons (cV 2) (cNil))))))) (sRet (cK (.bool false))) (sNil)) (sSeq (sIf (cT (c2 (oEq true) (c2 oMul (c2 oIx (cV 2) (cK (.int 0))) (cA (ofN 2 F__law_three_dot) (cCons (cV 6) (cCons (cV 6) (cNil))))) (c2 oMul (c2 oIx (cV 2) (cK (.int 1))) (cA (ofN 2 F__law_three_dot) (cCons (cSl (cV 0) (pNo) (pSo (cK (.int 3)))) (cCons (cV 6) (cNil))))))) (sRet (cK (.bool false))) (sNil)) (sSeq (sFor (iSeq (cA oLst (cCons (cK (.int 0)) (cCons (cK (.int 1)) (cCons (c1 oNeg (cK (.int 3))) (cNil)))))) (gN 7) (sSeq (sSet 8 (cA (ofN 3 F__law_three_plus) (cCons (cV 4) (cCons (c2 oMul (cV 7) (cV 3)) (cCons (cV 5) (cNil)))))) (sSeq (sSet 9 (cA (ofN 3 F__law_scaled) (cCons (cV 0) (cCons (cV 3) (cCons (cV 8) (cNil)))))) (sIf (cT (c2 (oEq true) (cLc [10] (iSeq (cV 9)) (gN 10) (fun _ => pure true) (c2 oMul (c2 oIx (cV 2) (cK (.int 1))) (cV 10))) (cLc [10] (iSeq (cV 6)) (gN 10) (fun _ => pure true) (c2 oMul (c2 oMul (c2 oIx (cV 2) (cK (.int 0))) (cV 3)) (cV 10))))) (sRet (cK (.bool false))) (sNil))))) (sRet (cK (.bool true)))))))))))
def F__law_axis_right : List Val → R Val := fnR 11 f__law_axis_right
theorem sc__law_axis_right : FnScope ["motion", "found", "told", "count", "numbers", "way", "turning", "step", "point", "fast", "number"] ["motion", "found", "told"] (defScope (top 52)) := ⟨rfl, rfl, rfl, by decide +kernel, rfl, by decide +kernel, by decide +kernel⟩
theorem h__law_axis_right {f : Addr} {fd : FuncData} (G : MG mg) {x : CD} (C : CG P K mg x)  (H__law_four_short : Has P w K mg base 2 "_law_four_short" 1 F__law_four_short) (H__law_like : Has P w K mg base 1 "_law_like" 2 F__law_like) (H__law_scaled : Has P w K mg base 2 "_law_scaled" 3 F__law_scaled) (H__law_three_dot : Has P w K mg base 1 "_law_three_dot" 2 F__law_three_dot) (H__law_three_is_row : Has P w K mg base 1 "_law_three_is_row" 2 F__law_three_is_row) (H__law_three_plus : Has P w K mg base 1 "_law_three_plus" 3 F__law_three_plus) (D : FunD K "_law_axis_right" "_law_axis_right" (defArgs (top 52)) (defBody (top 52)) (defScope (top 52)) [] [] f fd) (hmg : mg "_law_axis_right" = some (.ref f)) : Has P w K mg base 3 "_law_axis_right" 3 F__law_axis_right :=
  has_of (N := ["motion", "found", "told", "count", "numbers", "way", "turning", "step", "point", "fast", "number"]) (ps := ["motion", "found", "told"]) D sc__law_axis_right rfl hmg (D.bindsN fun _ _ _ _ _ _ us hl => match us, hl with | [_, _, _], _ => rfl) fun cv A out s H E hr hg =>
    have hN := sc__law_axis_right.nd
    vss_cons (vs_if (vt_w (vw_or (vt_not (vt_of ((ve_isi ty_tuple (by rfl) G.isi (pe_tyn (by rfl) G.tuple boot_tuple') ((ve_v 1).vl)).vl) (by intro _; rfl))) (vw_or (vt_cmp (ve_ne (un64 hr) ((ve_len (by rfl) G.len (val_cons ((ve_v 1).vl) (val_nil))).vl) ((ve_int).vl))) (vw_or (vt_not (vt_of ((ve_call H__law_three_is_row (hr.mono (by decide)) hg takes_cx (by rfl) (va_cons (ve_tup (va_cons (ve_ix ((ve_v 1).vl) ((ve_int).vl) (by intro _ _; rfl)) (va_nil))) (va_cons (ve_int) (va_nil)))).vl) (by intro _; rfl))) (vw_or1 (vt_cmp (ve_lt ((ve_ix ((ve_v 1).vl) ((ve_int).vl) (by intro _ _; rfl)).vl) ((ve_int).vl)))))))) (vss_one (vs_ret (ve_bl))) (vss_nil)) (vss_cons (vs_tgt (ve_v 1) (vg_tup (by rfl) (vgs_cons (vg_v 3 hN) (vgs_cons (vg_v 4 hN) (vgs_cons (vg_v 5 hN) (vgs_nil)))))) (vss_cons (vs_if (vt_w (vw_or (vt_not (vt_of ((ve_call H__law_three_is_row (hr.mono (by decide)) hg takes_cx (by rfl) (va_cons (ve_v 4) (va_cons (ve_int) (va_nil)))).vl) (by intro _; rfl))) (vw_or1 (vt_cmp (ve_ne (un64 hr) ((ve_list (by rfl) G.list (val_cons ((ve_add ((ve_tup (va_cons (ve_v 3) (va_nil))).vl) ((ve_v 4).vl)).vl) (val_nil))).vl) ((ve_call H__law_four_short (hr.mono (by decide)) hg takes_cx (by rfl) (va_cons (ve_add ((ve_tup (va_cons (ve_v 3) (va_nil))).vl) ((ve_v 4).vl)) (va_nil))).vl)))))) (vss_one (vs_ret (ve_bl))) (vss_nil)) (vss_cons (vs_st 6 hN (ve_sl ((ve_v 0).vl) (vo_so ((ve_int).vl)) (vo_no))) (vss_cons (vs_if (vt_not (vt_of ((ve_call H__law_like (hr.mono (by decide)) hg takes_cx (by rfl) (va_cons (ve_v 5) (va_cons (ve_tuple (by rfl) G.tuple (val_cons ((ve_call H__law_four_short (hr.mono (by decide)) hg takes_cx (by rfl) (va_cons (ve_v 6) (va_nil))).vl) (val_nil))) (va_nil)))).vl) (by intro _; rfl))) (vss_one (vs_ret (ve_bl))) (vss_nil)) (vss_cons (vs_if (vt_cmp (ve_ne (un64 hr) ((ve_call H__law_three_dot (hr.mono (by decide)) hg takes_cx (by rfl) (va_cons (ve_v 4) (va_cons (ve_v 6) (va_nil)))).vl) ((ve_int).vl))) (vss_one (vs_ret (ve_bl))) (vss_nil)) (vss_cons (vs_if (vt_w (vw_or (vt_not (vt_of ((ve_call H__law_three_is_row (hr.mono (by decide)) hg takes_cx (by rfl) (va_cons (ve_v 2) (va_cons (ve_int) (va_nil)))).vl) (by intro _; rfl))) (vw_or (vt_cmp (ve_lt ((ve_ix ((ve_v 2).vl) ((ve_int).vl) (by intro _ _; rfl)).vl) ((ve_int).vl))) (vw_or1 (vt_cmp (ve_ne (un64 hr) ((ve_list (by rfl) G.list (val_cons ((ve_v 2).vl) (val_nil))).vl) ((ve_call H__law_four_short (hr.mono (by decide)) hg takes_cx (by rfl) (va_cons (ve_v 2) (va_nil))).vl))))))) (vss_one (vs_ret (ve_bl))) (vss_nil)) (vss_cons (vs_if (vt_cmp (ve_ne (un64 hr) ((ve_mul ((ve_ix ((ve_v 2).vl) ((ve_int).vl) (by intro _ _; rfl)).vl) ((ve_call H__law_three_dot (hr.mono (by decide)) hg takes_cx (by rfl) (va_cons (ve_v 6) (va_cons (ve_v 6) (va_nil)))).vl)).vl) ((ve_mul ((ve_ix ((ve_v 2).vl) ((ve_int).vl) (by intro _ _; rfl)).vl) ((ve_call H__law_three_dot (hr.mono (by decide)) hg takes_cx (by rfl) (va_cons (ve_sl ((ve_v 0).vl) (vo_no) (vo_so ((ve_int).vl))) (va_cons (ve_v 6) (va_nil)))).vl)).vl))) (vss_one (vs_ret (ve_bl))) (vss_nil)) (vss_cons (vs_for passes_cx (by rfl) (vi_seq (ve_lst (va_cons (ve_int) (va_cons (ve_int) (va_cons (ve_neg ((ve_int).vl)) (va_nil)))))) (vg_v 7 hN) (vss_cons (vs_st 8 hN (ve_call H__law_three_plus (hr.mono (by decide)) hg takes_cx (by rfl) (va_cons (ve_v 4) (va_cons (ve_mul ((ve_v 7).vl) ((ve_v 3).vl)) (va_cons (ve_v 5) (va_nil)))))) (vss_cons (vs_st 9 hN (ve_call H__law_scaled (hr.mono (by decide)) hg takes_cx (by rfl) (va_cons (ve_v 0) (va_cons (ve_v 3) (va_cons (ve_v 8) (va_nil)))))) (vss_one (vs_if (vt_cmp (ve_ne (un64 hr) (((vf_lc (own := [("number", 10)]) (by rfl) hN (vi_seq (ve_v 9)) (show BlkOk ["motion", "found", "told", "count", "numbers", "way", "turning", "step", "point", "fast", "number"] (defScope (top 52)) _ [("number", 10)] from ⟨rfl, by decide +kernel, by decide +kernel, by decide +kernel, by decide +kernel⟩) (by decide) (fun _ _ _ _ _ => vg_v 10 hN) (fun _ _ _ _ _ => ve_mul ((ve_ix ((ve_v 2).vl) ((ve_int).vl) (by intro _ _; rfl)).vl) ((ve_v 10).vl))).ve).vl) (((vf_lc (own := [("number", 10)]) (by rfl) hN (vi_seq (ve_v 6)) (show BlkOk ["motion", "found", "told", "count", "numbers", "way", "turning", "step", "point", "fast", "number"] (defScope (top 52)) _ [("number", 10)] from ⟨rfl, by decide +kernel, by decide +kernel, by decide +kernel, by decide +kernel⟩) (by decide) (fun _ _ _ _ _ => vg_v 10 hN) (fun _ _ _ _ _ => ve_mul ((ve_mul ((ve_ix ((ve_v 2).vl) ((ve_int).vl) (by intro _ _; rfl)).vl) ((ve_v 3).vl)).vl) ((ve_v 10).vl))).ve).vl))) (vss_one (vs_ret (ve_bl))) (vss_nil)))))) (vss_one (vs_ret (ve_bl)))))))))))
def f_need_space : SF := sSeq (sIf (cT (c2 (oEq false) (cA (ofN 1 F_need_dimension) (cCons (cV 0) (cNil))) (cK (.int 1)))) (sStk) (sNil)) (sRet (cV 0))
def F_need_space : List Val → R Val := fnR 1 f_need_space
theorem sc_need_space : FnScope ["dimension"] ["dimension"] (defScope (top 25)) := ⟨rfl, rfl, rfl, by decide +kernel, rfl, by decide +kernel, by decide +kernel⟩
theorem h_need_space {f : Addr} {fd : FuncData} (G : MG mg) {x : CD} (C : CG P K mg x)  (H_need_dimension : Has P w K mg base 3 "need_dimension" 1 F_need_dimension) (D : FunD K "need_space" "need_space" (defArgs (top 25)) (defBody (top 25)) (defScope (top 25)) [] [] f fd) (hmg : mg "need_space" = some (.ref f)) : Has P w K mg base 4 "need_space" 1 F_need_space :=
  has_of (N := ["dimension"]) (ps := ["dimension"]) D sc_need_space rfl hmg (D.bindsN fun _ _ _ _ _ _ us hl => match us, hl with | [_], _ => rfl) fun cv A out s H E hr hg =>
    have hN := sc_need_space.nd
    vss_cons (vs_if (vt_cmp (ve_eq (un64 hr) ((ve_call H_need_dimension (hr.mono (by decide)) hg takes_cx (by rfl) (va_cons (ve_v 0) (va_nil))).vl) ((ve_int).vl))) (vss_one (vs_stk)) (vss_nil)) (vss_one (vs_ret (ve_v 0)))
def f_checked_place : SF := sSeq (sIf (cNotT (cT (cA (ofN 2 F_is_place) (cCons (cV 0) (cCons (cV 1) (cNil)))))) (sStk) (sNil)) (sRet (cV 1))
def F_checked_place : List Val → R Val := fnR 3 f_checked_place
theorem sc_checked_place : FnScope ["dimension", "place", "index"] ["dimension", "place", "index"] (defScope (top 27)) := ⟨rfl, rfl, rfl, by decide +kernel, rfl, by decide +kernel, by decide +kernel⟩
theorem h_checked_place {f : Addr} {fd : FuncData} (G : MG mg) {x : CD} (C : CG P K mg x)  (H_is_place : Has P w K mg base 3 "is_place" 2 F_is_place) (D : FunD K "checked_place" "checked_place" (defArgs (top 27)) (defBody (top 27)) (defScope (top 27)) [] [] f fd) (hmg : mg "checked_place" = some (.ref f)) : Has P w K mg base 4 "checked_place" 3 F_checked_place :=
  has_of (N := ["dimension", "place", "index"]) (ps := ["dimension", "place", "index"]) D sc_checked_place rfl hmg (D.bindsN fun _ _ _ _ _ _ us hl => match us, hl with | [_, _, _], _ => rfl) fun cv A out s H E hr hg =>
    have hN := sc_checked_place.nd
    vss_cons (vs_if (vt_not (vt_of ((ve_call H_is_place (hr.mono (by decide)) hg takes_cx (by rfl) (va_cons (ve_v 0) (va_cons (ve_v 1) (va_nil)))).vl) (by intro _; rfl))) (vss_one (vs_stk)) (vss_nil)) (vss_one (vs_ret (ve_v 1)))
def f_axis : SF := sSeq (sExpr (cA (ofN 3 F_need_row) (cCons (cV 0) (cCons (cK (.int 6)) (cCons (cK (.int 0)) (cNil)))))) (sSeq (sSet 1 (cSl (cV 0) (pSo (cK (.int 3))) (pNo))) (sSeq (sIf (cNotT (cT (cA (on1 (oTru fun ks => ks.any id)) (cCons (cV 1) (cNil))))) (sRet (cK .none)) (sNil)) (sSeq (sTgt (gTp (gCn (gN 2) (gCn (gN 3) (gNl)))) (cA (ofN 2 F_lowest_terms) (cCons (cA (ofN 2 F_product_of) (cCons (cV 1) (cCons (cV 1) (cNil)))) (cCons (cA (ofN 2 F_cross) (cCons (cV 1) (cCons (cSl (cV 0) (pNo) (pSo (cK (.int 3)))) (cNil)))) (cNil))))) (sSeq (sSet 4 (cA (on2 oGcd) (cCons (c2 oIx (cV 1) (cK (.int 0))) (cCons (cA (on2 oGcd) (cCons (c2 oIx (cV 1) (cK (.int 1))) (cCons (c2 oIx (cV 1) (cK (.int 2))) (cNil)))) (cNil))))) (sRet (cA oTup (cCons (cV 2) (cCons (cV 3) (cCons (cA (on1 oTuple) (cCons (cLc [5] (iSeq (cV 1)) (gN 5) (fun _ => pure true) (c2 (oI gDiv Int.fdiv) (cV 5) (cV 4))) (cNil))) (cNil))))))))))
def F_axis : List Val → R Val := fnR 6 f_axis
theorem sc_axis : FnScope ["motion", "turning", "count", "numbers", "share", "number"] ["motion"] (defScope (top 32)) := ⟨rfl, rfl, rfl, by decide +kernel, rfl, by decide +kernel, by decide +kernel⟩
theorem h_axis {f : Addr} {fd : FuncData} (G : MG mg) {x : CD} (C : CG P K mg x)  (H_cross : Has P w K mg base 1 "cross" 2 F_cross) (H_lowest_terms : Has P w K mg base 1 "lowest_terms" 2 F_lowest_terms) (H_need_row : Has P w K mg base 3 "need_row" 3 F_need_row) (H_product_of : Has P w K mg base 1 "product_of" 2 F_product_of) (D : FunD K "axis" "axis" (defArgs (top 32)) (defBody (top 32)) (defScope (top 32)) [] [] f fd) (hmg : mg "axis" = some (.ref f)) : Has P w K mg base 4 "axis" 1 F_axis :=
  has_of (N := ["motion", "turning", "count", "numbers", "share", "number"]) (ps := ["motion"]) D sc_axis rfl hmg (D.bindsN fun _ _ _ _ _ _ us hl => match us, hl with | [_], _ => rfl) fun cv A out s H E hr hg =>
    have hN := sc_axis.nd
    vss_cons (vs_expr (ve_call H_need_row (hr.mono (by decide)) hg takes_cx (by rfl) (va_cons (ve_v 0) (va_cons (ve_int) (va_cons (ve_int) (va_nil)))))) (vss_cons (vs_st 1 hN (ve_sl ((ve_v 0).vl) (vo_so ((ve_int).vl)) (vo_no))) (vss_cons (vs_if (vt_not (vt_of ((ve_any (by rfl) (by rfl) G.any (val_cons ((ve_v 1).vl) (val_nil))).vl) (by intro _; rfl))) (vss_one (vs_ret (ve_non))) (vss_nil)) (vss_cons (vs_tgt (ve_call H_lowest_terms (hr.mono (by decide)) hg takes_cx (by rfl) (va_cons (ve_call H_product_of (hr.mono (by decide)) hg takes_cx (by rfl) (va_cons (ve_v 1) (va_cons (ve_v 1) (va_nil)))) (va_cons (ve_call H_cross (hr.mono (by decide)) hg takes_cx (by rfl) (va_cons (ve_v 1) (va_cons (ve_sl ((ve_v 0).vl) (vo_no) (vo_so ((ve_int).vl))) (va_nil)))) (va_nil)))) (vg_tup (by rfl) (vgs_cons (vg_v 2 hN) (vgs_cons (vg_v 3 hN) (vgs_nil))))) (vss_cons (vs_st 4 hN (ve_gcd (by rfl) G.gcd (val_cons ((ve_ix ((ve_v 1).vl) ((ve_int).vl) (by intro _ _; rfl)).vl) (val_cons ((ve_gcd (by rfl) G.gcd (val_cons ((ve_ix ((ve_v 1).vl) ((ve_int).vl) (by intro _ _; rfl)).vl) (val_cons ((ve_ix ((ve_v 1).vl) ((ve_int).vl) (by intro _ _; rfl)).vl) (val_nil)))).vl) (val_nil))))) (vss_one (vs_ret (ve_tup (va_cons (ve_v 2) (va_cons (ve_v 3) (va_cons (ve_tuple (by rfl) G.tuple (val_cons (((vf_lc (own := [("number", 5)]) (by rfl) hN (vi_seq (ve_v 1)) (show BlkOk ["motion", "turning", "count", "numbers", "share", "number"] (defScope (top 32)) _ [("number", 5)] from ⟨rfl, by decide +kernel, by decide +kernel, by decide +kernel, by decide +kernel⟩) (by decide) (fun _ _ _ _ _ => vg_v 5 hN) (fun _ _ _ _ _ => ve_fdiv ((ve_v 5).vl) ((ve_v 4).vl))).ve).vl) (val_nil))) (va_nil)))))))))))
def f_pitch : SF := sSeq (sExpr (cA (ofN 3 F_need_row) (cCons (cV 0) (cCons (cK (.int 6)) (cCons (cK (.int 0)) (cNil)))))) (sSeq (sSet 1 (cSl (cV 0) (pSo (cK (.int 3))) (pNo))) (sSeq (sIf (cNotT (cT (cA (on1 (oTru fun ks => ks.any id)) (cCons (cV 1) (cNil))))) (sRet (cK .none)) (sNil)) (sSeq (sTgt (gTp (gCn (gN 2) (gCn (gN 3) (gNl)))) (cA (ofN 2 F_lowest_terms) (cCons (cA (ofN 2 F_product_of) (cCons (cV 1) (cCons (cV 1) (cNil)))) (cCons (cA oLst (cCons (cA (ofN 2 F_product_of) (cCons (cSl (cV 0) (pNo) (pSo (cK (.int 3)))) (cCons (cV 1) (cNil)))) (cNil))) (cNil))))) (sRet (cA oTup (cCons (c2 oIx (cV 3) (cK (.int 0))) (cCons (cV 2) (cNil))))))))
def F_pitch : List Val → R Val := fnR 4 f_pitch
theorem sc_pitch : FnScope ["motion", "turning", "count", "numbers"] ["motion"] (defScope (top 33)) := ⟨rfl, rfl, rfl, by decide +kernel, rfl, by decide +kernel, by decide +kernel⟩
theorem h_pitch {f : Addr} {fd : FuncData} (G : MG mg) {x : CD} (C : CG P K mg x)  (H_lowest_terms : Has P w K mg base 1 "lowest_terms" 2 F_lowest_terms) (H_need_row : Has P w K mg base 3 "need_row" 3 F_need_row) (H_product_of : Has P w K mg base 1 "product_of" 2 F_product_of) (D : FunD K "pitch" "pitch" (defArgs (top 33)) (defBody (top 33)) (defScope (top 33)) [] [] f fd) (hmg : mg "pitch" = some (.ref f)) : Has P w K mg base 4 "pitch" 1 F_pitch :=
  has_of (N := ["motion", "turning", "count", "numbers"]) (ps := ["motion"]) D sc_pitch rfl hmg (D.bindsN fun _ _ _ _ _ _ us hl => match us, hl with | [_], _ => rfl) fun cv A out s H E hr hg =>
    have hN := sc_pitch.nd
    vss_cons (vs_expr (ve_call H_need_row (hr.mono (by decide)) hg takes_cx (by rfl) (va_cons (ve_v 0) (va_cons (ve_int) (va_cons (ve_int) (va_nil)))))) (vss_cons (vs_st 1 hN (ve_sl ((ve_v 0).vl) (vo_so ((ve_int).vl)) (vo_no))) (vss_cons (vs_if (vt_not (vt_of ((ve_any (by rfl) (by rfl) G.any (val_cons ((ve_v 1).vl) (val_nil))).vl) (by intro _; rfl))) (vss_one (vs_ret (ve_non))) (vss_nil)) (vss_cons (vs_tgt (ve_call H_lowest_terms (hr.mono (by decide)) hg takes_cx (by rfl) (va_cons (ve_call H_product_of (hr.mono (by decide)) hg takes_cx (by rfl) (va_cons (ve_v 1) (va_cons (ve_v 1) (va_nil)))) (va_cons (ve_lst (va_cons (ve_call H_product_of (hr.mono (by decide)) hg takes_cx (by rfl) (va_cons (ve_sl ((ve_v 0).vl) (vo_no) (vo_so ((ve_int).vl))) (va_cons (ve_v 1) (va_nil)))) (va_nil))) (va_nil)))) (vg_tup (by rfl) (vgs_cons (vg_v 2 hN) (vgs_cons (vg_v 3 hN) (vgs_nil))))) (vss_one (vs_ret (ve_tup (va_cons (ve_ix ((ve_v 3).vl) ((ve_int).vl) (by intro _ _; rfl)) (va_cons (ve_v 2) (va_nil)))))))))
def f__law_three_bad : SF := sSeq (sSet 2 (cA (ofN 2 F__law_draw) (cCons (cV 0) (cCons (cK (.int 4)) (cNil))))) (sSeq (sIf (cOrT (cT (c2 (oEq false) (cV 2) (cK (.int 0)))) (cT (c2 (oEq false) (cA (on1 oLen) (cCons (cV 1) (cNil))) (cK (.int 0))))) (sRet (cA (ofN 2 F__law_of) (cCons (cV 0) (cCons (cA oLst (cCons (cK .none) (cCons (cA (on1 oList) (cCons (cV 1) (cNil))) (cCons (cK (.int 7)) (cCons (cK (.str "row")) (cCons (cK (.dict [])) (cNil))))))) (cNil))))) (sNil)) (sSeq (sIf (cT (c2 (oEq false) (cV 2) (cK (.int 1)))) (sRet (cA (ofN 2 F__law_of) (cCons (cV 0) (cCons (cA oLst (cCons (c2 oAdd (cV 1) (cA oTup (cCons (cK (.int 0)) (cNil)))) (cCons (cSl (cV 1) (pSo (cK (.int 1))) (pNo)) (cCons (c2 oAdd (cV 1) (cV 1)) (cNil))))) (cNil))))) (sNil)) (sSeq (sSet 3 (cA (ofN 2 F__law_draw) (cCons (cV 0) (cCons (cA (on1 oLen) (cCons (cV 1) (cNil))) (cNil))))) (sRet (c2 oAdd (c2 oAdd (cSl (cV 1) (pNo) (pSo (cV 3))) (cA oTup (cCons (cA (ofN 2 F__law_of) (cCons (cV 0) (cCons (cA oLst (cCons (cK .none) (cCons (cK (.bool true)) (cCons (cK (.bool false)) (cCons (cK (.str "1")) (cCons (cA oTup (cCons (cK (.int 1)) (cNil))) (cCons (cA oLst (cCons (cK (.int 1)) (cNil))) (cNil)))))))) (cNil)))) (cNil)))) (cSl (cV 1) (pSo (c2 oAdd (cV 3) (cK (.int 1)))) (pNo)))))))
def F__law_three_bad : List Val → R Val := fnR 4 f__law_three_bad
theorem sc__law_three_bad : FnScope ["m", "row", "pick", "spot"] ["m", "row"] (defScope (top 49)) := ⟨rfl, rfl, rfl, by decide +kernel, rfl, by decide +kernel, by decide +kernel⟩
theorem h__law_three_bad {f : Addr} {fd : FuncData} (G : MG mg) {x : CD} (C : CG P K mg x)  (H__law_draw : Has P w K mg base 2 "_law_draw" 2 F__law_draw) (H__law_of : Has P w K mg base 3 "_law_of" 2 F__law_of) (D : FunD K "_law_three_bad" "_law_three_bad" (defArgs (top 49)) (defBody (top 49)) (defScope (top 49)) [] [] f fd) (hmg : mg "_law_three_bad" = some (.ref f)) : Has P w K mg base 4 "_law_three_bad" 2 F__law_three_bad :=
  has_of (N := ["m", "row", "pick", "spot"]) (ps := ["m", "row"]) D sc__law_three_bad rfl hmg (D.bindsN fun _ _ _ _ _ _ us hl => match us, hl with | [_, _], _ => rfl) fun cv A out s H E hr hg =>
    have hN := sc__law_three_bad.nd
    vss_cons (vs_st 2 hN (ve_call H__law_draw (hr.mono (by decide)) hg takes_cx (by rfl) (va_cons (ve_v 0) (va_cons (ve_int) (va_nil))))) (vss_cons (vs_if (vt_w (vw_or (vt_cmp (ve_eq (un64 hr) ((ve_v 2).vl) ((ve_int).vl))) (vw_or1 (vt_cmp (ve_eq (un64 hr) ((ve_len (by rfl) G.len (val_cons ((ve_v 1).vl) (val_nil))).vl) ((ve_int).vl)))))) (vss_one (vs_ret (ve_call H__law_of (hr.mono (by decide)) hg takes_cx (by rfl) (va_cons (ve_v 0) (va_cons (ve_lst (va_cons (ve_non) (va_cons (ve_list (by rfl) G.list (val_cons ((ve_v 1).vl) (val_nil))) (va_cons (ve_int) (va_cons (ve_str) (va_cons (ve_dic) (va_nil))))))) (va_nil)))))) (vss_nil)) (vss_cons (vs_if (vt_cmp (ve_eq (un64 hr) ((ve_v 2).vl) ((ve_int).vl))) (vss_one (vs_ret (ve_call H__law_of (hr.mono (by decide)) hg takes_cx (by rfl) (va_cons (ve_v 0) (va_cons (ve_lst (va_cons (ve_add ((ve_v 1).vl) ((ve_tup (va_cons (ve_int) (va_nil))).vl)) (va_cons (ve_sl ((ve_v 1).vl) (vo_so ((ve_int).vl)) (vo_no)) (va_cons (ve_add ((ve_v 1).vl) ((ve_v 1).vl)) (va_nil))))) (va_nil)))))) (vss_nil)) (vss_cons (vs_st 3 hN (ve_call H__law_draw (hr.mono (by decide)) hg takes_cx (by rfl) (va_cons (ve_v 0) (va_cons (ve_len (by rfl) G.len (val_cons ((ve_v 1).vl) (val_nil))) (va_nil))))) (vss_one (vs_ret (ve_add ((ve_add ((ve_sl ((ve_v 1).vl) (vo_no) (vo_so ((ve_v 3).vl))).vl) ((ve_tup (va_cons (ve_call H__law_of (hr.mono (by decide)) hg takes_cx (by rfl) (va_cons (ve_v 0) (va_cons (ve_lst (va_cons (ve_non) (va_cons (ve_bl) (va_cons (ve_bl) (va_cons (ve_str) (va_cons (ve_tup (va_cons (ve_int) (va_nil))) (va_cons (ve_lst (va_cons (ve_int) (va_nil))) (va_nil)))))))) (va_nil)))) (va_nil))).vl)).vl) ((ve_sl ((ve_v 1).vl) (vo_so ((ve_add ((ve_v 3).vl) ((ve_int).vl)).vl)) (vo_no)).vl)))))))
def f__law_motion : SF := sSeq (sTgt (gTp (gCn (gN 1) (gCn (gN 2) (gNl)))) (cA oTup (cCons (cA (ofN 2 F__law_of) (cCons (cV 0) (cCons (cA oLst (cCons (cK (.int 1)) (cCons (cK (.int 3)) (cCons (cK (.int 1000)) (cCons (c2 (oI gPow fun i j => i ^ j.toNat) (cK (.int 10)) (cK (.int 9))) (cNil)))))) (cNil)))) (cCons (cA (ofN 2 F__law_draw) (cCons (cV 0) (cCons (cK (.int 4)) (cNil)))) (cNil))))) (sSeq (sSet 3 (cA (on1 oTuple) (cCons (cLc [7] (cAI iRange1 (cCons (cK (.int 3)) (cNil))) (gN 7) (fun _ => pure true) (cA (ofN 2 F__law_three_number) (cCons (cV 0) (cCons (cV 1) (cNil))))) (cNil)))) (sSeq (sIf (cT (c2 (oEq false) (cV 2) (cK (.int 0)))) (sRet (c2 oAdd (cV 3) (cA oTup (cCons (cK (.int 0)) (cCons (cK (.int 0)) (cCons (cK (.int 0)) (cNil))))))) (sNil)) (sSeq (sIf (cT (c2 (oEq false) (cV 2) (cK (.int 1)))) (sSeq (sPar 4 5 (cCons (cA (ofN 3 F__law_four_place) (cCons (cV 0) (cCons (cK (.int 6)) (cCons (cV 1) (cNil))))) (cCons (cA (ofN 2 F__law_three_number) (cCons (cV 0) (cCons (cK (.int 3)) (cNil)))) (cNil)))) (sRet (c2 oAdd (cA (ofN 3 F__law_three_plus) (cCons (cA (ofN 2 F__law_three_cross) (cCons (cV 4) (cCons (cV 3) (cNil)))) (cCons (cV 5) (cCons (cV 3) (cNil))))) (cV 3)))) (sNil)) (sSeq (sIf (cT (c2 (oEq false) (cV 2) (cK (.int 2)))) (sSeq (sSet 6 (c2 oAdd (cK (.int 2)) (cA (ofN 2 F__law_draw) (cCons (cV 0) (cCons (cK (.int 5)) (cNil)))))) (sRet (c2 oAdd (cA (on1 oTuple) (cCons (cLc [7] (cAI iRange1 (cCons (cK (.int 3)) (cNil))) (gN 7) (fun _ => pure true) (cA (ofN 2 F__law_three_number) (cCons (cV 0) (cCons (cV 1) (cNil))))) (cNil))) (cA (on1 oTuple) (cCons (cLc [8] (iSeq (cV 3)) (gN 8) (fun _ => pure true) (c2 oMul (cV 6) (cV 8))) (cNil)))))) (sNil)) (sRet (c2 oAdd (cA (on1 oTuple) (cCons (cLc [7] (cAI iRange1 (cCons (cK (.int 3)) (cNil))) (gN 7) (fun _ => pure true) (cA (ofN 2 F__law_three_number) (cCons (cV 0) (cCons (cV 1) (cNil))))) (cNil))) (cV 3)))))))
def F__law_motion : List Val → R Val := fnR 9 f__law_motion
theorem sc__law_motion : FnScope ["m", "most", "pick", "turning", "start", "along", "share", "turn", "number"] ["m"] (defScope (top 50)) := ⟨rfl, rfl, rfl, by decide +kernel, rfl, by decide +kernel, by decide +kernel⟩
theorem h__law_motion {f : Addr} {fd : FuncData} (G : MG mg) {x : CD} (C : CG P K mg x)  (H__law_draw : Has P w K mg base 2 "_law_draw" 2 F__law_draw) (H__law_four_place : Has P w K mg base 3 "_law_four_place" 3 F__law_four_place) (H__law_of : Has P w K mg base 3 "_law_of" 2 F__law_of) (H__law_three_cross : Has P w K mg base 1 "_law_three_cross" 2 F__law_three_cross) (H__law_three_number : Has P w K mg base 3 "_law_three_number" 2 F__law_three_number) (H__law_three_plus : Has P w K mg base 1 "_law_three_plus" 3 F__law_three_plus) (D : FunD K "_law_motion" "_law_motion" (defArgs (top 50)) (defBody (top 50)) (defScope (top 50)) [] [] f fd) (hmg : mg "_law_motion" = some (.ref f)) : Has P w K mg base 4 "_law_motion" 1 F__law_motion :=
  has_of (N := ["m", "most", "pick", "turning", "start", "along", "share", "turn", "number"]) (ps := ["m"]) D sc__law_motion rfl hmg (D.bindsN fun _ _ _ _ _ _ us hl => match us, hl with | [_], _ => rfl) fun cv A out s H E hr hg =>
    have hN := sc__law_motion.nd
    vss_cons (vs_tgt (ve_tup (va_cons (ve_call H__law_of (hr.mono (by decide)) hg takes_cx (by rfl) (va_cons (ve_v 0) (va_cons (ve_lst (va_cons (ve_int) (va_cons (ve_int) (va_cons (ve_int) (va_cons (ve_pow ((ve_int).vl) ((ve_int).vl)) (va_nil)))))) (va_nil)))) (va_cons (ve_call H__law_draw (hr.mono (by decide)) hg takes_cx (by rfl) (va_cons (ve_v 0) (va_cons (ve_int) (va_nil)))) (va_nil)))) (vg_tup (by rfl) (vgs_cons (vg_v 1 hN) (vgs_cons (vg_v 2 hN) (vgs_nil))))) (vss_cons (vs_st 3 hN (ve_tuple (by rfl) G.tuple (val_cons (((vf_lc (own := [("turn", 7)]) (by rfl) hN (vi_range1 (by rfl) G.range (val_cons ((ve_int).vl) (val_nil))) (show BlkOk ["m", "most", "pick", "turning", "start", "along", "share", "turn", "number"] (defScope (top 50)) _ [("turn", 7)] from ⟨rfl, by decide +kernel, by decide +kernel, by decide +kernel, by decide +kernel⟩) (by decide) (fun _ _ _ _ _ => vg_v 7 hN) (fun _ _ _ _ _ => ve_call H__law_three_number (hr.mono (by decide)) hg tk0 (by rfl) (va_cons (ve_v 0) (va_cons (ve_v 1) (va_nil))))).ve).vl) (val_nil)))) (vss_cons (vs_if (vt_cmp (ve_eq (un64 hr) ((ve_v 2).vl) ((ve_int).vl))) (vss_one (vs_ret (ve_add ((ve_v 3).vl) ((ve_tup (va_cons (ve_int) (va_cons (ve_int) (va_cons (ve_int) (va_nil))))).vl)))) (vss_nil)) (vss_cons (vs_if (vt_cmp (ve_eq (un64 hr) ((ve_v 2).vl) ((ve_int).vl))) (vss_cons (vs_par (i := 4) (j := 5) (by rfl) hN (by rfl) (by rfl) (by decide) (by rfl) (by rfl) (va_cons (ve_call H__law_four_place (hr.mono (by decide)) hg takes_cx (by rfl) (va_cons (ve_v 0) (va_cons (ve_int) (va_cons (ve_v 1) (va_nil))))) (va_cons (ve_call H__law_three_number (hr.mono (by decide)) hg takes_cx (by rfl) (va_cons (ve_v 0) (va_cons (ve_int) (va_nil)))) (va_nil))) (by rfl)) (vss_one (vs_ret (ve_add ((ve_call H__law_three_plus (hr.mono (by decide)) hg takes_cx (by rfl) (va_cons (ve_call H__law_three_cross (hr.mono (by decide)) hg takes_cx (by rfl) (va_cons (ve_v 4) (va_cons (ve_v 3) (va_nil)))) (va_cons (ve_v 5) (va_cons (ve_v 3) (va_nil))))).vl) ((ve_v 3).vl))))) (vss_nil)) (vss_cons (vs_if (vt_cmp (ve_eq (un64 hr) ((ve_v 2).vl) ((ve_int).vl))) (vss_cons (vs_st 6 hN (ve_add ((ve_int).vl) ((ve_call H__law_draw (hr.mono (by decide)) hg takes_cx (by rfl) (va_cons (ve_v 0) (va_cons (ve_int) (va_nil)))).vl))) (vss_one (vs_ret (ve_add ((ve_tuple (by rfl) G.tuple (val_cons (((vf_lc (own := [("turn", 7)]) (by rfl) hN (vi_range1 (by rfl) G.range (val_cons ((ve_int).vl) (val_nil))) (show BlkOk ["m", "most", "pick", "turning", "start", "along", "share", "turn", "number"] (defScope (top 50)) _ [("turn", 7)] from ⟨rfl, by decide +kernel, by decide +kernel, by decide +kernel, by decide +kernel⟩) (by decide) (fun _ _ _ _ _ => vg_v 7 hN) (fun _ _ _ _ _ => ve_call H__law_three_number (hr.mono (by decide)) hg tk0 (by rfl) (va_cons (ve_v 0) (va_cons (ve_v 1) (va_nil))))).ve).vl) (val_nil))).vl) ((ve_tuple (by rfl) G.tuple (val_cons (((vf_lc (own := [("number", 8)]) (by rfl) hN (vi_seq (ve_v 3)) (show BlkOk ["m", "most", "pick", "turning", "start", "along", "share", "turn", "number"] (defScope (top 50)) _ [("number", 8)] from ⟨rfl, by decide +kernel, by decide +kernel, by decide +kernel, by decide +kernel⟩) (by decide) (fun _ _ _ _ _ => vg_v 8 hN) (fun _ _ _ _ _ => ve_mul ((ve_v 6).vl) ((ve_v 8).vl))).ve).vl) (val_nil))).vl))))) (vss_nil)) (vss_one (vs_ret (ve_add ((ve_tuple (by rfl) G.tuple (val_cons (((vf_lc (own := [("turn", 7)]) (by rfl) hN (vi_range1 (by rfl) G.range (val_cons ((ve_int).vl) (val_nil))) (show BlkOk ["m", "most", "pick", "turning", "start", "along", "share", "turn", "number"] (defScope (top 50)) _ [("turn", 7)] from ⟨rfl, by decide +kernel, by decide +kernel, by decide +kernel, by decide +kernel⟩) (by decide) (fun _ _ _ _ _ => vg_v 7 hN) (fun _ _ _ _ _ => ve_call H__law_three_number (hr.mono (by decide)) hg tk0 (by rfl) (va_cons (ve_v 0) (va_cons (ve_v 1) (va_nil))))).ve).vl) (val_nil))).vl) ((ve_v 3).vl))))))))
def f_need_place : SF := sSeq (sExpr (cA (ofN 1 F_need_space) (cCons (cV 0) (cNil)))) (sRet (cA (ofN 3 F_checked_place) (cCons (cV 0) (cCons (cV 1) (cCons (c1 oNeg (cK (.int 1))) (cNil))))))
def F_need_place : List Val → R Val := fnR 2 f_need_place
theorem sc_need_place : FnScope ["dimension", "place"] ["dimension", "place"] (defScope (top 26)) := ⟨rfl, rfl, rfl, by decide +kernel, rfl, by decide +kernel, by decide +kernel⟩
theorem h_need_place {f : Addr} {fd : FuncData} (G : MG mg) {x : CD} (C : CG P K mg x)  (H_checked_place : Has P w K mg base 4 "checked_place" 3 F_checked_place) (H_need_space : Has P w K mg base 4 "need_space" 1 F_need_space) (D : FunD K "need_place" "need_place" (defArgs (top 26)) (defBody (top 26)) (defScope (top 26)) [] [] f fd) (hmg : mg "need_place" = some (.ref f)) : Has P w K mg base 5 "need_place" 2 F_need_place :=
  has_of (N := ["dimension", "place"]) (ps := ["dimension", "place"]) D sc_need_place rfl hmg (D.bindsN fun _ _ _ _ _ _ us hl => match us, hl with | [_, _], _ => rfl) fun cv A out s H E hr hg =>
    have hN := sc_need_place.nd
    vss_cons (vs_expr (ve_call H_need_space (hr.mono (by decide)) hg takes_cx (by rfl) (va_cons (ve_v 0) (va_nil)))) (vss_one (vs_ret (ve_call H_checked_place (hr.mono (by decide)) hg takes_cx (by rfl) (va_cons (ve_v 0) (va_cons (ve_v 1) (va_cons (ve_neg ((ve_int).vl)) (va_nil)))))))
def f_velocity : SF := sSeq (sExpr (cA (ofN 1 F_need_space) (cCons (cV 0) (cNil)))) (sSeq (sExpr (cA (ofN 3 F_need_row) (cCons (cV 1) (cCons (cV 0) (cCons (cK (.int 0)) (cNil)))))) (sSeq (sExpr (cA (ofN 2 F_need_place) (cCons (cV 0) (cCons (cV 2) (cNil))))) (sSeq (sIf (cT (c2 (oEq false) (cV 0) (cK (.int 3)))) (sRet (cA oTup (cCons (c2 oSub (c2 oIx (cV 1) (cK (.int 0))) (c2 oMul (c2 oIx (cV 1) (cK (.int 2))) (c2 oIx (cV 2) (cK (.int 1))))) (cCons (c2 oAdd (c2 oIx (cV 1) (cK (.int 1))) (c2 oMul (c2 oIx (cV 1) (cK (.int 2))) (c2 oIx (cV 2) (cK (.int 0))))) (cNil))))) (sNil)) (sRet (cA (on1 oTuple) (cCons (cLc [3, 4] (cAI iZipV (cCons (cSl (cV 1) (pNo) (pSo (cK (.int 3)))) (cCons (cA (ofN 2 F_cross) (cCons (cSl (cV 1) (pSo (cK (.int 3))) (pNo)) (cCons (cV 2) (cNil)))) (cNil)))) (gTp (gCn (gN 3) (gCn (gN 4) (gNl)))) (fun _ => pure true) (c2 oAdd (cV 3) (cV 4))) (cNil)))))))
def F_velocity : List Val → R Val := fnR 5 f_velocity
theorem sc_velocity : FnScope ["dimension", "motion", "place", "one", "two"] ["dimension", "motion", "place"] (defScope (top 31)) := ⟨rfl, rfl, rfl, by decide +kernel, rfl, by decide +kernel, by decide +kernel⟩
theorem h_velocity {f : Addr} {fd : FuncData} (G : MG mg) {x : CD} (C : CG P K mg x)  (H_cross : Has P w K mg base 1 "cross" 2 F_cross) (H_need_place : Has P w K mg base 5 "need_place" 2 F_need_place) (H_need_row : Has P w K mg base 3 "need_row" 3 F_need_row) (H_need_space : Has P w K mg base 4 "need_space" 1 F_need_space) (D : FunD K "velocity" "velocity" (defArgs (top 31)) (defBody (top 31)) (defScope (top 31)) [] [] f fd) (hmg : mg "velocity" = some (.ref f)) : Has P w K mg base 6 "velocity" 3 F_velocity :=
  has_of (N := ["dimension", "motion", "place", "one", "two"]) (ps := ["dimension", "motion", "place"]) D sc_velocity rfl hmg (D.bindsN fun _ _ _ _ _ _ us hl => match us, hl with | [_, _, _], _ => rfl) fun cv A out s H E hr hg =>
    have hN := sc_velocity.nd
    vss_cons (vs_expr (ve_call H_need_space (hr.mono (by decide)) hg takes_cx (by rfl) (va_cons (ve_v 0) (va_nil)))) (vss_cons (vs_expr (ve_call H_need_row (hr.mono (by decide)) hg takes_cx (by rfl) (va_cons (ve_v 1) (va_cons (ve_v 0) (va_cons (ve_int) (va_nil)))))) (vss_cons (vs_expr (ve_call H_need_place (hr.mono (by decide)) hg takes_cx (by rfl) (va_cons (ve_v 0) (va_cons (ve_v 2) (va_nil))))) (vss_cons (vs_if (vt_cmp (ve_eq (un64 hr) ((ve_v 0).vl) ((ve_int).vl))) (vss_one (vs_ret (ve_tup (va_cons (ve_sub ((ve_ix ((ve_v 1).vl) ((ve_int).vl) (by intro _ _; rfl)).vl) ((ve_mul ((ve_ix ((ve_v 1).vl) ((ve_int).vl) (by intro _ _; rfl)).vl) ((ve_ix ((ve_v 2).vl) ((ve_int).vl) (by intro _ _; rfl)).vl)).vl)) (va_cons (ve_add ((ve_ix ((ve_v 1).vl) ((ve_int).vl) (by intro _ _; rfl)).vl) ((ve_mul ((ve_ix ((ve_v 1).vl) ((ve_int).vl) (by intro _ _; rfl)).vl) ((ve_ix ((ve_v 2).vl) ((ve_int).vl) (by intro _ _; rfl)).vl)).vl)) (va_nil)))))) (vss_nil)) (vss_one (vs_ret (ve_tuple (by rfl) G.tuple (val_cons (((vf_lc (own := [("one", 3), ("two", 4)]) (by rfl) hN (vi_zip (by rfl) G.zip (va_cons (ve_sl ((ve_v 1).vl) (vo_no) (vo_so ((ve_int).vl))) (va_cons (ve_call H_cross (hr.mono (by decide)) hg takes_cx (by rfl) (va_cons (ve_sl ((ve_v 1).vl) (vo_so ((ve_int).vl)) (vo_no)) (va_cons (ve_v 2) (va_nil)))) (va_nil)))) (show BlkOk ["dimension", "motion", "place", "one", "two"] (defScope (top 31)) _ [("one", 3), ("two", 4)] from ⟨rfl, by decide +kernel, by decide +kernel, by decide +kernel, by decide +kernel⟩) (by decide) (fun _ _ _ _ _ => vg_tup (by rfl) (vgs_cons (vg_v 3 hN) (vgs_cons (vg_v 4 hN) (vgs_nil)))) (fun _ _ _ _ _ => ve_add ((ve_v 3).vl) ((ve_v 4).vl))).ve).vl) (val_nil))))))))
def f__law_beside_right : SF := sSeq (sSet 3 (cSl (cV 1) (pSo (cK (.int 3))) (pNo))) (sSeq (sFor (cAI iRange1 (cCons (cK (.int 3)) (cNil))) (gN 4) (sSeq (sSet 5 (cA (ofN 3 F__law_four_place) (cCons (cV 0) (cCons (cK (.int 6)) (cCons (cA (ofN 2 F__law_of) (cCons (cV 0) (cCons (cA oLst (cCons (cK (.int 1)) (cCons (cK (.int 5)) (cCons (c2 (oI gPow fun i j => i ^ j.toNat) (cK (.int 10)) (cK (.int 6))) (cNil))))) (cNil)))) (cNil)))))) (sSeq (sSet 6 (cA (ofN 3 F_velocity) (cCons (cK (.int 6)) (cCons (cV 1) (cCons (cV 5) (cNil)))))) (sSeq (sIf (cNotT (cT (cA (ofN 2 F__law_like) (cCons (cV 6) (cCons (cA (ofN 3 F__law_scaled) (cCons (cV 1) (cCons (cK (.int 1)) (cCons (cV 5) (cNil))))) (cNil)))))) (sRet (cK (.bool false))) (sNil)) (sSeq (sSet 7 (c2 (oEq false) (cA (ofN 2 F__law_three_cross) (cCons (cV 3) (cCons (cV 6) (cNil)))) (cA oTup (cCons (cK (.int 0)) (cCons (cK (.int 0)) (cCons (cK (.int 0)) (cNil))))))) (sSeq (sSet 8 (c2 oSub (c2 oMul (c2 (oI gPow fun i j => i ^ j.toNat) (c2 oIx (cV 2) (cK (.int 1))) (cK (.int 2))) (cA (ofN 2 F__law_three_dot) (cCons (cV 6) (cCons (cV 6) (cNil))))) (c2 oMul (c2 (oI gPow fun i j => i ^ j.toNat) (c2 oIx (cV 2) (cK (.int 0))) (cK (.int 2))) (cA (ofN 2 F__law_three_dot) (cCons (cV 3) (cCons (cV 3) (cNil))))))) (sIf (cOrT (cT (c2 (oCmp fun i j => decide (i < j)) (cV 8) (cK (.int 0)))) (cT (c2 (oEq true) (c2 (oEq false) (cV 8) (cK (.int 0))) (cV 7)))) (sRet (cK (.bool false))) (sNil)))))))) (sRet (cK (.bool true))))
def F__law_beside_right : List Val → R Val := fnR 9 f__law_beside_right
theorem sc__law_beside_right : FnScope ["m", "motion", "told", "turning", "turn", "place", "fast", "is_on", "more"] ["m", "motion", "told"] (defScope (top 53)) := ⟨rfl, rfl, rfl, by decide +kernel, rfl, by decide +kernel, by decide +kernel⟩
theorem h__law_beside_right {f : Addr} {fd : FuncData} (G : MG mg) {x : CD} (C : CG P K mg x)  (H__law_four_place : Has P w K mg base 3 "_law_four_place" 3 F__law_four_place) (H__law_like : Has P w K mg base 1 "_law_like" 2 F__law_like) (H__law_of : Has P w K mg base 3 "_law_of" 2 F__law_of) (H__law_scaled : Has P w K mg base 2 "_law_scaled" 3 F__law_scaled) (H__law_three_cross : Has P w K mg base 1 "_law_three_cross" 2 F__law_three_cross) (H__law_three_dot : Has P w K mg base 1 "_law_three_dot" 2 F__law_three_dot) (H_velocity : Has P w K mg base 6 "velocity" 3 F_velocity) (D : FunD K "_law_beside_right" "_law_beside_right" (defArgs (top 53)) (defBody (top 53)) (defScope (top 53)) [] [] f fd) (hmg : mg "_law_beside_right" = some (.ref f)) : Has P w K mg base 7 "_law_beside_right" 3 F__law_beside_right :=
  has_of (N := ["m", "motion", "told", "turning", "turn", "place", "fast", "is_on", "more"]) (ps := ["m", "motion", "told"]) D sc__law_beside_right rfl hmg (D.bindsN fun _ _ _ _ _ _ us hl => match us, hl with | [_, _, _], _ => rfl) fun cv A out s H E hr hg =>
    have hN := sc__law_beside_right.nd
    vss_cons (vs_st 3 hN (ve_sl ((ve_v 1).vl) (vo_so ((ve_int).vl)) (vo_no))) (vss_cons (vs_for passes_cx (by rfl) (vi_range1 (by rfl) G.range (val_cons ((ve_int).vl) (val_nil))) (vg_v 4 hN) (vss_cons (vs_st 5 hN (ve_call H__law_four_place (hr.mono (by decide)) hg takes_cx (by rfl) (va_cons (ve_v 0) (va_cons (ve_int) (va_cons (ve_call H__law_of (hr.mono (by decide)) hg takes_cx (by rfl) (va_cons (ve_v 0) (va_cons (ve_lst (va_cons (ve_int) (va_cons (ve_int) (va_cons (ve_pow ((ve_int).vl) ((ve_int).vl)) (va_nil))))) (va_nil)))) (va_nil)))))) (vss_cons (vs_st 6 hN (ve_call H_velocity (hr.mono (by decide)) hg takes_cx (by rfl) (va_cons (ve_int) (va_cons (ve_v 1) (va_cons (ve_v 5) (va_nil)))))) (vss_cons (vs_if (vt_not (vt_of ((ve_call H__law_like (hr.mono (by decide)) hg takes_cx (by rfl) (va_cons (ve_v 6) (va_cons (ve_call H__law_scaled (hr.mono (by decide)) hg takes_cx (by rfl) (va_cons (ve_v 1) (va_cons (ve_int) (va_cons (ve_v 5) (va_nil))))) (va_nil)))).vl) (by intro _; rfl))) (vss_one (vs_ret (ve_bl))) (vss_nil)) (vss_cons (vs_st 7 hN (ve_eq (un64 hr) ((ve_call H__law_three_cross (hr.mono (by decide)) hg takes_cx (by rfl) (va_cons (ve_v 3) (va_cons (ve_v 6) (va_nil)))).vl) ((ve_tup (va_cons (ve_int) (va_cons (ve_int) (va_cons (ve_int) (va_nil))))).vl))) (vss_cons (vs_st 8 hN (ve_sub ((ve_mul ((ve_pow ((ve_ix ((ve_v 2).vl) ((ve_int).vl) (by intro _ _; rfl)).vl) ((ve_int).vl)).vl) ((ve_call H__law_three_dot (hr.mono (by decide)) hg takes_cx (by rfl) (va_cons (ve_v 6) (va_cons (ve_v 6) (va_nil)))).vl)).vl) ((ve_mul ((ve_pow ((ve_ix ((ve_v 2).vl) ((ve_int).vl) (by intro _ _; rfl)).vl) ((ve_int).vl)).vl) ((ve_call H__law_three_dot (hr.mono (by decide)) hg takes_cx (by rfl) (va_cons (ve_v 3) (va_cons (ve_v 3) (va_nil)))).vl)).vl))) (vss_one (vs_if (vt_w (vw_or (vt_cmp (ve_lt ((ve_v 8).vl) ((ve_int).vl))) (vw_or1 (vt_cmp (ve_ne (un64 hr) ((ve_eq (un64 hr) ((ve_v 8).vl) ((ve_int).vl)).vl) ((ve_v 7).vl)))))) (vss_one (vs_ret (ve_bl))) (vss_nil))))))))) (vss_one (vs_ret (ve_bl))))
end
end K21
end

section
set_option Elab.async false
set_option linter.all false
set_option maxRecDepth 100000
set_option maxHeartbeats 4000000
namespace K21
open PySem PySem.Spec PyProof.Rows L2 BB
section
variable {P : Program} {w : World} {K : PySem.W.Frag} {mg : Str → Option Value} {base : Heap}
def hit_R : Str → Option Bool := fun c => if c = "BadRow" then some true else none
def fh_R : Str → List (Str × Val) → SF := fun c flds ρ => if 3 < ρ.length then (match flds.lookup ("index" : Str) with
  | some v => pure (.nx ((ρ.set 2 (.val (.tuple [v, .bool true]))).set 3 .un))
  | none => R.stk) else R.stk
def f__law_heard : SF := sSeq (sSet 2 (cK (.str "nothing"))) (sSeq (sTryAs hit_R (sIf (cT (c2 (oEq false) (cV 0) (cK (.int 0)))) (sExpr (cA (ofN 1 F_axis) (cCons (cV 1) cNil))) (sExpr (cA (ofN 1 F_pitch) (cCons (cV 1) cNil)))) fh_R) (sRet (cV 2)))
def F__law_heard : List Val → R Val := fnR 4 f__law_heard
theorem sc__law_heard : FnScope ["kind", "motion", "told", "e"] ["kind", "motion"] (defScope (top 54)) := ⟨rfl, rfl, rfl, by decide +kernel, rfl, by decide +kernel, by decide +kernel⟩
theorem fh_ok {x : CD} (C : CG P K mg x) (a : Addr) (C' : Addr) (d : Option Addr) (c : Str) (flds : List (Str × Val)) (ρ : BB.Env) (o : Om) (hm : mg c = some (.ref C')) (hh : hit_R c = some true) :
    SO.less 3 (sSet 2 (cA oTup (cCons (cXf 3 a (.ref C') d [x.C] "index") (cCons (cIsx 3 a (.ref C') d [(x.C, true)]) cNil))) (ρ.set 3 (.exn a (.ref C') d c flds)) o) = fh_R c flds ρ o := by
  unfold hit_R at hh
  by_cases hc : c = "BadRow"
  · subst hc
    rw [C.br.gC] at hm
    cases hm
    unfold fh_R
    by_cases hl : 3 < ρ.length
    · rw [if_pos hl]
      have e1 : isX a (.ref x.C) d (ρ.set 3 (.exn a (.ref x.C) d "BadRow" flds))[3]? = some (("BadRow" : Str), flds) := by
        rw [List.getElem?_set_self hl]
        simp [isX]
      have e2 : cXf 3 a (.ref x.C) d [x.C] "index" (ρ.set 3 (.exn a (.ref x.C) d "BadRow" flds)) o = (match flds.lookup ("index" : Str) with | some v => pure v | none => R.stk : R Val) o := by
        unfold cXf
        rw [e1]
        simp only [List.map_cons, List.map_nil, List.mem_cons, List.not_mem_nil, or_false, if_true]
        all_goals (cases flds.lookup ("index" : Str) <;> rfl)
      have e3 : cIsx 3 a (.ref x.C) d [(x.C, true)] (ρ.set 3 (.exn a (.ref x.C) d "BadRow" flds)) o = .ok (.bool true) o := by
        unfold cIsx
        rw [e1]
        simp [pureE]
      unfold sSet liftE cA cCons cNil
      simp only [bindE, e2]
      cases hlk : flds.lookup ("index" : Str) with
      | none => rfl
      | some v =>
        simp only [pureE, Out.bind, bindE, e3, oTup, List.length_cons, List.length_nil]
        simp only [show (0 + 1 + 1 ≤ LIM) = True from by simp [LIM], if_true, pureE, SO.less]
        congr 1
        congr 1
        rw [List.set_comm _ _ (by decide), List.set_set]
        exact List.set_comm _ _ (by decide)
    · rw [if_neg hl]
      have e1 : isX a (.ref x.C) d (ρ.set 3 (.exn a (.ref x.C) d "BadRow" flds))[3]? = none := by
        rw [List.getElem?_eq_none (by rw [List.length_set]; omega)]
        rfl
      unfold sSet liftE cA cCons cXf
      simp only [bindE, e1]
      rfl
  · rw [if_neg hc] at hh
    cases hh
theorem h__law_heard {f : Addr} {fd : FuncData} (G : MG mg) {x : CD} (C : CG P K mg x)  (H_axis : Has P w K mg base 4 "axis" 1 F_axis) (H_pitch : Has P w K mg base 4 "pitch" 1 F_pitch) (D : FunD K "_law_heard" "_law_heard" (defArgs (top 54)) (defBody (top 54)) (defScope (top 54)) [] [] f fd) (hmg : mg "_law_heard" = some (.ref f)) : Has P w K mg base 5 "_law_heard" 2 F__law_heard :=
  has_of (N := ["kind", "motion", "told", "e"]) (ps := ["kind", "motion"]) D sc__law_heard rfl hmg (D.bindsN fun _ _ _ _ _ _ us hl => match us, hl with | [_, _], _ => rfl) fun cv A out s H E hr hg =>
    have hN := sc__law_heard.nd
    vss_cons (vs_st 2 hN ve_str) (vss_cons (vs_try_as (i := 3) (cv := .ref x.C) (fs := fun a cls d => sSet 2 (cA oTup (cCons (cXf 3 a cls d [x.C] "index") (cCons (cIsx 3 a cls d [(x.C, true)]) cNil))))
      (by rfl) (by rfl) hN (by rfl) (by rfl) ⟨by rfl, by decide, .inl C.br.gC⟩ takes_cx
      (fun W' pn xe tk hp => vss_one (vs_if (vt_cmp (ve_eq (un64 hr) ((ve_v 0).vl) (ve_int.vl))) (vss_one (vs_expr (ve_call H_axis (hr.mono (by decide)) hg tk (by rfl) (va_cons (ve_v 1) va_nil)))) (vss_one (vs_expr (ve_call H_pitch (hr.mono (by decide)) hg tk (by rfl) (va_cons (ve_v 1) va_nil))))))
      (fun a oe cls d pn hz hf => vss_one (vs_st 2 hN (ve_tup (va_cons (ve_xf (CL := [x.C]) C.xf hz hf pvv) (va_cons (ve_isx (tab := [(x.C, true)]) C.isx hz hf (by rfl) G.isi pvv (pe_glob (by rfl) C.be (by rfl))) va_nil)))))
      (fun c b C' hh hm => by
        unfold hit_R at hh
        by_cases hc : c = "BadRow"
        · subst hc
          rw [if_pos rfl] at hh
          cases hh
          have e := C.br.gC.symm.trans hm
          cases e
          exact C.exm
        · rw [if_neg hc] at hh; cases hh)
      (fun a C' d c flds ρ o hm hh => fh_ok C a C' d c flds ρ o hm hh)) (vss_one (vs_ret (ve_v 2))))
end
end K21
end

section
set_option Elab.async false
set_option linter.all false
set_option maxRecDepth 100000
set_option maxHeartbeats 4000000
namespace K21
open PySem PySem.Spec PyProof.Rows L2 BB
abbrev drO (c g : Addr) (sp : Int) : HO := .dK [(.inr "cells", .ref c), (.inr "great", .ref g), (.inr "spot", .int sp)]
theorem put_spot (c g : Addr) (s t : Int) : putK [((.inr "cells" : Key), V.ref c), (.inr "great", .ref g), (.inr "spot", .int s)] (.inr "spot") (.int t) = [(.inr "cells", .ref c), (.inr "great", .ref g), (.inr "spot", .int t)] := by with_unfolding_all rfl
theorem at_spot (c g : Addr) (s : Int) : valV [((.inr "cells" : Key), V.ref c), (.inr "great", .ref g), (.inr "spot", .int s)] (.inr "spot") = some (.int s) := by with_unfolding_all rfl
theorem at_cells (c g : Addr) (s : Int) : valV [((.inr "cells" : Key), V.ref c), (.inr "great", .ref g), (.inr "spot", .int s)] (.inr "cells") = some (.ref c) := by with_unfolding_all rfl
theorem at_great (c g : Addr) (s : Int) : valV [((.inr "cells" : Key), V.ref c), (.inr "great", .ref g), (.inr "spot", .int s)] (.inr "great") = some (.ref g) := by with_unfolding_all rfl
theorem put_great (c g g' : Addr) (s : Int) : putK [((.inr "cells" : Key), V.ref c), (.inr "great", .ref g), (.inr "spot", .int s)] (.inr "great") (.ref g') = [(.inr "cells", .ref c), (.inr "great", .ref g'), (.inr "spot", .int s)] := by with_unfolding_all rfl
theorem sc__law_draw : FnScope ["m", "limit", "n", "lot", "here", "cell"] ["m", "limit"] (defScope (top 37)) := ⟨rfl, rfl, rfl, by decide +kernel, rfl, by decide +kernel, by decide +kernel⟩
/-- what the mirrors are made of -/
theorem okB {α β : Type} (a : α) (o : Om) (f : α → R β) : (Out.ok a o).bind f = f a o := rfl
theorem mixed_val {c n : Int} (hc : Bd 100 c) (hn : Bd 64 n) (o : Om) : F__law_mixed [.int c, .int n] o = .ok (.int (mixI c n)) o := by
  have b1 : Bd 66 (2 * n) := (Bd.mul (k := 2) (bd_lit (k := 2) (a := 2)) hn).mono (by decide)
  have b2 : Bd 67 (1 + 2 * n) := Bd.add (bd_lit (k := 66) (a := 1)) b1
  have b3 : Bd 167 (c * (1 + 2 * n)) := hc.mul b2
  have b4 : Bd 183 (c * (1 + 2 * n) * 48271) := b3.mul (bd_lit (k := 16))
  have b5 : Bd 31 (Int.fmod (c * (1 + 2 * n) * 48271) 2147483647) := fmod_bd (by decide) bd_lit
  have b6 : Bd 77 (7919 * n) := (bd_lit (k := 13)).mul hn
  have b7 : Bd 141 (7919 * n * n) := b6.mul hn
  have b8 : Bd 81 (104729 * n) := (bd_lit (k := 17)).mul hn
  have b9 : Bd 142 (Int.fmod (c * (1 + 2 * n) * 48271) 2147483647 + 7919 * n * n) := (b5.mono (by decide)).add b7
  have b10 : Bd 143 (Int.fmod (c * (1 + 2 * n) * 48271) 2147483647 + 7919 * n * n + 104729 * n) := b9.add (b8.mono (by decide))
  have g1 : gMul 2 n = true := gm (bd_lit (k := 2)) hn
  have g2 : gMul c (1 + 2 * n) = true := gm hc b2
  have g3 : gMul (c * (1 + 2 * n)) 48271 = true := gm b3 (bd_lit (k := 16))
  have g4 : gMul 7919 n = true := gm (bd_lit (k := 13)) hn
  have g5 : gMul (7919 * n) n = true := gm b6 hn
  have g6 : gMul 104729 n = true := gm (bd_lit (k := 17)) hn
  have g7 : gMul (Int.fmod (c * (1 + 2 * n) * 48271) 2147483647 + 7919 * n * n + 104729 * n) 69621 = true := gm b10 (bd_lit (k := 17))
  have g8 : gMod (c * (1 + 2 * n) * 48271) 2147483647 = true := rfl
  have g9 : ∀ x : Int, gMod x 2147483629 = true := fun _ => rfl
  have g10 : ∀ x : Int, gDiv x 7 = true := fun _ => gd (by decide) (bd_lit (k := 3))
  simp only [F__law_mixed, f__law_mixed, fnR, env0, sSeq, sSet, sRet, liftE, c2, cA, cCons, cNil, cV, cK, bindE, pureE, okB, List.map_cons, List.map_nil, List.length_cons, List.length_nil, List.replicate, List.cons_append, List.nil_append,
    List.getElem?_cons_zero, List.getElem?_cons_succ, List.set_cons_succ, List.set_cons_zero, slotV, on1, oInt, oI, oAdd, oMul, g1, g2, g3, g4, g5, g6, g7, g8, g9, g10, if_true, mixI]
theorem draw_shape {K : PySem.W.Frag} {mg : Str → Option Value} {W : WX} {D : Dr} {U : Addr → Prop} {σ : L2.St} {H : Hp} {Rl : Hp → V → Val → Prop} {Q : VK} {ds : List Val} {o : Om} (p : Post K mg W D U σ H Rl (F__law_draw ds o) Q) :
    ∃ lim : Int, ds = [drw, .int lim] ∧ 0 < lim ∧ lim ≤ 1000000000000000000000 ∧ OkO o ∧ Post K mg W D U σ H Rl (.ok (.int (drawF o lim).1) (drawF o lim).2) Q := by
  unfold F__law_draw at p
  split at p
  · rename_i lim
    split at p
    · rename_i h
      exact ⟨lim, rfl, h.1, h.2.1, h.2.2, p⟩
    · exact p.elim
  · exact p.elim
end K21
end

section
set_option Elab.async false
set_option linter.all false
set_option maxRecDepth 100000
set_option maxHeartbeats 4000000
namespace K21
open PySem PySem.Spec PyProof.Rows L2 BB
def m_cells : BB.Env → R Val := c2 (oI gMod Int.fmod) (cA (on1 oInt) (cCons (cA (ofN 2 F__law_mixed) (cCons (cA (ofN 2 F__law_mixed) (cCons (c2 oAdd (c2 oIx (cV 3) (c2 (oI gMod Int.fmod) (cA (on1 oInt) (cCons (cV 2) (cNil))) (cK (.int 64)))) (c2 oMul (cK (.int 31)) (c2 (oI gDiv Int.fdiv) (cV 2) (cK (.int 64))))) (cCons (cV 2) (cNil)))) (cCons (c2 oAdd (cV 2) (cK (.int 7))) (cNil)))) (cNil))) (cV 1)
theorem mix_bd {c n : Int} (h : Bd 100 c) (hn : Bd 64 n) : Bd 32 (mixI c n) := by
  unfold mixI
  exact fdiv_bd (by decide) (fmod_bd (by decide) (bd_lit (k := 31)))
theorem atI_ints {ns : List Int} {i : Nat} (h : i < ns.length) : L2.atI (ns.map PyData.int) (i : Int) = some (.int (ns.getD i 0)) := by
  unfold L2.atI ixN
  rw [if_pos (by omega), if_pos (by rw [List.length_map]; omega)]
  simp [h]
theorem cells_val {cells : List Int} {n : Nat} {lim : Int} (hl : 0 < lim) (hc : cells.length = 64) (hb : ∀ c ∈ cells, c.natAbs < 2 ^ 31) (hn : n ≤ 1000000) (s3 s4 : Slot) (o : Om) :
    m_cells [.un, .val (.int lim), .val (.int n), .val (.list (cells.map PyData.int)), s3, s4] o = .ok (.int (Int.fmod (mixI (mixI ((cells.getD (n % 64) 0) + 31 * Int.fdiv n 64) n) (n + 7)) lim)) o := by
  have bn : Bd 20 (n : Int) := by unfold Bd; omega
  have e0 : Int.fmod (n : Int) 64 = ((n % 64 : Nat) : Int) := by
    rw [Int.fmod_eq_emod_of_nonneg _ (by decide)]; rfl
  have e1 : L2.atI (cells.map PyData.int) (Int.fmod (n : Int) 64) = some (.int (cells.getD (n % 64) 0)) := by
    rw [e0]; exact atI_ints (by omega)
  have c1 : Bd 31 (cells.getD (n % 64) 0) := by
    have : n % 64 < cells.length := by omega
    rw [List.getD_eq_getElem?_getD, List.getElem?_eq_getElem this, Option.getD_some]
    exact hb _ (List.getElem_mem this)
  have d1 : Bd 21 (Int.fdiv (n : Int) 64) := fdiv_bd (by decide) bn
  have g1 : gMul 31 (Int.fdiv (n : Int) 64) = true := gm (bd_lit (k := 5)) d1
  have d2 : Bd 26 (31 * Int.fdiv (n : Int) 64) := (bd_lit (k := 5)).mul d1
  have d3 : Bd 32 (cells.getD (n % 64) 0 + 31 * Int.fdiv (n : Int) 64) := c1.add (d2.mono (by decide))
  have v1 := fun o => mixed_val (d3.mono (l := 100) (by decide)) (bn.mono (l := 64) (by decide)) o
  have d4 := mix_bd (d3.mono (l := 100) (by decide)) (bn.mono (l := 64) (by decide))
  have d5 : Bd 64 ((n : Int) + 7) := (bn.add (bd_lit (k := 20))).mono (by decide)
  have v2 := fun o => mixed_val (d4.mono (l := 100) (by decide)) d5 o
  have g2 : gMod (n : Int) 64 = true := rfl
  have g3 : gDiv (n : Int) 64 = true := gd (by decide) (bd_lit (k := 7))
  have g4 : ∀ x, gMod x lim = true := fun x => decide_eq_true (by omega)
  simp only [m_cells, ofN, c2, cA, cCons, cNil, cV, cK, bindE, pureE, okB, List.length_cons, List.length_nil, List.getElem?_cons_zero, List.getElem?_cons_succ, slotV, on1, oInt, oI, oAdd, oMul, oIx, g1, g2, g3, g4, e1, if_true, v1, v2]
section
variable {P : Program} {w : World} {K : PySem.W.Frag} {mg : Str → Option Value} {base : Heap}
theorem rep_drw {D : Dr} {U : Addr → Prop} {H : Hp} {x : V} (h : Rep K D U H x drw) : ∃ m c g, D = some (m, c, g) ∧ x = .ref m := by
  generalize hd : drw = d at h
  cases h with
  | drw e => exact ⟨_, _, _, e, rfl⟩
  | scr e => unfold drw scrV at hd; cases hd
  | _ => unfold drw at hd; cases hd
theorem dget {H : Hp} {m c g : Addr} {s : Int} (h : H m = some (drO c g s)) : DGet H m (.str "spot") (some (.int s)) ∧ DGet H m (.str "cells") (some (.ref c)) ∧ DGet H m (.str "great") (some (.ref g)) := by
  refine ⟨?_, ?_, ?_⟩
  · have z := DGet.k (k := .inr "spot") h
    rw [at_spot] at z; exact z
  · have z := DGet.k (k := .inr "cells") h
    rw [at_cells] at z; exact z
  · have z := DGet.k (k := .inr "great") h
    rw [at_great] at z; exact z
theorem dput {H : Hp} {m c g : Addr} {s : Int} (t : Int) (h : H m = some (drO c g s)) : DPut H m (.str "spot") (.int t) (upd H m (drO c g t)) := by
  have z := DPut.k (k := .inr "spot") (v := .int t) h (by show 3 < sizeLine; unfold sizeLine; decide)
  rw [put_spot] at z; exact z
theorem ite_t {c : Bool} {A B : Prop} (h : c = true) (x : A) : if c = true then A else B := by rw [if_pos h]; exact x
theorem ite_f {c : Bool} {A B : Prop} (h : c = false) (x : B) : if c = true then A else B := by rw [h, if_neg Bool.false_ne_true]; exact x
theorem un1 {k : Nat} {A : Around} (h : Room k A) : A.units + 1 < cLine := by have := h.un; omega
theorem h__law_draw {f : Addr} {fd : FuncData} (G : MG mg) (H__law_mixed : Has P w K mg base 1 "_law_mixed" 2 F__law_mixed) (D : FunD K "_law_draw" "_law_draw" (defArgs (top 37)) (defBody (top 37)) (defScope (top 37)) [] [] f fd) (hmg : mg "_law_draw" = some (.ref f)) : Has P w K mg base 2 "_law_draw" 2 F__law_draw := by
  refine ⟨f, fd, ["m", "limit"], fnG_of D sc__law_draw (fun vs H Q E ⟨_, _, _, ds, h1, h2, _⟩ => by rw [h2.length, h1]; rfl) ?_, hmg, D.kp, D.bindsN fun _ _ _ _ _ _ us hl => match us, hl with | [_, _], _ => rfl⟩
  intro cv A out s H vs Q E hr hg want
  obtain ⟨D', U, o, ds, h1, h2, h3, h4, h5, h6⟩ := want
  obtain ⟨lim, rfl, lp, lb, ok, h6⟩ := draw_shape h6
  obtain ⟨m, c, g, rfl, rfl⟩ : ∃ m c g, D' = some (m, c, g) ∧ vs = [.ref m, .int lim] := by
    cases h2 with
    | cons r1 r2 =>
      cases r2 with
      | cons r3 r4 =>
        cases r4
        obtain ⟨m, c, g, e1, e2⟩ := rep_drw r1
        cases r3
        exact ⟨m, c, g, e1, by rw [e2]⟩
  clear h2 h1
  have hN := sc__law_draw.nd
  refine ⟨_, pss_cons (ps_set (i := 2) hN (by rfl) (.inl rfl) (pe_dget (un1 hr) (pvv (i := 0)) pe_str (by intro _ _; rfl)) (by rfl))
    (pss_cons (ps_dput (un1 hr) (pvv (i := 0)) pe_str (pe_op op_add (pvv (i := 2)) pe_int) (by rfl))
    (pss_cons (ps_if (pt_cmpR (op_neD (un64 hr)) (pe_dget (un1 hr) (pvv (i := 0)) pe_str (by intro _ _; rfl)) (pe_lst pa_nil) (by rfl))
      (pss_cons (ps_set (i := 3) hN (by rfl) (.inl rfl) (pe_dget (un1 hr) (pvv (i := 0)) pe_str (by intro _ _; rfl)) (by rfl))
      (pss_cons (ps_set (i := 4) hN (by rfl) (.inl rfl) (ve_mod (W := fun cls d _ H' => E cls d H') ((ve_intOf (by rfl) G.int (val_cons ((ve_v 2).vl) (val_nil))).vl) ((ve_len (by rfl) G.len (val_cons ((ve_v 3).vl) (val_nil))).vl)) (by rfl))
      (pss_cons (ps_set (i := 5) hN (by rfl) (.inl rfl) (ve_ix (W := fun cls d _ H' => E cls d H') ((ve_v 3).vl) ((ve_v 4).vl) (by intro _ _; rfl)) (by rfl))
      (pss_one (ps_if (vt_cmp (W := fun cls d _ H' => E cls d H') (ve_gt ((ve_v 5).vl) ((ve_int).vl)))
        (pss_cons (ps_asg (ve_fdiv (W := fun cls d _ H' => E cls d H') ((ve_v 5).vl) ((ve_v 1).vl)) (pg_sub (pvv (i := 3)) (ve_v (W := fun cls d _ H' => E cls d H') 4) set_list (by intro _; rfl)))
        (pss_one (ps_ret (ve_mod (W := fun cls d _ H' => E cls d H') ((ve_intOf (by rfl) G.int (val_cons ((ve_v 5).vl) (val_nil))).vl) ((ve_v 1).vl)))))
        pss_nil))))) pss_nil)
    (pss_cons (ps_set (i := 3) hN (by rfl) (.inl rfl) (pe_dget (un1 hr) (pvv (i := 0)) pe_str (by intro _ _; rfl)) (by rfl))
    (pss_one (ps_ret (ve_mod (W := fun cls d _ H' => E cls d H') ((ve_intOf (by rfl) G.int (val_cons ((ve_call H__law_mixed (hr.mono (by decide)) hg takes_cx (by rfl) (va_cons (ve_call H__law_mixed (hr.mono (by decide)) hg takes_cx (by rfl) (va_cons (ve_add ((ve_ix ((ve_v 3).vl) ((ve_mod ((ve_intOf (by rfl) G.int (val_cons ((ve_v 2).vl) (val_nil))).vl) ((ve_int).vl)).vl) (by intro _ _; rfl)).vl) ((ve_mul ((ve_int).vl) ((ve_fdiv ((ve_v 2).vl) ((ve_int).vl)).vl)).vl)) (va_cons (ve_v 2) (va_nil)))) (va_cons (ve_add ((ve_v 2).vl) ((ve_int).vl)) (va_nil)))).vl) (val_nil))).vl) ((ve_v 1).vl))))))), ?_⟩
  have h5' := h5
  obtain ⟨q1, q2, q3, hm, hc, hgr⟩ := h5
  obtain ⟨dg1, dg2, dg3⟩ := dget hm
  -- the drawn number by the cells
  have fin : ∀ (Hc : Hp) (x3 x4 x5 : Option V), Ext (some (m, c, g)) H Hc → DOk (some (m, c, g)) { o with spot := o.spot + 1 } Hc → (drawF o lim = (cellsF o lim, { o with spot := o.spot + 1 })) →
      tSeq (tAsg (tDGet (tVar 0) (tC (.str "cells"))) (gName 3)) (tRet (tG K mg (fun cls d _ H' => E cls d H') RV m_cells)) { nx := fun _ H' => Q .non H', rt := Q } [some (.ref m), some (.int lim), some (.int (o.spot : Int)), x3, x4, x5] Hc := fun Hc x3 x4 x5 hx hd hF => by
    have hd' := hd
    obtain ⟨_, _, _, hm', hc', hg'⟩ := hd'
    obtain ⟨_, dg2', _⟩ := dget hm'
    refine ⟨.ref m, rfl, m, .ref c, rfl, dg2', ?_⟩
    refine tG_raw (ρ := [.un, .val (.int lim), .val (.int (o.spot : Int)), .val (.list (o.cells.map PyData.int)), .un, .un]) (v := .int (cellsF o lim)) (.un (.vl (.int _) (.vl (.int _) (.vl (.lst ⟨id, hc'⟩ (Reps.ofInts _)) (.un (.un .nil)))))) (fun o' => cells_val lp ok.1 ok.2.1 ok.2.2 .un .un o') fun y H' gr rp => ?_
    rw [hF] at h6
    exact h6 y H' (hx.trans gr.ext) (gr.dok hd) (by cases rp; exact .int _)
  have dmc : m ≠ c := q1
  have dmg : m ≠ g := q2
  refine ⟨.ref m, rfl, m, .int (o.spot : Int), rfl, dg1, ?_⟩
  refine ⟨.int (o.spot : Int), rfl, (o.spot : Int), 1, rfl, rfl, ?_⟩
  refine ⟨.ref m, rfl, m, upd H m (drO c g ((o.spot : Int) + 1)), rfl, dput ((o.spot : Int) + 1) hm, ?_⟩
  have x1 : Ext (some (m, c, g)) H (upd H m (drO c g ((o.spot : Int) + 1))) := fun a u e n => by
    rw [upd_ne (fun z => n (.inl z))]; exact e
  have d1 : DOk (some (m, c, g)) { o with spot := o.spot + 1 } (upd H m (drO c g ((o.spot : Int) + 1))) := by
    refine ⟨q1, q2, q3, upd_same, ?_, ?_⟩
    · rw [upd_ne (Ne.symm dmc)]; exact hc
    · rw [upd_ne (Ne.symm dmg)]; exact hgr
  obtain ⟨_, _, _, hm1, hc1, hg1⟩ := id d1
  refine ⟨.ref m, rfl, m, .ref g, rfl, (dget hm1).2.2, Nat.zero_le _, fun q hq => ?_⟩
  generalize hH1 : upd H m (drO c g ((o.spot : Int) + 1)) = H1 at x1 d1 hm1 hc1 hg1 hq
  have gr2 : Gr H1 (upd H1 q (.lst [])) := Gr.upd hq
  have x2 := x1.trans (gr2.ext (D := some (m, c, g)))
  have d2 := gr2.dok d1
  obtain ⟨_, _, _, hm2, hc2, hg2⟩ := id d2
  refine ⟨.list (o.great.map PyData.int), .list [], dp_ints (.inl (.inl hg2)), .lst (.inl (.inl upd_same)) .nil, shaped_ints _, by decide +kernel, _, rfl, ?_⟩
  rw [eqv_nil]
  generalize hH2 : upd H1 q (.lst []) = H2 at x2 d2 hm2 hc2 hg2 gr2
  by_cases h0 : o.great = []
  · refine ite_f (by rw [h0]; rfl) ?_
    refine fin H2 _ _ _ x2 d2 ?_
    unfold drawF
    rw [if_neg (fun z => z.1 h0)]
  · have hne : (!o.great.isEmpty) = true := by cases hq2 : o.great with
      | nil => exact absurd hq2 h0
      | cons a r => rfl
    have hpos : 0 < o.great.length := by cases hq2 : o.great with
      | nil => exact absurd hq2 h0
      | cons a r => simp
    refine ite_t hne ?_
    have hhl : hereF o < o.great.length := Nat.mod_lt _ hpos
    refine ⟨.ref m, rfl, m, .ref g, rfl, (dget hm2).2.2, ?_⟩
    have e1 : Int.fmod (o.spot : Int) (((o.great.map PyData.int).length : Nat) : Int) = ((hereF o : Nat) : Int) := by
      rw [List.length_map, Int.fmod_eq_emod_of_nonneg _ (by omega)]; rfl
    have gm1 : gMod (o.spot : Int) (((o.great.map PyData.int).length : Nat) : Int) = true := decide_eq_true (by rw [List.length_map]; omega)
    refine tG_raw (ρ := [.un, .val (.int lim), .val (.int (o.spot : Int)), .val (.list (o.great.map PyData.int)), .un, .un]) (v := .int ((hereF o : Nat) : Int)) (.un (.vl (.int _) (.vl (.int _) (.vl (.lst ⟨id, hg2⟩ (Reps.ofInts _)) (.un (.un .nil))))))
      (fun o' => by simp only [c2, cA, cCons, cNil, cV, bindE, pureE, okB, List.getElem?_cons_zero, List.getElem?_cons_succ, slotV, on1, oInt, oLen, oI, gm1, e1, if_true]) fun y H3 gr3 rp => ?_
    cases rp
    have x3 := x2.trans (gr3.ext (D := some (m, c, g)))
    have d3 := gr3.dok d2
    obtain ⟨_, _, _, hm3, hc3, hg3⟩ := id d3
    have e2 : L2.atI (o.great.map PyData.int) ((hereF o : Nat) : Int) = some (.int (o.great.getD (hereF o) 0)) := atI_ints hhl
    refine tG_raw (ρ := [.un, .val (.int lim), .val (.int (o.spot : Int)), .val (.list (o.great.map PyData.int)), .val (.int ((hereF o : Nat) : Int)), .un]) (v := .int (o.great.getD (hereF o) 0)) (.un (.vl (.int _) (.vl (.int _) (.vl (.lst ⟨id, hg3⟩ (Reps.ofInts _)) (.vl (.int _) (.un .nil))))))
      (fun o' => by simp only [c2, cV, bindE, pureE, okB, List.getElem?_cons_zero, List.getElem?_cons_succ, slotV, oIx, e2]) fun y H4 gr4 rp => ?_
    cases rp
    have x4 := x3.trans (gr4.ext (D := some (m, c, g)))
    have d4 := gr4.dok d3
    obtain ⟨_, _, _, hm4, hc4, hg4⟩ := id d4
    refine tT_raw (ρ := [.un, .val (.int lim), .val (.int (o.spot : Int)), .val (.list (o.great.map PyData.int)), .val (.int ((hereF o : Nat) : Int)), .val (.int (o.great.getD (hereF o) 0))]) (v := decide (0 < o.great.getD (hereF o) 0)) (.un (.vl (.int _) (.vl (.int _) (.vl (.lst ⟨id, hg4⟩ (Reps.ofInts _)) (.vl (.int _) (.vl (.int _) .nil))))))
      (fun o' => by simp only [cT, c2, cV, cK, bindE, pureE, okB, List.getElem?_cons_zero, List.getElem?_cons_succ, slotV, oCmp, truth]) fun H5 gr5 => ?_
    have x5 := x4.trans (gr5.ext (D := some (m, c, g)))
    have d5 := gr5.dok d4
    obtain ⟨_, _, _, hm5, hc5, hg5⟩ := id d5
    by_cases hp : 0 < o.great.getD (hereF o) 0
    · refine ite_t (decide_eq_true hp) ?_
      have gd1 : gDiv (o.great.getD (hereF o) 0) lim = true := gd (k := 100) (by omega) (by
        unfold Bd
        have e : (2 : Nat) ^ 100 = 1267650600228229401496703205376 := by decide
        omega)
      have gm2 : gMod (o.great.getD (hereF o) 0) lim = true := decide_eq_true (by omega)
      have sv : ∀ {Hx : Hp}, Hx g = some (.lst (o.great.map V.int)) → SV K Hx [some (.ref m), some (.int lim), some (.int (o.spot : Int)), some (.ref g), some (.int ((hereF o : Nat) : Int)), some (.int (o.great.getD (hereF o) 0))] [.un, .val (.int lim), .un, .un, .val (.int ((hereF o : Nat) : Int)), .val (.int (o.great.getD (hereF o) 0))] :=
        fun h => .un (.vl (.int _) (.un (.un (.vl (.int _) (.vl (.int _) .nil)))))
      refine tG_raw (sv hg5) (v := .int (Int.fdiv (o.great.getD (hereF o) 0) lim)) (fun o' => by simp only [c2, cV, bindE, pureE, okB, List.getElem?_cons_zero, List.getElem?_cons_succ, slotV, oI, gd1, if_true]) fun y H6 gr6 rp => ?_
      cases rp
      have x6 := x5.trans (gr6.ext (D := some (m, c, g)))
      have d6 := gr6.dok d5
      obtain ⟨_, _, _, hm6, hc6, hg6⟩ := id d6
      refine ⟨.ref g, rfl, ?_⟩
      refine tG_raw (sv hg6) (v := .int ((hereF o : Nat) : Int)) (fun o' => by simp only [cV, List.getElem?_cons_zero, List.getElem?_cons_succ, slotV, pureE]) fun y H7 gr7 rp => ?_
      cases rp
      have x7 := x6.trans (gr7.ext (D := some (m, c, g)))
      have d7 := gr7.dok d6
      obtain ⟨_, _, _, hm7, hc7, hg7⟩ := id d7
      have hg7' : H7 g = some (.lst (o.great.map V.int)) := hg7
      refine ⟨g, _, _, hereF o, rfl, rfl, hg7', ?_, ?_⟩
      · unfold ixN
        rw [List.length_map, if_pos (by omega), if_pos (by omega)]
        simp
      have x8 : Ext (some (m, c, g)) H (upd H7 g (.lst ((o.great.map V.int).set (hereF o) (.int (Int.fdiv (o.great.getD (hereF o) 0) lim))))) := x7.trans fun a u e n => by
        rw [upd_ne (fun z => n (.inr (.inr z)))]; exact e
      have d8 : DOk (some (m, c, g)) { o with spot := o.spot + 1, great := o.great.set (hereF o) (Int.fdiv (o.great.getD (hereF o) 0) lim) } (upd H7 g (.lst ((o.great.map V.int).set (hereF o) (.int (Int.fdiv (o.great.getD (hereF o) 0) lim))))) := by
        refine ⟨q1, q2, q3, ?_, ?_, ?_⟩
        · rw [upd_ne dmg]; exact hm7
        · rw [upd_ne q3]; exact hc7
        · rw [upd_same, List.map_set]
      refine tG_raw (ρ := [.un, .val (.int lim), .un, .un, .un, .val (.int (o.great.getD (hereF o) 0))]) (v := .int (Int.fmod (o.great.getD (hereF o) 0) lim)) (.un (.vl (.int _) (.un (.un (.un (.vl (.int _) .nil))))))
        (fun o' => by simp only [c2, cA, cCons, cNil, cV, bindE, pureE, okB, List.getElem?_cons_zero, List.getElem?_cons_succ, slotV, on1, oInt, oI, gm2, if_true]) fun y H9 gr9 rp => ?_
      have hF : drawF o lim = (Int.fmod (o.great.getD (hereF o) 0) lim, { o with spot := o.spot + 1, great := o.great.set (hereF o) (Int.fdiv (o.great.getD (hereF o) 0) lim) }) := by
        unfold drawF
        rw [if_pos ⟨h0, hp⟩]
      rw [hF] at h6
      exact h6 y H9 (x8.trans gr9.ext) (gr9.dok d8) (by cases rp; exact .int _)
    · refine ite_f (decide_eq_false hp) ?_
      refine fin H5 _ _ _ x5 d5 ?_
      unfold drawF
      rw [if_neg (fun z => hp z.2)]
end
end K21
end

section
set_option Elab.async false
set_option linter.all false
set_option maxRecDepth 100000
set_option maxHeartbeats 4000000
namespace K21
open PySem PySem.Spec PyProof.Rows L2 BB
theorem is_setix {i j : Nat} {fk fe : BB.Env → R Val} {ρ : BB.Env} {vs : List Val} {v : Val} {k : Int} (h1 : Is (fe ρ) v) (h2 : ρ[i]? = some (.own vs)) (h3 : Is (fk ρ) (.int k)) (h4 : ixN vs.length k = some j) : Is (sSetIx i fk fe ρ) (.nx (ρ.set i (.own (vs.set j v)))) := by
  refine is_lift h1 ?_
  simp only [h2]
  refine is_lift h3 ?_
  simp only [h4]
  exact Is.pure
theorem ix_ok {vs : List Val} {n : Nat} (h : n < vs.length) : ixN vs.length (n : Int) = some n := by
  unfold ixN
  rw [if_pos (by omega), if_pos (by omega)]
  simp
def addH : Val → Val
  | .int i => .int (17 + i)
  | v => v
theorem getD_bd {cs : List Int} (h : ∀ c ∈ cs, c.natAbs < 2 ^ 31) (i : Nat) : Bd 31 (cs.getD i 0) := by
  by_cases l : i < cs.length
  · rw [List.getD_eq_getElem?_getD, List.getElem?_eq_getElem l, Option.getD_some]
    exact h _ (List.getElem_mem l)
  · rw [List.getD_eq_getElem?_getD, List.getElem?_eq_none (by omega)]
    exact bd_lit
theorem set_bd {cs : List Int} (h : ∀ c ∈ cs, c.natAbs < 2 ^ 31) {i : Nat} {v : Int} (hv : Bd 31 v) : ∀ c ∈ cs.set i v, c.natAbs < 2 ^ 31 := fun c hc => by
  rcases List.mem_or_eq_of_mem_set hc with h1 | h1
  · exact h c h1
  · subst h1; exact hv
def FI (ns : List Int) (ρ : BB.Env) : Prop := ∃ (cs : List Int) (s2 s3 : Slot), ρ = [.val (scrV ns), .own (cs.map PyData.int), s2, s3] ∧ cs.length = 64 ∧ ∀ c ∈ cs, c.natAbs < 2 ^ 31
theorem fmod_nat {a b : Nat} (h : 0 < b) : Int.fmod (a : Int) (b : Int) = ((a % b : Nat) : Int) := by
  rw [Int.fmod_eq_emod_of_nonneg _ (by omega)]; rfl
theorem folded_val (ns : List Int) : ∃ cs : List Int, cs.length = 64 ∧ (∀ c ∈ cs, c.natAbs < 2 ^ 31) ∧ Is (F__law_folded [scrV ns]) (.list (cs.map PyData.int)) := by
  have hA : Is (cLc [2] (cAI iRange1 (cCons (cK (.int 64)) cNil)) (gN 2) (fun _ => pure true) (c2 oAdd (cK (.int 17)) (cV 2)) [.val (scrV ns), .un, .un, .un]) (.list ((rangeV 0 64).map addH)) := by
    refine is_lc (xs := rangeV 0 64) (fun o => ?_) (by decide) fun x hx => ?_
    · simp only [cAI, cCons, cK, cNil, bindE, pureE, okB, iRange1, RMAX, show ((64 : Int) ≤ 1000000 ∧ -1000000 ≤ (64 : Int)) = True from by simp, if_true]
      rfl
    · unfold rangeV at hx
      obtain ⟨i, _, rfl⟩ := List.mem_map.mp hx
      exact ⟨_, rfl, fun o => rfl⟩
  have hL : (rangeV 0 64).map addH = ((List.range 64).map fun i : Nat => (17 + (0 + (i : Int)))).map PyData.int := by
    simp [rangeV, addH]
  rw [hL] at hA
  have h0 : FI ns [.val (scrV ns), .own ((((List.range 64).map fun i : Nat => (17 + (0 + (i : Int))))).map PyData.int), .un, .un] := by
    refine ⟨_, _, _, rfl, by simp, fun c hc => ?_⟩
    obtain ⟨i, hi, rfl⟩ := List.mem_map.mp hc
    have := List.mem_range.mp hi
    omega
  obtain ⟨ρ1, i1, f1⟩ := is_for (xs := enumV (ns.map PyData.int)) (g := gTp (gCn (gN 2) (gCn (gN 3) (gNl)))) (fb := sSetIx 1 (c2 (oI gMod Int.fmod) (cA (on1 oInt) (cCons (cV 2) (cNil))) (cK (.int 64))) (c2 (oI gMod Int.fmod) (cA (on1 oInt) (cCons (c2 oAdd (c2 oMul (c2 oIx (cL 1) (c2 (oI gMod Int.fmod) (cA (on1 oInt) (cCons (cV 2) (cNil))) (cK (.int 64)))) (cK (.int 48271))) (cV 3)) (cNil))) (cK (.int 2147483647))))
    (fun _ => FI ns) h0 (by
    rintro i x ρ hx ⟨cs, s2, s3, rfl, hl, hb⟩
    obtain ⟨c, rfl⟩ : ∃ c : Int, x = .tuple [.int (i : Nat), .int c] := by
      simp only [enumV, List.getElem?_map, List.getElem?_zipIdx] at hx
      cases q : ns[i]? with
      | none => simp [q] at hx
      | some c => simp [q] at hx; exact ⟨c, hx.symm⟩
    have e0 := fmod_nat (a := i) (b := 64) (by decide)
    have e0' : Int.fmod (i : Int) 64 = ((i % 64 : Nat) : Int) := e0
    have il : i % 64 < cs.length := by omega
    have e1 : L2.atI (cs.map PyData.int) (Int.fmod (i : Int) 64) = some (.int (cs.getD (i % 64) 0)) := by rw [e0']; exact atI_ints il
    have b1 := getD_bd hb (i % 64)
    have g1 : gMul (cs.getD (i % 64) 0) 48271 = true := gm b1 (bd_lit (k := 16))
    have g2 : gMod (i : Int) 64 = true := rfl
    have g3 : ∀ x, gMod x 2147483647 = true := fun _ => rfl
    refine ⟨_, _, rfl, is_setix (v := .int (Int.fmod (cs.getD (i % 64) 0 * 48271 + c) 2147483647)) (vs := cs.map PyData.int) (k := ((i % 64 : Nat) : Int)) (j := i % 64) (fun o => ?_) rfl (fun o => ?_) (ix_ok (by rw [List.length_map]; omega)), ?_⟩
    · simp only [c1, c2, cA, cCons, cNil, cV, cL, cK, bindE, pureE, okB, List.length_cons, List.length_nil, List.getElem?_cons_zero, List.getElem?_cons_succ, List.set_cons_succ, List.set_cons_zero, slotV, slotL, on1, on2, oInt, oI, oAdd, oMul, oSub, oIx, oLen, if_true, g1, g2, g3, e1]
    · simp only [c1, c2, cA, cCons, cNil, cV, cL, cK, bindE, pureE, okB, List.length_cons, List.length_nil, List.getElem?_cons_zero, List.getElem?_cons_succ, List.set_cons_succ, List.set_cons_zero, slotV, slotL, on1, on2, oInt, oI, oAdd, oMul, oSub, oIx, oLen, if_true, g2, e0']
    · refine ⟨cs.set (i % 64) (Int.fmod (cs.getD (i % 64) 0 * 48271 + c) 2147483647), .val (.int (i : Nat)), .val (.int c), by simp [List.map_set], by simp [hl], set_bd hb (fmod_bd (by decide) bd_lit)⟩)
  obtain ⟨cs1, s2, s3, rfl, hl1, hb1⟩ := i1
  obtain ⟨ρ2, i2, f2⟩ := is_for (xs := rangeV 1 63) (g := gN 2) (fb := sSetIx 1 (cV 2) (c2 (oI gMod Int.fmod) (cA (on1 oInt) (cCons (c2 oAdd (c2 oIx (cL 1) (cV 2)) (c2 oMul (c2 oIx (cL 1) (c2 oSub (cV 2) (cK (.int 1)))) (cK (.int 16807)))) (cNil))) (cK (.int 2147483647))))
    (fun _ => FI ns) ⟨cs1, s2, s3, rfl, hl1, hb1⟩ (by
    rintro i x ρ hx ⟨cs, s2, s3, rfl, hl, hb⟩
    obtain ⟨hi, rfl⟩ : i < 63 ∧ x = .int (1 + (i : Nat)) := by
      simp only [rangeV, List.getElem?_map] at hx
      by_cases q : i < 63
      · rw [List.getElem?_range q] at hx
        exact ⟨q, (Option.some.inj hx).symm⟩
      · rw [List.getElem?_eq_none (by simp; omega)] at hx; cases hx
    have e0 : (1 + (i : Nat) : Int) = ((i + 1 : Nat) : Int) := by omega
    have e1 : L2.atI (cs.map PyData.int) (1 + (i : Nat) : Int) = some (.int (cs.getD (i + 1) 0)) := by rw [e0]; exact atI_ints (by omega)
    have e2 : L2.atI (cs.map PyData.int) (1 + (i : Nat) - 1 : Int) = some (.int (cs.getD i 0)) := by rw [show (1 + (i : Nat) - 1 : Int) = ((i : Nat) : Int) by omega]; exact atI_ints (by omega)
    have b1 := getD_bd hb i
    have g1 : gMul (cs.getD i 0) 16807 = true := gm b1 (bd_lit (k := 16))
    have g3 : ∀ x, gMod x 2147483647 = true := fun _ => rfl
    refine ⟨_, _, rfl, is_setix (v := .int (Int.fmod (cs.getD (i + 1) 0 + cs.getD i 0 * 16807) 2147483647)) (vs := cs.map PyData.int) (k := (1 + (i : Nat) : Int)) (j := i + 1) (fun o => ?_) rfl (fun o => rfl) (by rw [e0]; exact ix_ok (by rw [List.length_map]; omega)), ?_⟩
    · simp only [c1, c2, cA, cCons, cNil, cV, cL, cK, bindE, pureE, okB, List.length_cons, List.length_nil, List.getElem?_cons_zero, List.getElem?_cons_succ, List.set_cons_succ, List.set_cons_zero, slotV, slotL, on1, on2, oInt, oI, oAdd, oMul, oSub, oIx, oLen, if_true, g1, g3, e1, e2]
    · refine ⟨cs.set (i + 1) (Int.fmod (cs.getD (i + 1) 0 + cs.getD i 0 * 16807) 2147483647), .val (.int (1 + (i : Nat))), s3, by simp [List.map_set], by simp [hl], set_bd hb (fmod_bd (by decide) bd_lit)⟩)
  obtain ⟨cs2, s2', s3', rfl, hl2, hb2⟩ := i2
  refine ⟨cs2, hl2, hb2, is_fn ?_⟩
  refine is_seq (is_lift hA Is.pure) (is_seq (is_lift (v := enumV (ns.map PyData.int)) (fun o => rfl) f1) (is_seq (is_lift (v := rangeV 1 63) (fun o => ?_) f2) (fun o => rfl)))
  simp only [cAI, cCons, cK, cNil, bindE, pureE, okB, iRange2, RMAX, show (((64 : Int) ≤ 1000000 ∧ -1000000 ≤ (64 : Int)) ∧ (1 : Int) ≤ 1000000 ∧ -1000000 ≤ (1 : Int)) = True from by simp, if_true]
  rfl
end K21
end

section
set_option Elab.async false
set_option linter.all false
set_option maxRecDepth 100000
set_option maxHeartbeats 4000000
namespace BB
open PySem PySem.Spec PyProof.Rows L2
theorem tF_raw {K : PySem.W.Frag} {mg : Str → Option Value} {H : Hp} {W : WX} {f : BB.Env → R Val} {v : Val} {σ : L2.St} {ρ : BB.Env} {Q : VK} (h : SV K H σ ρ) (e : ∀ o, f ρ o = .ok v o)
    (n : ∀ a xs ds H', v = .list ds → H a = none → Gr H H' → H' a = some (.lst xs) → Reps K none U0 H' xs ds → Q (.ref a) H') : tF K mg W f σ H Q :=
  ⟨none, H, U0, ρ, ⟨[], [], 0⟩, h.fr, trivial, by
    rw [e]
    intro y H' ex d ⟨a, xs, ds, h1, h2, h3, h4, h5, h6⟩
    subst h1
    exact n a xs ds H' h2 h3 (fun a u h => ex a u h id) h5 (h6.keep ⟨fun _ _ h => h, fun _ _ _ h => h, fun a ob h q => ⟨h, id⟩⟩)⟩
/-- a def by a promise of any kind -/
theorem pe_callG {X : Cx} {W : WX} {k : Nat} {fa : Addr} {fd : FuncData} {ps : List Str} {sp : Sp} {x : Str} {e : Expr} {es : List Expr} {p pos : Pos} {t : TA} (G : FnG X.prog X.w X.K X.mg X.base k fa fd ps sp) (hm : X.mg x = some (.ref fa)) (hk : PySem.W.keepIn X.K (.ref fa) = true) (hb : Binds X.K fd ps [])
    (hr : Room k X.A) (hgd : X.A.guards = some []) (tk : Takes X W) (hg : Gl X x) (ha : PA X (e :: es) t) (hdb : (x == ("__debug__" : Str)) = false := by decide)
    (he : starEach (e :: es) X.env = (false, eval e X.env) :: starEach es X.env := by rfl) (hpl : (backTo pos (starEach es X.env)).any (·.1) = false := by rfl) :
    PE X (.Call (.Name x p) (e :: es) [] pos) (fun σ H Q => t σ H fun vs H1 => sp vs H1 Q (fun cls d H' => W cls d σ H')) :=
  ⟨fun pins s σ H Q I h => wpAny_Call_Name_kw (ld_glob I hg hm (PySem.W.callWith_K (h₀ := X.base) I.ok.mod.kin hk (thn (ha.run pos pins s σ H _ I h) fun us s1 ⟨vs, H1, I1, r, q⟩ => ⟨I1.kIn, run_has G hr hgd tk hb I1 r q⟩) he hpl) hdb)⟩
end BB
namespace K21
open PySem PySem.Spec PyProof.Rows L2 BB
def spBegun (K : PySem.W.Frag) : Sp := fun vs H Q E => ∃ (a : Addr) (ns : List Int), vs = [.ref a] ∧ SqF K H a (ns.map V.int) ∧ ns.length ≤ 63 ∧
  ∀ (m c g : Addr) (cs gs : List Int) (H' : Hp), Gr H H' → DOk (some (m, c, g)) ⟨cs, gs, 0⟩ H' → OmOk 1000000 ⟨cs, gs, 0⟩ → Q (.ref m) H'
def greatH : Val → Val
  | .int c => .int (if 1000000000000000000 ≤ c then c else 0)
  | v => v
theorem great_map (ns : List Int) : (ns.map PyData.int).map greatH = (ns.map fun c => if 1000000000000000000 ≤ c then c else 0).map PyData.int := by
  simp [greatH]
theorem great_val (ns : List Int) (hl : ns.length ≤ 63) (s1 s2 : BB.Slot) : Is (cLc [2] (iSeq (cV 0)) (gN 2) (fun _ => pure true) (cIf (cT (c2 (oCmp fun i j => decide (j ≤ i)) (cV 2) (c2 (oI gPow fun i j => i ^ j.toNat) (cK (.int 10)) (cK (.int 18))))) (cV 2) (cK (.int 0))) [.val (scrV ns), s1, s2]) (.list ((ns.map fun c => if 1000000000000000000 ≤ c then c else 0).map PyData.int)) := by
  rw [← great_map]
  refine is_lc (xs := ns.map PyData.int) (fun o => rfl) (by rw [List.length_map]; exact Nat.le_trans hl (by decide)) fun x hx => ?_
  obtain ⟨c, _, rfl⟩ := List.mem_map.mp hx
  refine ⟨_, rfl, fun o => ?_⟩
  have g1 : gPow 10 18 = true := by
    unfold gPow
    refine decide_eq_true ⟨by decide, by decide, ?_⟩
    exact bd_lit (k := 4) |>.mono (l := 10000) (by decide)
  have e1 : (10 : Int) ^ (18 : Int).toNat = 1000000000000000000 := by decide
  simp only [wipeE, gN, cIf, cT, c2, cV, cK, bindE, pureE, BB.okB, List.getElem?_cons_zero, List.getElem?_cons_succ, List.set_cons_succ, List.set_cons_zero, slotV, oI, oCmp, truth, g1, e1, if_true, greatH]
  by_cases h : (1000000000000000000 : Int) ≤ c
  · simp only [h, decide_true, if_true]
    rfl
  · simp only [h, decide_false, Bool.false_eq_true, if_false]
    rfl
theorem sc__law_begun : FnScope ["script", "m", "cell"] ["script"] (defScope (top 38)) := ⟨rfl, rfl, rfl, by decide +kernel, rfl, by decide +kernel, by decide +kernel⟩
theorem merge_m (c g : Addr) : mergeK [] [((.inr "cells" : Key), V.ref c), (.inr "great", .ref g), (.inr "spot", .int 0)] = [(.inr "cells", .ref c), (.inr "great", .ref g), (.inr "spot", .int 0)] := by with_unfolding_all rfl
theorem rep_list {K : PySem.W.Frag} {H : Hp} {y : V} {ns : List Int} (h : Rep K none U0 H y (.list (ns.map PyData.int))) : ∃ a, y = .ref a ∧ H a = some (.lst (ns.map V.int)) := by
  cases h with
  | lst h r => exact ⟨_, rfl, by rw [h.2, r.ints]⟩
section
variable {P : Program} {w : World} {K : PySem.W.Frag} {mg : Str → Option Value} {base : Heap}
theorem g__law_begun {f : Addr} {fd : FuncData} (G : MG mg) (H__law_folded : Has P w K mg base 1 "_law_folded" 1 F__law_folded) (D : FunD K "_law_begun" "_law_begun" (defArgs (top 38)) (defBody (top 38)) (defScope (top 38)) [] [] f fd) : FnG P w K mg base 2 f fd ["script"] (spBegun K) := by
  refine fnG_of D sc__law_begun (fun vs H Q E ⟨a, ns, h, _⟩ => by rw [h]; rfl) ?_
  intro cv A out s H vs Q E hr hg want
  obtain ⟨a, ns, rfl, hsq, hl, want⟩ := want
  have hN := sc__law_begun.nd
  refine ⟨_, pss_cons (ps_set (i := 1) hN (by rfl) (.inl rfl) (pe_disp (pps_cons pe_str (ve_call (W := fun cls d _ H' => E cls d H') H__law_folded (hr.mono (by decide)) hg takes_cx (by rfl) (va_cons (ve_v 0) va_nil)) (pps_cons pe_str (pe_lst pa_nil) (pps_cons pe_str pe_int pps_nil))) (by rfl) (by rfl) (by intro h; cases h) (by decide)) (by rfl))
    (pss_cons (ps_dput (un1 hr) (pvv (i := 1)) pe_str (vf_lc (W := fun cls d _ H' => E cls d H') (own := [("cell", 2)]) (by rfl) hN (vi_seq (ve_v 0)) (show BlkOk ["script", "m", "cell"] (defScope (top 38)) _ [("cell", 2)] from ⟨rfl, by decide +kernel, by decide +kernel, by decide +kernel, by decide +kernel⟩) (by decide) (fun _ _ _ _ _ => vg_v 2 hN) (fun _ _ _ _ _ => ve_if (vt_cmp (ve_ge ((ve_v 2).vl) ((ve_pow ((ve_int).vl) ((ve_int).vl)).vl))) (ve_v 2) (ve_int))) (by rfl))
    (pss_one (ps_ret (pvv (i := 1))))), ?_⟩
  obtain ⟨cs, hc1, hc2, hc3⟩ := folded_val ns
  intro m hm
  have gr1 : Gr H (upd H m (.dK [])) := Gr.upd hm
  have sq1 : ∀ {Hx : Hp}, Gr H Hx → SqF K Hx a (ns.map V.int) := fun g => hsq.elim (fun ⟨o, e⟩ => .inl ⟨o, g _ _ e⟩) .inr
  refine tG_raw (ρ := [.val (scrV ns), .un, .un]) (v := .list (cs.map PyData.int)) (.vl (.scr (sq1 gr1)) (.un (.un .nil))) (fun o => ?_) fun y H2 gr2 rp => ?_
  · simp only [cA, ofN, cCons, cNil, cV, bindE, pureE, BB.okB, List.getElem?_cons_zero, slotV, List.length_cons, List.length_nil, if_true]
    exact hc3 o
  obtain ⟨c, rfl, hc⟩ := rep_list rp
  refine ⟨Nat.zero_le _, fun g0 hg0 => ?_⟩
  have gr3 : Gr H2 (upd H2 g0 (.lst [])) := Gr.upd hg0
  have m3 : (upd H2 g0 (.lst [])) m = some (.dK []) := gr3 _ _ (gr2 _ _ upd_same)
  have c3 := gr3 _ _ hc
  refine ⟨m3, [(.inr "cells", .ref c), (.inr "great", .ref g0), (.inr "spot", .int 0)], rfl, (show 3 ≤ 15 by omega), ?_⟩
  rw [merge_m]
  generalize hH3 : upd H2 g0 (.lst []) = H3 at m3 c3 gr3
  have gH3 : Gr H H3 := (gr1.trans gr2).trans gr3
  have ncm : c ≠ m := fun e => by rw [e, m3] at c3; cases c3
  have c4 : (upd H3 m (drO c g0 0)) c = some (.lst (cs.map V.int)) := by rw [upd_ne ncm]; exact c3
  have gH4 : Gr H (upd H3 m (drO c g0 0)) := fun x u e => by
    rw [upd_ne (ne_of_none e hm)]; exact gH3 x u e
  show (tF K mg (fun cls d _ H' => E cls d H') _) _ (upd H3 m (drO c g0 0)) _
  generalize hH4 : upd H3 m (drO c g0 0) = H4 at c4 gH4
  have m4 : H4 m = some (drO c g0 0) := by rw [← hH4]; exact upd_same
  refine tF_raw (ρ := [.val (scrV ns), .un, .un]) (.vl (.scr (sq1 gH4)) (.un (.un .nil))) (great_val ns hl .un .un) fun g xs ds H5 hv hgn gr5 hg5 rr => ?_
  cases hv
  have m5 := gr5 _ _ m4
  have c5 := gr5 _ _ c4
  have ngc : c ≠ g := fun e => by rw [← e, c4] at hgn; cases hgn
  have ngm : m ≠ g := fun e => by rw [← e, m4] at hgn; cases hgn
  refine ⟨.ref m, rfl, m, upd H5 m (drO c g 0), rfl, ?_, ?_⟩
  · have z := DPut.k (k := .inr "great") (v := .ref g) m5 (by show 3 < sizeLine; unfold sizeLine; decide)
    rw [put_great] at z; exact z
  · refine ⟨.ref m, rfl, want m c g cs (ns.map fun c => if 1000000000000000000 ≤ c then c else 0) _ (fun x u e => ?_) ⟨Ne.symm ncm, ngm, ngc, upd_same, ?_, ?_⟩ ⟨hc1, hc2, Nat.le_of_eq (Nat.zero_add _)⟩⟩
    · rw [upd_ne (ne_of_none e hm)]; exact gr5 _ _ (gH4 x u e)
    · rw [upd_ne ncm]; exact c5
    · rw [upd_ne (Ne.symm ngm), hg5, rr.ints]
end
end K21
end

section
set_option Elab.async false
set_option linter.all false
set_option maxRecDepth 100000
set_option maxHeartbeats 4000000
namespace K21
open PySem PySem.Spec PyProof.Rows L2 BB
def f_law : SF := sSeq (sFor (cAI iRange1 (cCons (cK (.int 2)) (cNil))) (gN 2) (sSeq (sSet 3 (cA (ofN 1 F__law_motion) (cCons (cV 1) (cNil)))) (sSeq (sPar 4 5 (cCons (cA (ofN 1 F_axis) (cCons (cV 3) (cNil))) (cCons (cA (ofN 1 F_pitch) (cCons (cV 3) (cNil))) (cNil)))) (sSeq (sIf (cT (c2 (oEq false) (cSl (cV 3) (pSo (cK (.int 3))) (pNo)) (cA oTup (cCons (cK (.int 0)) (cCons (cK (.int 0)) (cCons (cK (.int 0)) (cNil))))))) (sIf (cNotT (cT (cA (ofN 2 F__law_like) (cCons (cA oLst (cCons (cV 4) (cCons (cV 5) (cNil)))) (cCons (cA oLst (cCons (cK .none) (cCons (cK .none) (cNil)))) (cNil)))))) (sRet (cK (.bool false))) (sNil)) (sIf (cOrT (cNotT (cT (cA (ofN 3 F__law_axis_right) (cCons (cV 3) (cCons (cV 4) (cCons (cV 5) (cNil))))))) (cNotT (cT (cA (ofN 3 F__law_beside_right) (cCons (cV 1) (cCons (cV 3) (cCons (cV 5) (cNil)))))))) (sRet (cK (.bool false))) (sNil))) (sSeq (sSet 6 (cA (ofN 2 F__law_three_bad) (cCons (cV 1) (cCons (cV 3) (cNil))))) (sIf (cNotT (cT (cA (ofN 2 F__law_like) (cCons (cA oLst (cCons (cA (ofN 2 F__law_heard) (cCons (cK (.int 0)) (cCons (cV 6) (cNil)))) (cCons (cA (ofN 2 F__law_heard) (cCons (cK (.int 1)) (cCons (cV 6) (cNil)))) (cNil)))) (cCons (cA oLst (cCons (cA oTup (cCons (cK (.int 0)) (cCons (cK (.bool true)) (cNil)))) (cCons (cA oTup (cCons (cK (.int 0)) (cCons (cK (.bool true)) (cNil)))) (cNil)))) (cNil)))))) (sRet (cK (.bool false))) (sNil))))))) (sRet (cK (.bool true)))
theorem sc_law : FnScope ["script", "m", "turn", "motion", "found", "told", "wrong"] ["script"] (defScope (top 55)) := ⟨rfl, rfl, rfl, by decide +kernel, rfl, by decide +kernel, by decide +kernel⟩
def spLaw (K : PySem.W.Frag) : Sp := fun vs H Q E => ∃ (a : Addr) (ns : List Int), vs = [.ref a] ∧ SqF K H a (ns.map V.int) ∧ ns.length ≤ 63 ∧ ∀ H', Q (.bl true) H'
/-- the plain law -/
def Plain : Prop := ∀ cs gs, OmOk 1000000 ⟨cs, gs, 0⟩ → ∃ o', f_law [.un, .val drw, .un, .un, .un, .un, .un] ⟨cs, gs, 0⟩ = .ok (.rt (.bool true)) o'
section
variable {P : Program} {w : World} {K : PySem.W.Frag} {mg : Str → Option Value} {base : Heap}
theorem g_law (pl : Plain) {f fB : Addr} {fd fdB : FuncData} (G : MG mg) (FB : FnG P w K mg base 2 fB fdB ["script"] (spBegun K)) (mB : mg "_law_begun" = some (.ref fB)) (kB : PySem.W.keepIn K (.ref fB) = true) (bB : Binds K fdB ["script"] []) (H__law_axis_right : Has P w K mg base 3 "_law_axis_right" 3 F__law_axis_right) (H__law_beside_right : Has P w K mg base 7 "_law_beside_right" 3 F__law_beside_right) (H__law_heard : Has P w K mg base 5 "_law_heard" 2 F__law_heard) (H__law_like : Has P w K mg base 1 "_law_like" 2 F__law_like) (H__law_motion : Has P w K mg base 4 "_law_motion" 1 F__law_motion) (H__law_three_bad : Has P w K mg base 4 "_law_three_bad" 2 F__law_three_bad) (H_axis : Has P w K mg base 4 "axis" 1 F_axis) (H_pitch : Has P w K mg base 4 "pitch" 1 F_pitch) (D : FunD K "law" "law" (defArgs (top 55)) (defBody (top 55)) (defScope (top 55)) [] [] f fd) : FnG P w K mg base 8 f fd ["script"] (spLaw K) := by
  refine fnG_of D sc_law (fun vs H Q E ⟨a, ns, h, _⟩ => by rw [h]; rfl) ?_
  intro cv A out s H vs Q E hr hg want
  obtain ⟨a, ns, rfl, hsq, hl, want⟩ := want
  have hN := sc_law.nd
  refine ⟨_, pss_cons (ps_set (i := 1) hN (by rfl) (.inl rfl) (pe_callG (W := fun cls d _ H' => E cls d H') FB mB kB bB (hr.mono (by decide)) hg takes_cx (by rfl) (pa_cons (pvv (i := 0)) pa_nil)) (by rfl))
    (show VSs _ (fun cls d _ H' => E cls d H') _ f_law from vss_cons (vs_for passes_cx (by rfl) (vi_range1 (by rfl) G.range (val_cons ((ve_int).vl) (val_nil))) (vg_v 2 hN) (vss_cons (vs_st 3 hN (ve_call H__law_motion (hr.mono (by decide)) hg takes_cx (by rfl) (va_cons (ve_v 1) (va_nil)))) (vss_cons (vs_par (i := 4) (j := 5) (by rfl) hN (by rfl) (by rfl) (by decide) (by rfl) (by rfl) (va_cons (ve_call H_axis (hr.mono (by decide)) hg takes_cx (by rfl) (va_cons (ve_v 3) (va_nil))) (va_cons (ve_call H_pitch (hr.mono (by decide)) hg takes_cx (by rfl) (va_cons (ve_v 3) (va_nil))) (va_nil))) (by rfl)) (vss_cons (vs_if (vt_cmp (ve_eq (un64 hr) ((ve_sl ((ve_v 3).vl) (vo_so ((ve_int).vl)) (vo_no)).vl) ((ve_tup (va_cons (ve_int) (va_cons (ve_int) (va_cons (ve_int) (va_nil))))).vl))) (vss_one (vs_if (vt_not (vt_of ((ve_call H__law_like (hr.mono (by decide)) hg takes_cx (by rfl) (va_cons (ve_lst (va_cons (ve_v 4) (va_cons (ve_v 5) (va_nil)))) (va_cons (ve_lst (va_cons (ve_non) (va_cons (ve_non) (va_nil)))) (va_nil)))).vl) (by intro _; rfl))) (vss_one (vs_ret (ve_bl))) (vss_nil))) (vss_one (vs_if (vt_w (vw_or (vt_not (vt_of ((ve_call H__law_axis_right (hr.mono (by decide)) hg takes_cx (by rfl) (va_cons (ve_v 3) (va_cons (ve_v 4) (va_cons (ve_v 5) (va_nil))))).vl) (by intro _; rfl))) (vw_or1 (vt_not (vt_of ((ve_call H__law_beside_right (hr.mono (by decide)) hg takes_cx (by rfl) (va_cons (ve_v 1) (va_cons (ve_v 3) (va_cons (ve_v 5) (va_nil))))).vl) (by intro _; rfl)))))) (vss_one (vs_ret (ve_bl))) (vss_nil)))) (vss_cons (vs_st 6 hN (ve_call H__law_three_bad (hr.mono (by decide)) hg takes_cx (by rfl) (va_cons (ve_v 1) (va_cons (ve_v 3) (va_nil))))) (vss_one (vs_if (vt_not (vt_of ((ve_call H__law_like (hr.mono (by decide)) hg takes_cx (by rfl) (va_cons (ve_lst (va_cons (ve_call H__law_heard (hr.mono (by decide)) hg takes_cx (by rfl) (va_cons (ve_int) (va_cons (ve_v 6) (va_nil)))) (va_cons (ve_call H__law_heard (hr.mono (by decide)) hg takes_cx (by rfl) (va_cons (ve_int) (va_cons (ve_v 6) (va_nil)))) (va_nil)))) (va_cons (ve_lst (va_cons (ve_tup (va_cons (ve_int) (va_cons (ve_bl) (va_nil)))) (va_cons (ve_tup (va_cons (ve_int) (va_cons (ve_bl) (va_nil)))) (va_nil)))) (va_nil)))).vl) (by intro _; rfl))) (vss_one (vs_ret (ve_bl))) (vss_nil)))))))) (vss_one (vs_ret (ve_bl)))), ?_⟩
  refine ⟨.ref a, rfl, a, ns, rfl, hsq, hl, fun m c g cs gs H' gr dk ok => ?_⟩
  obtain ⟨o', ho⟩ := pl cs gs ok
  obtain ⟨q1, q2, q3, hm, hc, hgr⟩ := id dk
  let U : Addr → Prop := fun x => x = m ∨ x = c ∨ x = g
  have F : FR K (some (m, c, g)) H' U [some (.ref a), some (.ref m), none, none, none, none, none] H' [.un, .val drw, .un, .un, .un, .un, .un] := by
    refine ⟨rfl, fun i v h => ?_, fun i v h => ?_, fun i j b v v2 h => ?_, fun i b cls d cc fs h => ?_, fun b h => h, fun b h => ?_⟩
    · match i, h with
      | 1, h => cases h; exact ⟨.ref m, rfl, .drw rfl⟩
      | 0, h => cases h
      | 2, h => cases h
      | 3, h => cases h
      | 4, h => cases h
      | 5, h => cases h
      | 6, h => cases h
      | n + 7, h => simp at h
    · match i, h with
      | 0, h => cases h
      | 1, h => cases h
      | 2, h => cases h
      | 3, h => cases h
      | 4, h => cases h
      | 5, h => cases h
      | 6, h => cases h
      | n + 7, h => simp at h
    · match i, h with
      | 0, h => cases h
      | 1, h => cases h
      | 2, h => cases h
      | 3, h => cases h
      | 4, h => cases h
      | 5, h => cases h
      | 6, h => cases h
      | n + 7, h => simp at h
    · match i, h with
      | 0, h => cases h
      | 1, h => cases h
      | 2, h => cases h
      | 3, h => cases h
      | 4, h => cases h
      | 5, h => cases h
      | 6, h => cases h
      | n + 7, h => simp at h
    · rcases h with rfl | rfl | rfl
      · exact ⟨_, hm, fun xs => nofun, fun ob u => nofun⟩
      · exact ⟨_, hc, fun xs => nofun, fun ob u => nofun⟩
      · exact ⟨_, hgr, fun xs => nofun, fun ob u => nofun⟩
  refine ⟨some (m, c, g), H', U, H', U, U, _, ⟨cs, gs, 0⟩, ⟨F, Ext.refl _ _, fun _ z => z, fun b hb => ?_, Keep.refl⟩, dk, ?_⟩
  · obtain ⟨u, hu, _⟩ := F.dom b hb
    exact ⟨u, hu⟩
  · rw [ho]
    intro y H2 e2 d2 r2
    cases r2
    exact want H2
end
end K21
end

section
set_option Elab.async false
set_option linter.all false
set_option maxRecDepth 100000
set_option maxHeartbeats 4000000
namespace K21
open PySem PySem.Spec BB
abbrev T2v (a b : Int) : Val := .tuple [.int a, .int b]
abbrev T3v (a b c : Int) : Val := .tuple [.int a, .int b, .int c]
abbrev T6v (a b c d e f : Int) : Val := .tuple [.int a, .int b, .int c, .int d, .int e, .int f]
/-! ## small functions -/
theorem cross_val {x y z u v w : Int} (hx : Bd 400 x) (hy : Bd 400 y) (hz : Bd 400 z) (hu : Bd 400 u) (hv : Bd 400 v) (hw : Bd 400 w) : Is (F_cross [T3v x y z, T3v u v w]) (T3v (y * w - z * v) (z * u - x * w) (x * v - y * u)) := fun o => by
  have g1 := gm hy hw; have g2 := gm hz hv; have g3 := gm hz hu; have g4 := gm hx hw; have g5 := gm hx hv; have g6 := gm hy hu
  simp only [F_cross, f_cross, c1, c2, cA, cCons, cNil, cV, cL, cK, bindE, pureE, okB, List.length_cons, List.length_nil, List.getElem?_cons_zero, List.getElem?_cons_succ, List.set_cons_succ, List.set_cons_zero, slotV, slotL, on1, on2, oInt, oI, oAdd, oMul, oSub, oIx, oLen, if_true, fnR, env0, sSeq, sTgt, sSet, sOwn, sPar, sRet, sRetN, sNil, sIf, sExpr, liftE, List.map_cons, List.map_nil, List.replicate, List.cons_append, List.nil_append, oTup, oLst, LIM, gTp, gCn, gN, gNl, Option.bind_some, Nat.zero_add, Nat.reduceAdd, Nat.reduceLeDiff, cLc, cAI, iZipV, iSeq, asSeq, seqK, zipV, List.zipWith, lcGo, lcStep, R.nx, Out.nx, wipeE, oSum, asInts, Option.map_some, List.sum_cons, List.sum_nil, Int.add_zero, cAnd, cOr, cNot, cT, cNotT, cAndT, cOrT, cIf, truth, ofN, on1, oTuple, oList, oAbs, oGcd, oCmp, oIsN, oLzV, cSl, pNo, pSo, asInt, g1, g2, g3, g4, g5, g6]
theorem product_val {x y z u v w : Int} (hx : Bd 400 x) (hy : Bd 400 y) (hz : Bd 400 z) (hu : Bd 400 u) (hv : Bd 400 v) (hw : Bd 400 w) : Is (F_product_of [T3v x y z, T3v u v w]) (.int (x * u + (y * v + z * w))) := fun o => by
  have g1 := gm hx hu; have g2 := gm hy hv; have g3 := gm hz hw
  simp only [F_product_of, f_product_of, c1, c2, cA, cCons, cNil, cV, cL, cK, bindE, pureE, okB, List.length_cons, List.length_nil, List.getElem?_cons_zero, List.getElem?_cons_succ, List.set_cons_succ, List.set_cons_zero, slotV, slotL, on1, on2, oInt, oI, oAdd, oMul, oSub, oIx, oLen, if_true, fnR, env0, sSeq, sTgt, sSet, sOwn, sPar, sRet, sRetN, sNil, sIf, sExpr, liftE, List.map_cons, List.map_nil, List.replicate, List.cons_append, List.nil_append, oTup, oLst, LIM, gTp, gCn, gN, gNl, Option.bind_some, Nat.zero_add, Nat.reduceAdd, Nat.reduceLeDiff, cLc, cAI, iZipV, iSeq, asSeq, seqK, zipV, List.zipWith, lcGo, lcStep, R.nx, Out.nx, wipeE, oSum, asInts, Option.map_some, List.sum_cons, List.sum_nil, Int.add_zero, cAnd, cOr, cNot, cT, cNotT, cAndT, cOrT, cIf, truth, ofN, on1, oTuple, oList, oAbs, oGcd, oCmp, oIsN, oLzV, cSl, pNo, pSo, asInt, g1, g2, g3]
theorem dot_val {x y z u v w : Int} (hx : Bd 400 x) (hy : Bd 400 y) (hz : Bd 400 z) (hu : Bd 400 u) (hv : Bd 400 v) (hw : Bd 400 w) : Is (F__law_three_dot [T3v x y z, T3v u v w]) (.int (x * u + (y * v + z * w))) := fun o => by
  have g1 := gm hx hu; have g2 := gm hy hv; have g3 := gm hz hw
  simp only [F__law_three_dot, f__law_three_dot, c1, c2, cA, cCons, cNil, cV, cL, cK, bindE, pureE, okB, List.length_cons, List.length_nil, List.getElem?_cons_zero, List.getElem?_cons_succ, List.set_cons_succ, List.set_cons_zero, slotV, slotL, on1, on2, oInt, oI, oAdd, oMul, oSub, oIx, oLen, if_true, fnR, env0, sSeq, sTgt, sSet, sOwn, sPar, sRet, sRetN, sNil, sIf, sExpr, liftE, List.map_cons, List.map_nil, List.replicate, List.cons_append, List.nil_append, oTup, oLst, LIM, gTp, gCn, gN, gNl, Option.bind_some, Nat.zero_add, Nat.reduceAdd, Nat.reduceLeDiff, cLc, cAI, iZipV, iSeq, asSeq, seqK, zipV, List.zipWith, lcGo, lcStep, R.nx, Out.nx, wipeE, oSum, asInts, Option.map_some, List.sum_cons, List.sum_nil, Int.add_zero, cAnd, cOr, cNot, cT, cNotT, cAndT, cOrT, cIf, truth, ofN, on1, oTuple, oList, oAbs, oGcd, oCmp, oIsN, oLzV, cSl, pNo, pSo, asInt, g1, g2, g3]
theorem plus_val {x y z u v w t : Int} (ht : Bd 400 t) (hu : Bd 400 u) (hv : Bd 400 v) (hw : Bd 400 w) : Is (F__law_three_plus [T3v x y z, .int t, T3v u v w]) (T3v (x + t * u) (y + t * v) (z + t * w)) := fun o => by
  have g1 := gm ht hu; have g2 := gm ht hv; have g3 := gm ht hw
  simp only [F__law_three_plus, f__law_three_plus, c1, c2, cA, cCons, cNil, cV, cL, cK, bindE, pureE, okB, List.length_cons, List.length_nil, List.getElem?_cons_zero, List.getElem?_cons_succ, List.set_cons_succ, List.set_cons_zero, slotV, slotL, on1, on2, oInt, oI, oAdd, oMul, oSub, oIx, oLen, if_true, fnR, env0, sSeq, sTgt, sSet, sOwn, sPar, sRet, sRetN, sNil, sIf, sExpr, liftE, List.map_cons, List.map_nil, List.replicate, List.cons_append, List.nil_append, oTup, oLst, LIM, gTp, gCn, gN, gNl, Option.bind_some, Nat.zero_add, Nat.reduceAdd, Nat.reduceLeDiff, cLc, cAI, iZipV, iSeq, asSeq, seqK, zipV, List.zipWith, lcGo, lcStep, R.nx, Out.nx, wipeE, oSum, asInts, Option.map_some, List.sum_cons, List.sum_nil, Int.add_zero, cAnd, cOr, cNot, cT, cNotT, cAndT, cOrT, cIf, truth, ofN, on1, oTuple, oList, oAbs, oGcd, oCmp, oIsN, oLzV, cSl, pNo, pSo, asInt, g1, g2, g3]
theorem plusL_val {x y z u v w t : Int} (ht : Bd 400 t) (hu : Bd 400 u) (hv : Bd 400 v) (hw : Bd 400 w) : Is (F__law_three_plus [.list [.int x, .int y, .int z], .int t, T3v u v w]) (T3v (x + t * u) (y + t * v) (z + t * w)) := fun o => by
  have g1 := gm ht hu; have g2 := gm ht hv; have g3 := gm ht hw
  simp only [F__law_three_plus, f__law_three_plus, c1, c2, cA, cCons, cNil, cV, cL, cK, bindE, pureE, okB, List.length_cons, List.length_nil, List.getElem?_cons_zero, List.getElem?_cons_succ, List.set_cons_succ, List.set_cons_zero, slotV, slotL, on1, on2, oInt, oI, oAdd, oMul, oSub, oIx, oLen, if_true, fnR, env0, sSeq, sTgt, sSet, sOwn, sPar, sRet, sRetN, sNil, sIf, sExpr, liftE, List.map_cons, List.map_nil, List.replicate, List.cons_append, List.nil_append, oTup, oLst, LIM, gTp, gCn, gN, gNl, Option.bind_some, Nat.zero_add, Nat.reduceAdd, Nat.reduceLeDiff, cLc, cAI, iZipV, iSeq, asSeq, seqK, zipV, List.zipWith, lcGo, lcStep, R.nx, Out.nx, wipeE, oSum, asInts, Option.map_some, List.sum_cons, List.sum_nil, Int.add_zero, cAnd, cOr, cNot, cT, cNotT, cAndT, cOrT, cIf, truth, ofN, on1, oTuple, oList, oAbs, oGcd, oCmp, oIsN, oLzV, cSl, pNo, pSo, asInt, g1, g2, g3]
/-! ## what is a whole number -/
def isW : Val → Bool
  | .int _ => true
  | _ => false
theorem whole_any (x : Val) (hm : mark x = false) : Is (F_is_whole [x]) (.bool (isW x)) := by
  cases x with
  | none => exact fun o => rfl
  | bool b => exact fun o => rfl
  | int i => exact fun o => rfl
  | str s => exact fun o => rfl
  | list xs => exact fun o => rfl
  | tuple xs => exact fun o => rfl
  | dict kvs => cases kvs with
    | nil => exact fun o => rfl
    | cons a r => cases hm
theorem truBs_map (bs : List Bool) : truBs (bs.map PyData.bool) = some bs := by
  induction bs with
  | nil => rfl
  | cons b bs ih => simp [truBs, truB, ih]
def rowOk : Val → Bool
  | .tuple xs => decide (xs.length = 6) && xs.all isW
  | _ => false
theorem is_fn' {n : Nat} {fb : SF} {ds : List Val} {v : Val} (h : Is (fb (env0 n ds)) (.rt v)) : Is (fnR n fb ds) v := is_fn h
theorem row_val (x : Val) (hm : mark x = false) : Is (F_is_row [x, .int 6]) (.bool (match x with | .tuple xs => decide (xs.length = 6) | _ => false)) := by
  cases x with
  | tuple xs =>
    intro o
    have e : PyData.eqv (.int (xs.length : Int)) (.int 6) = decide (xs.length = 6) := by
      simp only [PyData.eqv]
      by_cases h : xs.length = 6
      · simp [h]
      · have : ¬ ((xs.length : Int) = 6) := by omega
        simp [h, this]
    have s1 : SeqAt.shaped (.int (xs.length : Int)) = true := rfl
    have s2 : SeqAt.shaped (.int 6) = true := rfl
    have t1 : oIsi "tuple" (.tuple xs) = pure (.bool true) := rfl
    simp only [F_is_row, f_is_row, c1, c2, cA, cCons, cNil, cV, cL, cK, bindE, pureE, okB, List.length_cons, List.length_nil, List.getElem?_cons_zero, List.getElem?_cons_succ, List.set_cons_succ, List.set_cons_zero, slotV, slotL, on1, on2, oInt, oI, oAdd, oMul, oSub, oIx, oLen, if_true, fnR, env0, sSeq, sTgt, sSet, sOwn, sPar, sRet, sRetN, sNil, sIf, sExpr, liftE, List.map_cons, List.map_nil, List.replicate, List.cons_append, List.nil_append, oTup, oLst, LIM, gTp, gCn, gN, gNl, Option.bind_some, Nat.zero_add, Nat.reduceAdd, Nat.reduceLeDiff, cLc, cAI, iZipV, iSeq, asSeq, seqK, zipV, List.zipWith, lcGo, lcStep, R.nx, Out.nx, wipeE, oSum, asInts, Option.map_some, List.sum_cons, List.sum_nil, Int.add_zero, cAnd, cOr, cNot, cT, cNotT, cAndT, cOrT, cIf, truth, ofN, on1, oTuple, oList, oAbs, oGcd, oCmp, oIsN, oLzV, cSl, pNo, pSo, asInt, t1, oEq, s1, s2, Bool.and_self, e, Bool.false_eq_true, if_false]
  | none => exact fun o => rfl
  | bool b => exact fun o => rfl
  | int i => exact fun o => rfl
  | str s => exact fun o => rfl
  | list xs => exact fun o => rfl
  | dict kvs => cases kvs with
    | nil => exact fun o => rfl
    | cons a r => cases hm
theorem numbers_val (x : Val) (hm : mark x = false) (hms : ∀ xs, x = .tuple xs → ∀ y ∈ xs, mark y = false) : Is (F_is_numbers [x, .int 6]) (.bool (rowOk x)) := by
  have e0 : env0 3 [x, .int 6] = [.val x, .val (.int 6), .un] := rfl
  refine is_fn (fb := f_is_numbers) ?_
  rw [e0]
  unfold f_is_numbers sRet
  refine is_lift (v := PyData.bool (rowOk x)) (fun o => ?_) Is.pure
  have r := row_val x hm o
  simp only [cAnd, cA, cCons, cNil, cV, cK, bindE, pureE, okB, List.getElem?_cons_zero, List.getElem?_cons_succ, slotV, ofN, List.length_cons, List.length_nil, Nat.zero_add, Nat.reduceAdd, if_true, r, truth]
  cases x with
  | tuple xs =>
    dsimp only
    by_cases h : xs.length = 6
    · rw [if_pos (decide_eq_true h)]
      have lc : Is (cLc [2] (iSeq (cV 0)) (gN 2) (fun _ => pure true) (cA (ofN 1 F_is_whole) (cCons (cV 2) cNil)) [.val (.tuple xs), .val (.int 6), .un]) (PyData.list (xs.map fun y => PyData.bool (isW y))) := by
        refine is_lc (xs := xs) (h := fun y => PyData.bool (isW y)) (fun o => rfl) (by rw [h]; decide) fun y hy => ⟨_, rfl, fun o => ?_⟩
        have w := whole_any y (hms xs rfl y hy) o
        simp only [wipeE, c1, c2, cA, cCons, cNil, cV, cL, cK, bindE, pureE, okB, List.length_cons, List.length_nil, List.getElem?_cons_zero, List.getElem?_cons_succ, List.set_cons_succ, List.set_cons_zero, slotV, slotL, on1, on2, oInt, oI, oAdd, oMul, oSub, oIx, oLen, if_true, ofN, Nat.zero_add, w]
      have q := lc o
      simp only [bindE, q, okB, pureE, on1, oTru]
      rw [show (xs.map fun y => PyData.bool (isW y)) = (xs.map isW).map PyData.bool by simp, truBs_map]
      simp [pureE, rowOk, h]
    · rw [if_neg (by rw [decide_eq_false h]; exact Bool.false_ne_true)]
      show Out.ok _ o = _
      simp only [rowOk]
      rw [decide_eq_false h]; rfl
  | none => rfl
  | bool b => rfl
  | int i => rfl
  | str s => rfl
  | list xs => rfl
  | dict kvs => rfl
/-- the error of a wrong row -/
def Ex {α : Type} (m : R α) (c : Str) (fs : List (Str × Val)) : Prop := ∀ o, m o = .exc c fs o
theorem need_ok (x : Val) (hm : mark x = false) (hms : ∀ xs, x = .tuple xs → ∀ y ∈ xs, mark y = false) (h : rowOk x = true) : Is (F_need_row [x, .int 6, .int 0]) x := fun o => by
  have n := numbers_val x hm hms o
  rw [h] at n
  simp only [F_need_row, f_need_row, c1, c2, cA, cCons, cNil, cV, cL, cK, bindE, pureE, okB, List.length_cons, List.length_nil, List.getElem?_cons_zero, List.getElem?_cons_succ, List.set_cons_succ, List.set_cons_zero, slotV, slotL, on1, on2, oInt, oI, oAdd, oMul, oSub, oIx, oLen, if_true, fnR, env0, sSeq, sTgt, sSet, sOwn, sPar, sRet, sRetN, sNil, sIf, sExpr, liftE, List.map_cons, List.map_nil, List.replicate, List.cons_append, List.nil_append, oTup, oLst, LIM, gTp, gCn, gN, gNl, Option.bind_some, Nat.zero_add, Nat.reduceAdd, Nat.reduceLeDiff, cLc, cAI, iZipV, iSeq, asSeq, seqK, zipV, List.zipWith, lcGo, lcStep, R.nx, Out.nx, wipeE, oSum, asInts, Option.map_some, List.sum_cons, List.sum_nil, Int.add_zero, cAnd, cOr, cNot, cT, cNotT, cAndT, cOrT, cIf, truth, ofN, on1, oTuple, oList, oAbs, oGcd, oCmp, oIsN, oLzV, cSl, pNo, pSo, asInt, n, Bool.not_true, Bool.false_eq_true, if_false]
theorem need_bad (x : Val) (hm : mark x = false) (hms : ∀ xs, x = .tuple xs → ∀ y ∈ xs, mark y = false) (h : rowOk x = false) : Ex (F_need_row [x, .int 6, .int 0]) "BadRow" [(("index" : Str), .int 0)] := fun o => by
  have n := numbers_val x hm hms o
  rw [h] at n
  simp only [F_need_row, f_need_row, c1, c2, cA, cCons, cNil, cV, cL, cK, bindE, pureE, okB, List.length_cons, List.length_nil, List.getElem?_cons_zero, List.getElem?_cons_succ, List.set_cons_succ, List.set_cons_zero, slotV, slotL, on1, on2, oInt, oI, oAdd, oMul, oSub, oIx, oLen, if_true, fnR, env0, sSeq, sTgt, sSet, sOwn, sPar, sRet, sRetN, sNil, sIf, sExpr, liftE, List.map_cons, List.map_nil, List.replicate, List.cons_append, List.nil_append, oTup, oLst, LIM, gTp, gCn, gN, gNl, Option.bind_some, Nat.zero_add, Nat.reduceAdd, Nat.reduceLeDiff, cLc, cAI, iZipV, iSeq, asSeq, seqK, zipV, List.zipWith, lcGo, lcStep, R.nx, Out.nx, wipeE, oSum, asInts, Option.map_some, List.sum_cons, List.sum_nil, Int.add_zero, cAnd, cOr, cNot, cT, cNotT, cAndT, cOrT, cIf, truth, ofN, on1, oTuple, oList, oAbs, oGcd, oCmp, oIsN, oLzV, cSl, pNo, pSo, asInt, n, Bool.not_false, sRaise1]
end K21
end

section
set_option Elab.async false
set_option linter.all false
set_option maxRecDepth 100000
set_option maxHeartbeats 4000000
namespace K21
open PySem PySem.Spec BB
theorem fmod_natV {a b : Nat} (h : 0 < b) : Int.fmod (a : Int) (b : Int) = ((a % b : Nat) : Int) := by
  rw [Int.fmod_eq_emod_of_nonneg _ (by omega)]; rfl
def bGcd : SF := sSeq (sIf (cT (c2 (oEq false) (cV 1) (cK (.int 0)))) (sBk) (sNil)) (sPar 0 1 (cCons (cV 1) (cCons (c2 (oI gMod Int.fmod) (cA (on1 oInt) (cCons (cV 0) (cNil))) (cV 1)) (cNil))))
theorem eq_int (i j : Int) (o : Om) : oEq false (.int i) (.int j) o = .ok (.bool (i == j)) o := rfl
theorem bGcd_stop (a : Int) (s : Slot) : Is (bGcd [.val (.int a), .val (.int 0), s]) (.bk [.val (.int a), .val (.int 0), s]) := fun o => rfl
theorem bGcd_go (a b : Nat) (hb : 0 < b) (s : Slot) : Is (bGcd [.val (.int (a : Nat)), .val (.int (b : Nat)), s]) (.nx [.val (.int (b : Nat)), .val (.int ((a % b : Nat) : Int)), s]) := fun o => by
  have e : (((b : Nat) : Int) == 0) = false := by
    have : ¬ ((b : Nat) : Int) = 0 := by omega
    simp
    omega
  have g : gMod (a : Int) (b : Int) = true := decide_eq_true (by omega)
  simp only [bGcd, c1, c2, cA, cCons, cNil, cV, cL, cK, bindE, pureE, okB, List.length_cons, List.length_nil, List.getElem?_cons_zero, List.getElem?_cons_succ, List.set_cons_succ, List.set_cons_zero, slotV, slotL, on1, on2, oInt, oI, oAdd, oMul, oSub, oIx, oLen, if_true, fnR, env0, sSeq, sTgt, sSet, sOwn, sPar, sRet, sRetN, sNil, sIf, sExpr, liftE, List.map_cons, List.map_nil, List.replicate, List.cons_append, List.nil_append, oTup, oLst, LIM, gTp, gCn, gN, gNl, Option.bind_some, Nat.zero_add, Nat.reduceAdd, Nat.reduceLeDiff, cLc, cAI, iZipV, iSeq, asSeq, seqK, zipV, List.zipWith, lcGo, lcStep, R.nx, Out.nx, wipeE, oSum, asInts, Option.map_some, List.sum_cons, List.sum_nil, Int.add_zero, cAnd, cOr, cNot, cT, cNotT, cAndT, cOrT, cIf, truth, ofN, on1, oTuple, oList, oAbs, oGcd, oCmp, oIsN, oLzV, cSl, pNo, pSo, asInt, eq_int, e, Bool.false_eq_true, if_false, g, fmod_natV hb]
theorem for_bk {g : Val → BB.Env → Option BB.Env} {fb : SF} {x : Val} {xs : List Val} {ρ ρ1 ρ2 : BB.Env} (h1 : g x ρ = some ρ1) (h2 : Is (fb ρ1) (.bk ρ2)) : Is (forGo g fb (x :: xs) ρ) (.nx ρ2) := by
  unfold forGo
  simp only [h1]
  exact Is.bind h2 Is.pure
theorem for_nx {g : Val → BB.Env → Option BB.Env} {fb : SF} {x : Val} {xs : List Val} {ρ ρ1 ρ2 : BB.Env} {s : SO} (h1 : g x ρ = some ρ1) (h2 : Is (fb ρ1) (.nx ρ2)) (h3 : Is (forGo g fb xs ρ2) s) : Is (forGo g fb (x :: xs) ρ) s := by
  unfold forGo
  simp only [h1]
  exact Is.bind h2 h3
theorem gcd_go : ∀ (k : Nat) (a b : Nat) (xs : List Val) (s : Slot), b < 2 ^ k → 2 * k + 1 ≤ xs.length → ∃ s1 s2, Is (forGo (gN 2) bGcd xs [.val (.int (a : Nat)), .val (.int (b : Nat)), s]) (.nx [.val (.int ((Nat.gcd a b : Nat) : Int)), s1, s2])
  | 0, a, b, [], s, _, h => by simp at h
  | k + 1, a, b, [], s, _, h => by simp at h
  | 0, a, b, x :: xs, s, hb, h => by
    have : b = 0 := by simpa using hb
    subst this
    rw [Nat.gcd_zero_right]
    exact ⟨_, _, for_bk rfl (bGcd_stop _ _)⟩
  | k + 1, a, b, [x], s, _, h => by simp at h
  | k + 1, a, b, x :: y :: xs, s, hb, h => by
    by_cases b0 : b = 0
    · subst b0
      rw [Nat.gcd_zero_right]
      exact ⟨_, _, for_bk rfl (bGcd_stop _ _)⟩
    · have bp : 0 < b := by omega
      have e1 : Nat.gcd a b = Nat.gcd b (a % b) := (Nat.gcd_comm a b).trans ((Nat.gcd_rec b a).trans (Nat.gcd_comm _ _))
      by_cases r0 : a % b = 0
      · rw [e1, r0, Nat.gcd_zero_right]
        have z := bGcd_go a b bp (.val x)
        rw [r0] at z
        exact ⟨_, _, for_nx rfl z (for_bk rfl (bGcd_stop _ _))⟩
      · have rp : 0 < a % b := by omega
        have rl : a % b < b := Nat.mod_lt _ bp
        have e2 : Nat.gcd b (a % b) = Nat.gcd (a % b) (b % (a % b)) := (Nat.gcd_comm b (a % b)).trans ((Nat.gcd_rec (a % b) b).trans (Nat.gcd_comm _ _))
        have hl : b % (a % b) < 2 ^ k := by
          rw [Nat.pow_succ] at hb
          have q1 : b % (a % b) < a % b := Nat.mod_lt _ rp
          have q2 := Nat.div_add_mod b (a % b)
          have q3 : 1 ≤ b / (a % b) := Nat.div_pos (by omega) rp
          have q4 : a % b * 1 ≤ a % b * (b / (a % b)) := Nat.mul_le_mul_left _ q3
          omega
        obtain ⟨s1, s2, ih⟩ := gcd_go k (a % b) (b % (a % b)) xs (.val y) hl (by simp only [List.length_cons] at h; omega)
        rw [e1, e2]
        exact ⟨s1, s2, for_nx rfl (bGcd_go a b bp (.val x)) (for_nx rfl (bGcd_go b (a % b) rp (.val y)) ih)⟩
theorem gcd_val (a b : Nat) (hb : b < 2 ^ 900) : Is (F__law_four_gcd [.int (a : Nat), .int (b : Nat)]) (.int ((Nat.gcd a b : Nat) : Int)) := by
  obtain ⟨s1, s2, h⟩ := gcd_go 900 a b (rangeV 0 2000) .un hb (by simp [rangeV])
  refine is_fn (fb := f__law_four_gcd) ?_
  refine is_seq (is_lift (v := rangeV 0 2000) (fun o => ?_) h) (fun o => rfl)
  simp only [cAI, cCons, cK, cNil, bindE, pureE, okB, iRange1, RMAX, show ((2000 : Int) ≤ 1000000 ∧ -1000000 ≤ (2000 : Int)) = True from by simp, if_true]
  rfl
end K21
end

section
set_option Elab.async false
set_option linter.all false
set_option maxRecDepth 100000
set_option maxHeartbeats 4000000
namespace K21
open PySem PySem.Spec BB
theorem gcd_lt {a b n : Nat} (ha : a < n) (hb : b < n) : Nat.gcd a b < n := by
  by_cases h : b = 0
  · subst h; rw [Nat.gcd_zero_right]; exact ha
  · exact Nat.lt_of_le_of_lt (Nat.gcd_le_right _ (by omega)) hb
def foldG (s : Nat) : List Int → Nat
  | [] => s
  | n :: ns => foldG (Nat.gcd n.natAbs s) ns
theorem foldG_lt {N : Nat} : ∀ {ns : List Int} {s : Nat}, (∀ n ∈ ns, n.natAbs < N) → s < N → foldG s ns < N
  | [], s, _, h => h
  | n :: ns, s, hn, h => foldG_lt (ns := ns) (fun m hm => hn m (List.mem_cons_of_mem _ hm)) (gcd_lt (hn n List.mem_cons_self) h)
def bShort : SF := sSet 1 (cA (ofN 2 F__law_four_gcd) (cCons (cA (on1 oAbs) (cCons (cV 2) (cNil))) (cCons (cV 1) (cNil))))
theorem abs_val (n : Int) (o : Om) : oAbs (.int n) o = .ok (.int ((n.natAbs : Nat) : Int)) o := by
  unfold oAbs
  simp only [pureE]
  congr 2
  by_cases h : n < 0
  · rw [if_pos h]; omega
  · rw [if_neg h]; omega
theorem short_go (row : Slot) : ∀ (ns : List Int) (s : Nat) (sl : Slot), (∀ n ∈ ns, n.natAbs < 2 ^ 800) → s < 2 ^ 800 → ∃ sl', Is (forGo (gN 2) bShort (ns.map PyData.int) [row, .val (.int (s : Nat)), sl]) (.nx [row, .val (.int ((foldG s ns : Nat) : Int)), sl'])
  | [], s, sl, _, _ => ⟨sl, Is.pure⟩
  | n :: ns, s, sl, hn, hs => by
    have hs' : Nat.gcd n.natAbs s < 2 ^ 800 := gcd_lt (hn n List.mem_cons_self) hs
    obtain ⟨sl', ih⟩ := short_go row ns (Nat.gcd n.natAbs s) (.val (.int n)) (fun m hm => hn m (List.mem_cons_of_mem _ hm)) hs'
    refine ⟨sl', for_nx rfl (fun o => ?_) ih⟩
    have g := gcd_val n.natAbs s (Nat.lt_of_lt_of_le hs (Nat.pow_le_pow_right (by decide) (by decide))) o
    simp only [bShort, sSet, liftE, cA, cCons, cNil, cV, bindE, pureE, okB, List.getElem?_cons_zero, List.getElem?_cons_succ, List.set_cons_succ, List.set_cons_zero, slotV, on1, abs_val, ofN, List.length_cons, List.length_nil, Nat.zero_add, Nat.reduceAdd, if_true, g]
def shortL (ns : List Int) : List Int := if 1 < foldG 0 ns then ns.map (fun n => Int.fdiv n ((foldG 0 ns : Nat) : Int)) else ns
theorem short_val (ns : List Int) (hl : ns.length ≤ 1000) (hn : ∀ n ∈ ns, n.natAbs < 2 ^ 800) : Is (F__law_four_short [.tuple (ns.map PyData.int)]) (.list ((shortL ns).map PyData.int)) := by
  obtain ⟨sl, h⟩ := short_go (.val (.tuple (ns.map PyData.int))) ns 0 .un hn (Nat.two_pow_pos _)
  have hG : foldG 0 ns < 2 ^ 800 := foldG_lt hn (Nat.two_pow_pos _)
  refine is_fn (fb := f__law_four_short) ?_
  refine is_seq (is_lift (v := PyData.int 0) (fun o => rfl) Is.pure) (is_seq (is_lift (v := ns.map PyData.int) (fun o => rfl) h) ?_)
  unfold shortL
  by_cases c : 1 < foldG 0 ns
  · rw [if_pos c]
    have c' : (1 : Int) < ((foldG 0 ns : Nat) : Int) := by omega
    have gd1 : ∀ n, gDiv n ((foldG 0 ns : Nat) : Int) = true := fun n => gd (k := 800) (by omega) (by unfold Bd; rw [Int.natAbs_natCast]; exact hG)
    have lc : Is (cLc [2] (iSeq (cV 0)) (gN 2) (fun _ => pure true) (c2 (oI gDiv Int.fdiv) (cV 2) (cV 1)) [.val (.tuple (ns.map PyData.int)), .val (.int ((foldG 0 ns : Nat) : Int)), sl]) (PyData.list ((ns.map PyData.int).map fun x => match x with | .int n => .int (Int.fdiv n ((foldG 0 ns : Nat) : Int)) | v => v)) := by
      refine is_lc (xs := ns.map PyData.int) (h := fun x => match x with | .int n => .int (Int.fdiv n ((foldG 0 ns : Nat) : Int)) | v => v) (fun o => rfl) (by rw [List.length_map]; exact Nat.le_trans hl (by decide)) fun x hx => ?_
      obtain ⟨n, _, rfl⟩ := List.mem_map.mp hx
      exact ⟨_, rfl, fun o => by simp only [wipeE, c1, c2, cA, cCons, cNil, cV, cL, cK, bindE, pureE, okB, List.length_cons, List.length_nil, List.getElem?_cons_zero, List.getElem?_cons_succ, List.set_cons_succ, List.set_cons_zero, slotV, slotL, on1, on2, oInt, oI, oAdd, oMul, oSub, oIx, oLen, if_true, gd1]⟩
    have e : ((ns.map PyData.int).map fun x => match x with | .int n => PyData.int (Int.fdiv n ((foldG 0 ns : Nat) : Int)) | v => v) = (ns.map fun n => Int.fdiv n ((foldG 0 ns : Nat) : Int)).map PyData.int := by simp
    rw [e] at lc
    refine is_lift (v := PyData.list ((ns.map fun n => Int.fdiv n ((foldG 0 ns : Nat) : Int)).map PyData.int)) (fun o => ?_) Is.pure
    have q := lc o
    simp only [cIf, cT, truth, oCmp, c1, c2, cA, cCons, cNil, cV, cL, cK, bindE, pureE, okB, List.length_cons, List.length_nil, List.getElem?_cons_zero, List.getElem?_cons_succ, List.set_cons_succ, List.set_cons_zero, slotV, slotL, on1, on2, oInt, oI, oAdd, oMul, oSub, oIx, oLen, if_true, c', decide_true]
    exact q
  · rw [if_neg c]
    have c' : ¬ (1 : Int) < ((foldG 0 ns : Nat) : Int) := by omega
    refine is_lift (v := PyData.list (ns.map PyData.int)) (fun o => ?_) Is.pure
    simp only [cIf, cT, truth, oCmp, c1, c2, cA, cCons, cNil, cV, cL, cK, bindE, pureE, okB, List.length_cons, List.length_nil, List.getElem?_cons_zero, List.getElem?_cons_succ, List.set_cons_succ, List.set_cons_zero, slotV, slotL, on1, on2, oInt, oI, oAdd, oMul, oSub, oIx, oLen, if_true, c', decide_false, Bool.false_eq_true, if_false, oList]
end K21
end

section
set_option Elab.async false
set_option linter.all false
set_option maxRecDepth 100000
set_option maxHeartbeats 4000000
set_option exponentiation.threshold 2000
namespace K21
open PySem PySem.Spec BB
/-! ## lowest terms -/
def bLow : SF := sSet 2 (cA (on2 oGcd) (cCons (cV 2) (cCons (cV 3) (cNil))))
def foldL (s : Nat) : List Int → Nat
  | [] => s
  | n :: ns => foldL (Nat.gcd s n.natAbs) ns
theorem foldL_pos : ∀ {ns : List Int} {s : Nat}, 0 < s → 0 < foldL s ns
  | [], s, h => h
  | n :: ns, s, h => foldL_pos (ns := ns) (Nat.gcd_pos_of_pos_left _ h)
theorem foldL_le : ∀ {ns : List Int} {s : Nat}, 0 < s → foldL s ns ≤ s
  | [], s, h => Nat.le_refl _
  | n :: ns, s, h => Nat.le_trans (foldL_le (ns := ns) (Nat.gcd_pos_of_pos_left _ h)) (Nat.gcd_le_left _ h)
theorem low_go (c0 c1 : Slot) : ∀ (ns : List Int) (s : Nat) (sl : Slot), ∃ sl', Is (forGo (gN 3) bLow (ns.map PyData.int) [c0, c1, .val (.int (s : Nat)), sl]) (.nx [c0, c1, .val (.int ((foldL s ns : Nat) : Int)), sl'])
  | [], s, sl => ⟨sl, Is.pure⟩
  | n :: ns, s, sl => by
    obtain ⟨sl', ih⟩ := low_go c0 c1 ns (Nat.gcd s n.natAbs) (.val (.int n))
    refine ⟨sl', for_nx rfl (fun o => ?_) ih⟩
    simp only [bLow, sSet, liftE, cA, cCons, cNil, cV, bindE, pureE, okB, List.getElem?_cons_zero, List.getElem?_cons_succ, List.set_cons_succ, List.set_cons_zero, slotV, on2, oGcd, Int.natAbs_natCast]
def divs (g : Nat) (ns : List Int) : List Int := ns.map fun n => Int.fdiv n (g : Int)
theorem low_val (c : Nat) (ns : List Int) (v : Val) (hv : asSeq v = pure (ns.map PyData.int)) (hc : 0 < c) (hb : c < 2 ^ 800) (hl : ns.length ≤ 1000) :
    Is (F_lowest_terms [.int (c : Nat), v]) (.tuple [.int (Int.fdiv (c : Int) ((foldL c ns : Nat) : Int)), .tuple ((divs (foldL c ns) ns).map PyData.int)]) := by
  obtain ⟨sl, h⟩ := low_go (.val (.int (c : Nat))) (.val v) ns c .un
  have gp : 0 < foldL c ns := foldL_pos hc
  have gl := foldL_le (ns := ns) hc
  have gd1 : ∀ n, gDiv n ((foldL c ns : Nat) : Int) = true := fun n => gd (k := 800) (by omega) (by unfold Bd; rw [Int.natAbs_natCast]; omega)
  have cp : (0 : Int) < (c : Nat) := by omega
  have sq : ∀ (ρ : BB.Env), ρ[1]? = some (.val v) → Is (iSeq (cV 1) ρ) (ns.map PyData.int) := fun ρ h1 o => by
    simp only [iSeq, cV, h1, slotV, bindE, pureE, okB]
    rw [hv]; rfl
  refine is_fn (fb := f_lowest_terms) ?_
  refine is_seq (is_lift (v := PyData.int (c : Nat)) (fun o => rfl) Is.pure) (is_seq (is_lift (v := ns.map PyData.int) (sq _ rfl) h) (is_seq (ρ' := [.val (.int (c : Nat)), .val v, .val (.int ((foldL c ns : Nat) : Int)), sl]) (is_lift (v := PyData.int ((foldL c ns : Nat) : Int)) (fun o => ?_) Is.pure) ?_))
  · simp only [cIf, cT, truth, oCmp, c1, c2, cA, cCons, cNil, cV, cL, cK, bindE, pureE, okB, List.length_cons, List.length_nil, List.getElem?_cons_zero, List.getElem?_cons_succ, List.set_cons_succ, List.set_cons_zero, slotV, slotL, on1, on2, oInt, oI, oAdd, oMul, oSub, oIx, oLen, if_true, cp, decide_true, abs_val, Int.natAbs_natCast]
  · have lc : Is (cLc [3] (iSeq (cV 1)) (gN 3) (fun _ => pure true) (c2 (oI gDiv Int.fdiv) (cV 3) (cV 2)) [.val (.int (c : Nat)), .val v, .val (.int ((foldL c ns : Nat) : Int)), sl]) (PyData.list ((ns.map PyData.int).map fun x => match x with | .int n => .int (Int.fdiv n ((foldL c ns : Nat) : Int)) | v => v)) := by
      refine is_lc (xs := ns.map PyData.int) (h := fun x => match x with | .int n => .int (Int.fdiv n ((foldL c ns : Nat) : Int)) | v => v) (sq _ rfl) (by rw [List.length_map]; exact Nat.le_trans hl (by decide)) fun x hx => ?_
      obtain ⟨n, _, rfl⟩ := List.mem_map.mp hx
      exact ⟨_, rfl, fun o => by simp only [wipeE, c1, c2, cA, cCons, cNil, cV, cL, cK, bindE, pureE, okB, List.length_cons, List.length_nil, List.getElem?_cons_zero, List.getElem?_cons_succ, List.set_cons_succ, List.set_cons_zero, slotV, slotL, on1, on2, oInt, oI, oAdd, oMul, oSub, oIx, oLen, if_true, gd1]⟩
    have e : ((ns.map PyData.int).map fun x => match x with | .int n => PyData.int (Int.fdiv n ((foldL c ns : Nat) : Int)) | v => v) = (divs (foldL c ns) ns).map PyData.int := by simp [divs]
    rw [e] at lc
    refine is_lift (v := PyData.tuple [.int (Int.fdiv (c : Int) ((foldL c ns : Nat) : Int)), .tuple ((divs (foldL c ns) ns).map PyData.int)]) (fun o => ?_) Is.pure
    have q := lc o
    simp only [cA, cCons, cNil, bindE, c2, cV, cK, List.getElem?_cons_zero, List.getElem?_cons_succ, slotV, pureE, okB, oI, gd1, if_true, q, on1, oTuple, oTup, List.length_cons, List.length_nil, Nat.zero_add, Nat.reduceAdd, LIM, Nat.reduceLeDiff]
/-! ## axis and pitch -/
def axC (d e f : Int) : Nat := (d * d + (e * e + f * f)).toNat
theorem axC_eq (d e f : Int) : ((axC d e f : Nat) : Int) = d * d + (e * e + f * f) := by
  unfold axC
  have h1 : 0 ≤ d * d := by rcases Int.le_total 0 d with h | h; exact Int.mul_nonneg h h; exact Int.mul_nonneg_of_nonpos_of_nonpos h h
  have h2 : 0 ≤ e * e := by rcases Int.le_total 0 e with h | h; exact Int.mul_nonneg h h; exact Int.mul_nonneg_of_nonpos_of_nonpos h h
  have h3 : 0 ≤ f * f := by rcases Int.le_total 0 f with h | h; exact Int.mul_nonneg h h; exact Int.mul_nonneg_of_nonpos_of_nonpos h h
  omega
def axP (a b c d e f : Int) : List Int := [e * c - f * b, f * a - d * c, d * b - e * a]
def axG (a b c d e f : Int) : Nat := foldL (axC d e f) (axP a b c d e f)
def axH (d e f : Int) : Nat := Nat.gcd d.natAbs (Nat.gcd e.natAbs f.natAbs)
end K21
end

section
set_option Elab.async false
set_option linter.all false
set_option maxRecDepth 100000
set_option maxHeartbeats 4000000
set_option exponentiation.threshold 2000
namespace K21
open PySem PySem.Spec BB
theorem cut_lo (a b c d e f : Val) : cutL [a, b, c, d, e, f] (some 3) none = [d, e, f] := rfl
theorem cut_hi (a b c d e f : Val) : cutL [a, b, c, d, e, f] none (some 3) = [a, b, c] := rfl
theorem at0 (a b c : Val) : L2.atI [a, b, c] 0 = some a := rfl
theorem at1 (a b c : Val) : L2.atI [a, b, c] 1 = some b := rfl
theorem at2 (a b c : Val) : L2.atI [a, b, c] 2 = some c := rfl
theorem any3 (d e f : Int) (o : Om) : oTru (fun ks => ks.any id) (T3v d e f) o = .ok (.bool (d != 0 || (e != 0 || f != 0))) o := by
  show (pure (PyData.bool _) : R Val) o = _
  simp [pureE, List.any]
structure B6 (k : Nat) (a b c d e f : Int) : Prop where
  a : Bd k a
  b : Bd k b
  c : Bd k c
  d : Bd k d
  e : Bd k e
  f : Bd k f
theorem B6.mono {k l : Nat} {a b c d e f : Int} (h : B6 k a b c d e f) (q : k ≤ l) : B6 l a b c d e f := ⟨h.a.mono q, h.b.mono q, h.c.mono q, h.d.mono q, h.e.mono q, h.f.mono q⟩
theorem need6 (a b c d e f : Int) : Is (F_need_row [T6v a b c d e f, .int 6, .int 0]) (T6v a b c d e f) := need_ok _ rfl (fun xs h y hy => by
  cases h
  simp only [List.mem_cons, List.not_mem_nil, or_false] at hy
  rcases hy with rfl | rfl | rfl | rfl | rfl | rfl <;> rfl) rfl
theorem nz_any {d e f : Int} (h : ¬ (d = 0 ∧ e = 0 ∧ f = 0)) : (d != 0 || (e != 0 || f != 0)) = true := by
  by_cases h1 : d = 0
  · by_cases h2 : e = 0
    · have h3 : ¬ f = 0 := fun z => h ⟨h1, h2, z⟩
      simp [h3]
    · simp [h2]
  · simp [h1]
theorem axC_pos {d e f : Int} (h : ¬ (d = 0 ∧ e = 0 ∧ f = 0)) : 0 < axC d e f := by
  have q := axC_eq d e f
  have sq : ∀ x : Int, 0 ≤ x * x := fun x => by rcases Int.le_total 0 x with h | h; exact Int.mul_nonneg h h; exact Int.mul_nonneg_of_nonpos_of_nonpos h h
  have sp : ∀ x : Int, x ≠ 0 → 0 < x * x := fun x hx => by
    have := sq x
    have : x * x ≠ 0 := Int.mul_ne_zero hx hx
    omega
  have h1 := sq d; have h2 := sq e; have h3 := sq f
  by_cases c1 : d = 0
  · by_cases c2 : e = 0
    · have c3 : f ≠ 0 := fun z => h ⟨c1, c2, z⟩
      have := sp f c3; omega
    · have := sp e c2; omega
  · have := sp d c1; omega
theorem axC_bd {d e f : Int} {k : Nat} (hd : Bd k d) (he : Bd k e) (hf : Bd k f) (hk : k ≤ 300) : axC d e f < 2 ^ 800 := by
  have b : Bd (k + k + 1 + 1) (d * d + (e * e + f * f)) := Bd.add ((hd.mul hd).mono (Nat.le_succ _)) ((he.mul he).add (hf.mul hf))
  have b2 := b.mono (l := 800) (by omega)
  have q := axC_eq d e f
  unfold Bd at b2
  rw [← q, Int.natAbs_natCast] at b2
  exact b2
theorem axis_none (a b c : Int) : Is (F_axis [T6v a b c 0 0 0]) .none := fun o => by
  have n := fun o => need6 a b c 0 0 0 o
  simp only [F_axis, f_axis, c1, c2, cA, cCons, cNil, cV, cL, cK, bindE, pureE, okB, List.length_cons, List.length_nil, List.getElem?_cons_zero, List.getElem?_cons_succ, List.set_cons_succ, List.set_cons_zero, slotV, slotL, on1, on2, oInt, oI, oAdd, oMul, oSub, oIx, oLen, if_true, fnR, env0, sSeq, sTgt, sSet, sOwn, sPar, sRet, sRetN, sNil, sIf, sExpr, liftE, List.map_cons, List.map_nil, List.replicate, List.cons_append, List.nil_append, oTup, oLst, LIM, gTp, gCn, gN, gNl, Option.bind_some, Nat.zero_add, Nat.reduceAdd, Nat.reduceLeDiff, cLc, cAI, iZipV, iSeq, asSeq, seqK, zipV, List.zipWith, lcGo, lcStep, R.nx, Out.nx, wipeE, oSum, asInts, Option.map_some, List.sum_cons, List.sum_nil, Int.add_zero, cAnd, cOr, cNot, cT, cNotT, cAndT, cOrT, cIf, truth, ofN, on1, oTuple, oList, oAbs, oGcd, oCmp, oIsN, oLzV, cSl, pNo, pSo, asInt, n, oSl, cut_lo, any3, bne_self_eq_false, Bool.or_self, Bool.not_false]
theorem pitch_none (a b c : Int) : Is (F_pitch [T6v a b c 0 0 0]) .none := fun o => by
  have n := fun o => need6 a b c 0 0 0 o
  simp only [F_pitch, f_pitch, c1, c2, cA, cCons, cNil, cV, cL, cK, bindE, pureE, okB, List.length_cons, List.length_nil, List.getElem?_cons_zero, List.getElem?_cons_succ, List.set_cons_succ, List.set_cons_zero, slotV, slotL, on1, on2, oInt, oI, oAdd, oMul, oSub, oIx, oLen, if_true, fnR, env0, sSeq, sTgt, sSet, sOwn, sPar, sRet, sRetN, sNil, sIf, sExpr, liftE, List.map_cons, List.map_nil, List.replicate, List.cons_append, List.nil_append, oTup, oLst, LIM, gTp, gCn, gN, gNl, Option.bind_some, Nat.zero_add, Nat.reduceAdd, Nat.reduceLeDiff, cLc, cAI, iZipV, iSeq, asSeq, seqK, zipV, List.zipWith, lcGo, lcStep, R.nx, Out.nx, wipeE, oSum, asInts, Option.map_some, List.sum_cons, List.sum_nil, Int.add_zero, cAnd, cOr, cNot, cT, cNotT, cAndT, cOrT, cIf, truth, ofN, on1, oTuple, oList, oAbs, oGcd, oCmp, oIsN, oLzV, cSl, pNo, pSo, asInt, n, oSl, cut_lo, any3, bne_self_eq_false, Bool.or_self, Bool.not_false]
section
variable {a b c d e f : Int} (h : B6 300 a b c d e f) (nz : ¬ (d = 0 ∧ e = 0 ∧ f = 0))
include h nz
theorem axH_pos : 0 < axH d e f := by
  unfold axH
  by_cases c1 : d = 0
  · by_cases c2 : e = 0
    · have c3 : f ≠ 0 := fun z => nz ⟨c1, c2, z⟩
      exact Nat.gcd_pos_of_pos_right _ (Nat.gcd_pos_of_pos_right _ (by omega))
    · exact Nat.gcd_pos_of_pos_right _ (Nat.gcd_pos_of_pos_left _ (by omega))
  · exact Nat.gcd_pos_of_pos_left _ (by omega)
theorem axH_lt : axH d e f < 2 ^ 300 := gcd_lt h.d (gcd_lt h.e h.f)
theorem axis_val : Is (F_axis [T6v a b c d e f]) (.tuple [.int (Int.fdiv (axC d e f : Nat) (axG a b c d e f : Nat)), .tuple ((divs (axG a b c d e f) (axP a b c d e f)).map PyData.int), T3v (Int.fdiv d (axH d e f : Nat)) (Int.fdiv e (axH d e f : Nat)) (Int.fdiv f (axH d e f : Nat))]) := fun o => by
  have n := fun o => need6 a b c d e f o
  have pv : ∀ o, F_product_of [T3v d e f, T3v d e f] o = .ok (.int ((axC d e f : Nat) : Int)) o := fun o => by
    rw [axC_eq]
    exact product_val (h.d.mono (by decide)) (h.e.mono (by decide)) (h.f.mono (by decide)) (h.d.mono (by decide)) (h.e.mono (by decide)) (h.f.mono (by decide)) o
  have cv : ∀ o, F_cross [T3v d e f, T3v a b c] o = .ok (.tuple ((axP a b c d e f).map PyData.int)) o := fun o =>
    cross_val (h.d.mono (by decide)) (h.e.mono (by decide)) (h.f.mono (by decide)) (h.a.mono (by decide)) (h.b.mono (by decide)) (h.c.mono (by decide)) o
  have lv := fun o => low_val (axC d e f) (axP a b c d e f) (.tuple ((axP a b c d e f).map PyData.int)) rfl (axC_pos nz) (axC_bd h.d h.e h.f (Nat.le_refl _)) (by show 3 ≤ 1000; decide) o
  have hp := axH_pos h nz
  have hl := axH_lt h nz
  have gd1 : ∀ n, gDiv n ((axH d e f : Nat) : Int) = true := fun n => gd (k := 300) (by omega) (by unfold Bd; rw [Int.natAbs_natCast]; exact hl)
  have gc : ((Nat.gcd d.natAbs ((Nat.gcd e.natAbs f.natAbs : Nat) : Int).natAbs : Nat) : Int) = ((axH d e f : Nat) : Int) := by rw [Int.natAbs_natCast]; rfl
  simp only [F_axis, f_axis, c1, c2, cA, cCons, cNil, cV, cL, cK, bindE, pureE, okB, List.length_cons, List.length_nil, List.getElem?_cons_zero, List.getElem?_cons_succ, List.set_cons_succ, List.set_cons_zero, slotV, slotL, on1, on2, oInt, oI, oAdd, oMul, oSub, oIx, oLen, if_true, fnR, env0, sSeq, sTgt, sSet, sOwn, sPar, sRet, sRetN, sNil, sIf, sExpr, liftE, List.map_cons, List.map_nil, List.replicate, List.cons_append, List.nil_append, oTup, oLst, LIM, gTp, gCn, gN, gNl, Option.bind_some, Nat.zero_add, Nat.reduceAdd, Nat.reduceLeDiff, cLc, cAI, iZipV, iSeq, asSeq, seqK, zipV, List.zipWith, lcGo, lcStep, R.nx, Out.nx, wipeE, oSum, asInts, Option.map_some, List.sum_cons, List.sum_nil, Int.add_zero, cAnd, cOr, cNot, cT, cNotT, cAndT, cOrT, cIf, truth, ofN, on1, oTuple, oList, oAbs, oGcd, oCmp, oIsN, oLzV, cSl, pNo, pSo, asInt, n, oSl, cut_lo, cut_hi, any3, nz_any nz, Bool.not_true, Bool.false_eq_true, if_false, pv, cv, lv, at0, at1, at2, gc, gd1]
  rfl
end
end K21
end

section
set_option Elab.async false
set_option linter.all false
set_option maxRecDepth 100000
set_option maxHeartbeats 4000000
set_option exponentiation.threshold 2000
namespace K21
open PySem PySem.Spec PyProof.Rows BB
/-! ## what is shown -/
theorem ok_app {a b : Str} (ha : PyData.strOk a = true) (hb : PyData.strOk b = true) : PyData.strOk (a ++ b) = true := by
  unfold PyData.strOk at *
  show (a.cps ++ b.cps).all _ = true
  rw [Array.all_append, ha, hb]; rfl
theorem ok_of (s : String) : PyData.strOk (Str.ofString s) = true := by
  unfold PyData.strOk Str.ofString
  rw [cpsOfBytes_string]
  simp only [List.all_toArray, List.all_map, List.all_eq_true, decide_eq_true_eq]
  intro c _
  have h := c.valid
  show decide (c.val.toNat < 1114112) = true
  simp only [UInt32.isValidChar, Nat.isValidChar] at h
  exact decide_eq_true (by omega)
theorem ok_join : ∀ {ts : List Str}, (∀ t ∈ ts, PyData.strOk t = true) → PyData.strOk (Str.join ", " ts) = true
  | [], _ => by decide +kernel
  | [x], h => h x (by simp)
  | x :: y :: r, h => ok_app (ok_app (h x (by simp)) (ok_of _)) (ok_join (ts := y :: r) fun t ht => h t (List.mem_cons_of_mem _ ht))
theorem ok_tup {ts : List Str} (h : ∀ t ∈ ts, PyData.strOk t = true) : PyData.strOk (tupleText ts) = true := by
  unfold tupleText
  refine ok_app (ok_app (ok_of _) (ok_join h)) ?_
  split <;> exact ok_of _
theorem shown3 (x y z : Int) : (T3v x y z).shown = tupleText [Str.ofString (toString x), Str.ofString (toString y), Str.ofString (toString z)] := by
  simp [PyData.shown, PyData.shownAll]
theorem len_app (a b : Str) : (a ++ b).length = a.length + b.length := by
  show (a.cps ++ b.cps).size = _
  rw [Array.size_append]; rfl
theorem log_bd {k : Nat} {x : Int} (h : Bd k x) (hk : k ≤ 1900) : x.natAbs.log2 < 1920 := by
  by_cases z : x.natAbs = 0
  · rw [z]; decide
  · have := (Nat.log2_lt z).mpr h
    omega
theorem show3 {x y z : Int} (hx : Bd 1900 x) (hy : Bd 1900 y) (hz : Bd 1900 z) : showOK (T3v x y z) = true := by
  have l1 := int_text_len_1921 (log_bd hx (Nat.le_refl _))
  have l2 := int_text_len_1921 (log_bd hy (Nat.le_refl _))
  have l3 := int_text_len_1921 (log_bd hz (Nat.le_refl _))
  have sl : (T3v x y z).shown.length ≤ LIM := by
    rw [shown3]
    have c : (", " : Str).length = 2 := rfl
    have c1 : ("(" : Str).length = 1 := rfl
    have c2 : (")" : Str).length = 1 := rfl
    show ((("(" : Str) ++ ((Str.ofString (toString x) ++ (", " : Str)) ++ ((Str.ofString (toString y) ++ (", " : Str)) ++ Str.ofString (toString z)))) ++ (")" : Str)).length ≤ LIM
    simp only [len_app, c, c1, c2]
    have : LIM = 1000000 := rfl
    omega
  have sb : (T3v x y z).showable = true := by
    simp only [PyData.showable, PyData.showableAll, log_bd hx (Nat.le_refl _), log_bd hy (Nat.le_refl _), log_bd hz (Nat.le_refl _), decide_true, Bool.and_self]
  have cl : (T3v x y z).canLay0 = true := by simp [PyData.canLay0, PyData.canLayAll0]
  have dp : (T3v x y z).depth ≤ 40 := by simp [PyData.depth, PyData.depthAll]
  unfold showOK
  rw [cl, sb, decide_eq_true ⟨dp, sl⟩]; rfl
theorem ok3 (x y z : Int) : PyData.strOk (T3v x y z).shown = true := by
  rw [shown3]
  refine ok_tup fun t ht => ?_
  simp only [List.mem_cons, List.not_mem_nil, or_false] at ht
  rcases ht with rfl | rfl | rfl <;> exact ok_of _
theorem like_refl {v : Val} (h : showOK v = true) (hs : PyData.strOk v.shown = true) : Is (F__law_like [v, v]) (.bool true) := fun o => by
  have r : ∀ o, oRepr v o = .ok (.str v.shown) o := fun o => by unfold oRepr; rw [if_pos h]; rfl
  have s : SeqAt.shaped (.str v.shown) = true := by
    unfold SeqAt.shaped
    simp [PyData.canLay0, hs, PyData.depth]
  have e : PyData.eqv (.str v.shown) (.str v.shown) = true := by simp [PyData.eqv]
  simp only [F__law_like, f__law_like, c1, c2, cA, cCons, cNil, cV, cL, cK, bindE, pureE, okB, List.length_cons, List.length_nil, List.getElem?_cons_zero, List.getElem?_cons_succ, List.set_cons_succ, List.set_cons_zero, slotV, slotL, on1, on2, oInt, oI, oAdd, oMul, oSub, oIx, oLen, if_true, fnR, env0, sSeq, sTgt, sSet, sOwn, sPar, sRet, sRetN, sNil, sIf, sExpr, liftE, List.map_cons, List.map_nil, List.replicate, List.cons_append, List.nil_append, oTup, oLst, LIM, gTp, gCn, gN, gNl, Option.bind_some, Nat.zero_add, Nat.reduceAdd, Nat.reduceLeDiff, cLc, cAI, iZipV, iSeq, asSeq, seqK, zipV, List.zipWith, lcGo, lcStep, R.nx, Out.nx, wipeE, oSum, asInts, Option.map_some, List.sum_cons, List.sum_nil, Int.add_zero, cAnd, cOr, cNot, cT, cNotT, cAndT, cOrT, cIf, truth, ofN, on1, oTuple, oList, oAbs, oGcd, oCmp, oIsN, oLzV, cSl, pNo, pSo, asInt, r, oEq, s, e, Bool.and_self, Bool.false_eq_true, if_false]
theorem like3 {x y z : Int} (hx : Bd 1900 x) (hy : Bd 1900 y) (hz : Bd 1900 z) : Is (F__law_like [T3v x y z, T3v x y z]) (.bool true) := like_refl (show3 hx hy hz) (ok3 x y z)
theorem like_none : Is (F__law_like [.list [.none, .none], .list [.none, .none]]) (.bool true) := like_refl (by decide +kernel) (by decide +kernel)
theorem like_bad : Is (F__law_like [.list [.tuple [.int 0, .bool true], .tuple [.int 0, .bool true]], .list [.tuple [.int 0, .bool true], .tuple [.int 0, .bool true]]]) (.bool true) := like_refl (by decide +kernel) (by decide +kernel)
end K21
end

section
set_option Elab.async false
set_option linter.all false
set_option maxRecDepth 100000
set_option maxHeartbeats 4000000
set_option exponentiation.threshold 2000
namespace K21
open PySem PySem.Spec BB
def bCross : SF := sApp 2 (c2 oSub (c2 oMul (c2 oIx (cV 0) (c2 (oI gMod Int.fmod) (c2 oAdd (cV 3) (cK (.int 1))) (cK (.int 3)))) (c2 oIx (cV 1) (c2 (oI gMod Int.fmod) (c2 oAdd (cV 3) (cK (.int 2))) (cK (.int 3))))) (c2 oMul (c2 oIx (cV 0) (c2 (oI gMod Int.fmod) (c2 oAdd (cV 3) (cK (.int 2))) (cK (.int 3)))) (c2 oIx (cV 1) (c2 (oI gMod Int.fmod) (c2 oAdd (cV 3) (cK (.int 1))) (cK (.int 3))))))
theorem g3m (x : Int) : gMod x 3 = true := decide_eq_true (by decide)
theorem tcross_val {x y z u v w : Int} (hx : Bd 900 x) (hy : Bd 900 y) (hz : Bd 900 z) (hu : Bd 900 u) (hv : Bd 900 v) (hw : Bd 900 w) : Is (F__law_three_cross [T3v x y z, T3v u v w]) (T3v (y * w - z * v) (z * u - x * w) (x * v - y * u)) := by
  have g1 := gm hy hw; have g2 := gm hz hv; have g3 := gm hz hu; have g4 := gm hx hw; have g5 := gm hx hv; have g6 := gm hy hu
  refine is_fn (fb := f__law_three_cross) ?_
  refine is_seq (ρ' := [.val (T3v x y z), .val (T3v u v w), .own [], .un]) (fun o => rfl) (is_seq (ρ' := [.val (T3v x y z), .val (T3v u v w), .own [.int (y * w - z * v), .int (z * u - x * w), .int (x * v - y * u)], .val (.int 2)]) (is_lift (v := [PyData.int 0, .int 1, .int 2]) (fun o => ?_) ?_) (fun o => rfl))
  · simp only [cAI, cCons, cK, cNil, bindE, pureE, okB, iRange1, RMAX, show ((3 : Int) ≤ 1000000 ∧ -1000000 ≤ (3 : Int)) = True from by simp, if_true]
    rfl
  · have a1 : Int.fmod ((0 : Int) + 1) 3 = 1 := rfl
    have a2 : Int.fmod ((0 : Int) + 2) 3 = 2 := rfl
    have a3 : Int.fmod ((1 : Int) + 1) 3 = 2 := rfl
    have a4 : Int.fmod ((1 : Int) + 2) 3 = 0 := rfl
    have a5 : Int.fmod ((2 : Int) + 1) 3 = 0 := rfl
    have a6 : Int.fmod ((2 : Int) + 2) 3 = 1 := rfl
    refine for_nx (ρ2 := [.val (T3v x y z), .val (T3v u v w), .own [.int (y * w - z * v)], .val (.int 0)]) rfl (fun o => ?_) (for_nx (ρ2 := [.val (T3v x y z), .val (T3v u v w), .own [.int (y * w - z * v), .int (z * u - x * w)], .val (.int 1)]) rfl (fun o => ?_) (for_nx rfl (fun o => ?_) Is.pure))
    · simp only [bCross, sApp, c1, c2, cA, cCons, cNil, cV, cL, cK, bindE, pureE, okB, List.length_cons, List.length_nil, List.getElem?_cons_zero, List.getElem?_cons_succ, List.set_cons_succ, List.set_cons_zero, slotV, slotL, on1, on2, oInt, oI, oAdd, oMul, oSub, oIx, oLen, if_true, fnR, env0, sSeq, sTgt, sSet, sOwn, sPar, sRet, sRetN, sNil, sIf, sExpr, liftE, List.map_cons, List.map_nil, List.replicate, List.cons_append, List.nil_append, oTup, oLst, LIM, gTp, gCn, gN, gNl, Option.bind_some, Nat.zero_add, Nat.reduceAdd, Nat.reduceLeDiff, cLc, cAI, iZipV, iSeq, asSeq, seqK, zipV, List.zipWith, lcGo, lcStep, R.nx, Out.nx, wipeE, oSum, asInts, Option.map_some, List.sum_cons, List.sum_nil, Int.add_zero, cAnd, cOr, cNot, cT, cNotT, cAndT, cOrT, cIf, truth, ofN, on1, oTuple, oList, oAbs, oGcd, oCmp, oIsN, oLzV, cSl, pNo, pSo, asInt, a1, a2, g3m, at1, at2, g1, g2, show (0 < 1000000) = True from by simp]
    · simp only [bCross, sApp, c1, c2, cA, cCons, cNil, cV, cL, cK, bindE, pureE, okB, List.length_cons, List.length_nil, List.getElem?_cons_zero, List.getElem?_cons_succ, List.set_cons_succ, List.set_cons_zero, slotV, slotL, on1, on2, oInt, oI, oAdd, oMul, oSub, oIx, oLen, if_true, fnR, env0, sSeq, sTgt, sSet, sOwn, sPar, sRet, sRetN, sNil, sIf, sExpr, liftE, List.map_cons, List.map_nil, List.replicate, List.cons_append, List.nil_append, oTup, oLst, LIM, gTp, gCn, gN, gNl, Option.bind_some, Nat.zero_add, Nat.reduceAdd, Nat.reduceLeDiff, cLc, cAI, iZipV, iSeq, asSeq, seqK, zipV, List.zipWith, lcGo, lcStep, R.nx, Out.nx, wipeE, oSum, asInts, Option.map_some, List.sum_cons, List.sum_nil, Int.add_zero, cAnd, cOr, cNot, cT, cNotT, cAndT, cOrT, cIf, truth, ofN, on1, oTuple, oList, oAbs, oGcd, oCmp, oIsN, oLzV, cSl, pNo, pSo, asInt, a3, a4, g3m, at0, at2, g3, g4, show (1 < 1000000) = True from by simp]
    · simp only [bCross, sApp, c1, c2, cA, cCons, cNil, cV, cL, cK, bindE, pureE, okB, List.length_cons, List.length_nil, List.getElem?_cons_zero, List.getElem?_cons_succ, List.set_cons_succ, List.set_cons_zero, slotV, slotL, on1, on2, oInt, oI, oAdd, oMul, oSub, oIx, oLen, if_true, fnR, env0, sSeq, sTgt, sSet, sOwn, sPar, sRet, sRetN, sNil, sIf, sExpr, liftE, List.map_cons, List.map_nil, List.replicate, List.cons_append, List.nil_append, oTup, oLst, LIM, gTp, gCn, gN, gNl, Option.bind_some, Nat.zero_add, Nat.reduceAdd, Nat.reduceLeDiff, cLc, cAI, iZipV, iSeq, asSeq, seqK, zipV, List.zipWith, lcGo, lcStep, R.nx, Out.nx, wipeE, oSum, asInts, Option.map_some, List.sum_cons, List.sum_nil, Int.add_zero, cAnd, cOr, cNot, cT, cNotT, cAndT, cOrT, cIf, truth, ofN, on1, oTuple, oList, oAbs, oGcd, oCmp, oIsN, oLzV, cSl, pNo, pSo, asInt, a5, a6, g3m, at0, at1, g5, g6, show (2 < 1000000) = True from by simp]
theorem scaled_val {a b c d e f k u v w : Int} (h : B6 800 a b c d e f) (hk : Bd 800 k) (hu : Bd 800 u) (hv : Bd 800 v) (hw : Bd 800 w) :
    Is (F__law_scaled [T6v a b c d e f, .int k, T3v u v w]) (T3v (k * a + 1 * (e * w - f * v)) (k * b + 1 * (f * u - d * w)) (k * c + 1 * (d * v - e * u))) := fun o => by
  have tc := fun o => tcross_val (h.d.mono (l := 900) (by decide)) (h.e.mono (by decide)) (h.f.mono (by decide)) (hu.mono (by decide)) (hv.mono (by decide)) (hw.mono (by decide)) o
  have g1 := gm hk h.a; have g2 := gm hk h.b; have g3 := gm hk h.c
  have b1 : Bd 1601 (e * w - f * v) := (h.e.mul hw).sub (h.f.mul hv)
  have b2 : Bd 1601 (f * u - d * w) := (h.f.mul hu).sub (h.d.mul hw)
  have b3 : Bd 1601 (d * v - e * u) := (h.d.mul hv).sub (h.e.mul hu)
  have q1 := gm (bd_lit (k := 1) (a := 1)) b1; have q2 := gm (bd_lit (k := 1) (a := 1)) b2; have q3 := gm (bd_lit (k := 1) (a := 1)) b3
  have pv : ∀ o, F__law_three_plus [.list [.int (k * a), .int (k * b), .int (k * c)], .int 1, T3v (e * w - f * v) (f * u - d * w) (d * v - e * u)] o = .ok (T3v (k * a + 1 * (e * w - f * v)) (k * b + 1 * (f * u - d * w)) (k * c + 1 * (d * v - e * u))) o := fun o => by
    simp only [F__law_three_plus, f__law_three_plus, c1, c2, cA, cCons, cNil, cV, cL, cK, bindE, pureE, okB, List.length_cons, List.length_nil, List.getElem?_cons_zero, List.getElem?_cons_succ, List.set_cons_succ, List.set_cons_zero, slotV, slotL, on1, on2, oInt, oI, oAdd, oMul, oSub, oIx, oLen, if_true, fnR, env0, sSeq, sTgt, sSet, sOwn, sPar, sRet, sRetN, sNil, sIf, sExpr, liftE, List.map_cons, List.map_nil, List.replicate, List.cons_append, List.nil_append, oTup, oLst, LIM, gTp, gCn, gN, gNl, Option.bind_some, Nat.zero_add, Nat.reduceAdd, Nat.reduceLeDiff, cLc, cAI, iZipV, iSeq, asSeq, seqK, zipV, List.zipWith, lcGo, lcStep, R.nx, Out.nx, wipeE, oSum, asInts, Option.map_some, List.sum_cons, List.sum_nil, Int.add_zero, cAnd, cOr, cNot, cT, cNotT, cAndT, cOrT, cIf, truth, ofN, on1, oTuple, oList, oAbs, oGcd, oCmp, oIsN, oLzV, cSl, pNo, pSo, asInt, q1, q2, q3]
  simp only [F__law_scaled, f__law_scaled, c1, c2, cA, cCons, cNil, cV, cL, cK, bindE, pureE, okB, List.length_cons, List.length_nil, List.getElem?_cons_zero, List.getElem?_cons_succ, List.set_cons_succ, List.set_cons_zero, slotV, slotL, on1, on2, oInt, oI, oAdd, oMul, oSub, oIx, oLen, if_true, fnR, env0, sSeq, sTgt, sSet, sOwn, sPar, sRet, sRetN, sNil, sIf, sExpr, liftE, List.map_cons, List.map_nil, List.replicate, List.cons_append, List.nil_append, oTup, oLst, LIM, gTp, gCn, gN, gNl, Option.bind_some, Nat.zero_add, Nat.reduceAdd, Nat.reduceLeDiff, cLc, cAI, iZipV, iSeq, asSeq, seqK, zipV, List.zipWith, lcGo, lcStep, R.nx, Out.nx, wipeE, oSum, asInts, Option.map_some, List.sum_cons, List.sum_nil, Int.add_zero, cAnd, cOr, cNot, cT, cNotT, cAndT, cOrT, cIf, truth, ofN, on1, oTuple, oList, oAbs, oGcd, oCmp, oIsN, oLzV, cSl, pNo, pSo, asInt, oSl, cut_lo, cut_hi, g1, g2, g3, tc, pv]
theorem isrow_val (ns : List Int) (hl : ns.length ≤ 1000) : Is (F__law_three_is_row [.tuple (ns.map PyData.int), .int (ns.length : Nat)]) (.bool true) := by
  have lc : Is (cLc [2] (iSeq (cV 0)) (gN 2) (cOrT (cT (c1 (oIsi "bool") (cV 2))) (cNotT (cT (c1 (oIsi "int") (cV 2))))) (cK (.int 1)) [.val (.tuple (ns.map PyData.int)), .val (.int (ns.length : Nat)), .un]) (PyData.list (((ns.map PyData.int).filter fun x => !isW x).map fun _ => .int 1)) := by
    refine is_lcif (xs := ns.map PyData.int) (t := fun x => !isW x) (h := fun _ => .int 1) (fun o => rfl) (by rw [List.length_map]; exact Nat.le_trans hl (by decide)) fun x hx => ?_
    obtain ⟨n, _, rfl⟩ := List.mem_map.mp hx
    exact ⟨_, rfl, fun o => rfl, fun h => by cases h⟩
  have e : ((ns.map PyData.int).filter fun x => !isW x) = [] := by
    rw [List.filter_eq_nil_iff]
    intro x hx
    obtain ⟨n, _, rfl⟩ := List.mem_map.mp hx
    simp [isW]
  rw [e] at lc
  refine is_fn (fb := f__law_three_is_row) ?_
  refine is_seq (ρ' := [.val (.tuple (ns.map PyData.int)), .val (.int (ns.length : Nat)), .un]) (fun o => ?_) (is_lift (v := PyData.bool true) (fun o => ?_) Is.pure)
  · have t1 : ∀ xs, oIsi "tuple" (.tuple xs) = pure (.bool true) := fun _ => rfl
    have e2 : PyData.eqv (.int (ns.length : Nat)) (.int (ns.length : Nat)) = true := by simp [PyData.eqv]
    have s1 : SeqAt.shaped (.int (ns.length : Nat)) = true := rfl
    simp only [c1, c2, cA, cCons, cNil, cV, cL, cK, bindE, pureE, okB, List.length_cons, List.length_nil, List.getElem?_cons_zero, List.getElem?_cons_succ, List.set_cons_succ, List.set_cons_zero, slotV, slotL, on1, on2, oInt, oI, oAdd, oMul, oSub, oIx, oLen, if_true, fnR, env0, sSeq, sTgt, sSet, sOwn, sPar, sRet, sRetN, sNil, sIf, sExpr, liftE, List.map_cons, List.map_nil, List.replicate, List.cons_append, List.nil_append, oTup, oLst, LIM, gTp, gCn, gN, gNl, Option.bind_some, Nat.zero_add, Nat.reduceAdd, Nat.reduceLeDiff, cLc, cAI, iZipV, iSeq, asSeq, seqK, zipV, List.zipWith, lcGo, lcStep, R.nx, Out.nx, wipeE, oSum, asInts, Option.map_some, List.sum_cons, List.sum_nil, Int.add_zero, cAnd, cOr, cNot, cT, cNotT, cAndT, cOrT, cIf, truth, ofN, on1, oTuple, oList, oAbs, oGcd, oCmp, oIsN, oLzV, cSl, pNo, pSo, asInt, t1, List.length_map, oEq, e2, s1, Bool.and_self, Bool.not_true, Bool.false_eq_true, if_false]
  · have q := lc o
    simp only [c2, bindE, q, okB, cA, cNil, pureE, oLst, List.length_nil, LIM, Nat.zero_le, if_true]
    rfl
theorem pitch_val {a b c d e f : Int} (h : B6 300 a b c d e f) (nz : ¬ (d = 0 ∧ e = 0 ∧ f = 0)) : Is (F_pitch [T6v a b c d e f]) (T2v (Int.fdiv (a * d + (b * e + c * f)) (foldL (axC d e f) [a * d + (b * e + c * f)] : Nat)) (Int.fdiv (axC d e f : Nat) (foldL (axC d e f) [a * d + (b * e + c * f)] : Nat))) := fun o => by
  have n := fun o => need6 a b c d e f o
  have pv : ∀ o, F_product_of [T3v d e f, T3v d e f] o = .ok (.int ((axC d e f : Nat) : Int)) o := fun o => by
    rw [axC_eq]
    exact product_val (h.d.mono (by decide)) (h.e.mono (by decide)) (h.f.mono (by decide)) (h.d.mono (by decide)) (h.e.mono (by decide)) (h.f.mono (by decide)) o
  have pw := fun o => product_val (h.a.mono (l := 400) (by decide)) (h.b.mono (by decide)) (h.c.mono (by decide)) (h.d.mono (by decide)) (h.e.mono (by decide)) (h.f.mono (by decide)) o
  have lv := fun o => low_val (axC d e f) [a * d + (b * e + c * f)] (.list [.int (a * d + (b * e + c * f))]) rfl (axC_pos nz) (axC_bd h.d h.e h.f (Nat.le_refl _)) (by show 1 ≤ 1000; decide) o
  have a0 : ∀ x : Val, L2.atI [x] 0 = some x := fun _ => rfl
  simp only [F_pitch, f_pitch, c1, c2, cA, cCons, cNil, cV, cL, cK, bindE, pureE, okB, List.length_cons, List.length_nil, List.getElem?_cons_zero, List.getElem?_cons_succ, List.set_cons_succ, List.set_cons_zero, slotV, slotL, on1, on2, oInt, oI, oAdd, oMul, oSub, oIx, oLen, if_true, fnR, env0, sSeq, sTgt, sSet, sOwn, sPar, sRet, sRetN, sNil, sIf, sExpr, liftE, List.map_cons, List.map_nil, List.replicate, List.cons_append, List.nil_append, oTup, oLst, LIM, gTp, gCn, gN, gNl, Option.bind_some, Nat.zero_add, Nat.reduceAdd, Nat.reduceLeDiff, cLc, cAI, iZipV, iSeq, asSeq, seqK, zipV, List.zipWith, lcGo, lcStep, R.nx, Out.nx, wipeE, oSum, asInts, Option.map_some, List.sum_cons, List.sum_nil, Int.add_zero, cAnd, cOr, cNot, cT, cNotT, cAndT, cOrT, cIf, truth, ofN, on1, oTuple, oList, oAbs, oGcd, oCmp, oIsN, oLzV, cSl, pNo, pSo, asInt, n, oSl, cut_lo, cut_hi, any3, nz_any nz, Bool.not_true, Bool.false_eq_true, if_false, pv, pw, lv, divs, a0]
end K21
end

section
set_option Elab.async false
set_option linter.all false
set_option maxRecDepth 100000
set_option maxHeartbeats 4000000
set_option exponentiation.threshold 2000
namespace K21
open PySem PySem.Spec BB
theorem is_if_f {c : BB.Env → R Bool} {f g : SF} {ρ : BB.Env} {s : SO} (h : Is (c ρ) false) (q : Is (g ρ) s) : Is (sIf c f g ρ) s := is_lift h (by simpa using q)
theorem is_if_t {c : BB.Env → R Bool} {f g : SF} {ρ : BB.Env} {s : SO} (h : Is (c ρ) true) (q : Is (f ρ) s) : Is (sIf c f g ρ) s := is_lift h (by simpa using q)
theorem eqv_ints (ns : List Int) : PyData.eqv (.list (ns.map PyData.int)) (.list (ns.map PyData.int)) = true := by
  have : PyData.eqvAll (ns.map PyData.int) (ns.map PyData.int) = true := by
    induction ns with
    | nil => simp [PyData.eqvAll]
    | cons n ns ih => simp [PyData.eqvAll, PyData.eqv, ih]
  simpa [PyData.eqv] using this
theorem ne_ints (ns : List Int) (o : Om) : oEq true (.list (ns.map PyData.int)) (.list (ns.map PyData.int)) o = .ok (.bool false) o := by
  unfold oEq
  rw [shaped_ints, eqv_ints]; rfl
theorem ne_int (i j : Int) (o : Om) : oEq true (.int i) (.int j) o = .ok (.bool (!(i == j))) o := rfl
structure AxH (a b c d e f C p1 p2 p3 w1 w2 w3 n0 c0 : Int) : Prop where
  h : B6 100 a b c d e f
  hC : 1 ≤ C
  bC : Bd 210 C
  b1 : Bd 210 p1
  b2 : Bd 210 p2
  b3 : Bd 210 p3
  bw1 : Bd 110 w1
  bw2 : Bd 110 w2
  bw3 : Bd 110 w3
  bn : Bd 210 n0
  bc : Bd 210 c0
  s1 : shortL [C, p1, p2, p3] = [C, p1, p2, p3]
  s2 : shortL [d, e, f] = [w1, w2, w3]
  s3 : shortL [n0, c0] = [n0, c0]
  dot : p1 * d + (p2 * e + p3 * f) = 0
  hc : 1 ≤ c0
  eq : n0 * (d * d + (e * e + f * f)) = c0 * (a * d + (b * e + c * f))
  st : ∀ t : Int, c0 * (C * a + 1 * (e * (p3 + t * C * w3) - f * (p2 + t * C * w2))) = n0 * C * d ∧
    c0 * (C * b + 1 * (f * (p1 + t * C * w1) - d * (p3 + t * C * w3))) = n0 * C * e ∧
    c0 * (C * c + 1 * (d * (p2 + t * C * w2) - e * (p1 + t * C * w1))) = n0 * C * f
theorem bdn {k : Nat} {x : Int} (h : Bd k x) (q : k ≤ 800) : x.natAbs < 2 ^ 800 := h.mono q
section
variable {a b c d e f C p1 p2 p3 w1 w2 w3 n0 c0 : Int}
def bAx : SF := sSeq (sSet 8 (cA (ofN 3 F__law_three_plus) (cCons (cV 4) (cCons (c2 oMul (cV 7) (cV 3)) (cCons (cV 5) (cNil)))))) (sSeq (sSet 9 (cA (ofN 3 F__law_scaled) (cCons (cV 0) (cCons (cV 3) (cCons (cV 8) (cNil)))))) (sIf (cT (c2 (oEq true) (cLc [10] (iSeq (cV 9)) (gN 10) (fun _ => pure true) (c2 oMul (c2 oIx (cV 2) (cK (.int 1))) (cV 10))) (cLc [10] (iSeq (cV 6)) (gN 10) (fun _ => pure true) (c2 oMul (c2 oMul (c2 oIx (cV 2) (cK (.int 0))) (cV 3)) (cV 10))))) (sRet (cK (.bool false))) (sNil)))
theorem at20 (x y : Val) : L2.atI [x, y] 0 = some x := rfl
theorem at21 (x y : Val) : L2.atI [x, y] 1 = some y := rfl
theorem ax_step (A : AxH a b c d e f C p1 p2 p3 w1 w2 w3 n0 c0) {t : Int} (ht : Bd 3 t) (s8 s9 s10 : Slot) (t' : Slot) : ∃ s8' s9', Is (bAx [.val (T6v a b c d e f), .val (.tuple [.int C, T3v p1 p2 p3, T3v w1 w2 w3]), .val (T2v n0 c0), .val (.int C), .val (T3v p1 p2 p3), .val (T3v w1 w2 w3), .val (T3v d e f), .val (.int t), s8, s9, s10])
    (.nx [.val (T6v a b c d e f), .val (.tuple [.int C, T3v p1 p2 p3, T3v w1 w2 w3]), .val (T2v n0 c0), .val (.int C), .val (T3v p1 p2 p3), .val (T3v w1 w2 w3), .val (T3v d e f), .val (.int t), s8', s9', s10]) := by
  have g1 := gm ht A.bC
  have bt : Bd 213 (t * C) := ht.mul A.bC
  have pl := fun o => plus_val (x := p1) (y := p2) (z := p3) (bt.mono (l := 400) (by decide)) (A.bw1.mono (by decide)) (A.bw2.mono (by decide)) (A.bw3.mono (by decide)) o
  have q1 : Bd 324 (p1 + t * C * w1) := (A.b1.mono (l := 323) (by decide)).add (bt.mul A.bw1)
  have q2 : Bd 324 (p2 + t * C * w2) := (A.b2.mono (l := 323) (by decide)).add (bt.mul A.bw2)
  have q3 : Bd 324 (p3 + t * C * w3) := (A.b3.mono (l := 323) (by decide)).add (bt.mul A.bw3)
  have sc := fun o => scaled_val (A.h.mono (l := 800) (by decide)) (A.bC.mono (l := 800) (by decide)) (q1.mono (by decide)) (q2.mono (by decide)) (q3.mono (by decide)) o
  obtain ⟨e1, e2, e3⟩ := A.st t
  have one : Bd 1 (1 : Int) := bd_lit
  have fx : Bd 427 (C * a + 1 * (e * (p3 + t * C * w3) - f * (p2 + t * C * w2))) := ((A.bC.mul A.h.a).mono (l := 426) (by decide)).add (one.mul ((A.h.e.mul q3).sub (A.h.f.mul q2)))
  have fy : Bd 427 (C * b + 1 * (f * (p1 + t * C * w1) - d * (p3 + t * C * w3))) := ((A.bC.mul A.h.b).mono (l := 426) (by decide)).add (one.mul ((A.h.f.mul q1).sub (A.h.d.mul q3)))
  have fz : Bd 427 (C * c + 1 * (d * (p2 + t * C * w2) - e * (p1 + t * C * w1))) := ((A.bC.mul A.h.c).mono (l := 426) (by decide)).add (one.mul ((A.h.d.mul q2).sub (A.h.e.mul q1)))
  have k1 := gm A.bc fx; have k2 := gm A.bc fy; have k3 := gm A.bc fz
  have k4 := gm A.bn A.bC
  have k5 := gm (A.bn.mul A.bC) A.h.d; have k6 := gm (A.bn.mul A.bC) A.h.e; have k7 := gm (A.bn.mul A.bC) A.h.f
  refine ⟨.val (T3v (p1 + t * C * w1) (p2 + t * C * w2) (p3 + t * C * w3)), .val (T3v (C * a + 1 * (e * (p3 + t * C * w3) - f * (p2 + t * C * w2))) (C * b + 1 * (f * (p1 + t * C * w1) - d * (p3 + t * C * w3))) (C * c + 1 * (d * (p2 + t * C * w2) - e * (p1 + t * C * w1)))), fun o => ?_⟩
  have ne := fun o => ne_ints [n0 * C * d, n0 * C * e, n0 * C * f] o
  simp only [List.map_cons, List.map_nil] at ne
  simp only [bAx, c1, c2, cA, cCons, cNil, cV, cL, cK, bindE, pureE, okB, List.length_cons, List.length_nil, List.getElem?_cons_zero, List.getElem?_cons_succ, List.set_cons_succ, List.set_cons_zero, slotV, slotL, on1, on2, oInt, oI, oAdd, oMul, oSub, oIx, oLen, if_true, fnR, env0, sSeq, sTgt, sSet, sOwn, sPar, sRet, sRetN, sNil, sIf, sExpr, liftE, List.map_cons, List.map_nil, List.replicate, List.cons_append, List.nil_append, oTup, oLst, LIM, gTp, gCn, gN, gNl, Option.bind_some, Nat.zero_add, Nat.reduceAdd, Nat.reduceLeDiff, cLc, cAI, iZipV, iSeq, asSeq, seqK, zipV, List.zipWith, lcGo, lcStep, R.nx, Out.nx, wipeE, oSum, asInts, Option.map_some, List.sum_cons, List.sum_nil, Int.add_zero, cAnd, cOr, cNot, cT, cNotT, cAndT, cOrT, cIf, truth, ofN, on1, oTuple, oList, oAbs, oGcd, oCmp, oIsN, oLzV, cSl, pNo, pSo, asInt, g1, pl, sc, at20, at21, k1, k2, k3, k4, k5, k6, k7, e1, e2, e3, ne, Bool.false_eq_true, if_false]
theorem axis_right_val (A : AxH a b c d e f C p1 p2 p3 w1 w2 w3 n0 c0) : Is (F__law_axis_right [T6v a b c d e f, .tuple [.int C, T3v p1 p2 p3, T3v w1 w2 w3], T2v n0 c0]) (.bool true) := by
  have t1 : ∀ xs o, oIsi "tuple" (.tuple xs) o = .ok (.bool true) o := fun _ _ => rfl
  have r1 : ∀ o, F__law_three_is_row [.tuple [.int C], .int 1] o = .ok (.bool true) o := fun o => isrow_val [C] (by simp) o
  have r3 : ∀ o, F__law_three_is_row [T3v p1 p2 p3, .int 3] o = .ok (.bool true) o := fun o => isrow_val [p1, p2, p3] (by simp) o
  have r2 : ∀ o, F__law_three_is_row [T2v n0 c0, .int 2] o = .ok (.bool true) o := fun o => isrow_val [n0, c0] (by simp) o
  have v1 : ∀ o, F__law_four_short [.tuple [.int C, .int p1, .int p2, .int p3]] o = .ok (.list [.int C, .int p1, .int p2, .int p3]) o := fun o => by
    have z := short_val [C, p1, p2, p3] (by simp) (fun n hn => by
      simp only [List.mem_cons, List.not_mem_nil, or_false] at hn
      rcases hn with rfl | rfl | rfl | rfl
      · exact bdn A.bC (by decide)
      · exact bdn A.b1 (by decide)
      · exact bdn A.b2 (by decide)
      · exact bdn A.b3 (by decide)) o
    rw [A.s1] at z; exact z
  have v2 : ∀ o, F__law_four_short [T3v d e f] o = .ok (.list [.int w1, .int w2, .int w3]) o := fun o => by
    have z := short_val [d, e, f] (by simp) (fun n hn => by
      simp only [List.mem_cons, List.not_mem_nil, or_false] at hn
      rcases hn with rfl | rfl | rfl
      · exact bdn A.h.d (by decide)
      · exact bdn A.h.e (by decide)
      · exact bdn A.h.f (by decide)) o
    rw [A.s2] at z; exact z
  have v3 : ∀ o, F__law_four_short [T2v n0 c0] o = .ok (.list [.int n0, .int c0]) o := fun o => by
    have z := short_val [n0, c0] (by simp) (fun n hn => by
      simp only [List.mem_cons, List.not_mem_nil, or_false] at hn
      rcases hn with rfl | rfl
      · exact bdn A.bn (by decide)
      · exact bdn A.bc (by decide)) o
    rw [A.s3] at z; exact z
  have ne4 := fun o => ne_ints [C, p1, p2, p3] o
  have ne2 := fun o => ne_ints [n0, c0] o
  simp only [List.map_cons, List.map_nil] at ne4 ne2
  have lk := fun o => like3 (A.bw1.mono (l := 1900) (by decide)) (A.bw2.mono (l := 1900) (by decide)) (A.bw3.mono (l := 1900) (by decide)) o
  have d1 : ∀ o, F__law_three_dot [T3v p1 p2 p3, T3v d e f] o = .ok (.int 0) o := fun o => by
    have z := dot_val (A.b1.mono (l := 400) (by decide)) (A.b2.mono (by decide)) (A.b3.mono (by decide)) (A.h.d.mono (l := 400) (by decide)) (A.h.e.mono (by decide)) (A.h.f.mono (by decide)) o
    rw [A.dot] at z; exact z
  have d2 := fun o => dot_val (A.h.d.mono (l := 400) (by decide)) (A.h.e.mono (l := 400) (by decide)) (A.h.f.mono (l := 400) (by decide)) (A.h.d.mono (l := 400) (by decide)) (A.h.e.mono (l := 400) (by decide)) (A.h.f.mono (l := 400) (by decide)) o
  have d3 := fun o => dot_val (A.h.a.mono (l := 400) (by decide)) (A.h.b.mono (l := 400) (by decide)) (A.h.c.mono (l := 400) (by decide)) (A.h.d.mono (l := 400) (by decide)) (A.h.e.mono (l := 400) (by decide)) (A.h.f.mono (l := 400) (by decide)) o
  have m1 : gMul n0 (d * d + (e * e + f * f)) = true := gm A.bn (Bd.add ((A.h.d.mul A.h.d).mono (l := 201) (by decide)) ((A.h.e.mul A.h.e).add (A.h.f.mul A.h.f)))
  have m2 : gMul c0 (a * d + (b * e + c * f)) = true := gm A.bc (Bd.add ((A.h.a.mul A.h.d).mono (l := 201) (by decide)) ((A.h.b.mul A.h.e).add (A.h.c.mul A.h.f)))
  have z1 : (decide (C < 1)) = false := decide_eq_false (by have := A.hC; omega)
  have z2 : (decide (c0 < 1)) = false := decide_eq_false (by have := A.hc; omega)
  have a30 : ∀ x y z : Val, L2.atI [x, y, z] 0 = some x := fun _ _ _ => rfl
  obtain ⟨x8, x9, l1⟩ := ax_step A (t := 0) bd_lit .un .un .un .un
  obtain ⟨y8, y9, l2⟩ := ax_step A (t := 1) bd_lit x8 x9 .un .un
  obtain ⟨u8, u9, l3⟩ := ax_step A (t := -3) bd_lit y8 y9 .un .un
  refine is_fn (fb := f__law_axis_right) ?_
  refine is_seq (ρ' := [.val (T6v a b c d e f), .val (.tuple [.int C, T3v p1 p2 p3, T3v w1 w2 w3]), .val (T2v n0 c0), .un, .un, .un, .un, .un, .un, .un, .un]) (is_if_f (fun o => ?_) Is.pure) ?_
  · simp only [c1, c2, cA, cCons, cNil, cV, cL, cK, bindE, pureE, okB, List.length_cons, List.length_nil, List.getElem?_cons_zero, List.getElem?_cons_succ, List.set_cons_succ, List.set_cons_zero, slotV, slotL, on1, on2, oInt, oI, oAdd, oMul, oSub, oIx, oLen, if_true, fnR, env0, sSeq, sTgt, sSet, sOwn, sPar, sRet, sRetN, sNil, sIf, sExpr, liftE, List.map_cons, List.map_nil, List.replicate, List.cons_append, List.nil_append, oTup, oLst, LIM, gTp, gCn, gN, gNl, Option.bind_some, Nat.zero_add, Nat.reduceAdd, Nat.reduceLeDiff, cLc, cAI, iZipV, iSeq, asSeq, seqK, zipV, List.zipWith, lcGo, lcStep, R.nx, Out.nx, wipeE, oSum, asInts, Option.map_some, List.sum_cons, List.sum_nil, Int.add_zero, cAnd, cOr, cNot, cT, cNotT, cAndT, cOrT, cIf, truth, ofN, on1, oTuple, oList, oAbs, oGcd, oCmp, oIsN, oLzV, cSl, pNo, pSo, asInt, t1, ne_int, a30, r1, z1, Bool.not_true, Bool.false_eq_true, if_false, show (((3 : Nat) : Int) == 3) = true from rfl]
  refine is_seq (ρ' := [.val (T6v a b c d e f), .val (.tuple [.int C, T3v p1 p2 p3, T3v w1 w2 w3]), .val (T2v n0 c0), .val (.int C), .val (T3v p1 p2 p3), .val (T3v w1 w2 w3), .un, .un, .un, .un, .un]) (fun o => rfl) ?_
  refine is_seq (ρ' := [.val (T6v a b c d e f), .val (.tuple [.int C, T3v p1 p2 p3, T3v w1 w2 w3]), .val (T2v n0 c0), .val (.int C), .val (T3v p1 p2 p3), .val (T3v w1 w2 w3), .un, .un, .un, .un, .un]) (is_if_f (fun o => ?_) Is.pure) ?_
  · simp only [c1, c2, cA, cCons, cNil, cV, cL, cK, bindE, pureE, okB, List.length_cons, List.length_nil, List.getElem?_cons_zero, List.getElem?_cons_succ, List.set_cons_succ, List.set_cons_zero, slotV, slotL, on1, on2, oInt, oI, oAdd, oMul, oSub, oIx, oLen, if_true, fnR, env0, sSeq, sTgt, sSet, sOwn, sPar, sRet, sRetN, sNil, sIf, sExpr, liftE, List.map_cons, List.map_nil, List.replicate, List.cons_append, List.nil_append, oTup, oLst, LIM, gTp, gCn, gN, gNl, Option.bind_some, Nat.zero_add, Nat.reduceAdd, Nat.reduceLeDiff, cLc, cAI, iZipV, iSeq, asSeq, seqK, zipV, List.zipWith, lcGo, lcStep, R.nx, Out.nx, wipeE, oSum, asInts, Option.map_some, List.sum_cons, List.sum_nil, Int.add_zero, cAnd, cOr, cNot, cT, cNotT, cAndT, cOrT, cIf, truth, ofN, on1, oTuple, oList, oAbs, oGcd, oCmp, oIsN, oLzV, cSl, pNo, pSo, asInt, r3, v1, ne4, Bool.not_true, Bool.false_eq_true, if_false]
  refine is_seq (ρ' := [.val (T6v a b c d e f), .val (.tuple [.int C, T3v p1 p2 p3, T3v w1 w2 w3]), .val (T2v n0 c0), .val (.int C), .val (T3v p1 p2 p3), .val (T3v w1 w2 w3), .val (T3v d e f), .un, .un, .un, .un]) (fun o => rfl) ?_
  refine is_seq (ρ' := [.val (T6v a b c d e f), .val (.tuple [.int C, T3v p1 p2 p3, T3v w1 w2 w3]), .val (T2v n0 c0), .val (.int C), .val (T3v p1 p2 p3), .val (T3v w1 w2 w3), .val (T3v d e f), .un, .un, .un, .un]) (is_if_f (fun o => ?_) Is.pure) ?_
  · simp only [c1, c2, cA, cCons, cNil, cV, cL, cK, bindE, pureE, okB, List.length_cons, List.length_nil, List.getElem?_cons_zero, List.getElem?_cons_succ, List.set_cons_succ, List.set_cons_zero, slotV, slotL, on1, on2, oInt, oI, oAdd, oMul, oSub, oIx, oLen, if_true, fnR, env0, sSeq, sTgt, sSet, sOwn, sPar, sRet, sRetN, sNil, sIf, sExpr, liftE, List.map_cons, List.map_nil, List.replicate, List.cons_append, List.nil_append, oTup, oLst, LIM, gTp, gCn, gN, gNl, Option.bind_some, Nat.zero_add, Nat.reduceAdd, Nat.reduceLeDiff, cLc, cAI, iZipV, iSeq, asSeq, seqK, zipV, List.zipWith, lcGo, lcStep, R.nx, Out.nx, wipeE, oSum, asInts, Option.map_some, List.sum_cons, List.sum_nil, Int.add_zero, cAnd, cOr, cNot, cT, cNotT, cAndT, cOrT, cIf, truth, ofN, on1, oTuple, oList, oAbs, oGcd, oCmp, oIsN, oLzV, cSl, pNo, pSo, asInt, v2, lk, Bool.not_true]
  refine is_seq (ρ' := [.val (T6v a b c d e f), .val (.tuple [.int C, T3v p1 p2 p3, T3v w1 w2 w3]), .val (T2v n0 c0), .val (.int C), .val (T3v p1 p2 p3), .val (T3v w1 w2 w3), .val (T3v d e f), .un, .un, .un, .un]) (is_if_f (fun o => ?_) Is.pure) ?_
  · simp only [c1, c2, cA, cCons, cNil, cV, cL, cK, bindE, pureE, okB, List.length_cons, List.length_nil, List.getElem?_cons_zero, List.getElem?_cons_succ, List.set_cons_succ, List.set_cons_zero, slotV, slotL, on1, on2, oInt, oI, oAdd, oMul, oSub, oIx, oLen, if_true, fnR, env0, sSeq, sTgt, sSet, sOwn, sPar, sRet, sRetN, sNil, sIf, sExpr, liftE, List.map_cons, List.map_nil, List.replicate, List.cons_append, List.nil_append, oTup, oLst, LIM, gTp, gCn, gN, gNl, Option.bind_some, Nat.zero_add, Nat.reduceAdd, Nat.reduceLeDiff, cLc, cAI, iZipV, iSeq, asSeq, seqK, zipV, List.zipWith, lcGo, lcStep, R.nx, Out.nx, wipeE, oSum, asInts, Option.map_some, List.sum_cons, List.sum_nil, Int.add_zero, cAnd, cOr, cNot, cT, cNotT, cAndT, cOrT, cIf, truth, ofN, on1, oTuple, oList, oAbs, oGcd, oCmp, oIsN, oLzV, cSl, pNo, pSo, asInt, d1, ne_int, beq_self_eq_true, Bool.not_true]
  refine is_seq (ρ' := [.val (T6v a b c d e f), .val (.tuple [.int C, T3v p1 p2 p3, T3v w1 w2 w3]), .val (T2v n0 c0), .val (.int C), .val (T3v p1 p2 p3), .val (T3v w1 w2 w3), .val (T3v d e f), .un, .un, .un, .un]) (is_if_f (fun o => ?_) Is.pure) ?_
  · simp only [c1, c2, cA, cCons, cNil, cV, cL, cK, bindE, pureE, okB, List.length_cons, List.length_nil, List.getElem?_cons_zero, List.getElem?_cons_succ, List.set_cons_succ, List.set_cons_zero, slotV, slotL, on1, on2, oInt, oI, oAdd, oMul, oSub, oIx, oLen, if_true, fnR, env0, sSeq, sTgt, sSet, sOwn, sPar, sRet, sRetN, sNil, sIf, sExpr, liftE, List.map_cons, List.map_nil, List.replicate, List.cons_append, List.nil_append, oTup, oLst, LIM, gTp, gCn, gN, gNl, Option.bind_some, Nat.zero_add, Nat.reduceAdd, Nat.reduceLeDiff, cLc, cAI, iZipV, iSeq, asSeq, seqK, zipV, List.zipWith, lcGo, lcStep, R.nx, Out.nx, wipeE, oSum, asInts, Option.map_some, List.sum_cons, List.sum_nil, Int.add_zero, cAnd, cOr, cNot, cT, cNotT, cAndT, cOrT, cIf, truth, ofN, on1, oTuple, oList, oAbs, oGcd, oCmp, oIsN, oLzV, cSl, pNo, pSo, asInt, r2, at20, at21, v3, ne2, z2, Bool.not_true, Bool.false_eq_true, if_false]
  refine is_seq (ρ' := [.val (T6v a b c d e f), .val (.tuple [.int C, T3v p1 p2 p3, T3v w1 w2 w3]), .val (T2v n0 c0), .val (.int C), .val (T3v p1 p2 p3), .val (T3v w1 w2 w3), .val (T3v d e f), .un, .un, .un, .un]) (is_if_f (fun o => ?_) Is.pure) ?_
  · simp only [c1, c2, cA, cCons, cNil, cV, cL, cK, bindE, pureE, okB, List.length_cons, List.length_nil, List.getElem?_cons_zero, List.getElem?_cons_succ, List.set_cons_succ, List.set_cons_zero, slotV, slotL, on1, on2, oInt, oI, oAdd, oMul, oSub, oIx, oLen, if_true, fnR, env0, sSeq, sTgt, sSet, sOwn, sPar, sRet, sRetN, sNil, sIf, sExpr, liftE, List.map_cons, List.map_nil, List.replicate, List.cons_append, List.nil_append, oTup, oLst, LIM, gTp, gCn, gN, gNl, Option.bind_some, Nat.zero_add, Nat.reduceAdd, Nat.reduceLeDiff, cLc, cAI, iZipV, iSeq, asSeq, seqK, zipV, List.zipWith, lcGo, lcStep, R.nx, Out.nx, wipeE, oSum, asInts, Option.map_some, List.sum_cons, List.sum_nil, Int.add_zero, cAnd, cOr, cNot, cT, cNotT, cAndT, cOrT, cIf, truth, ofN, on1, oTuple, oList, oAbs, oGcd, oCmp, oIsN, oLzV, cSl, pNo, pSo, asInt, at20, at21, d2, d3, oSl, cut_hi, m1, m2, ne_int, A.eq, beq_self_eq_true, Bool.not_true]
  refine is_seq (is_lift (v := [PyData.int 0, .int 1, .int (-3)]) (fun o => rfl) (for_nx rfl l1 (for_nx rfl l2 (for_nx rfl l3 Is.pure)))) (fun o => rfl)
end
end K21
end

section
set_option Elab.async false
set_option linter.all false
set_option maxRecDepth 100000
set_option maxHeartbeats 4000000
set_option exponentiation.threshold 2000
namespace K21
open PySem PySem.Spec BB
theorem foldL_dvd : ∀ (ns : List Int) (s : Nat), foldL s ns ∣ s ∧ ∀ n ∈ ns, foldL s ns ∣ n.natAbs
  | [], s => ⟨Nat.dvd_refl _, fun n h => by cases h⟩
  | n :: ns, s => by
    obtain ⟨h1, h2⟩ := foldL_dvd ns (Nat.gcd s n.natAbs)
    refine ⟨Nat.dvd_trans h1 (Nat.gcd_dvd_left _ _), fun m hm => ?_⟩
    rcases List.mem_cons.mp hm with rfl | hm
    · exact Nat.dvd_trans h1 (Nat.gcd_dvd_right _ _)
    · exact h2 m hm
theorem dvd_foldL {m : Nat} : ∀ (ns : List Int) (s : Nat), m ∣ s → (∀ n ∈ ns, m ∣ n.natAbs) → m ∣ foldL s ns
  | [], s, h, _ => h
  | n :: ns, s, h, q => dvd_foldL ns _ (Nat.dvd_gcd h (q n List.mem_cons_self)) fun k hk => q k (List.mem_cons_of_mem _ hk)
theorem foldG_dvd : ∀ (ns : List Int) (s : Nat), foldG s ns ∣ s ∧ ∀ n ∈ ns, foldG s ns ∣ n.natAbs
  | [], s => ⟨Nat.dvd_refl _, fun n h => by cases h⟩
  | n :: ns, s => by
    obtain ⟨h1, h2⟩ := foldG_dvd ns (Nat.gcd n.natAbs s)
    refine ⟨Nat.dvd_trans h1 (Nat.gcd_dvd_right _ _), fun m hm => ?_⟩
    rcases List.mem_cons.mp hm with rfl | hm
    · exact Nat.dvd_trans h1 (Nat.gcd_dvd_left _ _)
    · exact h2 m hm
/-- an exact share -/
theorem share {g : Nat} {x : Int} (hg : 0 < g) (h : g ∣ x.natAbs) : (g : Int) * Int.fdiv x g = x := by
  rw [Int.fdiv_eq_ediv_of_nonneg _ (by omega)]
  exact Int.mul_ediv_cancel' (Int.ofNat_dvd_left.mpr h)
theorem share_bd {g k : Nat} {x : Int} (hg : 0 < g) (h : g ∣ x.natAbs) (hb : Bd k x) : Bd k (Int.fdiv x g) := by
  have e := congrArg Int.natAbs (share hg h)
  rw [Int.natAbs_mul, Int.natAbs_natCast] at e
  unfold Bd at *
  have : 1 * (Int.fdiv x g).natAbs ≤ g * (Int.fdiv x g).natAbs := Nat.mul_le_mul_right _ hg
  omega
theorem share_dvd {g m : Nat} {x : Int} (hg : 0 < g) (h : g ∣ x.natAbs) (hm : m ∣ (Int.fdiv x g).natAbs) : g * m ∣ x.natAbs := by
  have e := congrArg Int.natAbs (share hg h)
  rw [Int.natAbs_mul, Int.natAbs_natCast] at e
  rw [← e]
  exact Nat.mul_dvd_mul (Nat.dvd_refl _) hm
/-- nothing is left in common -/
theorem low_one {c : Nat} {ns ks : List Int} (hc : 0 < c) (h1 : Int.fdiv (c : Int) (foldL c ns : Nat) ∈ ks) (h2 : ∀ n ∈ ns, Int.fdiv n (foldL c ns : Nat) ∈ ks) : shortL ks = ks := by
  have gp := foldL_pos (ns := ns) hc
  obtain ⟨d1, d2⟩ := foldL_dvd ns c
  obtain ⟨_, e2⟩ := foldG_dvd ks 0
  have k1 : foldL c ns * foldG 0 ks ∣ c := by
    have z := share_dvd (x := (c : Int)) gp (by rw [Int.natAbs_natCast]; exact d1) (e2 _ h1)
    rwa [Int.natAbs_natCast] at z
  have k2 : foldL c ns * foldG 0 ks ∣ foldL c ns := dvd_foldL ns c k1 fun n hn => share_dvd gp (d2 n hn) (e2 _ (h2 n hn))
  have k3 := Nat.le_of_dvd gp k2
  have k4 : ¬ 1 < foldG 0 ks := fun h => by
    have : foldL c ns * 2 ≤ foldL c ns * foldG 0 ks := Nat.mul_le_mul_left _ h
    omega
  unfold shortL
  rw [if_neg k4]
theorem axH_fold (d e f : Int) : foldG 0 [d, e, f] = axH d e f := by
  show Nat.gcd f.natAbs (Nat.gcd e.natAbs (Nat.gcd d.natAbs 0)) = Nat.gcd d.natAbs (Nat.gcd e.natAbs f.natAbs)
  rw [Nat.gcd_zero_right, Nat.gcd_comm f.natAbs, Nat.gcd_comm e.natAbs d.natAbs, Nat.gcd_assoc]
theorem short_way {d e f : Int} (hp : 0 < axH d e f) : shortL [d, e, f] = [Int.fdiv d (axH d e f : Nat), Int.fdiv e (axH d e f : Nat), Int.fdiv f (axH d e f : Nat)] := by
  unfold shortL
  rw [axH_fold]
  by_cases h : 1 < axH d e f
  · rw [if_pos h]; rfl
  · rw [if_neg h]
    have : axH d e f = 1 := by omega
    rw [this]
    have o : ∀ x : Int, Int.fdiv x ((1 : Nat) : Int) = x := fun x => by
      rw [Int.fdiv_eq_ediv_of_nonneg _ (by omega)]
      exact Int.ediv_one x
    rw [o, o, o]
theorem cancel {k x y : Int} (hk : k ≠ 0) (h : k * x = k * y) : x = y := Int.eq_of_mul_eq_mul_left hk h
theorem alg_r {H x y u v : Int} (hH : H ≠ 0) (hu : H * u = y) (hv : H * v = x) : y * v - x * u = 0 := by
  refine cancel hH ?_
  have : H * (y * v - x * u) = y * (H * v) - x * (H * u) := by grind
  rw [this, hu, hv]; grind
theorem alg_dot {G p1 p2 p3 a b c d e f : Int} (hG : G ≠ 0) (x1 : G * p1 = e * c - f * b) (x2 : G * p2 = f * a - d * c) (x3 : G * p3 = d * b - e * a) : p1 * d + (p2 * e + p3 * f) = 0 := by
  refine cancel hG ?_
  have : G * (p1 * d + (p2 * e + p3 * f)) = (G * p1) * d + ((G * p2) * e + (G * p3) * f) := by grind
  rw [this, x1, x2, x3]; grind
theorem alg_eq {S n0 c0 s q : Int} (z1 : S * n0 = s) (z2 : S * c0 = q) : n0 * q = c0 * s := by rw [← z1, ← z2]; grind
theorem alg_st {S G C cnt p q P Q n0 c0 s t x y u v a d : Int} (hS : S ≠ 0) (hG : G ≠ 0) (xC : G * C = cnt) (xp : G * p = P) (xq : G * q = Q) (z1 : S * n0 = s) (z2 : S * c0 = cnt) (r : x * v - y * u = 0) (id : cnt * a + (x * P - y * Q) = s * d) :
    c0 * (C * a + 1 * (x * (p + t * C * v) - y * (q + t * C * u))) = n0 * C * d := by
  refine cancel (Int.mul_ne_zero hS hG) ?_
  have a1 : S * G * (c0 * (C * a + 1 * (x * (p + t * C * v) - y * (q + t * C * u)))) = (S * c0) * ((G * C) * a + (x * (G * p) - y * (G * q)) + G * (t * C * (x * v - y * u))) := by grind
  have a2 : S * G * (n0 * C * d) = (S * n0) * (G * C) * d := by grind
  rw [a1, a2, r, xC, xp, xq, z1, z2, Int.mul_zero, Int.mul_zero, Int.add_zero, id]
  grind
theorem id1 (a b c d e f : Int) : (d * d + (e * e + f * f)) * a + (e * (d * b - e * a) - f * (f * a - d * c)) = (a * d + (b * e + c * f)) * d := by grind
theorem id2 (a b c d e f : Int) : (d * d + (e * e + f * f)) * b + (f * (e * c - f * b) - d * (d * b - e * a)) = (a * d + (b * e + c * f)) * e := by grind
theorem id3 (a b c d e f : Int) : (d * d + (e * e + f * f)) * c + (d * (f * a - d * c) - e * (e * c - f * b)) = (a * d + (b * e + c * f)) * f := by grind
theorem axH_ok {a b c d e f : Int} (h : B6 100 a b c d e f) (nz : ¬ (d = 0 ∧ e = 0 ∧ f = 0)) :
    AxH a b c d e f (Int.fdiv (axC d e f : Nat) (axG a b c d e f : Nat)) (Int.fdiv (e * c - f * b) (axG a b c d e f : Nat)) (Int.fdiv (f * a - d * c) (axG a b c d e f : Nat)) (Int.fdiv (d * b - e * a) (axG a b c d e f : Nat))
      (Int.fdiv d (axH d e f : Nat)) (Int.fdiv e (axH d e f : Nat)) (Int.fdiv f (axH d e f : Nat))
      (Int.fdiv (a * d + (b * e + c * f)) (foldL (axC d e f) [a * d + (b * e + c * f)] : Nat)) (Int.fdiv (axC d e f : Nat) (foldL (axC d e f) [a * d + (b * e + c * f)] : Nat)) := by
  have cp := axC_pos nz
  have ce := axC_eq d e f
  have gp : 0 < axG a b c d e f := foldL_pos cp
  have hp := axH_pos (h.mono (l := 300) (by decide)) nz
  have g2 : 0 < foldL (axC d e f) [a * d + (b * e + c * f)] := foldL_pos cp
  obtain ⟨G1, G2⟩ := foldL_dvd (axP a b c d e f) (axC d e f)
  obtain ⟨S1, S2⟩ := foldL_dvd [a * d + (b * e + c * f)] (axC d e f)
  have H1 : axH d e f ∣ d.natAbs := Nat.gcd_dvd_left _ _
  have H2 : axH d e f ∣ e.natAbs := Nat.dvd_trans (Nat.gcd_dvd_right _ _) (Nat.gcd_dvd_left _ _)
  have H3 : axH d e f ∣ f.natAbs := Nat.dvd_trans (Nat.gcd_dvd_right _ _) (Nat.gcd_dvd_right _ _)
  have m1 := G2 (e * c - f * b) (by simp [axP])
  have m2 := G2 (f * a - d * c) (by simp [axP])
  have m3 := G2 (d * b - e * a) (by simp [axP])
  have m4 := S2 (a * d + (b * e + c * f)) (by simp)
  have G1' : axG a b c d e f ∣ ((axC d e f : Nat) : Int).natAbs := by rw [Int.natAbs_natCast]; exact G1
  have S1' : foldL (axC d e f) [a * d + (b * e + c * f)] ∣ ((axC d e f : Nat) : Int).natAbs := by rw [Int.natAbs_natCast]; exact S1
  have xC := share gp G1'
  have x1 := share gp m1
  have x2 := share gp m2
  have x3 := share gp m3
  have y1 := share hp H1
  have y2 := share hp H2
  have y3 := share hp H3
  have z1 := share g2 m4
  have z2 := share g2 S1'
  have bC : Bd 203 ((axC d e f : Nat) : Int) := by
    rw [ce]
    exact (Bd.add ((h.d.mul h.d).mono (l := 201) (by decide)) ((h.e.mul h.e).add (h.f.mul h.f))).mono (by decide)
  have bs : Bd 203 (a * d + (b * e + c * f)) := (Bd.add ((h.a.mul h.d).mono (l := 201) (by decide)) ((h.b.mul h.e).add (h.c.mul h.f))).mono (by decide)
  have c1 := share_bd gp G1' bC
  have c2 := share_bd gp m1 ((h.e.mul h.c).sub (h.f.mul h.b))
  have c3 := share_bd gp m2 ((h.f.mul h.a).sub (h.d.mul h.c))
  have c4 := share_bd gp m3 ((h.d.mul h.b).sub (h.e.mul h.a))
  have c5 := share_bd hp H1 h.d
  have c6 := share_bd hp H2 h.e
  have c7 := share_bd hp H3 h.f
  have c8 := share_bd g2 m4 bs
  have c9 := share_bd g2 S1' bC
  have l1 := low_one (c := axC d e f) (ns := axP a b c d e f) (ks := [Int.fdiv (axC d e f : Nat) (axG a b c d e f : Nat), Int.fdiv (e * c - f * b) (axG a b c d e f : Nat), Int.fdiv (f * a - d * c) (axG a b c d e f : Nat), Int.fdiv (d * b - e * a) (axG a b c d e f : Nat)]) cp List.mem_cons_self (fun n hn => by
    simp only [axP, List.mem_cons, List.not_mem_nil, or_false] at hn
    rcases hn with rfl | rfl | rfl <;> simp [axG])
  have l3 := low_one (c := axC d e f) (ns := [a * d + (b * e + c * f)]) (ks := [Int.fdiv (a * d + (b * e + c * f)) (foldL (axC d e f) [a * d + (b * e + c * f)] : Nat), Int.fdiv (axC d e f : Nat) (foldL (axC d e f) [a * d + (b * e + c * f)] : Nat)]) cp (by simp) (fun n hn => by
    simp only [List.mem_cons, List.not_mem_nil, or_false] at hn
    subst hn; simp)
  have sw := short_way hp
  have gi : (0 : Int) < ((axG a b c d e f : Nat) : Int) := by omega
  have hi : (0 : Int) < ((axH d e f : Nat) : Int) := by omega
  have g2i : (0 : Int) < ((foldL (axC d e f) [a * d + (b * e + c * f)] : Nat) : Int) := by omega
  have cpi : (0 : Int) < ((axC d e f : Nat) : Int) := by omega
  generalize ((axC d e f : Nat) : Int) = cnt at *
  generalize ((axG a b c d e f : Nat) : Int) = G at *
  generalize ((axH d e f : Nat) : Int) = Hh at *
  generalize ((foldL (axC d e f) [a * d + (b * e + c * f)] : Nat) : Int) = S at *
  generalize Int.fdiv cnt G = C at *
  generalize Int.fdiv (e * c - f * b) G = p1 at *
  generalize Int.fdiv (f * a - d * c) G = p2 at *
  generalize Int.fdiv (d * b - e * a) G = p3 at *
  generalize Int.fdiv (a * d + (b * e + c * f)) S = n0 at *
  generalize Int.fdiv cnt S = c0 at *
  have Gne : G ≠ 0 := by omega
  have Hne : Hh ≠ 0 := by omega
  have Sne : S ≠ 0 := by omega
  have pos : ∀ {q x : Int}, 0 < q → q * x = cnt → 1 ≤ x := fun {q x} hq hx => by
    rcases Int.lt_or_le 0 x with h | h
    · exact h
    · exfalso
      have : q * x ≤ 0 := Int.mul_nonpos_of_nonneg_of_nonpos (by omega) h
      omega
  refine ⟨h, pos gi xC, c1.mono (by decide), c2.mono (by decide), c3.mono (by decide), c4.mono (by decide), c5.mono (by decide), c6.mono (by decide), c7.mono (by decide), c8.mono (by decide), c9.mono (by decide), l1, sw, l3, alg_dot Gne x1 x2 x3, pos g2i z2, ?_, fun t => ⟨?_, ?_, ?_⟩⟩
  · rw [← ce]; exact alg_eq z1 z2
  · exact alg_st Sne Gne xC x3 x2 z1 z2 (alg_r Hne y2 y3) (by rw [ce]; exact id1 a b c d e f)
  · exact alg_st Sne Gne xC x1 x3 z1 z2 (alg_r Hne y3 y1) (by rw [ce]; exact id2 a b c d e f)
  · exact alg_st Sne Gne xC x2 x1 z1 z2 (alg_r Hne y1 y2) (by rw [ce]; exact id3 a b c d e f)
end K21
end

section
set_option Elab.async false
set_option linter.all false
set_option maxRecDepth 100000
set_option maxHeartbeats 4000000
set_option exponentiation.threshold 2000
namespace K21
open PySem PySem.Spec BB
theorem whole_i (i : Int) (o : Om) : F_is_whole [.int i] o = .ok (.bool true) o := whole_any (.int i) rfl o
theorem space_val : Is (F_need_space [.int 6]) (.int 6) := fun o => by
  have e1 : oIn false (.int 6) (.tuple [.int 1, .int 3, .int 6]) = pure (.bool true) := rfl
  have d1 : ∀ o, F_is_dimension [.int 6] o = .ok (.bool true) o := fun o => by
    simp only [F_is_dimension, f_is_dimension, c1, c2, cA, cCons, cNil, cV, cL, cK, bindE, pureE, okB, List.length_cons, List.length_nil, List.getElem?_cons_zero, List.getElem?_cons_succ, List.set_cons_succ, List.set_cons_zero, slotV, slotL, on1, on2, oInt, oI, oAdd, oMul, oSub, oIx, oLen, if_true, fnR, env0, sSeq, sTgt, sSet, sOwn, sPar, sRet, sRetN, sNil, sIf, sExpr, liftE, List.map_cons, List.map_nil, List.replicate, List.cons_append, List.nil_append, oTup, oLst, LIM, gTp, gCn, gN, gNl, Option.bind_some, Nat.zero_add, Nat.reduceAdd, Nat.reduceLeDiff, cLc, cAI, iZipV, iSeq, asSeq, seqK, zipV, List.zipWith, lcGo, lcStep, R.nx, Out.nx, wipeE, oSum, asInts, Option.map_some, List.sum_cons, List.sum_nil, Int.add_zero, cAnd, cOr, cNot, cT, cNotT, cAndT, cOrT, cIf, truth, ofN, on1, oTuple, oList, oAbs, oGcd, oCmp, oIsN, oLzV, cSl, pNo, pSo, asInt, whole_i, e1]
  have d2 : ∀ o, F_need_dimension [.int 6] o = .ok (.int 6) o := fun o => by
    simp only [F_need_dimension, f_need_dimension, c1, c2, cA, cCons, cNil, cV, cL, cK, bindE, pureE, okB, List.length_cons, List.length_nil, List.getElem?_cons_zero, List.getElem?_cons_succ, List.set_cons_succ, List.set_cons_zero, slotV, slotL, on1, on2, oInt, oI, oAdd, oMul, oSub, oIx, oLen, if_true, fnR, env0, sSeq, sTgt, sSet, sOwn, sPar, sRet, sRetN, sNil, sIf, sExpr, liftE, List.map_cons, List.map_nil, List.replicate, List.cons_append, List.nil_append, oTup, oLst, LIM, gTp, gCn, gN, gNl, Option.bind_some, Nat.zero_add, Nat.reduceAdd, Nat.reduceLeDiff, cLc, cAI, iZipV, iSeq, asSeq, seqK, zipV, List.zipWith, lcGo, lcStep, R.nx, Out.nx, wipeE, oSum, asInts, Option.map_some, List.sum_cons, List.sum_nil, Int.add_zero, cAnd, cOr, cNot, cT, cNotT, cAndT, cOrT, cIf, truth, ofN, on1, oTuple, oList, oAbs, oGcd, oCmp, oIsN, oLzV, cSl, pNo, pSo, asInt, d1, Bool.not_true, Bool.false_eq_true, if_false]
  have q : ((6 : Int) == 1) = false := rfl
  simp only [F_need_space, f_need_space, c1, c2, cA, cCons, cNil, cV, cL, cK, bindE, pureE, okB, List.length_cons, List.length_nil, List.getElem?_cons_zero, List.getElem?_cons_succ, List.set_cons_succ, List.set_cons_zero, slotV, slotL, on1, on2, oInt, oI, oAdd, oMul, oSub, oIx, oLen, if_true, fnR, env0, sSeq, sTgt, sSet, sOwn, sPar, sRet, sRetN, sNil, sIf, sExpr, liftE, List.map_cons, List.map_nil, List.replicate, List.cons_append, List.nil_append, oTup, oLst, LIM, gTp, gCn, gN, gNl, Option.bind_some, Nat.zero_add, Nat.reduceAdd, Nat.reduceLeDiff, cLc, cAI, iZipV, iSeq, asSeq, seqK, zipV, List.zipWith, lcGo, lcStep, R.nx, Out.nx, wipeE, oSum, asInts, Option.map_some, List.sum_cons, List.sum_nil, Int.add_zero, cAnd, cOr, cNot, cT, cNotT, cAndT, cOrT, cIf, truth, ofN, on1, oTuple, oList, oAbs, oGcd, oCmp, oIsN, oLzV, cSl, pNo, pSo, asInt, d2, eq_int, q, Bool.false_eq_true, if_false]
theorem within_val {i : Int} (h1 : -1000000000 ≤ i) (h2 : i ≤ 1000000000) (o : Om) : F_is_within [.int i, .int (-1000000000), .int 1000000000] o = .ok (.bool true) o := by
  simp only [F_is_within, f_is_within, c1, c2, cA, cCons, cNil, cV, cL, cK, bindE, pureE, okB, List.length_cons, List.length_nil, List.getElem?_cons_zero, List.getElem?_cons_succ, List.set_cons_succ, List.set_cons_zero, slotV, slotL, on1, on2, oInt, oI, oAdd, oMul, oSub, oIx, oLen, if_true, fnR, env0, sSeq, sTgt, sSet, sOwn, sPar, sRet, sRetN, sNil, sIf, sExpr, liftE, List.map_cons, List.map_nil, List.replicate, List.cons_append, List.nil_append, oTup, oLst, LIM, gTp, gCn, gN, gNl, Option.bind_some, Nat.zero_add, Nat.reduceAdd, Nat.reduceLeDiff, cLc, cAI, iZipV, iSeq, asSeq, seqK, zipV, List.zipWith, lcGo, lcStep, R.nx, Out.nx, wipeE, oSum, asInts, Option.map_some, List.sum_cons, List.sum_nil, Int.add_zero, cAnd, cOr, cNot, cT, cNotT, cAndT, cOrT, cIf, truth, ofN, on1, oTuple, oList, oAbs, oGcd, oCmp, oIsN, oLzV, cSl, pNo, pSo, asInt, whole_i, cChain, h1, h2, decide_true]
theorem place_val {x y z : Int} (hx : -1000000000 ≤ x ∧ x ≤ 1000000000) (hy : -1000000000 ≤ y ∧ y ≤ 1000000000) (hz : -1000000000 ≤ z ∧ z ≤ 1000000000) : Is (F_need_place [.int 6, T3v x y z]) (T3v x y z) := fun o => by
  have t1 : ∀ xs o, oIsi "tuple" (.tuple xs) o = .ok (.bool true) o := fun _ _ => rfl
  have kg : ∀ o, oKget [(3, 2), (6, 3)] (.int 6) o = .ok (.int 3) o := fun _ => rfl
  have al : ∀ o, oTru (fun ks => ks.all id) (.list [.bool true, .bool true, .bool true]) o = .ok (.bool true) o := fun _ => rfl
  have ng : ∀ o, oNeg (.int 1000000000) o = .ok (.int (-1000000000)) o := fun _ => rfl
  have w1 := within_val hx.1 hx.2; have w2 := within_val hy.1 hy.2; have w3 := within_val hz.1 hz.2
  have ip : ∀ o, F_is_place [.int 6, T3v x y z] o = .ok (.bool true) o := fun o => by
    simp only [F_is_place, f_is_place, c1, c2, cA, cCons, cNil, cV, cL, cK, bindE, pureE, okB, List.length_cons, List.length_nil, List.getElem?_cons_zero, List.getElem?_cons_succ, List.set_cons_succ, List.set_cons_zero, slotV, slotL, on1, on2, oInt, oI, oAdd, oMul, oSub, oIx, oLen, if_true, fnR, env0, sSeq, sTgt, sSet, sOwn, sPar, sRet, sRetN, sNil, sIf, sExpr, liftE, List.map_cons, List.map_nil, List.replicate, List.cons_append, List.nil_append, oTup, oLst, LIM, gTp, gCn, gN, gNl, Option.bind_some, Nat.zero_add, Nat.reduceAdd, Nat.reduceLeDiff, cLc, cAI, iZipV, iSeq, asSeq, seqK, zipV, List.zipWith, lcGo, lcStep, R.nx, Out.nx, wipeE, oSum, asInts, Option.map_some, List.sum_cons, List.sum_nil, Int.add_zero, cAnd, cOr, cNot, cT, cNotT, cAndT, cOrT, cIf, truth, ofN, on1, oTuple, oList, oAbs, oGcd, oCmp, oIsN, oLzV, cSl, pNo, pSo, asInt, t1, kg, ne_int, show (((3 : Nat) : Int) == 3) = true from rfl, ng, w1, w2, w3, al, Bool.not_true, Bool.false_eq_true, if_false]
  have sp := space_val
  have cp : ∀ o, F_checked_place [.int 6, T3v x y z, .int (-1)] o = .ok (T3v x y z) o := fun o => by
    simp only [F_checked_place, f_checked_place, c1, c2, cA, cCons, cNil, cV, cL, cK, bindE, pureE, okB, List.length_cons, List.length_nil, List.getElem?_cons_zero, List.getElem?_cons_succ, List.set_cons_succ, List.set_cons_zero, slotV, slotL, on1, on2, oInt, oI, oAdd, oMul, oSub, oIx, oLen, if_true, fnR, env0, sSeq, sTgt, sSet, sOwn, sPar, sRet, sRetN, sNil, sIf, sExpr, liftE, List.map_cons, List.map_nil, List.replicate, List.cons_append, List.nil_append, oTup, oLst, LIM, gTp, gCn, gN, gNl, Option.bind_some, Nat.zero_add, Nat.reduceAdd, Nat.reduceLeDiff, cLc, cAI, iZipV, iSeq, asSeq, seqK, zipV, List.zipWith, lcGo, lcStep, R.nx, Out.nx, wipeE, oSum, asInts, Option.map_some, List.sum_cons, List.sum_nil, Int.add_zero, cAnd, cOr, cNot, cT, cNotT, cAndT, cOrT, cIf, truth, ofN, on1, oTuple, oList, oAbs, oGcd, oCmp, oIsN, oLzV, cSl, pNo, pSo, asInt, ip, Bool.not_true, Bool.false_eq_true, if_false]
  have ng1 : ∀ o, oNeg (.int 1) o = .ok (.int (-1)) o := fun _ => rfl
  simp only [F_need_place, f_need_place, c1, c2, cA, cCons, cNil, cV, cL, cK, bindE, pureE, okB, List.length_cons, List.length_nil, List.getElem?_cons_zero, List.getElem?_cons_succ, List.set_cons_succ, List.set_cons_zero, slotV, slotL, on1, on2, oInt, oI, oAdd, oMul, oSub, oIx, oLen, if_true, fnR, env0, sSeq, sTgt, sSet, sOwn, sPar, sRet, sRetN, sNil, sIf, sExpr, liftE, List.map_cons, List.map_nil, List.replicate, List.cons_append, List.nil_append, oTup, oLst, LIM, gTp, gCn, gN, gNl, Option.bind_some, Nat.zero_add, Nat.reduceAdd, Nat.reduceLeDiff, cLc, cAI, iZipV, iSeq, asSeq, seqK, zipV, List.zipWith, lcGo, lcStep, R.nx, Out.nx, wipeE, oSum, asInts, Option.map_some, List.sum_cons, List.sum_nil, Int.add_zero, cAnd, cOr, cNot, cT, cNotT, cAndT, cOrT, cIf, truth, ofN, on1, oTuple, oList, oAbs, oGcd, oCmp, oIsN, oLzV, cSl, pNo, pSo, asInt, sp o, fun o => sp o, ng1, cp]
theorem vel_val {a b c d e f x y z : Int} (h : B6 300 a b c d e f) (hx : -1000000000 ≤ x ∧ x ≤ 1000000000) (hy : -1000000000 ≤ y ∧ y ≤ 1000000000) (hz : -1000000000 ≤ z ∧ z ≤ 1000000000) :
    Is (F_velocity [.int 6, T6v a b c d e f, T3v x y z]) (T3v (a + (e * z - f * y)) (b + (f * x - d * z)) (c + (d * y - e * x))) := fun o => by
  have sp : ∀ o, F_need_space [.int 6] o = .ok (.int 6) o := space_val
  have n := fun o => need6 a b c d e f o
  have pl : ∀ o, F_need_place [.int 6, T3v x y z] o = .ok (T3v x y z) o := place_val hx hy hz
  have bx : Bd 400 x := (show Bd 31 x by unfold Bd; omega).mono (by decide)
  have by' : Bd 400 y := (show Bd 31 y by unfold Bd; omega).mono (by decide)
  have bz : Bd 400 z := (show Bd 31 z by unfold Bd; omega).mono (by decide)
  have cv := fun o => cross_val (h.d.mono (l := 400) (by decide)) (h.e.mono (by decide)) (h.f.mono (by decide)) bx by' bz o
  have q : ((6 : Int) == 3) = false := rfl
  simp only [F_velocity, f_velocity, c1, c2, cA, cCons, cNil, cV, cL, cK, bindE, pureE, okB, List.length_cons, List.length_nil, List.getElem?_cons_zero, List.getElem?_cons_succ, List.set_cons_succ, List.set_cons_zero, slotV, slotL, on1, on2, oInt, oI, oAdd, oMul, oSub, oIx, oLen, if_true, fnR, env0, sSeq, sTgt, sSet, sOwn, sPar, sRet, sRetN, sNil, sIf, sExpr, liftE, List.map_cons, List.map_nil, List.replicate, List.cons_append, List.nil_append, oTup, oLst, LIM, gTp, gCn, gN, gNl, Option.bind_some, Nat.zero_add, Nat.reduceAdd, Nat.reduceLeDiff, cLc, cAI, iZipV, iSeq, asSeq, seqK, zipV, List.zipWith, lcGo, lcStep, R.nx, Out.nx, wipeE, oSum, asInts, Option.map_some, List.sum_cons, List.sum_nil, Int.add_zero, cAnd, cOr, cNot, cT, cNotT, cAndT, cOrT, cIf, truth, ofN, on1, oTuple, oList, oAbs, oGcd, oCmp, oIsN, oLzV, cSl, pNo, pSo, asInt, sp, n, pl, eq_int, q, oSl, cut_lo, cut_hi, cv, Bool.false_eq_true, if_false]
theorem gp2 {x : Int} (h : Bd 9000 x) : gPow x 2 = true := by
  unfold gPow
  exact decide_eq_true ⟨by decide, by decide, h.mono (l := 10000) (by decide)⟩
end K21
end

section
set_option Elab.async false
set_option linter.all false
set_option maxRecDepth 100000
set_option maxHeartbeats 4000000
set_option exponentiation.threshold 5000
namespace K21
open PySem PySem.Spec BB
theorem draw_tr {lim : Int} (h1 : 0 < lim) (h2 : lim ≤ 1000000000000000000000) : Tr 1 (F__law_draw [drw, .int lim]) fun v => ∃ r : Int, v = .int r ∧ 0 ≤ r ∧ r < lim := fun o ok => by
  have k := ok.2.2
  have oo : OkO o := ⟨ok.1, ok.2.1, by omega⟩
  refine ⟨.int (drawF o lim).1, (drawF o lim).2, if_pos ⟨h1, h2, oo⟩, ?_⟩
  unfold drawF
  split
  · exact ⟨⟨ok.1, ok.2.1, show o.spot + 1 + 0 ≤ 1000000 by omega⟩, Nat.le_refl _, _, rfl, Int.fmod_nonneg_of_pos _ h1, Int.fmod_lt_of_pos _ h1⟩
  · exact ⟨⟨ok.1, ok.2.1, show o.spot + 1 + 0 ≤ 1000000 by omega⟩, Nat.le_refl _, _, rfl, Int.fmod_nonneg_of_pos _ h1, Int.fmod_lt_of_pos _ h1⟩
theorem ok_next {k l : Nat} {o o' : Om} (ok : OmOk (k + l) o) (h : OmOk 0 o') (q : o'.spot ≤ o.spot + k) : OmOk l o' := ⟨h.1, h.2.1, by have := ok.2.2; omega⟩
theorem atI_mem {xs : List Val} {r : Int} (h0 : 0 ≤ r) (h1 : r < (xs.length : Nat)) : ∃ x, L2.atI xs r = some x ∧ x ∈ xs := by
  have l : r.toNat < xs.length := by omega
  refine ⟨xs[r.toNat], ?_, List.getElem_mem l⟩
  have e : L2.ixN xs.length r = some r.toNat := by
    unfold L2.ixN
    simp only [h0, h1, if_true, and_self, true_and]
  unfold L2.atI
  rw [e, Option.bind_some, List.getElem?_eq_getElem l]
theorem of_tr {xs : List Val} (h : 0 < xs.length) (hl : xs.length ≤ 1000) : Tr 1 (F__law_of [drw, .list xs]) (· ∈ xs) := fun o ok => by
  obtain ⟨_, o', e, ok', sp, r, rfl, r0, r1⟩ := draw_tr (lim := (xs.length : Nat)) (by omega) (by omega) o ok
  obtain ⟨x, a, hm⟩ := atI_mem r0 r1
  refine ⟨x, o', ?_, ok', sp, hm⟩
  simp only [F__law_of, f__law_of, c1, c2, cA, cCons, cNil, cV, cL, cK, bindE, pureE, okB, List.length_cons, List.length_nil, List.getElem?_cons_zero, List.getElem?_cons_succ, List.set_cons_succ, List.set_cons_zero, slotV, slotL, on1, on2, oInt, oAdd, oMul, oSub, oLen, if_true, fnR, env0, sSeq, sTgt, sSet, sOwn, sPar, sRet, sRetN, sNil, sIf, sExpr, liftE, List.map_cons, List.map_nil, List.replicate, List.cons_append, List.nil_append, oTup, oLst, LIM, gTp, gCn, gN, gNl, Option.bind_some, Nat.zero_add, Nat.reduceAdd, Nat.reduceLeDiff, cAI, iZipV, iSeq, asSeq, seqK, zipV, List.zipWith, asInts, Option.map_some, List.sum_cons, List.sum_nil, Int.add_zero, cAnd, cOr, cNot, cT, cNotT, cAndT, cOrT, cIf, truth, ofN, on1, oTuple, oList, oAbs, oGcd, oCmp, oIsN, oLzV, cSl, pNo, pSo, asInt, oIx, e, a]
theorem num_tr {n : Int} (h0 : 0 ≤ n) (h1 : n ≤ 1000000000) : Tr 1 (F__law_three_number [drw, .int n]) fun v => ∃ i : Int, v = .int i ∧ -n ≤ i ∧ i ≤ n := fun o ok => by
  obtain ⟨_, o', e, ok', sp, r, rfl, r0, r1⟩ := draw_tr (lim := 2 * n + 1) (by omega) (by omega) o ok
  refine ⟨.int (r - n), o', ?_, ok', sp, _, rfl, by omega, by omega⟩
  have g : gMul 2 n = true := gm (k := 40) (l := 40) (show (2 : Nat) < 2 ^ 40 by decide) (by unfold Bd; omega)
  simp only [F__law_three_number, f__law_three_number, c1, c2, cA, cCons, cNil, cV, cL, cK, bindE, pureE, okB, List.length_cons, List.length_nil, List.getElem?_cons_zero, List.getElem?_cons_succ, List.set_cons_succ, List.set_cons_zero, slotV, slotL, on1, on2, oInt, oAdd, oMul, oSub, oLen, if_true, fnR, env0, sSeq, sTgt, sSet, sOwn, sPar, sRet, sRetN, sNil, sIf, sExpr, liftE, List.map_cons, List.map_nil, List.replicate, List.cons_append, List.nil_append, oTup, oLst, LIM, gTp, gCn, gN, gNl, Option.bind_some, Nat.zero_add, Nat.reduceAdd, Nat.reduceLeDiff, cAI, iZipV, iSeq, asSeq, seqK, zipV, List.zipWith, asInts, Option.map_some, List.sum_cons, List.sum_nil, Int.add_zero, cAnd, cOr, cNot, cT, cNotT, cAndT, cOrT, cIf, truth, ofN, on1, oTuple, oList, oAbs, oGcd, oCmp, oIsN, oLzV, cSl, pNo, pSo, asInt, g, e]
theorem three_of {P : Val → Prop} {ys : List Val} (h : ys.length = 3) (q : ∀ y ∈ ys, P y) : ∃ a b c, ys = [a, b, c] ∧ P a ∧ P b ∧ P c := by
  match ys, h with
  | [a, b, c], _ => exact ⟨a, b, c, rfl, q _ (by simp), q _ (by simp), q _ (by simp)⟩
/-- the place's numbers -/
def nm4 : BB.Env → R Val := cLc [3] (cAI iRange1 (cCons (cIf (cT (c2 (oEq false) (cV 1) (cK (.int 3)))) (cK (.int 2)) (cK (.int 3))) (cNil))) (gN 3) (fun _ => pure true) (c2 oSub (cA (ofN 2 F__law_draw) (cCons (cV 0) (cCons (c2 oAdd (c2 oMul (cK (.int 2)) (cV 2)) (cK (.int 1))) (cNil)))) (cV 2))
theorem nm4_tr {n : Int} (h0 : 0 ≤ n) (h1 : n ≤ 1000000000) : Tr 3 (nm4 [.val drw, .val (.int 6), .val (.int n), .un]) fun v => ∃ x y z : Int, v = PyData.list [.int x, .int y, .int z] ∧ (-n ≤ x ∧ x ≤ n) ∧ (-n ≤ y ∧ y ≤ n) ∧ (-n ≤ z ∧ z ≤ n) := by
  have g : gMul 2 n = true := gm (k := 40) (l := 40) (show (2 : Nat) < 2 ^ 40 by decide) (by unfold Bd; omega)
  refine Tr.imp (k := 3 * 1) (Tr.lc (k := 1) (xs := [.int 0, .int 1, .int 2]) (P := fun v => ∃ i : Int, v = .int i ∧ -n ≤ i ∧ i ≤ n) (fun o => rfl) (by decide) (fun x hx => ⟨_, rfl, fun o ok => ?_⟩)) (Nat.le_refl _) fun v ⟨ys, hv, hl, hq⟩ => ?_
  · obtain ⟨_, o', e, ok', sp, r, rfl, r0, r1⟩ := draw_tr (lim := 2 * n + 1) (by omega) (by omega) o ok
    refine ⟨.int (r - n), o', ?_, ok', sp, _, rfl, by omega, by omega⟩
    simp only [c1, c2, cA, cCons, cNil, cV, cL, cK, bindE, pureE, okB, List.length_cons, List.length_nil, List.getElem?_cons_zero, List.getElem?_cons_succ, List.set_cons_succ, List.set_cons_zero, slotV, slotL, on1, on2, oInt, oAdd, oMul, oSub, oLen, if_true, fnR, env0, sSeq, sTgt, sSet, sOwn, sPar, sRet, sRetN, sNil, sIf, sExpr, liftE, List.map_cons, List.map_nil, List.replicate, List.cons_append, List.nil_append, oTup, oLst, LIM, gTp, gCn, gN, gNl, Option.bind_some, Nat.zero_add, Nat.reduceAdd, Nat.reduceLeDiff, cAI, iZipV, iSeq, asSeq, seqK, zipV, List.zipWith, asInts, Option.map_some, List.sum_cons, List.sum_nil, Int.add_zero, cAnd, cOr, cNot, cT, cNotT, cAndT, cOrT, cIf, truth, ofN, on1, oTuple, oList, oAbs, oGcd, oCmp, oIsN, oLzV, cSl, pNo, pSo, asInt, wipeE, g, e]
  · obtain ⟨_, _, _, e, ⟨x, rfl, hx⟩, ⟨y, rfl, hy⟩, ⟨z, rfl, hz⟩⟩ := three_of hl hq
    subst hv; subst e
    exact ⟨x, y, z, rfl, hx, hy, hz⟩
theorem f_place : f__law_four_place = sRet (cA (on1 oTuple) (cCons nm4 cNil)) := rfl
theorem place_tr {n : Int} (h0 : 0 ≤ n) (h1 : n ≤ 1000000000) : Tr 3 (F__law_four_place [drw, .int 6, .int n]) fun v => ∃ x y z : Int, v = PyData.tuple [.int x, .int y, .int z] ∧ (-n ≤ x ∧ x ≤ n) ∧ (-n ≤ y ∧ y ≤ n) ∧ (-n ≤ z ∧ z ≤ n) := fun o ok => by
  obtain ⟨_, o', e, ok', sp, x, y, z, rfl, h⟩ := nm4_tr h0 h1 o ok
  refine ⟨.tuple [.int x, .int y, .int z], o', ?_, ok', sp, x, y, z, rfl, h⟩
  simp only [F__law_four_place, f_place, c1, c2, cA, cCons, cNil, cV, cL, cK, bindE, pureE, okB, List.length_cons, List.length_nil, List.getElem?_cons_zero, List.getElem?_cons_succ, List.set_cons_succ, List.set_cons_zero, slotV, slotL, on1, on2, oInt, oAdd, oMul, oSub, oLen, if_true, fnR, env0, sSeq, sTgt, sSet, sOwn, sPar, sRet, sRetN, sNil, sIf, sExpr, liftE, List.map_cons, List.map_nil, List.replicate, List.cons_append, List.nil_append, oTup, oLst, LIM, gTp, gCn, gN, gNl, Option.bind_some, Nat.zero_add, Nat.reduceAdd, Nat.reduceLeDiff, cAI, iZipV, iSeq, asSeq, seqK, zipV, List.zipWith, asInts, Option.map_some, List.sum_cons, List.sum_nil, Int.add_zero, cAnd, cOr, cNot, cT, cNotT, cAndT, cOrT, cIf, truth, ofN, on1, oTuple, oList, oAbs, oGcd, oCmp, oIsN, oLzV, cSl, pNo, pSo, asInt, e]
/-- three numbers in a row -/
def nm3 : BB.Env → R Val := cLc [7] (cAI iRange1 (cCons (cK (.int 3)) (cNil))) (gN 7) (fun _ => pure true) (cA (ofN 2 F__law_three_number) (cCons (cV 0) (cCons (cV 1) (cNil))))
theorem nm3_tr {n : Int} (h0 : 0 ≤ n) (h1 : n ≤ 1000000000) (ρ : List Slot) : Tr 3 (nm3 (.val drw :: .val (.int n) :: ρ)) fun v => ∃ x y z : Int, v = PyData.list [.int x, .int y, .int z] ∧ (-n ≤ x ∧ x ≤ n) ∧ (-n ≤ y ∧ y ≤ n) ∧ (-n ≤ z ∧ z ≤ n) := by
  refine Tr.imp (k := 3 * 1) (Tr.lc (k := 1) (xs := [.int 0, .int 1, .int 2]) (P := fun v => ∃ i : Int, v = .int i ∧ -n ≤ i ∧ i ≤ n) (fun o => rfl) (by decide) (fun x hx => ⟨_, rfl, ?_⟩)) (Nat.le_refl _) fun v ⟨ys, hv, hl, hq⟩ => ?_
  · exact (num_tr h0 h1)
  · obtain ⟨_, _, _, e, ⟨x, rfl, hx⟩, ⟨y, rfl, hy⟩, ⟨z, rfl, hz⟩⟩ := three_of hl hq
    subst hv; subst e
    exact ⟨x, y, z, rfl, hx, hy, hz⟩
end K21
end

section
set_option Elab.async false
set_option linter.all false
set_option maxRecDepth 100000
set_option maxHeartbeats 4000000
set_option exponentiation.threshold 5000
namespace K21
open PySem PySem.Spec BB
theorem ok_at {k : Nat} {o' : Om} (h : OmOk 0 o') (q : o'.spot + k ≤ 1000000) : OmOk k o' := ⟨h.1, h.2.1, q⟩
def nm8 : BB.Env → R Val := cLc [8] (iSeq (cV 3)) (gN 8) (fun _ => pure true) (c2 oMul (cV 6) (cV 8))
theorem f_motion : f__law_motion = sSeq (sTgt (gTp (gCn (gN 1) (gCn (gN 2) (gNl)))) (cA oTup (cCons (cA (ofN 2 F__law_of) (cCons (cV 0) (cCons (cA oLst (cCons (cK (.int 1)) (cCons (cK (.int 3)) (cCons (cK (.int 1000)) (cCons (c2 (oI gPow fun i j => i ^ j.toNat) (cK (.int 10)) (cK (.int 9))) (cNil)))))) (cNil)))) (cCons (cA (ofN 2 F__law_draw) (cCons (cV 0) (cCons (cK (.int 4)) (cNil)))) (cNil))))) (sSeq (sSet 3 (cA (on1 oTuple) (cCons (nm3) (cNil)))) (sSeq (sIf (cT (c2 (oEq false) (cV 2) (cK (.int 0)))) (sRet (c2 oAdd (cV 3) (cA oTup (cCons (cK (.int 0)) (cCons (cK (.int 0)) (cCons (cK (.int 0)) (cNil))))))) (sNil)) (sSeq (sIf (cT (c2 (oEq false) (cV 2) (cK (.int 1)))) (sSeq (sPar 4 5 (cCons (cA (ofN 3 F__law_four_place) (cCons (cV 0) (cCons (cK (.int 6)) (cCons (cV 1) (cNil))))) (cCons (cA (ofN 2 F__law_three_number) (cCons (cV 0) (cCons (cK (.int 3)) (cNil)))) (cNil)))) (sRet (c2 oAdd (cA (ofN 3 F__law_three_plus) (cCons (cA (ofN 2 F__law_three_cross) (cCons (cV 4) (cCons (cV 3) (cNil)))) (cCons (cV 5) (cCons (cV 3) (cNil))))) (cV 3)))) (sNil)) (sSeq (sIf (cT (c2 (oEq false) (cV 2) (cK (.int 2)))) (sSeq (sSet 6 (c2 oAdd (cK (.int 2)) (cA (ofN 2 F__law_draw) (cCons (cV 0) (cCons (cK (.int 5)) (cNil)))))) (sRet (c2 oAdd (cA (on1 oTuple) (cCons (nm3) (cNil))) (cA (on1 oTuple) (cCons (nm8) (cNil)))))) (sNil)) (sRet (c2 oAdd (cA (on1 oTuple) (cCons (nm3) (cNil))) (cV 3))))))) := rfl
theorem p9 (o : Om) : oI gPow (fun i j => i ^ j.toNat) (.int 10) (.int 9) o = .ok (.int 1000000000) o := rfl
theorem p6 (o : Om) : oI gPow (fun i j => i ^ j.toNat) (.int 10) (.int 6) o = .ok (.int 1000000) o := rfl
theorem nm8_val {s0 s1 s2 s4 s5 s7 s8 : Slot} {x y z k : Int} (gx : gMul k x = true) (gy : gMul k y = true) (gz : gMul k z = true) : Is (nm8 [s0, s1, s2, .val (.tuple [.int x, .int y, .int z]), s4, s5, .val (.int k), s7, s8]) (.list [.int (k * x), .int (k * y), .int (k * z)]) := fun o => by
  simp only [nm8, c1, c2, cA, cCons, cNil, cV, cL, cK, bindE, pureE, okB, List.length_cons, List.length_nil, List.getElem?_cons_zero, List.getElem?_cons_succ, List.set_cons_succ, List.set_cons_zero, slotV, slotL, on1, on2, oInt, oI, oAdd, oMul, oSub, oIx, oLen, if_true, fnR, env0, sSeq, sTgt, sSet, sOwn, sPar, sRet, sRetN, sNil, sIf, sExpr, liftE, List.map_cons, List.map_nil, List.replicate, List.cons_append, List.nil_append, oTup, oLst, LIM, gTp, gCn, gN, gNl, Option.bind_some, Nat.zero_add, Nat.reduceAdd, Nat.reduceLeDiff, cLc, cAI, iZipV, iSeq, asSeq, seqK, zipV, List.zipWith, lcGo, lcStep, R.nx, Out.nx, wipeE, oSum, asInts, Option.map_some, List.sum_cons, List.sum_nil, Int.add_zero, cAnd, cOr, cNot, cT, cNotT, cAndT, cOrT, cIf, truth, ofN, on1, oTuple, oList, oAbs, oGcd, oCmp, oIsN, oLzV, cSl, pNo, pSo, asInt, gx, gy, gz]
theorem b30 {x n : Int} (h : -n ≤ x ∧ x ≤ n) (hn : n ≤ 1000000000) : Bd 30 x := by unfold Bd; omega
def Mo (v : Val) : Prop := ∃ a b c d e f : Int, v = .tuple [.int a, .int b, .int c, .int d, .int e, .int f] ∧ B6 100 a b c d e f
theorem motion_tr : Tr 9 (F__law_motion [drw]) Mo := fun o ok => by
  have K := ok.2.2
  obtain ⟨_, o1, e1, k1, s1, hm⟩ := of_tr (xs := [.int 1, .int 3, .int 1000, .int 1000000000]) (by decide) (by decide) o (ok.mono (by decide))
  have : ∃ n : Int, ‹Val› = .int n ∧ 0 ≤ n ∧ n ≤ 1000000000 := by
    simp only [List.mem_cons, List.not_mem_nil, or_false] at hm
    rcases hm with rfl | rfl | rfl | rfl <;> exact ⟨_, rfl, by decide, by decide⟩
  obtain ⟨n, rfl, n0, n1⟩ := this
  obtain ⟨_, o2, e2, k2, s2, r, rfl, r0, r1⟩ := draw_tr (lim := 4) (by decide) (by decide) o1 (ok_at k1 (by omega))
  obtain ⟨_, o3, e3, k3, s3, x, y, z, rfl, hx, hy, hz⟩ := nm3_tr n0 n1 [.val (.int r), .un, .un, .un, .un, .un, .un] o2 (ok_at k2 (by omega))
  have bx := b30 hx n1
  have by' := b30 hy n1
  have bz := b30 hz n1
  have q : r = 0 ∨ r = 1 ∨ r = 2 ∨ r = 3 := by omega
  have z0 : Bd 100 0 := show (0 : Nat) < 2 ^ 100 by decide
  rcases q with rfl | rfl | rfl | rfl
  · refine ⟨.tuple [.int x, .int y, .int z, .int 0, .int 0, .int 0], o3, ?_, k3, by omega, _, _, _, _, _, _, rfl, bx.mono (by decide), by'.mono (by decide), bz.mono (by decide), z0, z0, z0⟩
    simp only [F__law_motion, f_motion, c1, c2, cA, cCons, cNil, cV, cL, cK, bindE, pureE, okB, List.length_cons, List.length_nil, List.getElem?_cons_zero, List.getElem?_cons_succ, List.set_cons_succ, List.set_cons_zero, slotV, slotL, on1, on2, oInt, oAdd, oMul, oSub, oLen, if_true, fnR, env0, sSeq, sTgt, sSet, sOwn, sPar, sRet, sRetN, sNil, sIf, sExpr, liftE, List.map_cons, List.map_nil, List.replicate, List.cons_append, List.nil_append, oTup, oLst, LIM, gTp, gCn, gN, gNl, Option.bind_some, Nat.zero_add, Nat.reduceAdd, Nat.reduceLeDiff, cAI, iZipV, iSeq, asSeq, seqK, zipV, List.zipWith, asInts, Option.map_some, List.sum_cons, List.sum_nil, Int.add_zero, cAnd, cOr, cNot, cT, cNotT, cAndT, cOrT, cIf, truth, ofN, on1, oTuple, oList, oAbs, oGcd, oCmp, oIsN, oLzV, cSl, pNo, pSo, asInt, p9, e1, e2, e3, eq_int, show ((0 : Int) == 0) = true from rfl]
  · obtain ⟨_, o4, e4, k4, s4, a, b, c, rfl, ha, hb, hc⟩ := place_tr n0 n1 o3 (ok_at k3 (by omega))
    obtain ⟨_, o5, e5, k5, s5, t, rfl, t0, t1⟩ := num_tr (n := 3) (by decide) (by decide) o4 (ok_at k4 (by omega))
    have ba := b30 ha n1
    have bb := b30 hb n1
    have bc := b30 hc n1
    have bt : Bd 30 t := b30 ⟨t0, t1⟩ (by decide)
    have e6 := tcross_val (ba.mono (l := 900) (by decide)) (bb.mono (by decide)) (bc.mono (by decide)) (bx.mono (by decide)) (by'.mono (by decide)) (bz.mono (by decide)) o5
    have e7 := plus_val (x := b * z - c * y) (y := c * x - a * z) (z := a * y - b * x) (bt.mono (by decide)) (bx.mono (by decide)) (by'.mono (by decide)) (bz.mono (by decide)) o5
    have bd : ∀ {p q u v w : Int}, Bd 30 p → Bd 30 q → Bd 30 u → Bd 30 v → Bd 30 w → Bd 100 (p * q - u * v + t * w) := fun hp hq hu hv hw => Bd.mono ((Bd.sub (hp.mul hq) (hu.mul hv)).add ((bt.mul hw).mono (l := 61) (by decide))) (by decide)
    refine ⟨.tuple [.int (b * z - c * y + t * x), .int (c * x - a * z + t * y), .int (a * y - b * x + t * z), .int x, .int y, .int z], o5, ?_, k5, by omega, _, _, _, _, _, _, rfl, bd bb bz bc by' bx, bd bc bx ba bz by', bd ba by' bb bx bz, bx.mono (by decide), by'.mono (by decide), bz.mono (by decide)⟩
    simp only [T3v] at e6 e7
    simp only [F__law_motion, f_motion, c1, c2, cA, cCons, cNil, cV, cL, cK, bindE, pureE, okB, List.length_cons, List.length_nil, List.getElem?_cons_zero, List.getElem?_cons_succ, List.set_cons_succ, List.set_cons_zero, slotV, slotL, on1, on2, oInt, oAdd, oMul, oSub, oLen, if_true, fnR, env0, sSeq, sTgt, sSet, sOwn, sPar, sRet, sRetN, sNil, sIf, sExpr, liftE, List.map_cons, List.map_nil, List.replicate, List.cons_append, List.nil_append, oTup, oLst, LIM, gTp, gCn, gN, gNl, Option.bind_some, Nat.zero_add, Nat.reduceAdd, Nat.reduceLeDiff, cAI, iZipV, iSeq, asSeq, seqK, zipV, List.zipWith, asInts, Option.map_some, List.sum_cons, List.sum_nil, Int.add_zero, cAnd, cOr, cNot, cT, cNotT, cAndT, cOrT, cIf, truth, ofN, on1, oTuple, oList, oAbs, oGcd, oCmp, oIsN, oLzV, cSl, pNo, pSo, asInt, sPar, p9, e1, e2, e3, e4, e5, e6, e7, eq_int, show ((1 : Int) == 0) = false from rfl, show ((1 : Int) == 1) = true from rfl, Bool.false_eq_true, if_false]
  · obtain ⟨_, o4, e4, k4, s4, t, rfl, t0, t1⟩ := draw_tr (lim := 5) (by decide) (by decide) o3 (ok_at k3 (by omega))
    obtain ⟨_, o5, e5, k5, s5, a, b, c, rfl, ha, hb, hc⟩ := nm3_tr n0 n1 [.val (.int 2), .val (.tuple [.int x, .int y, .int z]), .un, .un, .val (.int (2 + t)), .un, .un] o4 (ok_at k4 (by omega))
    have ba := b30 ha n1
    have bb := b30 hb n1
    have bc := b30 hc n1
    have bt : Bd 30 (2 + t) := by unfold Bd; omega
    have e6 := nm8_val (s0 := .val drw) (s1 := .val (.int n)) (s2 := .val (.int 2)) (s4 := .un) (s5 := .un) (s7 := .un) (s8 := .un) (gm bt bx) (gm bt by') (gm bt bz) o5
    refine ⟨.tuple [.int a, .int b, .int c, .int ((2 + t) * x), .int ((2 + t) * y), .int ((2 + t) * z)], o5, ?_, k5, by omega, _, _, _, _, _, _, rfl, ba.mono (by decide), bb.mono (by decide), bc.mono (by decide), (bt.mul bx).mono (by decide), (bt.mul by').mono (by decide), (bt.mul bz).mono (by decide)⟩
    simp only [F__law_motion, f_motion, c1, c2, cA, cCons, cNil, cV, cL, cK, bindE, pureE, okB, List.length_cons, List.length_nil, List.getElem?_cons_zero, List.getElem?_cons_succ, List.set_cons_succ, List.set_cons_zero, slotV, slotL, on1, on2, oInt, oAdd, oMul, oSub, oLen, if_true, fnR, env0, sSeq, sTgt, sSet, sOwn, sPar, sRet, sRetN, sNil, sIf, sExpr, liftE, List.map_cons, List.map_nil, List.replicate, List.cons_append, List.nil_append, oTup, oLst, LIM, gTp, gCn, gN, gNl, Option.bind_some, Nat.zero_add, Nat.reduceAdd, Nat.reduceLeDiff, cAI, iZipV, iSeq, asSeq, seqK, zipV, List.zipWith, asInts, Option.map_some, List.sum_cons, List.sum_nil, Int.add_zero, cAnd, cOr, cNot, cT, cNotT, cAndT, cOrT, cIf, truth, ofN, on1, oTuple, oList, oAbs, oGcd, oCmp, oIsN, oLzV, cSl, pNo, pSo, asInt, p9, e1, e2, e3, e4, e5, e6, eq_int, show ((2 : Int) == 0) = false from rfl, show ((2 : Int) == 1) = false from rfl, show ((2 : Int) == 2) = true from rfl, Bool.false_eq_true, if_false]
  · obtain ⟨_, o5, e5, k5, s5, a, b, c, rfl, ha, hb, hc⟩ := nm3_tr n0 n1 [.val (.int 3), .val (.tuple [.int x, .int y, .int z]), .un, .un, .un, .un, .un] o3 (ok_at k3 (by omega))
    have ba := b30 ha n1
    have bb := b30 hb n1
    have bc := b30 hc n1
    refine ⟨.tuple [.int a, .int b, .int c, .int x, .int y, .int z], o5, ?_, k5, by omega, _, _, _, _, _, _, rfl, ba.mono (by decide), bb.mono (by decide), bc.mono (by decide), bx.mono (by decide), by'.mono (by decide), bz.mono (by decide)⟩
    simp only [F__law_motion, f_motion, c1, c2, cA, cCons, cNil, cV, cL, cK, bindE, pureE, okB, List.length_cons, List.length_nil, List.getElem?_cons_zero, List.getElem?_cons_succ, List.set_cons_succ, List.set_cons_zero, slotV, slotL, on1, on2, oInt, oAdd, oMul, oSub, oLen, if_true, fnR, env0, sSeq, sTgt, sSet, sOwn, sPar, sRet, sRetN, sNil, sIf, sExpr, liftE, List.map_cons, List.map_nil, List.replicate, List.cons_append, List.nil_append, oTup, oLst, LIM, gTp, gCn, gN, gNl, Option.bind_some, Nat.zero_add, Nat.reduceAdd, Nat.reduceLeDiff, cAI, iZipV, iSeq, asSeq, seqK, zipV, List.zipWith, asInts, Option.map_some, List.sum_cons, List.sum_nil, Int.add_zero, cAnd, cOr, cNot, cT, cNotT, cAndT, cOrT, cIf, truth, ofN, on1, oTuple, oList, oAbs, oGcd, oCmp, oIsN, oLzV, cSl, pNo, pSo, asInt, p9, e1, e2, e3, e5, eq_int, show ((3 : Int) == 0) = false from rfl, show ((3 : Int) == 1) = false from rfl, show ((3 : Int) == 2) = false from rfl, Bool.false_eq_true, if_false]
end K21
end

section
set_option Elab.async false
set_option linter.all false
set_option maxRecDepth 100000
set_option maxHeartbeats 4000000
set_option exponentiation.threshold 10001
namespace K21
open PySem PySem.Spec BB
/-- a wrong row -/
structure Wr (x : Val) : Prop where
  hm : mark x = false
  hs : ∀ xs, x = .tuple xs → ∀ y ∈ xs, mark y = false
  no : rowOk x = false
theorem excB {α β : Type} (c : Str) (fs : List (Str × Val)) (o : Om) (f : α → R β) : (Out.exc c fs o : Out α).bind f = .exc c fs o := rfl
theorem axis_bad {x : Val} (h : Wr x) : Ex (F_axis [x]) "BadRow" [(("index" : Str), .int 0)] := fun o => by
  have e := need_bad x h.hm h.hs h.no o
  simp only [F_axis, f_axis, c1, c2, cA, cCons, cNil, cV, cL, cK, bindE, pureE, okB, List.length_cons, List.length_nil, List.getElem?_cons_zero, List.getElem?_cons_succ, List.set_cons_succ, List.set_cons_zero, slotV, slotL, on1, on2, oInt, oAdd, oMul, oSub, oLen, if_true, fnR, env0, sSeq, sTgt, sSet, sOwn, sPar, sRet, sRetN, sNil, sIf, sExpr, liftE, List.map_cons, List.map_nil, List.replicate, List.cons_append, List.nil_append, oTup, oLst, LIM, gTp, gCn, gN, gNl, Option.bind_some, Nat.zero_add, Nat.reduceAdd, Nat.reduceLeDiff, cAI, iZipV, iSeq, asSeq, seqK, zipV, List.zipWith, asInts, Option.map_some, List.sum_cons, List.sum_nil, Int.add_zero, cAnd, cOr, cNot, cT, cNotT, cAndT, cOrT, cIf, truth, ofN, on1, oTuple, oList, oAbs, oGcd, oCmp, oIsN, oLzV, cSl, pNo, pSo, asInt, e, excB]
theorem pitch_bad {x : Val} (h : Wr x) : Ex (F_pitch [x]) "BadRow" [(("index" : Str), .int 0)] := fun o => by
  have e := need_bad x h.hm h.hs h.no o
  simp only [F_pitch, f_pitch, c1, c2, cA, cCons, cNil, cV, cL, cK, bindE, pureE, okB, List.length_cons, List.length_nil, List.getElem?_cons_zero, List.getElem?_cons_succ, List.set_cons_succ, List.set_cons_zero, slotV, slotL, on1, on2, oInt, oAdd, oMul, oSub, oLen, if_true, fnR, env0, sSeq, sTgt, sSet, sOwn, sPar, sRet, sRetN, sNil, sIf, sExpr, liftE, List.map_cons, List.map_nil, List.replicate, List.cons_append, List.nil_append, oTup, oLst, LIM, gTp, gCn, gN, gNl, Option.bind_some, Nat.zero_add, Nat.reduceAdd, Nat.reduceLeDiff, cAI, iZipV, iSeq, asSeq, seqK, zipV, List.zipWith, asInts, Option.map_some, List.sum_cons, List.sum_nil, Int.add_zero, cAnd, cOr, cNot, cT, cNotT, cAndT, cOrT, cIf, truth, ofN, on1, oTuple, oList, oAbs, oGcd, oCmp, oIsN, oLzV, cSl, pNo, pSo, asInt, e, excB]
theorem heard0 {x : Val} (h : Wr x) : Is (F__law_heard [.int 0, x]) (.tuple [.int 0, .bool true]) := fun o => by
  have e := axis_bad h o
  have l : List.lookup ("index" : Str) [(("index" : Str), PyData.int 0)] = some (.int 0) := rfl
  have hr : hit_R "BadRow" = some true := rfl
  simp only [F__law_heard, f__law_heard, c1, c2, cA, cCons, cNil, cV, cL, cK, bindE, pureE, okB, List.length_cons, List.length_nil, List.getElem?_cons_zero, List.getElem?_cons_succ, List.set_cons_succ, List.set_cons_zero, slotV, slotL, on1, on2, oInt, oAdd, oMul, oSub, oLen, if_true, fnR, env0, sSeq, sTgt, sSet, sOwn, sPar, sRet, sRetN, sNil, sIf, sExpr, liftE, List.map_cons, List.map_nil, List.replicate, List.cons_append, List.nil_append, oTup, oLst, LIM, gTp, gCn, gN, gNl, Option.bind_some, Nat.zero_add, Nat.reduceAdd, Nat.reduceLeDiff, cAI, iZipV, iSeq, asSeq, seqK, zipV, List.zipWith, asInts, Option.map_some, List.sum_cons, List.sum_nil, Int.add_zero, cAnd, cOr, cNot, cT, cNotT, cAndT, cOrT, cIf, truth, ofN, on1, oTuple, oList, oAbs, oGcd, oCmp, oIsN, oLzV, cSl, pNo, pSo, asInt, e, excB, eq_int, show ((0 : Int) == 0) = true from rfl, sTryAs, hr, fh_R, l, Nat.reduceLT]
theorem heard1 {x : Val} (h : Wr x) : Is (F__law_heard [.int 1, x]) (.tuple [.int 0, .bool true]) := fun o => by
  have e := pitch_bad h o
  have l : List.lookup ("index" : Str) [(("index" : Str), PyData.int 0)] = some (.int 0) := rfl
  have hr : hit_R "BadRow" = some true := rfl
  simp only [F__law_heard, f__law_heard, c1, c2, cA, cCons, cNil, cV, cL, cK, bindE, pureE, okB, List.length_cons, List.length_nil, List.getElem?_cons_zero, List.getElem?_cons_succ, List.set_cons_succ, List.set_cons_zero, slotV, slotL, on1, on2, oInt, oAdd, oMul, oSub, oLen, if_true, fnR, env0, sSeq, sTgt, sSet, sOwn, sPar, sRet, sRetN, sNil, sIf, sExpr, liftE, List.map_cons, List.map_nil, List.replicate, List.cons_append, List.nil_append, oTup, oLst, LIM, gTp, gCn, gN, gNl, Option.bind_some, Nat.zero_add, Nat.reduceAdd, Nat.reduceLeDiff, cAI, iZipV, iSeq, asSeq, seqK, zipV, List.zipWith, asInts, Option.map_some, List.sum_cons, List.sum_nil, Int.add_zero, cAnd, cOr, cNot, cT, cNotT, cAndT, cOrT, cIf, truth, ofN, on1, oTuple, oList, oAbs, oGcd, oCmp, oIsN, oLzV, cSl, pNo, pSo, asInt, e, excB, eq_int, show ((1 : Int) == 0) = false from rfl, Bool.false_eq_true, if_false, sTryAs, hr, fh_R, l, Nat.reduceLT]
theorem mki (i : Int) : mark (.int i) = false := rfl
theorem wr_tup {xs : List Val} (h : ∀ y ∈ xs, mark y = false) (n : rowOk (.tuple xs) = false) : Wr (.tuple xs) := ⟨rfl, fun ys e => by cases e; exact h, n⟩
theorem wr_len {ns : List Int} (h : ns.length ≠ 6) : Wr (.tuple (ns.map PyData.int)) := wr_tup (fun y hy => by obtain ⟨n, _, rfl⟩ := List.mem_map.mp hy; rfl) (by
  show (decide ((ns.map PyData.int).length = 6) && _) = false
  rw [List.length_map, decide_eq_false h]; rfl)
theorem wr_at {a b : List Int} {q : Val} (hm : mark q = false) (hq : isW q = false) : Wr (.tuple (a.map PyData.int ++ q :: b.map PyData.int)) := wr_tup (fun y hy => by
  rcases List.mem_append.mp hy with h | h
  · obtain ⟨n, _, rfl⟩ := List.mem_map.mp h; rfl
  · rcases List.mem_cons.mp h with rfl | h
    · exact hm
    · obtain ⟨n, _, rfl⟩ := List.mem_map.mp h; rfl) (by
  show (_ && List.all _ isW) = false
  rw [List.all_append, List.all_cons, hq]; simp)
theorem bad_tr (a b c d e f : Int) : Tr 3 (F__law_three_bad [drw, T6v a b c d e f]) Wr := fun o ok => by
  have K := ok.2.2
  obtain ⟨_, o1, e1, k1, s1, r, rfl, r0, r1⟩ := draw_tr (lim := 4) (by decide) (by decide) o (ok.mono (by decide))
  have l6 : oLen (.tuple [.int a, .int b, .int c, .int d, .int e, .int f]) o1 = .ok (.int 6) o1 := rfl
  have ad1 : oAdd (.tuple [.int a, .int b, .int c, .int d, .int e, .int f]) (.tuple [.int 0]) o1 = .ok (.tuple [.int a, .int b, .int c, .int d, .int e, .int f, .int 0]) o1 := rfl
  have ad2 : oAdd (.tuple [.int a, .int b, .int c, .int d, .int e, .int f]) (.tuple [.int a, .int b, .int c, .int d, .int e, .int f]) o1 = .ok (.tuple [.int a, .int b, .int c, .int d, .int e, .int f, .int a, .int b, .int c, .int d, .int e, .int f]) o1 := rfl
  have sl1 : oSl (.tuple [.int a, .int b, .int c, .int d, .int e, .int f]) (some 1) none o1 = .ok (.tuple [.int b, .int c, .int d, .int e, .int f]) o1 := rfl
  by_cases q0 : r = 0
  · subst q0
    obtain ⟨x, o2, e2, k2, s2, hm⟩ := of_tr (xs := [.none, .list [.int a, .int b, .int c, .int d, .int e, .int f], .int 7, .str "row", .dict []]) (Nat.succ_pos _) (show (5 : Nat) ≤ 1000 by decide) o1 (ok_at k1 (by omega))
    refine ⟨x, o2, ?_, k2, by omega, ?_⟩
    · simp only [F__law_three_bad, f__law_three_bad, c1, c2, cA, cCons, cNil, cV, cL, cK, bindE, pureE, okB, List.length_cons, List.length_nil, List.getElem?_cons_zero, List.getElem?_cons_succ, List.set_cons_succ, List.set_cons_zero, slotV, slotL, on1, on2, oInt, oAdd, oMul, oSub, oLen, if_true, fnR, env0, sSeq, sTgt, sSet, sOwn, sPar, sRet, sRetN, sNil, sIf, sExpr, liftE, List.map_cons, List.map_nil, List.replicate, List.cons_append, List.nil_append, oTup, oLst, LIM, gTp, gCn, gN, gNl, Option.bind_some, Nat.zero_add, Nat.reduceAdd, Nat.reduceLeDiff, cAI, iZipV, iSeq, asSeq, seqK, zipV, List.zipWith, asInts, Option.map_some, List.sum_cons, List.sum_nil, Int.add_zero, cAnd, cOr, cNot, cT, cNotT, cAndT, cOrT, cIf, truth, ofN, on1, oTuple, oList, oAbs, oGcd, oCmp, oIsN, oLzV, cSl, pNo, pSo, asInt, e1, e2, eq_int, show ((0 : Int) == 0) = true from rfl]
    · simp only [List.mem_cons, List.not_mem_nil, or_false] at hm
      rcases hm with rfl | rfl | rfl | rfl | rfl <;> exact ⟨rfl, (fun _ h => nomatch h), rfl⟩
  · have q0' : (r == 0) = false := by simp [q0]
    by_cases q1 : r = 1
    · subst q1
      obtain ⟨x, o2, e2, k2, s2, hm⟩ := of_tr (xs := [.tuple [.int a, .int b, .int c, .int d, .int e, .int f, .int 0], .tuple [.int b, .int c, .int d, .int e, .int f], .tuple [.int a, .int b, .int c, .int d, .int e, .int f, .int a, .int b, .int c, .int d, .int e, .int f]]) (Nat.succ_pos _) (show (3 : Nat) ≤ 1000 by decide) o1 (ok_at k1 (by omega))
      refine ⟨x, o2, ?_, k2, by omega, ?_⟩
      · simp only [F__law_three_bad, f__law_three_bad, c1, c2, cA, cCons, cNil, cV, cL, cK, bindE, pureE, okB, List.length_cons, List.length_nil, List.getElem?_cons_zero, List.getElem?_cons_succ, List.set_cons_succ, List.set_cons_zero, slotV, slotL, on1, on2, oInt, oMul, oSub, if_true, fnR, env0, sSeq, sTgt, sSet, sOwn, sPar, sRet, sRetN, sNil, sIf, sExpr, liftE, List.map_cons, List.map_nil, List.replicate, List.cons_append, List.nil_append, oTup, oLst, LIM, gTp, gCn, gN, gNl, Option.bind_some, Nat.zero_add, Nat.reduceAdd, Nat.reduceLeDiff, cAI, iZipV, iSeq, asSeq, seqK, zipV, List.zipWith, asInts, Option.map_some, List.sum_cons, List.sum_nil, Int.add_zero, cAnd, cOr, cNot, cT, cNotT, cAndT, cOrT, cIf, truth, ofN, on1, oTuple, oList, oAbs, oGcd, oCmp, oIsN, oLzV, cSl, pNo, pSo, asInt, e1, e2, l6, ad1, ad2, sl1, eq_int, show ((1 : Int) == 0) = false from rfl, show ((6 : Int) == 0) = false from rfl, show ((1 : Int) == 1) = true from rfl, Bool.false_eq_true, if_false]
      · simp only [List.mem_cons, List.not_mem_nil, or_false] at hm
        rcases hm with rfl | rfl | rfl
        · exact wr_len (ns := [a, b, c, d, e, f, 0]) (show (7 : Nat) ≠ 6 by decide)
        · exact wr_len (ns := [b, c, d, e, f]) (show (5 : Nat) ≠ 6 by decide)
        · exact wr_len (ns := [a, b, c, d, e, f, a, b, c, d, e, f]) (show (12 : Nat) ≠ 6 by decide)
    · have q1' : (r == 1) = false := by simp [q1]
      obtain ⟨_, o2, e2, k2, s2, p, rfl, p0, p1⟩ := draw_tr (lim := 6) (by decide) (by decide) o1 (ok_at k1 (by omega))
      obtain ⟨q, o3, e3, k3, s3, hm⟩ := of_tr (xs := [.none, .bool true, .bool false, .str "1", .tuple [.int 1], .list [.int 1]]) (by decide) (by decide) o2 (ok_at k2 (by omega))
      have hq : mark q = false ∧ isW q = false := by
        simp only [List.mem_cons, List.not_mem_nil, or_false] at hm
        rcases hm with rfl | rfl | rfl | rfl | rfl | rfl <;> exact ⟨rfl, rfl⟩
      have hp : p = 0 ∨ p = 1 ∨ p = 2 ∨ p = 3 ∨ p = 4 ∨ p = 5 := by omega
      have fin : ∀ (xs ys : List Int), xs.length + ys.length ≤ 10 → oSl (.tuple [.int a, .int b, .int c, .int d, .int e, .int f]) none (some p) o3 = .ok (.tuple (xs.map PyData.int)) o3 → oSl (.tuple [.int a, .int b, .int c, .int d, .int e, .int f]) none (some p) o2 = .ok (.tuple (xs.map PyData.int)) o2 → oSl (.tuple [.int a, .int b, .int c, .int d, .int e, .int f]) (some (p + 1)) none o3 = .ok (.tuple (ys.map PyData.int)) o3 → ∃ v o', F__law_three_bad [drw, T6v a b c d e f] o = .ok v o' ∧ OmOk 0 o' ∧ o'.spot ≤ o.spot + 3 ∧ Wr v := by
        intro xs ys hl h1 h2 h3
        refine ⟨.tuple (xs.map PyData.int ++ q :: ys.map PyData.int), o3, ?_, k3, by omega, wr_at hq.1 hq.2⟩
        have a1 : oAdd (.tuple (xs.map PyData.int)) (.tuple [q]) o3 = .ok (.tuple (xs.map PyData.int ++ [q])) o3 := by
          simp only [oAdd]; rw [if_pos (by simp [LIM]; omega)]; rfl
        have a2 : oAdd (.tuple (xs.map PyData.int ++ [q])) (.tuple (ys.map PyData.int)) o3 = .ok (.tuple (xs.map PyData.int ++ q :: ys.map PyData.int)) o3 := by
          simp only [oAdd]; rw [if_pos (by simp [LIM]; omega)]; simp [pureE]
        have i1 : oAdd (.int p) (.int 1) o3 = .ok (.int (p + 1)) o3 := rfl
        simp only [F__law_three_bad, f__law_three_bad, c1, c2, cA, cCons, cNil, cV, cL, cK, bindE, pureE, okB, List.length_cons, List.length_nil, List.getElem?_cons_zero, List.getElem?_cons_succ, List.set_cons_succ, List.set_cons_zero, slotV, slotL, on1, on2, oInt, oMul, oSub, if_true, fnR, env0, sSeq, sTgt, sSet, sOwn, sPar, sRet, sRetN, sNil, sIf, sExpr, liftE, List.map_cons, List.map_nil, List.replicate, List.cons_append, List.nil_append, oTup, oLst, LIM, gTp, gCn, gN, gNl, Option.bind_some, Nat.zero_add, Nat.reduceAdd, Nat.reduceLeDiff, cAI, iZipV, iSeq, asSeq, seqK, zipV, List.zipWith, asInts, Option.map_some, List.sum_cons, List.sum_nil, Int.add_zero, cAnd, cOr, cNot, cT, cNotT, cAndT, cOrT, cIf, truth, ofN, on1, oTuple, oList, oAbs, oGcd, oCmp, oIsN, oLzV, cSl, pNo, pSo, asInt, e1, e2, e3, l6, h1, h2, h3, a1, a2, i1, q0', q1', eq_int, show ((6 : Int) == 0) = false from rfl, Bool.false_eq_true, if_false]
      rcases hp with rfl | rfl | rfl | rfl | rfl | rfl
      · exact fin [] [b, c, d, e, f] (by simp) rfl rfl rfl
      · exact fin [a] [c, d, e, f] (by simp) rfl rfl rfl
      · exact fin [a, b] [d, e, f] (by simp) rfl rfl rfl
      · exact fin [a, b, c] [e, f] (by simp) rfl rfl rfl
      · exact fin [a, b, c, d] [f] (by simp) rfl rfl rfl
      · exact fin [a, b, c, d, e] [] (by simp) rfl rfl rfl
end K21
end

section
set_option Elab.async false
set_option linter.all false
set_option maxRecDepth 100000
set_option maxHeartbeats 4000000
set_option exponentiation.threshold 10001
namespace K21
open PySem PySem.Spec BB
theorem Tr.for {k : Nat} {g : Val → BB.Env → Option BB.Env} {fb : SF} {I : BB.Env → Prop} (hs : ∀ x ρ, I ρ → ∃ ρ1, g x ρ = some ρ1 ∧ Tr k (fb ρ1) fun s => ∃ ρ', s = .nx ρ' ∧ I ρ') : ∀ (xs : List Val) (ρ : BB.Env), I ρ → Tr (xs.length * k) (forGo g fb xs ρ) fun s => ∃ ρ', s = .nx ρ' ∧ I ρ'
  | [], ρ, h => Tr.is Is.pure ⟨ρ, rfl, h⟩
  | x :: xs, ρ, h => by
    obtain ⟨ρ1, h1, h2⟩ := hs x ρ h
    unfold forGo
    simp only [h1]
    refine Tr.imp (Tr.bind h2 fun s hs' => ?_) (show k + xs.length * k ≤ (x :: xs).length * k by rw [List.length_cons, Nat.succ_mul]; omega) fun _ z => z
    obtain ⟨ρ', rfl, h'⟩ := hs'
    exact Tr.for hs xs ρ' h'
def bBes : SF := sSeq (sSet 5 (cA (ofN 3 F__law_four_place) (cCons (cV 0) (cCons (cK (.int 6)) (cCons (cA (ofN 2 F__law_of) (cCons (cV 0) (cCons (cA oLst (cCons (cK (.int 1)) (cCons (cK (.int 5)) (cCons (c2 (oI gPow fun i j => i ^ j.toNat) (cK (.int 10)) (cK (.int 6))) (cNil))))) (cNil)))) (cNil)))))) (sSeq (sSet 6 (cA (ofN 3 F_velocity) (cCons (cK (.int 6)) (cCons (cV 1) (cCons (cV 5) (cNil)))))) (sSeq (sIf (cNotT (cT (cA (ofN 2 F__law_like) (cCons (cV 6) (cCons (cA (ofN 3 F__law_scaled) (cCons (cV 1) (cCons (cK (.int 1)) (cCons (cV 5) (cNil))))) (cNil)))))) (sRet (cK (.bool false))) (sNil)) (sSeq (sSet 7 (c2 (oEq false) (cA (ofN 2 F__law_three_cross) (cCons (cV 3) (cCons (cV 6) (cNil)))) (cA oTup (cCons (cK (.int 0)) (cCons (cK (.int 0)) (cCons (cK (.int 0)) (cNil))))))) (sSeq (sSet 8 (c2 oSub (c2 oMul (c2 (oI gPow fun i j => i ^ j.toNat) (c2 oIx (cV 2) (cK (.int 1))) (cK (.int 2))) (cA (ofN 2 F__law_three_dot) (cCons (cV 6) (cCons (cV 6) (cNil))))) (c2 oMul (c2 (oI gPow fun i j => i ^ j.toNat) (c2 oIx (cV 2) (cK (.int 0))) (cK (.int 2))) (cA (ofN 2 F__law_three_dot) (cCons (cV 3) (cCons (cV 3) (cNil))))))) (sIf (cOrT (cT (c2 (oCmp fun i j => decide (i < j)) (cV 8) (cK (.int 0)))) (cT (c2 (oEq true) (c2 (oEq false) (cV 8) (cK (.int 0))) (cV 7)))) (sRet (cK (.bool false))) (sNil))))))
theorem f_beside : f__law_beside_right = sSeq (sSet 3 (cSl (cV 1) (pSo (cK (.int 3))) (pNo))) (sSeq (sFor (cAI iRange1 (cCons (cK (.int 3)) (cNil))) (gN 4) bBes) (sRet (cK (.bool true)))) := rfl
theorem eq3 (x y z : Int) (o : Om) : oEq false (.tuple [.int x, .int y, .int z]) (.tuple [.int 0, .int 0, .int 0]) o = .ok (.bool (x == 0 && (y == 0 && (z == 0 && true)))) o := rfl
theorem eqb (x y : Bool) (o : Om) : oEq true (.bool x) (.bool y) o = .ok (.bool (!(x == y))) o := by cases x <;> cases y <;> rfl
theorem sq_nn (x : Int) : 0 ≤ x * x := by
  rcases Int.le_total 0 x with h | h
  · exact Int.mul_nonneg h h
  · exact Int.mul_nonneg_of_nonpos_of_nonpos h h
theorem sq_z {x : Int} (h : x * x = 0) : x = 0 := by
  rcases Int.mul_eq_zero.mp h with h | h <;> exact h
theorem more_law {S q m X Y Z : Int} (hS : 0 < S) (hq : 0 < q) (e : S * S * m = q * (X * X + (Y * Y + Z * Z))) : 0 ≤ m ∧ (m = 0 ↔ X = 0 ∧ Y = 0 ∧ Z = 0) := by
  have a := sq_nn X
  have b := sq_nn Y
  have c := sq_nn Z
  have SS : 0 < S * S := Int.mul_pos hS hS
  have R : 0 ≤ q * (X * X + (Y * Y + Z * Z)) := Int.mul_nonneg (by omega) (by omega)
  refine ⟨?_, fun h => ?_, fun ⟨hx, hy, hz⟩ => ?_⟩
  · rcases Int.lt_or_le m 0 with h | h
    · have := Int.mul_neg_of_pos_of_neg SS h
      omega
    · exact h
  · rw [h, Int.mul_zero] at e
    rcases Int.mul_eq_zero.mp e.symm with h | h
    · omega
    · exact ⟨sq_z (by omega), sq_z (by omega), sq_z (by omega)⟩
  · subst hx; subst hy; subst hz
    simp only [Int.mul_zero, Int.add_zero] at e
    rcases Int.mul_eq_zero.mp e with h | h
    · omega
    · exact h
theorem lagr {S n0 c0 s q d e f F1 F2 F3 : Int} (z1 : S * n0 = s) (z2 : S * c0 = q) (hq : q = d * d + (e * e + f * f)) (hs : s = d * F1 + (e * F2 + f * F3)) :
    S * S * (c0 * c0 * (F1 * F1 + (F2 * F2 + F3 * F3)) - n0 * n0 * (d * d + (e * e + f * f))) = q * ((e * F3 - f * F2) * (e * F3 - f * F2) + ((f * F1 - d * F3) * (f * F1 - d * F3) + (d * F2 - e * F1) * (d * F2 - e * F1))) := by
  have h1 : S * S * (c0 * c0 * (F1 * F1 + (F2 * F2 + F3 * F3)) - n0 * n0 * (d * d + (e * e + f * f))) = (S * c0) * (S * c0) * (F1 * F1 + (F2 * F2 + F3 * F3)) - (S * n0) * (S * n0) * (d * d + (e * e + f * f)) := by grind
  rw [h1, z1, z2, hs, hq]
  grind
theorem ws {a b c d e f x y z : Int} : a * d + (b * e + c * f) = d * (a + (e * z - f * y)) + (e * (b + (f * x - d * z)) + f * (c + (d * y - e * x))) := by grind
theorem pw2 {x : Int} (h : Bd 4000 x) (o : Om) : oI gPow (fun i j => i ^ j.toNat) (.int x) (.int 2) o = .ok (.int (x * x)) o := by
  have e : x ^ (2 : Int).toNat = x * x := by
    show x ^ 2 = x * x
    grind
  simp only [oI, gp2 (h.mono (by decide)), if_true, e, pureE]
section
variable {a b c d e f n0 c0 S : Int}
theorem bes_step (h : B6 100 a b c d e f) (bn : Bd 300 n0) (bc0 : Bd 300 c0) (hS : 0 < S) (hq : 0 < d * d + (e * e + f * f)) (z1 : S * n0 = a * d + (b * e + c * f)) (z2 : S * c0 = d * d + (e * e + f * f)) (s4 s5 s6 s7 s8 : Slot) :
    Tr 4 (bBes [.val drw, .val (T6v a b c d e f), .val (T2v n0 c0), .val (T3v d e f), s4, s5, s6, s7, s8]) fun s => ∃ ρ', s = .nx ρ' ∧ ∃ s4 s5 s6 s7 s8, ρ' = [.val drw, .val (T6v a b c d e f), .val (T2v n0 c0), .val (T3v d e f), s4, s5, s6, s7, s8] := fun o ok => by
  have K := ok.2.2
  obtain ⟨_, o1, e1, k1, s1, hm⟩ := of_tr (xs := [.int 1, .int 5, .int 1000000]) (by decide) (by decide) o (ok.mono (by decide))
  have : ∃ n : Int, ‹Val› = .int n ∧ 0 ≤ n ∧ n ≤ 1000000 := by
    simp only [List.mem_cons, List.not_mem_nil, or_false] at hm
    rcases hm with rfl | rfl | rfl <;> exact ⟨_, rfl, by decide, by decide⟩
  obtain ⟨n, rfl, m0, m1⟩ := this
  obtain ⟨_, o2, e2, k2, s2, x, y, z, rfl, hx, hy, hz⟩ := place_tr m0 (by omega) o1 (ok_at k1 (by omega))
  have bx := b30 hx (by omega)
  have by' := b30 hy (by omega)
  have bz := b30 hz (by omega)
  have ev := vel_val (x := x) (y := y) (z := z) (h.mono (l := 300) (by decide)) (by omega) (by omega) (by omega) o2
  have es := scaled_val (k := 1) (u := x) (v := y) (w := z) (h.mono (l := 800) (by decide)) (show (1 : Nat) < 2 ^ 800 from Nat.lt_of_lt_of_le (show 1 < 2 ^ 1 by decide) (Nat.pow_le_pow_right (by decide) (by decide))) (bx.mono (by decide)) (by'.mono (by decide)) (bz.mono (by decide)) o2
  have bd : ∀ {p q u v w : Int}, Bd 100 p → Bd 100 q → Bd 100 v → Bd 30 u → Bd 30 w → Bd 140 (p + (q * u - v * w)) := fun hp hq' hv hu hw => Bd.mono (Bd.add (hp.mono (l := 131) (by decide)) ((hq'.mul hu).sub (hv.mul hw))) (by decide)
  have f1 : Bd 140 (a + (e * z - f * y)) := bd h.a h.e h.f bz by'
  have f2 : Bd 140 (b + (f * x - d * z)) := bd h.b h.f h.d bx bz
  have f3 : Bd 140 (c + (d * y - e * x)) := bd h.c h.d h.e by' bx
  have hs := @ws a b c d e f x y z
  have lg := lagr z1 z2 rfl hs
  simp only [Int.one_mul] at es
  generalize a + (e * z - f * y) = F1 at *
  generalize b + (f * x - d * z) = F2 at *
  generalize c + (d * y - e * x) = F3 at *
  have el := like3 (f1.mono (l := 1900) (by decide)) (f2.mono (by decide)) (f3.mono (by decide)) o2
  have ec := tcross_val (h.d.mono (l := 900) (by decide)) (h.e.mono (by decide)) (h.f.mono (by decide)) (f1.mono (by decide)) (f2.mono (by decide)) (f3.mono (by decide)) o2
  have ed := dot_val (f1.mono (l := 400) (by decide)) (f2.mono (by decide)) (f3.mono (by decide)) (f1.mono (by decide)) (f2.mono (by decide)) (f3.mono (by decide)) o2
  have ew := dot_val (h.d.mono (l := 400) (by decide)) (h.e.mono (by decide)) (h.f.mono (by decide)) (h.d.mono (by decide)) (h.e.mono (by decide)) (h.f.mono (by decide)) o2
  obtain ⟨ml1, ml2⟩ := more_law hS hq lg
  have pn := pw2 (bn.mono (l := 4000) (by decide)) o2
  have pc := pw2 (bc0.mono (l := 4000) (by decide)) o2
  have g1 : gMul (c0 * c0) (F1 * F1 + (F2 * F2 + F3 * F3)) = true := gm (bc0.mul bc0) (Bd.add ((f1.mul f1).mono (l := 281) (by decide)) ((f2.mul f2).add (f3.mul f3)))
  have g2 : gMul (n0 * n0) (d * d + (e * e + f * f)) = true := gm (bn.mul bn) (Bd.add ((h.d.mul h.d).mono (l := 201) (by decide)) ((h.e.mul h.e).add (h.f.mul h.f)))
  generalize hmore : c0 * c0 * (F1 * F1 + (F2 * F2 + F3 * F3)) - n0 * n0 * (d * d + (e * e + f * f)) = more at *
  have q1 : decide (more < 0) = false := decide_eq_false (by omega)
  have q2 : (!((more == 0) == (e * F3 - f * F2 == 0 && (f * F1 - d * F3 == 0 && (d * F2 - e * F1 == 0 && true))))) = false := by
    by_cases hh : more = 0
    · obtain ⟨x1, x2, x3⟩ := ml2.mp hh
      rw [hh, x1, x2, x3]; rfl
    · have : (e * F3 - f * F2 == 0 && (f * F1 - d * F3 == 0 && (d * F2 - e * F1 == 0 && true))) = false := by
        rcases hb : (e * F3 - f * F2 == 0 && (f * F1 - d * F3 == 0 && (d * F2 - e * F1 == 0 && true))) with _ | _
        · rfl
        · exfalso
          simp only [Bool.and_eq_true, beq_iff_eq, and_true] at hb
          exact hh (ml2.mpr hb)
      rw [this]
      simp [hh]
  refine ⟨_, o2, ?_, k2, by omega, _, rfl, s4, .val (.tuple [.int x, .int y, .int z]), .val (T3v F1 F2 F3), .val (.bool (e * F3 - f * F2 == 0 && (f * F1 - d * F3 == 0 && (d * F2 - e * F1 == 0 && true)))), .val (.int more), rfl⟩
  simp only [T3v, T2v, T6v] at ev es el ec ed ew
  simp only [bBes, c1, c2, cA, cCons, cNil, cV, cL, cK, bindE, pureE, okB, List.length_cons, List.length_nil, List.getElem?_cons_zero, List.getElem?_cons_succ, List.set_cons_succ, List.set_cons_zero, slotV, slotL, on1, on2, oInt, oMul, oSub, if_true, fnR, env0, sSeq, sTgt, sSet, sOwn, sPar, sRet, sRetN, sNil, sIf, sExpr, liftE, List.map_cons, List.map_nil, List.replicate, List.cons_append, List.nil_append, oTup, oLst, LIM, gTp, gCn, gN, gNl, Option.bind_some, Nat.zero_add, Nat.reduceAdd, Nat.reduceLeDiff, cAI, iZipV, iSeq, asSeq, seqK, zipV, List.zipWith, asInts, Option.map_some, List.sum_cons, List.sum_nil, Int.add_zero, cAnd, cOr, cNot, cT, cNotT, cAndT, cOrT, cIf, truth, ofN, on1, oTuple, oList, oAbs, oGcd, oCmp, oIsN, oLzV, cSl, pNo, pSo, asInt, oSub, oIx, at20, at21, p6, e1, e2, ev, es, el, ec, ed, ew, eq3, pn, pc, g1, g2, hmore, q1, q2, eq_int, eqb, Bool.not_true, Bool.false_eq_true, if_false]
theorem bes_tr (h : B6 100 a b c d e f) (bn : Bd 300 n0) (bc0 : Bd 300 c0) (hS : 0 < S) (hq : 0 < d * d + (e * e + f * f)) (z1 : S * n0 = a * d + (b * e + c * f)) (z2 : S * c0 = d * d + (e * e + f * f)) :
    Tr 12 (F__law_beside_right [drw, T6v a b c d e f, T2v n0 c0]) (· = .bool true) := by
  refine Tr.fn (fb := f__law_beside_right) ?_
  rw [f_beside]
  refine Tr.imp (k := 0 + (12 + 0)) (Tr.seqN (P := fun ρ' => ρ' = [.val drw, .val (T6v a b c d e f), .val (T2v n0 c0), .val (T3v d e f), .un, .un, .un, .un, .un]) (Tr.is (fun _ => rfl) ⟨_, rfl, rfl⟩) fun ρ' hρ => Tr.seqN (P := fun ρ' => ∃ s4 s5 s6 s7 s8, ρ' = [.val drw, .val (T6v a b c d e f), .val (T2v n0 c0), .val (T3v d e f), s4, s5, s6, s7, s8]) ?_ fun ρ2 _ => Tr.is (v := .rt (.bool true)) (fun _ => rfl) ⟨_, rfl, rfl⟩) (by decide) fun _ z => z
  subst hρ
  refine Tr.imp (k := 0 + 3 * 4) (Tr.lift (P := fun xs => xs = [.int 0, .int 1, .int 2]) (Tr.is (v := [.int 0, .int 1, .int 2]) (fun _ => rfl) rfl) fun xs hxs => ?_) (by decide) fun _ z => z
  subst hxs
  exact Tr.for (I := fun ρ' => ∃ s4 s5 s6 s7 s8, ρ' = [.val drw, .val (T6v a b c d e f), .val (T2v n0 c0), .val (T3v d e f), s4, s5, s6, s7, s8]) (fun v ρ ⟨s4, s5, s6, s7, s8, hρ⟩ => by subst hρ; exact ⟨_, rfl, bes_step h bn bc0 hS hq z1 z2 _ _ _ _ _⟩) [.int 0, .int 1, .int 2] _ ⟨_, _, _, _, _, rfl⟩
end
end K21
end

section
set_option Elab.async false
set_option linter.all false
set_option maxRecDepth 100000
set_option maxHeartbeats 4000000
set_option exponentiation.threshold 10001
namespace K21
open PySem PySem.Spec BB
def bLaw : SF := sSeq (sSet 3 (cA (ofN 1 F__law_motion) (cCons (cV 1) (cNil)))) (sSeq (sPar 4 5 (cCons (cA (ofN 1 F_axis) (cCons (cV 3) (cNil))) (cCons (cA (ofN 1 F_pitch) (cCons (cV 3) (cNil))) (cNil)))) (sSeq (sIf (cT (c2 (oEq false) (cSl (cV 3) (pSo (cK (.int 3))) (pNo)) (cA oTup (cCons (cK (.int 0)) (cCons (cK (.int 0)) (cCons (cK (.int 0)) (cNil))))))) (sIf (cNotT (cT (cA (ofN 2 F__law_like) (cCons (cA oLst (cCons (cV 4) (cCons (cV 5) (cNil)))) (cCons (cA oLst (cCons (cK .none) (cCons (cK .none) (cNil)))) (cNil)))))) (sRet (cK (.bool false))) (sNil)) (sIf (cOrT (cNotT (cT (cA (ofN 3 F__law_axis_right) (cCons (cV 3) (cCons (cV 4) (cCons (cV 5) (cNil))))))) (cNotT (cT (cA (ofN 3 F__law_beside_right) (cCons (cV 1) (cCons (cV 3) (cCons (cV 5) (cNil)))))))) (sRet (cK (.bool false))) (sNil))) (sSeq (sSet 6 (cA (ofN 2 F__law_three_bad) (cCons (cV 1) (cCons (cV 3) (cNil))))) (sIf (cNotT (cT (cA (ofN 2 F__law_like) (cCons (cA oLst (cCons (cA (ofN 2 F__law_heard) (cCons (cK (.int 0)) (cCons (cV 6) (cNil)))) (cCons (cA (ofN 2 F__law_heard) (cCons (cK (.int 1)) (cCons (cV 6) (cNil)))) (cNil)))) (cCons (cA oLst (cCons (cA oTup (cCons (cK (.int 0)) (cCons (cK (.bool true)) (cNil)))) (cCons (cA oTup (cCons (cK (.int 0)) (cCons (cK (.bool true)) (cNil)))) (cNil)))) (cNil)))))) (sRet (cK (.bool false))) (sNil)))))
theorem f_law_eq : f_law = sSeq (sFor (cAI iRange1 (cCons (cK (.int 2)) (cNil))) (gN 2) bLaw) (sRet (cK (.bool true))) := rfl
theorem law_step (s0 s2 s3 s4 s5 s6 : Slot) : Tr 24 (bLaw [s0, .val drw, s2, s3, s4, s5, s6]) fun s => ∃ ρ', s = .nx ρ' ∧ ∃ s2 s3 s4 s5 s6, ρ' = [s0, .val drw, s2, s3, s4, s5, s6] := fun o ok => by
  have K := ok.2.2
  obtain ⟨_, o1, e1, k1, s1, a, b, c, d, e, f, rfl, h⟩ := motion_tr o (ok.mono (by decide))
  have sl : ∀ o, oSl (.tuple [.int a, .int b, .int c, .int d, .int e, .int f]) (some 3) none o = .ok (.tuple [.int d, .int e, .int f]) o := fun _ => rfl
  by_cases nz : d = 0 ∧ e = 0 ∧ f = 0
  · obtain ⟨rfl, rfl, rfl⟩ := nz
    have ea := axis_none a b c o1
    have ep := pitch_none a b c o1
    obtain ⟨w, o2, e2, k2, s2', hw⟩ := bad_tr a b c 0 0 0 o1 (ok_at k1 (by omega))
    have h0 := heard0 hw o2
    have h1 := heard1 hw o2
    have ln := like_none o1
    have lb := like_bad o2
    refine ⟨_, o2, ?_, k2, by omega, _, rfl, s2, .val (.tuple [.int a, .int b, .int c, .int 0, .int 0, .int 0]), .val .none, .val .none, .val w, rfl⟩
    simp only [T6v] at ea ep e2
    simp only [bLaw, c1, c2, cA, cCons, cNil, cV, cL, cK, bindE, pureE, okB, List.length_cons, List.length_nil, List.getElem?_cons_zero, List.getElem?_cons_succ, List.set_cons_succ, List.set_cons_zero, slotV, slotL, on1, on2, oInt, oMul, oSub, if_true, fnR, env0, sSeq, sTgt, sSet, sOwn, sPar, sRet, sRetN, sNil, sIf, sExpr, liftE, List.map_cons, List.map_nil, List.replicate, List.cons_append, List.nil_append, oTup, oLst, LIM, gTp, gCn, gN, gNl, Option.bind_some, Nat.zero_add, Nat.reduceAdd, Nat.reduceLeDiff, cAI, iZipV, iSeq, asSeq, seqK, zipV, List.zipWith, asInts, Option.map_some, List.sum_cons, List.sum_nil, Int.add_zero, cAnd, cOr, cNot, cT, cNotT, cAndT, cOrT, cIf, truth, ofN, on1, oTuple, oList, oAbs, oGcd, oCmp, oIsN, oLzV, cSl, pNo, pSo, asInt, sPar, sl, eq3, show ((0 : Int) == 0) = true from rfl, Bool.and_self, Bool.and_true, Bool.true_and, e1, ea, ep, e2, h0, h1, ln, lb, Bool.not_true, Bool.false_eq_true, if_false]
  · have ea := axis_val (h.mono (l := 300) (by decide)) nz o1
    have ep := pitch_val (h.mono (l := 300) (by decide)) nz o1
    have er := axis_right_val (axH_ok h nz) o1
    have cp := axC_pos nz
    have g2 : 0 < foldL (axC d e f) [a * d + (b * e + c * f)] := foldL_pos cp
    obtain ⟨S1, S2⟩ := foldL_dvd [a * d + (b * e + c * f)] (axC d e f)
    have m4 := S2 (a * d + (b * e + c * f)) (by simp)
    have S1' : foldL (axC d e f) [a * d + (b * e + c * f)] ∣ ((axC d e f : Nat) : Int).natAbs := by rw [Int.natAbs_natCast]; exact S1
    have z1 := share g2 m4
    have z2 := share g2 S1'
    have A := axH_ok h nz
    have ce := axC_eq d e f
    obtain ⟨_, o2, e2, k2, s2', hb⟩ := bes_tr (S := ((foldL (axC d e f) [a * d + (b * e + c * f)] : Nat) : Int)) h (A.bn.mono (by decide)) (A.bc.mono (by decide)) (by omega) (by omega) z1 (by rw [z2, ce]) o1 (ok_at k1 (by omega))
    subst hb
    obtain ⟨w, o3, e3, k3, s3', hw⟩ := bad_tr a b c d e f o2 (ok_at k2 (by omega))
    have h0 := heard0 hw o3
    have h1 := heard1 hw o3
    have lb := like_bad o3
    have q : (d == 0 && (e == 0 && (f == 0 && true))) = false := by
      rcases hb : (d == 0 && (e == 0 && (f == 0 && true))) with _ | _
      · rfl
      · exfalso
        simp only [Bool.and_eq_true, beq_iff_eq, and_true] at hb
        exact nz hb
    simp only [T6v, T3v, T2v, divs, axP, List.map_cons, List.map_nil] at ea ep er e2 e3
    refine ⟨_, o3, ?_, k3, by omega, _, rfl, s2, .val (.tuple [.int a, .int b, .int c, .int d, .int e, .int f]), .val (.tuple [.int (Int.fdiv (axC d e f : Nat) (axG a b c d e f : Nat)), .tuple [.int (Int.fdiv (e * c - f * b) (axG a b c d e f : Nat)), .int (Int.fdiv (f * a - d * c) (axG a b c d e f : Nat)), .int (Int.fdiv (d * b - e * a) (axG a b c d e f : Nat))], .tuple [.int (Int.fdiv d (axH d e f : Nat)), .int (Int.fdiv e (axH d e f : Nat)), .int (Int.fdiv f (axH d e f : Nat))]]), .val (.tuple [.int (Int.fdiv (a * d + (b * e + c * f)) (foldL (axC d e f) [a * d + (b * e + c * f)] : Nat)), .int (Int.fdiv (axC d e f : Nat) (foldL (axC d e f) [a * d + (b * e + c * f)] : Nat))]), .val w, rfl⟩
    simp only [bLaw, c1, c2, cA, cCons, cNil, cV, cL, cK, bindE, pureE, okB, List.length_cons, List.length_nil, List.getElem?_cons_zero, List.getElem?_cons_succ, List.set_cons_succ, List.set_cons_zero, slotV, slotL, on1, on2, oInt, oMul, oSub, if_true, fnR, env0, sSeq, sTgt, sSet, sOwn, sPar, sRet, sRetN, sNil, sIf, sExpr, liftE, List.map_cons, List.map_nil, List.replicate, List.cons_append, List.nil_append, oTup, oLst, LIM, gTp, gCn, gN, gNl, Option.bind_some, Nat.zero_add, Nat.reduceAdd, Nat.reduceLeDiff, cAI, iZipV, iSeq, asSeq, seqK, zipV, List.zipWith, asInts, Option.map_some, List.sum_cons, List.sum_nil, Int.add_zero, cAnd, cOr, cNot, cT, cNotT, cAndT, cOrT, cIf, truth, ofN, on1, oTuple, oList, oAbs, oGcd, oCmp, oIsN, oLzV, cSl, pNo, pSo, asInt, sPar, sl, eq3, q, e1, ea, ep, er, e2, e3, h0, h1, lb, Bool.not_true, Bool.false_eq_true, if_false]
theorem plain : Plain := fun cs gs ok => by
  have t : Tr 48 (f_law [.un, .val drw, .un, .un, .un, .un, .un]) (· = .rt (.bool true)) := by
    rw [f_law_eq]
    refine Tr.imp (k := 48 + 0) (Tr.seqN (P := fun ρ' => ∃ s2 s3 s4 s5 s6, ρ' = [.un, .val drw, s2, s3, s4, s5, s6]) ?_ fun ρ2 _ => Tr.is (v := .rt (.bool true)) (fun _ => rfl) rfl) (by decide) fun _ z => z
    refine Tr.imp (k := 0 + 2 * 24) (Tr.lift (P := fun xs => xs = [.int 0, .int 1]) (Tr.is (v := [.int 0, .int 1]) (fun _ => rfl) rfl) fun xs hxs => ?_) (by decide) fun _ z => z
    subst hxs
    exact Tr.for (I := fun ρ' => ∃ s2 s3 s4 s5 s6, ρ' = [.un, .val drw, s2, s3, s4, s5, s6]) (fun v ρ ⟨s2, s3, s4, s5, s6, hρ⟩ => by subst hρ; exact ⟨_, rfl, law_step _ _ _ _ _ _⟩) [.int 0, .int 1] _ ⟨_, _, _, _, _, rfl⟩
  obtain ⟨v, o', e, _, _, rfl⟩ := t _ (ok.mono (by decide))
  exact ⟨o', e⟩
end K21
end

section
set_option Elab.async false
set_option linter.all false
set_option maxRecDepth 100000
set_option maxHeartbeats 0
namespace K21
open PySem PySem.Spec PyProof.Rows L2 BB
def d_is_whole : He.DefD := ⟨("is_whole", none), "is_whole", "is_whole", defArgs (top 8), defBody (top 8), defScope (top 8), [], []⟩
def d_is_row : He.DefD := ⟨("is_row", none), "is_row", "is_row", defArgs (top 10), defBody (top 10), defScope (top 10), [], []⟩
def d_product_of : He.DefD := ⟨("product_of", none), "product_of", "product_of", defArgs (top 23), defBody (top 23), defScope (top 23), [], []⟩
def d_cross : He.DefD := ⟨("cross", none), "cross", "cross", defArgs (top 28), defBody (top 28), defScope (top 28), [], []⟩
def d_lowest_terms : He.DefD := ⟨("lowest_terms", none), "lowest_terms", "lowest_terms", defArgs (top 29), defBody (top 29), defScope (top 29), [], []⟩
def d__law_mixed : He.DefD := ⟨("_law_mixed", none), "_law_mixed", "_law_mixed", defArgs (top 35), defBody (top 35), defScope (top 35), [], []⟩
def d__law_folded : He.DefD := ⟨("_law_folded", none), "_law_folded", "_law_folded", defArgs (top 36), defBody (top 36), defScope (top 36), [], []⟩
def d__law_like : He.DefD := ⟨("_law_like", none), "_law_like", "_law_like", defArgs (top 39), defBody (top 39), defScope (top 39), [], []⟩
def d__law_four_gcd : He.DefD := ⟨("_law_four_gcd", none), "_law_four_gcd", "_law_four_gcd", defArgs (top 42), defBody (top 42), defScope (top 42), [], []⟩
def d__law_three_dot : He.DefD := ⟨("_law_three_dot", none), "_law_three_dot", "_law_three_dot", defArgs (top 45), defBody (top 45), defScope (top 45), [], []⟩
def d__law_three_cross : He.DefD := ⟨("_law_three_cross", none), "_law_three_cross", "_law_three_cross", defArgs (top 46), defBody (top 46), defScope (top 46), [], []⟩
def d__law_three_plus : He.DefD := ⟨("_law_three_plus", none), "_law_three_plus", "_law_three_plus", defArgs (top 47), defBody (top 47), defScope (top 47), [], []⟩
def d__law_three_is_row : He.DefD := ⟨("_law_three_is_row", none), "_law_three_is_row", "_law_three_is_row", defArgs (top 48), defBody (top 48), defScope (top 48), [], []⟩
def d_is_within : He.DefD := ⟨("is_within", none), "is_within", "is_within", defArgs (top 9), defBody (top 9), defScope (top 9), [], []⟩
def d_is_dimension : He.DefD := ⟨("is_dimension", none), "is_dimension", "is_dimension", defArgs (top 13), defBody (top 13), defScope (top 13), [], []⟩
def d_is_numbers : He.DefD := ⟨("is_numbers", none), "is_numbers", "is_numbers", defArgs (top 20), defBody (top 20), defScope (top 20), [], []⟩
def d__law_draw : He.DefD := ⟨("_law_draw", none), "_law_draw", "_law_draw", defArgs (top 37), defBody (top 37), defScope (top 37), [], []⟩
def d__law_begun : He.DefD := ⟨("_law_begun", none), "_law_begun", "_law_begun", defArgs (top 38), defBody (top 38), defScope (top 38), [], []⟩
def d__law_four_short : He.DefD := ⟨("_law_four_short", none), "_law_four_short", "_law_four_short", defArgs (top 43), defBody (top 43), defScope (top 43), [], []⟩
def d__law_scaled : He.DefD := ⟨("_law_scaled", none), "_law_scaled", "_law_scaled", defArgs (top 51), defBody (top 51), defScope (top 51), [], []⟩
def d_need_dimension : He.DefD := ⟨("need_dimension", none), "need_dimension", "need_dimension", defArgs (top 14), defBody (top 14), defScope (top 14), [], []⟩
def d_is_place : He.DefD := ⟨("is_place", none), "is_place", "is_place", defArgs (top 18), defBody (top 18), defScope (top 18), [], []⟩
def d_need_row : He.DefD := ⟨("need_row", none), "need_row", "need_row", defArgs (top 22), defBody (top 22), defScope (top 22), [], []⟩
def d__law_of : He.DefD := ⟨("_law_of", none), "_law_of", "_law_of", defArgs (top 40), defBody (top 40), defScope (top 40), [], []⟩
def d__law_four_place : He.DefD := ⟨("_law_four_place", none), "_law_four_place", "_law_four_place", defArgs (top 41), defBody (top 41), defScope (top 41), [], []⟩
def d__law_three_number : He.DefD := ⟨("_law_three_number", none), "_law_three_number", "_law_three_number", defArgs (top 44), defBody (top 44), defScope (top 44), [], []⟩
def d__law_axis_right : He.DefD := ⟨("_law_axis_right", none), "_law_axis_right", "_law_axis_right", defArgs (top 52), defBody (top 52), defScope (top 52), [], []⟩
def d_need_space : He.DefD := ⟨("need_space", none), "need_space", "need_space", defArgs (top 25), defBody (top 25), defScope (top 25), [], []⟩
def d_checked_place : He.DefD := ⟨("checked_place", none), "checked_place", "checked_place", defArgs (top 27), defBody (top 27), defScope (top 27), [], []⟩
def d_axis : He.DefD := ⟨("axis", none), "axis", "axis", defArgs (top 32), defBody (top 32), defScope (top 32), [], []⟩
def d_pitch : He.DefD := ⟨("pitch", none), "pitch", "pitch", defArgs (top 33), defBody (top 33), defScope (top 33), [], []⟩
def d__law_three_bad : He.DefD := ⟨("_law_three_bad", none), "_law_three_bad", "_law_three_bad", defArgs (top 49), defBody (top 49), defScope (top 49), [], []⟩
def d__law_motion : He.DefD := ⟨("_law_motion", none), "_law_motion", "_law_motion", defArgs (top 50), defBody (top 50), defScope (top 50), [], []⟩
def d_need_place : He.DefD := ⟨("need_place", none), "need_place", "need_place", defArgs (top 26), defBody (top 26), defScope (top 26), [], []⟩
def d__law_heard : He.DefD := ⟨("_law_heard", none), "_law_heard", "_law_heard", defArgs (top 54), defBody (top 54), defScope (top 54), [], []⟩
def d_velocity : He.DefD := ⟨("velocity", none), "velocity", "velocity", defArgs (top 31), defBody (top 31), defScope (top 31), [], []⟩
def d__law_beside_right : He.DefD := ⟨("_law_beside_right", none), "_law_beside_right", "_law_beside_right", defArgs (top 53), defBody (top 53), defScope (top 53), [], []⟩
def d_law : He.DefD := ⟨("law", none), "law", "law", defArgs (top 55), defBody (top 55), defScope (top 55), [], []⟩
def fn : List He.DefD := [d_is_whole, d_is_row, d_product_of, d_cross, d_lowest_terms, d__law_mixed, d__law_folded, d__law_like, d__law_four_gcd, d__law_three_dot, d__law_three_cross, d__law_three_plus, d__law_three_is_row, d_is_within, d_is_dimension, d_is_numbers, d__law_draw, d__law_begun, d__law_four_short, d__law_scaled, d_need_dimension, d_is_place, d_need_row, d__law_of, d__law_four_place, d__law_three_number, d__law_axis_right, d_need_space, d_checked_place, d_axis, d_pitch, d__law_three_bad, d__law_motion, d_need_place, d__law_heard, d_velocity, d__law_beside_right, d_law]
def fa : List He.Fa := [.glo "is_whole", .glo "is_row", .glo "product_of", .glo "cross", .glo "lowest_terms", .glo "_law_mixed", .glo "_law_folded", .glo "_law_like", .glo "_law_four_gcd", .glo "_law_three_dot", .glo "_law_three_cross", .glo "_law_three_plus", .glo "_law_three_is_row", .glo "is_within", .glo "is_dimension", .glo "is_numbers", .glo "_law_draw", .glo "_law_begun", .glo "_law_four_short", .glo "_law_scaled", .glo "need_dimension", .glo "is_place", .glo "need_row", .glo "_law_of", .glo "_law_four_place", .glo "_law_three_number", .glo "_law_axis_right", .glo "need_space", .glo "checked_place", .glo "axis", .glo "pitch", .glo "_law_three_bad", .glo "_law_motion", .glo "need_place", .glo "_law_heard", .glo "velocity", .glo "_law_beside_right", .glo "law", .glo "DIMENSIONS", .glo "WIDE", .glo "BodyError", .glo "BadRow", .free "len", .free "tuple", .free "list", .free "abs", .free "int", .free "bool", .free "sum", .free "any", .free "all", .free "isinstance", .free "repr", .free "enumerate", .free "range", .free "zip", .free "super", .int "MOST_PLACE" 1000000000]
abbrev pR : Program := PySem.Challenge.pw_bodybars_k21_whole_axes_and_pitches
def excCB (K : PySem.W.Frag) (D : Addr) : Bool := xfB K D && (decide (PySem.W.findIn K (.ref D) "__class__" = some (some (.builtin "object.__class__"))) && (decide (PySem.W.specialIn K (.builtin "object.__class__") "__get__" = some (some (.builtin "getset_descriptor.__get__"))) && (decide (PySem.W.takesIn K (.builtin "object.__class__") = some true) && decide (PySem.W.mroIn K D (.type "object") = some true))))
theorem excCB_ok {K : PySem.W.Frag} {D : Addr} (h : excCB K D = true) : XfC K D ∧ ExcC K D := by
  unfold excCB at h
  simp only [Bool.and_eq_true, decide_eq_true_eq] at h
  obtain ⟨h1, h2, h3, h4, h5⟩ := h
  have x := xfB_ok h1
  exact ⟨x, ⟨x.ga, x.gg, x.exC, x.hdC, h2, h3, h4, h5⟩⟩
def ex (K : PySem.W.Frag) : Bool := intT K (He.ga K "DIMENSIONS") [1, 3, 6] && (intD K (He.ga K "WIDE") [(3, 2), (6, 3)] && (He.eqO (PySem.W.nsIn K mainGlobals "gcd") (some (some (.builtin "math.gcd"))) && (OwnE.ownB "/claim/cut.py" "BadRow" "index" tx_BadRow K &&
  (excCB K (He.ga K "BadRow") && (decide (PySem.W.kitOne K (.ref (He.ga K "BadRow")) (.ref (He.ga K "BodyError")) = some true) && decide (PySem.W.exmOne K (.ref (He.ga K "BadRow")) (.ref (He.ga K "BadRow")) = some true))))))
abbrev R : PySem.W.OpenRow := PySem.W.OpenLaw.row PySem.Challenge.rw_bodybars_k21_whole_axes_and_pitches
def asZ (g : Addr → Option Obj) : List Addr := cStatics :: He.asD g 5
def obsZ (g : Addr → Option Obj) : He.AlX := (He.obsT fa fn [] (He.frT g (asZ g)), ex (He.frT g (asZ g)))
def SaysZ (w : World) (K : PySem.W.Frag) : Prop := He.SaysT fa fn [] w K ∧ ex K = true
def hk : PySem.W.Hook where
  α := He.AlX
  obs := fun s => obsZ s.heap.get?
  val := fun w => (He.valT fn [] w, true)
  says := fun w h => ∃ K : PySem.W.Frag, K.In h ∧ SaysZ w K
  of := fun _ _ e => ⟨_, He.frT_in, congrArg (fun z : He.AlX => z.1) e, congrArg (fun z : He.AlX => z.2) e⟩
  keeps := fun _ _ _ ⟨K, hK, c⟩ k => ⟨K, PySem.W.Frag.In.keeps hK k, c⟩
def ob (s : PySem.W.SharedT) : hk.α := obsZ (HandSHeadRun.getT s)
theorem ob_eq (s : PySem.W.SharedT) : ob s = hk.obs s.abs := by
  have e : HandSHeadRun.getT s = s.abs.heap.get? := funext (HandSHeadRun.getT_eq s)
  show obsZ _ = obsZ _
  rw [e]
def nm0 : List PySem.Str := ["__name__", "BodyError", "BadDimension", "NoSpace", "BadRow", "BadPlace", "is_whole", "is_within", "is_row", "DIMENSIONS", "is_dimension", "need_dimension", "MOST_PLACE", "WIDE", "is_place", "is_numbers", "need_row", "product_of", "need_space", "need_place", "checked_place", "cross", "lowest_terms", "velocity", "axis", "pitch", "_law_mixed", "_law_folded", "_law_draw"]
def nm1 : List PySem.Str := ["_law_begun", "_law_like", "_law_of", "_law_four_place", "_law_four_gcd", "_law_four_short", "_law_three_number", "_law_three_dot", "_law_three_cross", "_law_three_plus", "_law_three_is_row", "_law_three_bad", "_law_motion", "_law_scaled", "_law_axis_right", "_law_beside_right", "_law_heard"]
def names : List PySem.Str := nm0 ++ nm1
theorem run_f (w : World) : HandSHeadRun.RunEqI R (PySem.W.view R.prog [0, 55]) hk ob 20000 names (w.withFollow "special-get-raises" false) := by
  unfold HandSHeadRun.RunEqI
  kernel_rfl
theorem run_t (w : World) : HandSHeadRun.RunEqI R (PySem.W.view R.prog [0, 55]) hk ob 20000 names (w.withFollow "special-get-raises" true) := by
  unfold HandSHeadRun.RunEqI
  kernel_rfl
theorem run (w : World) : HandSHeadRun.RunEqI R (PySem.W.view R.prog [0, 55]) hk ob 20000 names w :=
  PySem.W.byRow2 "special-get-raises" (P := fun w => HandSHeadRun.RunEqI R (PySem.W.view R.prog [0, 55]) hk ob 20000 names w) run_f run_t w
end K21
end

section
set_option Elab.async false
set_option linter.all false
set_option maxRecDepth 100000
set_option maxHeartbeats 0
namespace K21
open PySem PySem.Spec PyProof.Rows L2 BB
theorem facts (pl : Plain) {w : World} {K : PySem.W.Frag} {h : Heap} {mg : Str → Option Value} {f : Addr} (X : K.In h) (G : h.Ns mainGlobals mg) (hfa : mg ("law" : Str) = some (.ref f)) (c : SaysZ w K) :
    ∃ fd : FuncData, (∀ (s : Shared) (v : Value), BindsTo s fd ⟨[v], []⟩ [("script", v)]) ∧ ∀ base : Heap, K.In base → base.Ns mainGlobals mg → FnG pR w K mg base 8 f fd ["script"] (spLaw K) := by
  have cd := c.1.d
  have cm := c.2
  unfold ex at cm
  simp only [Bool.and_eq_true, decide_eq_true_eq] at cm
  obtain ⟨x1, x2, x3, x4, x5, x6, x7⟩ := cm
  obtain ⟨x8, x9⟩ := excCB_ok x5
  have n_len : mg "len" = none := He.free_ok X G (cd.fact 42 (f := .free "len") rfl)
  have n_tuple : mg "tuple" = none := He.free_ok X G (cd.fact 43 (f := .free "tuple") rfl)
  have n_list : mg "list" = none := He.free_ok X G (cd.fact 44 (f := .free "list") rfl)
  have n_abs : mg "abs" = none := He.free_ok X G (cd.fact 45 (f := .free "abs") rfl)
  have n_int : mg "int" = none := He.free_ok X G (cd.fact 46 (f := .free "int") rfl)
  have n_bool : mg "bool" = none := He.free_ok X G (cd.fact 47 (f := .free "bool") rfl)
  have n_sum : mg "sum" = none := He.free_ok X G (cd.fact 48 (f := .free "sum") rfl)
  have n_any : mg "any" = none := He.free_ok X G (cd.fact 49 (f := .free "any") rfl)
  have n_all : mg "all" = none := He.free_ok X G (cd.fact 50 (f := .free "all") rfl)
  have n_isinstance : mg "isinstance" = none := He.free_ok X G (cd.fact 51 (f := .free "isinstance") rfl)
  have n_repr : mg "repr" = none := He.free_ok X G (cd.fact 52 (f := .free "repr") rfl)
  have n_enumerate : mg "enumerate" = none := He.free_ok X G (cd.fact 53 (f := .free "enumerate") rfl)
  have n_range : mg "range" = none := He.free_ok X G (cd.fact 54 (f := .free "range") rfl)
  have n_zip : mg "zip" = none := He.free_ok X G (cd.fact 55 (f := .free "zip") rfl)
  have n_super : mg "super" = none := He.free_ok X G (cd.fact 56 (f := .free "super") rfl)
  obtain ⟨tM, n_MP⟩ := He.int_ok X G (cd.fact 57 (f := .int "MOST_PLACE" 1000000000) rfl)
  have g_gcd : mg "gcd" = some (.builtin "math.gcd") := PySem.W.mg_of X G (He.eqO_ok x3)
  have g_is_whole : mg "is_whole" = some (.ref (He.ga K "is_whole")) := He.glo_ok X G (cd.fact 0 (f := .glo "is_whole") rfl)
  have g_is_row : mg "is_row" = some (.ref (He.ga K "is_row")) := He.glo_ok X G (cd.fact 1 (f := .glo "is_row") rfl)
  have g_product_of : mg "product_of" = some (.ref (He.ga K "product_of")) := He.glo_ok X G (cd.fact 2 (f := .glo "product_of") rfl)
  have g_cross : mg "cross" = some (.ref (He.ga K "cross")) := He.glo_ok X G (cd.fact 3 (f := .glo "cross") rfl)
  have g_lowest_terms : mg "lowest_terms" = some (.ref (He.ga K "lowest_terms")) := He.glo_ok X G (cd.fact 4 (f := .glo "lowest_terms") rfl)
  have g__law_mixed : mg "_law_mixed" = some (.ref (He.ga K "_law_mixed")) := He.glo_ok X G (cd.fact 5 (f := .glo "_law_mixed") rfl)
  have g__law_folded : mg "_law_folded" = some (.ref (He.ga K "_law_folded")) := He.glo_ok X G (cd.fact 6 (f := .glo "_law_folded") rfl)
  have g__law_like : mg "_law_like" = some (.ref (He.ga K "_law_like")) := He.glo_ok X G (cd.fact 7 (f := .glo "_law_like") rfl)
  have g__law_four_gcd : mg "_law_four_gcd" = some (.ref (He.ga K "_law_four_gcd")) := He.glo_ok X G (cd.fact 8 (f := .glo "_law_four_gcd") rfl)
  have g__law_three_dot : mg "_law_three_dot" = some (.ref (He.ga K "_law_three_dot")) := He.glo_ok X G (cd.fact 9 (f := .glo "_law_three_dot") rfl)
  have g__law_three_cross : mg "_law_three_cross" = some (.ref (He.ga K "_law_three_cross")) := He.glo_ok X G (cd.fact 10 (f := .glo "_law_three_cross") rfl)
  have g__law_three_plus : mg "_law_three_plus" = some (.ref (He.ga K "_law_three_plus")) := He.glo_ok X G (cd.fact 11 (f := .glo "_law_three_plus") rfl)
  have g__law_three_is_row : mg "_law_three_is_row" = some (.ref (He.ga K "_law_three_is_row")) := He.glo_ok X G (cd.fact 12 (f := .glo "_law_three_is_row") rfl)
  have g_is_within : mg "is_within" = some (.ref (He.ga K "is_within")) := He.glo_ok X G (cd.fact 13 (f := .glo "is_within") rfl)
  have g_is_dimension : mg "is_dimension" = some (.ref (He.ga K "is_dimension")) := He.glo_ok X G (cd.fact 14 (f := .glo "is_dimension") rfl)
  have g_is_numbers : mg "is_numbers" = some (.ref (He.ga K "is_numbers")) := He.glo_ok X G (cd.fact 15 (f := .glo "is_numbers") rfl)
  have g__law_draw : mg "_law_draw" = some (.ref (He.ga K "_law_draw")) := He.glo_ok X G (cd.fact 16 (f := .glo "_law_draw") rfl)
  have g__law_begun : mg "_law_begun" = some (.ref (He.ga K "_law_begun")) := He.glo_ok X G (cd.fact 17 (f := .glo "_law_begun") rfl)
  have g__law_four_short : mg "_law_four_short" = some (.ref (He.ga K "_law_four_short")) := He.glo_ok X G (cd.fact 18 (f := .glo "_law_four_short") rfl)
  have g__law_scaled : mg "_law_scaled" = some (.ref (He.ga K "_law_scaled")) := He.glo_ok X G (cd.fact 19 (f := .glo "_law_scaled") rfl)
  have g_need_dimension : mg "need_dimension" = some (.ref (He.ga K "need_dimension")) := He.glo_ok X G (cd.fact 20 (f := .glo "need_dimension") rfl)
  have g_is_place : mg "is_place" = some (.ref (He.ga K "is_place")) := He.glo_ok X G (cd.fact 21 (f := .glo "is_place") rfl)
  have g_need_row : mg "need_row" = some (.ref (He.ga K "need_row")) := He.glo_ok X G (cd.fact 22 (f := .glo "need_row") rfl)
  have g__law_of : mg "_law_of" = some (.ref (He.ga K "_law_of")) := He.glo_ok X G (cd.fact 23 (f := .glo "_law_of") rfl)
  have g__law_four_place : mg "_law_four_place" = some (.ref (He.ga K "_law_four_place")) := He.glo_ok X G (cd.fact 24 (f := .glo "_law_four_place") rfl)
  have g__law_three_number : mg "_law_three_number" = some (.ref (He.ga K "_law_three_number")) := He.glo_ok X G (cd.fact 25 (f := .glo "_law_three_number") rfl)
  have g__law_axis_right : mg "_law_axis_right" = some (.ref (He.ga K "_law_axis_right")) := He.glo_ok X G (cd.fact 26 (f := .glo "_law_axis_right") rfl)
  have g_need_space : mg "need_space" = some (.ref (He.ga K "need_space")) := He.glo_ok X G (cd.fact 27 (f := .glo "need_space") rfl)
  have g_checked_place : mg "checked_place" = some (.ref (He.ga K "checked_place")) := He.glo_ok X G (cd.fact 28 (f := .glo "checked_place") rfl)
  have g_axis : mg "axis" = some (.ref (He.ga K "axis")) := He.glo_ok X G (cd.fact 29 (f := .glo "axis") rfl)
  have g_pitch : mg "pitch" = some (.ref (He.ga K "pitch")) := He.glo_ok X G (cd.fact 30 (f := .glo "pitch") rfl)
  have g__law_three_bad : mg "_law_three_bad" = some (.ref (He.ga K "_law_three_bad")) := He.glo_ok X G (cd.fact 31 (f := .glo "_law_three_bad") rfl)
  have g__law_motion : mg "_law_motion" = some (.ref (He.ga K "_law_motion")) := He.glo_ok X G (cd.fact 32 (f := .glo "_law_motion") rfl)
  have g_need_place : mg "need_place" = some (.ref (He.ga K "need_place")) := He.glo_ok X G (cd.fact 33 (f := .glo "need_place") rfl)
  have g__law_heard : mg "_law_heard" = some (.ref (He.ga K "_law_heard")) := He.glo_ok X G (cd.fact 34 (f := .glo "_law_heard") rfl)
  have g_velocity : mg "velocity" = some (.ref (He.ga K "velocity")) := He.glo_ok X G (cd.fact 35 (f := .glo "velocity") rfl)
  have g__law_beside_right : mg "_law_beside_right" = some (.ref (He.ga K "_law_beside_right")) := He.glo_ok X G (cd.fact 36 (f := .glo "_law_beside_right") rfl)
  have g_law : mg "law" = some (.ref (He.ga K "law")) := He.glo_ok X G (cd.fact 37 (f := .glo "law") rfl)
  have g_DIMENSIONS : mg "DIMENSIONS" = some (.ref (He.ga K "DIMENSIONS")) := He.glo_ok X G (cd.fact 38 (f := .glo "DIMENSIONS") rfl)
  have g_WIDE : mg "WIDE" = some (.ref (He.ga K "WIDE")) := He.glo_ok X G (cd.fact 39 (f := .glo "WIDE") rfl)
  have g_BodyError : mg "BodyError" = some (.ref (He.ga K "BodyError")) := He.glo_ok X G (cd.fact 40 (f := .glo "BodyError") rfl)
  have g_BadRow : mg "BadRow" = some (.ref (He.ga K "BadRow")) := He.glo_ok X G (cd.fact 41 (f := .glo "BadRow") rfl)
  have MGx : MG mg := ⟨n_len, n_tuple, n_list, n_abs, n_int, n_bool, n_sum, n_any, n_all, n_isinstance, n_repr, n_enumerate, n_range, n_zip, g_gcd⟩
  obtain ⟨cc, cda, br⟩ := OwnE.ownB_ok (P := pR) x4 X G (by rfl) (by rfl) n_super
  have ix : ∀ c b, [(He.ga K "BadRow", true)].lookup c = some b → ExcC K c ∧ PySem.W.kitOne K (.ref c) (.ref (He.ga K "BodyError")) = some b := fun c b hb => by
    rw [List.lookup_cons] at hb
    cases q : c == He.ga K "BadRow" with
    | true =>
      simp only [q] at hb
      cases hb
      rw [beq_iff_eq.mp q]
      exact ⟨x9, x6⟩
    | false =>
      simp only [q] at hb
      cases hb
  have xf : ∀ c ∈ [He.ga K "BadRow"], XfC K c ∧ PySem.W.findIn K (.ref c) "index" = some none := fun c hc => by
    rw [List.mem_singleton.mp hc]
    exact ⟨x8, br.noN⟩
  have C : CG pR K mg ⟨He.ga K "DIMENSIONS", He.ga K "WIDE", tM, He.ga K "BodyError", He.ga K "BadRow", He.ma K (He.ga K "BadRow") "__init__", cc, cda⟩ :=
    ⟨n_MP, g_DIMENSIONS, x1, g_WIDE, x2, br, g_BodyError, xf, ix, x7⟩
  obtain ⟨fd_is_whole, D_is_whole⟩ := cd.def_ 0 (d := d_is_whole) rfl
  obtain ⟨fd_is_row, D_is_row⟩ := cd.def_ 1 (d := d_is_row) rfl
  obtain ⟨fd_product_of, D_product_of⟩ := cd.def_ 2 (d := d_product_of) rfl
  obtain ⟨fd_cross, D_cross⟩ := cd.def_ 3 (d := d_cross) rfl
  obtain ⟨fd_lowest_terms, D_lowest_terms⟩ := cd.def_ 4 (d := d_lowest_terms) rfl
  obtain ⟨fd__law_mixed, D__law_mixed⟩ := cd.def_ 5 (d := d__law_mixed) rfl
  obtain ⟨fd__law_folded, D__law_folded⟩ := cd.def_ 6 (d := d__law_folded) rfl
  obtain ⟨fd__law_like, D__law_like⟩ := cd.def_ 7 (d := d__law_like) rfl
  obtain ⟨fd__law_four_gcd, D__law_four_gcd⟩ := cd.def_ 8 (d := d__law_four_gcd) rfl
  obtain ⟨fd__law_three_dot, D__law_three_dot⟩ := cd.def_ 9 (d := d__law_three_dot) rfl
  obtain ⟨fd__law_three_cross, D__law_three_cross⟩ := cd.def_ 10 (d := d__law_three_cross) rfl
  obtain ⟨fd__law_three_plus, D__law_three_plus⟩ := cd.def_ 11 (d := d__law_three_plus) rfl
  obtain ⟨fd__law_three_is_row, D__law_three_is_row⟩ := cd.def_ 12 (d := d__law_three_is_row) rfl
  obtain ⟨fd_is_within, D_is_within⟩ := cd.def_ 13 (d := d_is_within) rfl
  obtain ⟨fd_is_dimension, D_is_dimension⟩ := cd.def_ 14 (d := d_is_dimension) rfl
  obtain ⟨fd_is_numbers, D_is_numbers⟩ := cd.def_ 15 (d := d_is_numbers) rfl
  obtain ⟨fd__law_draw, D__law_draw⟩ := cd.def_ 16 (d := d__law_draw) rfl
  obtain ⟨fd__law_begun, D__law_begun⟩ := cd.def_ 17 (d := d__law_begun) rfl
  obtain ⟨fd__law_four_short, D__law_four_short⟩ := cd.def_ 18 (d := d__law_four_short) rfl
  obtain ⟨fd__law_scaled, D__law_scaled⟩ := cd.def_ 19 (d := d__law_scaled) rfl
  obtain ⟨fd_need_dimension, D_need_dimension⟩ := cd.def_ 20 (d := d_need_dimension) rfl
  obtain ⟨fd_is_place, D_is_place⟩ := cd.def_ 21 (d := d_is_place) rfl
  obtain ⟨fd_need_row, D_need_row⟩ := cd.def_ 22 (d := d_need_row) rfl
  obtain ⟨fd__law_of, D__law_of⟩ := cd.def_ 23 (d := d__law_of) rfl
  obtain ⟨fd__law_four_place, D__law_four_place⟩ := cd.def_ 24 (d := d__law_four_place) rfl
  obtain ⟨fd__law_three_number, D__law_three_number⟩ := cd.def_ 25 (d := d__law_three_number) rfl
  obtain ⟨fd__law_axis_right, D__law_axis_right⟩ := cd.def_ 26 (d := d__law_axis_right) rfl
  obtain ⟨fd_need_space, D_need_space⟩ := cd.def_ 27 (d := d_need_space) rfl
  obtain ⟨fd_checked_place, D_checked_place⟩ := cd.def_ 28 (d := d_checked_place) rfl
  obtain ⟨fd_axis, D_axis⟩ := cd.def_ 29 (d := d_axis) rfl
  obtain ⟨fd_pitch, D_pitch⟩ := cd.def_ 30 (d := d_pitch) rfl
  obtain ⟨fd__law_three_bad, D__law_three_bad⟩ := cd.def_ 31 (d := d__law_three_bad) rfl
  obtain ⟨fd__law_motion, D__law_motion⟩ := cd.def_ 32 (d := d__law_motion) rfl
  obtain ⟨fd_need_place, D_need_place⟩ := cd.def_ 33 (d := d_need_place) rfl
  obtain ⟨fd__law_heard, D__law_heard⟩ := cd.def_ 34 (d := d__law_heard) rfl
  obtain ⟨fd_velocity, D_velocity⟩ := cd.def_ 35 (d := d_velocity) rfl
  obtain ⟨fd__law_beside_right, D__law_beside_right⟩ := cd.def_ 36 (d := d__law_beside_right) rfl
  obtain ⟨fd_law, D_law⟩ := cd.def_ 37 (d := d_law) rfl
  have e := hfa.symm.trans g_law
  cases e
  refine ⟨fd_law, fun s v => FunD.bindsA (ps := ["script"]) D_law (fun _ _ _ _ _ _ us hl => match us, hl with | [_], _ => rfl) s [v] rfl, fun base hb1 hb2 => ?_⟩
  have H_is_whole := h_is_whole (P := pR) (w := w) (base := base) MGx C  D_is_whole g_is_whole
  have H_is_row := h_is_row (P := pR) (w := w) (base := base) MGx C  D_is_row g_is_row
  have H_product_of := h_product_of (P := pR) (w := w) (base := base) MGx C  D_product_of g_product_of
  have H_cross := h_cross (P := pR) (w := w) (base := base) MGx C  D_cross g_cross
  have H_lowest_terms := h_lowest_terms (P := pR) (w := w) (base := base) MGx C  D_lowest_terms g_lowest_terms
  have H__law_mixed := h__law_mixed (P := pR) (w := w) (base := base) MGx C  D__law_mixed g__law_mixed
  have H__law_folded := h__law_folded (P := pR) (w := w) (base := base) MGx C  D__law_folded g__law_folded
  have H__law_like := h__law_like (P := pR) (w := w) (base := base) MGx C  D__law_like g__law_like
  have H__law_four_gcd := h__law_four_gcd (P := pR) (w := w) (base := base) MGx C  D__law_four_gcd g__law_four_gcd
  have H__law_three_dot := h__law_three_dot (P := pR) (w := w) (base := base) MGx C  D__law_three_dot g__law_three_dot
  have H__law_three_cross := h__law_three_cross (P := pR) (w := w) (base := base) MGx C  D__law_three_cross g__law_three_cross
  have H__law_three_plus := h__law_three_plus (P := pR) (w := w) (base := base) MGx C  D__law_three_plus g__law_three_plus
  have H__law_three_is_row := h__law_three_is_row (P := pR) (w := w) (base := base) MGx C  D__law_three_is_row g__law_three_is_row
  have H_is_within := h_is_within (P := pR) (w := w) (base := base) MGx C H_is_whole D_is_within g_is_within
  have H_is_dimension := h_is_dimension (P := pR) (w := w) (base := base) MGx C H_is_whole D_is_dimension g_is_dimension
  have H_is_numbers := h_is_numbers (P := pR) (w := w) (base := base) MGx C H_is_row H_is_whole D_is_numbers g_is_numbers
  have H__law_draw := h__law_draw (P := pR) (w := w) (base := base) MGx H__law_mixed D__law_draw g__law_draw
  have B__law_begun := K21.g__law_begun (P := pR) (w := w) (base := base) MGx H__law_folded D__law_begun
  have H__law_four_short := h__law_four_short (P := pR) (w := w) (base := base) MGx C H__law_four_gcd D__law_four_short g__law_four_short
  have H__law_scaled := h__law_scaled (P := pR) (w := w) (base := base) MGx C H__law_three_cross H__law_three_plus D__law_scaled g__law_scaled
  have H_need_dimension := h_need_dimension (P := pR) (w := w) (base := base) MGx C H_is_dimension D_need_dimension g_need_dimension
  have H_is_place := h_is_place (P := pR) (w := w) (base := base) MGx C H_is_within D_is_place g_is_place
  have H_need_row := h_need_row (P := pR) (w := w) (base := base) MGx C H_is_numbers D_need_row g_need_row
  have H__law_of := h__law_of (P := pR) (w := w) (base := base) MGx C H__law_draw D__law_of g__law_of
  have H__law_four_place := h__law_four_place (P := pR) (w := w) (base := base) MGx C H__law_draw D__law_four_place g__law_four_place
  have H__law_three_number := h__law_three_number (P := pR) (w := w) (base := base) MGx C H__law_draw D__law_three_number g__law_three_number
  have H__law_axis_right := h__law_axis_right (P := pR) (w := w) (base := base) MGx C H__law_four_short H__law_like H__law_scaled H__law_three_dot H__law_three_is_row H__law_three_plus D__law_axis_right g__law_axis_right
  have H_need_space := h_need_space (P := pR) (w := w) (base := base) MGx C H_need_dimension D_need_space g_need_space
  have H_checked_place := h_checked_place (P := pR) (w := w) (base := base) MGx C H_is_place D_checked_place g_checked_place
  have H_axis := h_axis (P := pR) (w := w) (base := base) MGx C H_cross H_lowest_terms H_need_row H_product_of D_axis g_axis
  have H_pitch := h_pitch (P := pR) (w := w) (base := base) MGx C H_lowest_terms H_need_row H_product_of D_pitch g_pitch
  have H__law_three_bad := h__law_three_bad (P := pR) (w := w) (base := base) MGx C H__law_draw H__law_of D__law_three_bad g__law_three_bad
  have H__law_motion := h__law_motion (P := pR) (w := w) (base := base) MGx C H__law_draw H__law_four_place H__law_of H__law_three_cross H__law_three_number H__law_three_plus D__law_motion g__law_motion
  have H_need_place := h_need_place (P := pR) (w := w) (base := base) MGx C H_checked_place H_need_space D_need_place g_need_place
  have H__law_heard := h__law_heard (P := pR) (w := w) (base := base) MGx C H_axis H_pitch D__law_heard g__law_heard
  have H_velocity := h_velocity (P := pR) (w := w) (base := base) MGx C H_cross H_need_place H_need_row H_need_space D_velocity g_velocity
  have H__law_beside_right := h__law_beside_right (P := pR) (w := w) (base := base) MGx C H__law_four_place H__law_like H__law_of H__law_scaled H__law_three_cross H__law_three_dot H_velocity D__law_beside_right g__law_beside_right
  exact K21.g_law pl MGx B__law_begun g__law_begun D__law_begun.kp (D__law_begun.bindsN fun _ _ _ _ _ _ us hl => match us, hl with | [_], _ => rfl) H__law_axis_right H__law_beside_right H__law_heard H__law_like H__law_motion H__law_three_bad H_axis H_pitch D_law
end K21
end

section
set_option Elab.async false
set_option linter.all false
set_option maxRecDepth 100000
set_option maxHeartbeats 0
open PySem PySem.W PySem.Calls PyProof.Rows
theorem k21_of (pl : K21.Plain) : PySem.Challenge.rw_bodybars_k21_whole_axes_and_pitches.Holds := by
  w_on; o_law
  refine HandSHeadRun.head_imp (r := OpenLaw.row PySem.Challenge.rw_bodybars_k21_whole_axes_and_pitches) (q := view (OpenLaw.row PySem.Challenge.rw_bodybars_k21_whole_axes_and_pitches).prog [0, 55]) (H := K21.hk) (ob := K21.ob) (M := 20000) (loose := K21.names) (d := HandSHeadRun.topDef (OpenLaw.row PySem.Challenge.rw_bodybars_k21_whole_axes_and_pitches).prog 55) (kwd := [])
    K21.ob_eq K21.run (by kernel_rfl) (by kernel_rfl) (by kernel_rfl) (by rfl) (by first | assumption | decide +kernel) (by decide +kernel) ⟨rfl, rfl, rfl, rfl, rfl, by decide +kernel⟩ ?hw ?hc
  case hw => w_witness2
  case hc =>
    refine BB.walkG (l := PySem.Challenge.rw_bodybars_k21_whole_axes_and_pitches) (n := 63) (k := 8) (x := "script") rfl (by decide) (by kernel_rfl) ⟨rfl, by decide, by decide⟩ rfl ?F ?CX
    case CX =>
      intro w H s e s' h
      obtain ⟨_, _, _, _, _, _, _, _, _, _, _, _, z⟩ := h; exact z
    case F =>
      intro w mg fa h Y G hmg0
      obtain ⟨K, KX, c⟩ := Y
      have hmg : mg ("law" : PySem.Str) = some (.ref fa) := by
        have e : (HandSHeadRun.topDef (OpenLaw.row PySem.Challenge.rw_bodybars_k21_whole_axes_and_pitches).prog 55).name = ("law" : PySem.Str) := by kernel_rfl
        rw [← e]
        exact hmg0
      obtain ⟨fd, hb, hF⟩ := K21.facts (w := w) pl KX G hmg c
      exact ⟨K, fd, K21.spLaw K, KX, hb, fun H a ns hl hO hS => ⟨a, ns, rfl, BB.SqF.of hS (fun z => by
        rcases hO a with y | ⟨o, xs, y⟩
        · rw [y] at z; cases z
        · rw [y] at z; cases z), hl, fun _ => rfl⟩, hF⟩
end

theorem PySem.Challenge.cw_bodybars_k21_whole_axes_and_pitches_holds : PySem.Challenge.rw_bodybars_k21_whole_axes_and_pitches.Holds :=
  k21_of K21.plain
