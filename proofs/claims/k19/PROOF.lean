import PyProof.Rows.All
import Wide.All
import OpenK.AllK
import Wide.FinOn
import HandS.ForMost
import HandS.ForExc
import HandS.TupAny
import HandS.TupMul
import HandS.IsInst
import HandS.Wide
import HandS.ExcField
import HandS.ExcInit
import HandS.Style
import KE.KExcSuper
import PySem.Challenge.RW_columnskept_k19_whole_checks_of_bytes
import KE.RegKSuper
set_option Elab.async false
set_option linter.all false
set_option autoImplicit false
set_option maxRecDepth 100000
set_option maxHeartbeats 4000000
/-! DL: data level readings over HandS. Values are PyData; a list that changes stands in one slot (own). -/
namespace DL
open PySem PySem.Spec L2
abbrev D := PyData
/-- what an expression gives: data; a new list; a list that a slot owns (borrowed); an opaque value -/
inductive F where | val (d : D) | fresh (xs : List D) | bor (xs : List D) | fn (u : V)
inductive Slot where | none | val (d : D) | own (xs : List D) | fn (u : V)
abbrev DEnv := List Slot
structure Ex where
  cls : Value
  pay : Option (Str × Int)
/-- the data of a result; nothing takes the dict -/
def F.data : F → D
  | .val d => d
  | .fresh xs => .list xs
  | .bor xs => .list xs
  | .fn _ => .dict []
def F.slot : F → Slot
  | .val d => .val d
  | .fresh xs => .val (.list xs)
  | .bor xs => .val (.list xs)
  | .fn u => .fn u

/-! ### data in an abstract heap -/
theorem sameT {K : PySem.W.Frag} {H H' : Hp} {a : Addr} {xs : List V} (e : Same H H') (h : SqT K H a xs) : SqT K H' a xs := by
  rcases h with (h | ⟨o, h⟩) | h
  · exact .inl (.inl (e _ _ h))
  · exact .inl (.inr ⟨o, e _ _ h⟩)
  · exact .inr h
mutual
inductive Dn (K : PySem.W.Frag) (H : Hp) : V → D → Prop
  | non : Dn K H .non .none
  | bl (b : Bool) : Dn K H (.bl b) (.bool b)
  | int (i : Int) : Dn K H (.int i) (.int i)
  | str (x : Str) : Dn K H (.str x) (.str x)
  | lst {a : Addr} {xs : List V} {ds : List D} : H a = some (.lst xs) → DnAll K H xs ds → Dn K H (.ref a) (.list ds)
  | tup {a : Addr} {xs : List V} {ds : List D} : SqT K H a xs → DnAll K H xs ds → Dn K H (.ref a) (.tuple ds)
inductive DnAll (K : PySem.W.Frag) (H : Hp) : List V → List D → Prop
  | nil : DnAll K H [] []
  | cons {v : V} {vs : List V} {d : D} {ds : List D} : Dn K H v d → DnAll K H vs ds → DnAll K H (v :: vs) (d :: ds)
end
section
variable {K : PySem.W.Frag} {H H' : Hp}
mutual
theorem Dn.mono (s : Same H H') : ∀ {v : V} {d : D}, Dn K H v d → Dn K H' v d
  | _, _, .non => .non
  | _, _, .bl b => .bl b
  | _, _, .int i => .int i
  | _, _, .str x => .str x
  | _, _, .lst h a => .lst (s _ _ h) (DnAll.mono s a)
  | _, _, .tup h a => .tup (sameT s h) (DnAll.mono s a)
theorem DnAll.mono (s : Same H H') : ∀ {v : List V} {d : List D}, DnAll K H v d → DnAll K H' v d
  | _, _, .nil => .nil
  | _, _, .cons a b => .cons (Dn.mono s a) (DnAll.mono s b)
end
mutual
theorem Dn.dp : ∀ {v : V} {d : D}, Dn K H v d → Dp K H v d
  | _, _, .non => .non
  | _, _, .bl b => .bl b
  | _, _, .int i => .int i
  | _, _, .str x => .str x
  | _, _, .lst h a => .lst (SqL.of h) (DnAll.dp a)
  | _, _, .tup h a => .tup h (DnAll.dp a)
theorem DnAll.dp : ∀ {v : List V} {d : List D}, DnAll K H v d → DpAll K H v d
  | _, _, .nil => .nil
  | _, _, .cons a b => .cons (Dn.dp a) (DnAll.dp b)
end
theorem DnAll.length : ∀ {vs : List V} {ds : List D}, DnAll K H vs ds → vs.length = ds.length
  | _, _, .nil => rfl
  | _, _, .cons _ b => by simp [DnAll.length b]
theorem DnAll.get : ∀ {vs : List V} {ds : List D} {i : Nat} {d : D}, DnAll K H vs ds → ds[i]? = some d → ∃ v, vs[i]? = some v ∧ Dn K H v d
  | _, _, _, _, .nil, e => by simp at e
  | _, _, 0, _, .cons a _, e => by simp at e; subst e; exact ⟨_, rfl, a⟩
  | _, _, i + 1, d, .cons _ b, e => by
    obtain ⟨v, h1, h2⟩ := DnAll.get (i := i) (d := d) b (by simpa using e)
    exact ⟨v, by simpa using h1, h2⟩
theorem DnAll.append : ∀ {vs ws : List V} {ds es : List D}, DnAll K H vs ds → DnAll K H ws es → DnAll K H (vs ++ ws) (ds ++ es)
  | _, _, _, _, .nil, h => h
  | _, _, _, _, .cons a b, h => .cons a (DnAll.append b h)
theorem DnAll.take : ∀ {vs : List V} {ds : List D} (n : Nat), DnAll K H vs ds → DnAll K H (vs.take n) (ds.take n)
  | _, _, 0, _ => by simp only [List.take_zero]; exact .nil
  | _, _, n + 1, .nil => by simp only [List.take_nil]; exact .nil
  | _, _, n + 1, .cons a b => by simp only [List.take_succ_cons]; exact .cons a (DnAll.take n b)
theorem DnAll.drop : ∀ {vs : List V} {ds : List D} (n : Nat), DnAll K H vs ds → DnAll K H (vs.drop n) (ds.drop n)
  | _, _, 0, h => by simpa using h
  | _, _, n + 1, .nil => by simp only [List.drop_nil]; exact .nil
  | _, _, n + 1, .cons a b => by simp only [List.drop_succ_cons]; exact DnAll.drop n b
theorem DnAll.set : ∀ {vs : List V} {ds : List D} {v : V} {d : D} (n : Nat), DnAll K H vs ds → Dn K H v d → DnAll K H (vs.set n v) (ds.set n d)
  | _, _, _, _, _, .nil, _ => by simp only [List.set_nil]; exact .nil
  | _, _, _, _, 0, .cons _ b, h => .cons h b
  | _, _, _, _, n + 1, .cons a b, h => .cons a (DnAll.set n b h)
theorem DnAll.dropLast {vs : List V} {ds : List D} (h : DnAll K H vs ds) : DnAll K H vs.dropLast ds.dropLast := by
  rw [List.dropLast_eq_take, List.dropLast_eq_take, h.length]; exact h.take _
theorem DnAll.rep {vs : List V} {ds : List D} (h : DnAll K H vs ds) : ∀ k : Nat, DnAll K H (List.replicate k vs).flatten (List.replicate k ds).flatten
  | 0 => by simp only [List.replicate_zero, List.flatten_nil]; exact .nil
  | k + 1 => by simp only [List.replicate_succ, List.flatten_cons]; exact h.append (h.rep k)
theorem DnAll.ints : ∀ {vs : List V} {ns : List Int}, DnAll K H vs (ns.map PyData.int) → vs = ns.map V.int
  | _, [], .nil => rfl
  | _, n :: ns, .cons (.int _) b => by simp [DnAll.ints b]
theorem DnAll.bools : ∀ {vs : List V} {ns : List Bool}, DnAll K H vs (ns.map PyData.bool) → vs = ns.map V.bl
  | _, [], .nil => rfl
  | _, n :: ns, .cons (.bl _) b => by simp [DnAll.bools b]
theorem DnAll.strs : ∀ {vs : List V} {ns : List Str}, DnAll K H vs (ns.map PyData.str) → vs = ns.map V.str
  | _, [], .nil => rfl
  | _, n :: ns, .cons (.str _) b => by simp [DnAll.strs b]
end

/-! ### views -/
open Classical in
noncomputable def vw (p : Addr → Prop) (H : Hp) : Hp := fun b => if p b then none else H b
theorem vw_some {p : Addr → Prop} {H : Hp} {a : Addr} {o : HO} : vw p H a = some o ↔ ¬ p a ∧ H a = some o := by
  unfold vw
  by_cases h : p a
  · rw [if_pos h]; simp [h]
  · rw [if_neg h]; simp [h]
theorem vw_same {p q : Addr → Prop} {H H' : Hp} (h : ∀ a o, ¬ p a → H a = some o → ¬ q a ∧ H' a = some o) : Same (vw p H) (vw q H') := fun a o e => by
  obtain ⟨h1, h2⟩ := vw_some.mp e
  exact vw_some.mpr (h a o h1 h2)
theorem vw_sub {p : Addr → Prop} {H : Hp} : Same (vw p H) H := fun a o e => (vw_some.mp e).2

/-! ### the ghost world -/
structure Wd (G : Type) where
  hid : G → Addr → Prop
  ok : G → Hp → Prop
  frame : ∀ {g : G} {H H' : Hp}, ok g H → (∀ a, hid g a → H' a = H a) → ok g H'
  there : ∀ {g : G} {H : Hp} {a : Addr}, ok g H → hid g a → H a ≠ none
section
variable {G : Type} {W : Wd G} {g g' g1 g2 : G} {H H' H1 H2 : Hp} {a p : Addr} {o : HO}
structure Keep (W : Wd G) (g g' : G) (H H' : Hp) : Prop where
  keep : ∀ a o, ¬ W.hid g a → H a = some o → H' a = some o
  ok : W.ok g' H'
  new : ∀ a, W.hid g' a → W.hid g a ∨ H a = none
  mono : ∀ a, W.hid g a → W.hid g' a
theorem Keep.refl (h : W.ok g H) : Keep W g g H H := ⟨fun _ _ _ e => e, h, fun _ e => .inl e, fun _ e => e⟩
theorem Keep.trans (k : Keep W g g1 H H1) (l : Keep W g1 g2 H1 H2) : Keep W g g2 H H2 := by
  refine ⟨fun a o n e => ?_, l.ok, fun a h => ?_, fun a h => l.mono a (k.mono a h)⟩
  · refine l.keep a o (fun z => ?_) (k.keep a o n e)
    rcases k.new a z with z | z
    · exact n z
    · rw [z] at e; cases e
  · by_cases hg : W.hid g a
    · exact .inl hg
    rcases l.new a h with z | z
    · exact k.new a z
    · refine .inr ?_
      cases e : H a with
      | none => rfl
      | some o => rw [k.keep a o hg e] at z; cases z
theorem Keep.new1 (h : W.ok g H) (hp : H p = none) : Keep W g g H (upd H p o) := by
  refine ⟨fun a u _ e => ?_, W.frame h fun a ha => ?_, fun _ e => .inl e, fun _ e => e⟩
  · rw [upd_ne (ne_of_none e hp)]; exact e
  · refine upd_ne fun z => ?_
    rw [z] at ha
    exact W.there h ha hp
/-- what is not there behind, was not there ahead -/
theorem Keep.back (k : Keep W g g' H H') (n : H' a = none) : H a = none := by
  cases e : H a with
  | none => rfl
  | some o =>
    by_cases h : W.hid g a
    · exact absurd n (W.there k.ok (k.mono a h))
    · rw [k.keep a o h e] at n; cases n
theorem Keep.some (k : Keep W g g' H H') (n : H a ≠ none) : H' a ≠ none := fun z => n (k.back z)
end

/-! ### what a result is worth: from (g, H), in (g', H'); fr hidden by the frame, ow owned -/
section
variable {G : Type}
def hd (W : Wd G) (fr ow : Addr → Prop) (g : G) : Addr → Prop := fun a => fr a ∨ ow a ∨ W.hid g a
def FDen (K : PySem.W.Frag) (W : Wd G) (fr ow : Addr → Prop) (H : Hp) (g' : G) (H' : Hp) : F → V → Prop
  | .val d, v => Dn K (vw (hd W fr ow g') H') v d
  | .fresh xs, v => ∃ a vs, v = .ref a ∧ H a = none ∧ ¬ W.hid g' a ∧ H' a = some (.lst vs) ∧ DnAll K (vw (fun b => hd W fr ow g' b ∨ b = a) H') vs xs
  | .bor xs, v => ∃ a vs, v = .ref a ∧ ow a ∧ ¬ W.hid g' a ∧ H' a = some (.lst vs) ∧ DnAll K (vw (hd W fr ow g') H') vs xs
  | .fn u, v => v = u
def XDen (ex : Ex) (cls : Value) (d : Option Addr) (H : Hp) : Prop := cls = ex.cls ∧ match ex.pay with
  | none => True
  | some (n, i) => ∃ a, d = some a ∧ H a = some (.xd [(n, .int i)])
variable {K : PySem.W.Frag} {W : Wd G} {fr ow : Addr → Prop} {g g1 g2 : G} {H H1 H2 : Hp} {f : F} {v : V}
theorem hd_keep (k : Keep W g1 g2 H1 H2) : Same (vw (hd W fr ow g1) H1) (vw (hd W fr ow g2) H2) := vw_same fun a o n e => by
  have n1 : ¬ fr a := fun z => n (.inl z)
  have n2 : ¬ ow a := fun z => n (.inr (.inl z))
  have n3 : ¬ W.hid g1 a := fun z => n (.inr (.inr z))
  refine ⟨fun z => ?_, k.keep a o n3 e⟩
  rcases z with z | z | z
  · exact n1 z
  · exact n2 z
  · rcases k.new a z with z | z
    · exact n3 z
    · rw [z] at e; cases e
theorem hd_keep1 {p : Addr} (k : Keep W g1 g2 H1 H2) : Same (vw (fun b => hd W fr ow g1 b ∨ b = p) H1) (vw (fun b => hd W fr ow g2 b ∨ b = p) H2) := fun a o e => by
  obtain ⟨h1, h2⟩ := vw_some.mp e
  have n : ¬ hd W fr ow g1 a := fun z => h1 (.inl z)
  obtain ⟨h3, h4⟩ := vw_some.mp (hd_keep k a o (vw_some.mpr ⟨n, h2⟩))
  exact vw_some.mpr ⟨fun z => z.elim h3 fun z => h1 (.inr z), h4⟩
theorem hd_less {p : Addr} : Same (vw (fun b => hd W fr ow g b ∨ b = p) H) (vw (hd W fr ow g) H) := vw_same fun a o n e => ⟨fun z => n (.inl z), e⟩
theorem FDen.keep (x : FDen K W fr ow H g1 H1 f v) (k : Keep W g1 g2 H1 H2) : FDen K W fr ow H g2 H2 f v := by
  cases f with
  | val d => exact Dn.mono (hd_keep k) x
  | fresh xs =>
    obtain ⟨a, vs, rfl, n, nh, e, da⟩ := x
    refine ⟨a, vs, rfl, n, fun z => ?_, k.keep a _ nh e, DnAll.mono (hd_keep1 k) da⟩
    rcases k.new a z with z | z
    · exact nh z
    · rw [z] at e; cases e
  | bor xs =>
    obtain ⟨a, vs, rfl, n, nh, e, da⟩ := x
    refine ⟨a, vs, rfl, n, fun z => ?_, k.keep a _ nh e, DnAll.mono (hd_keep k) da⟩
    rcases k.new a z with z | z
    · exact nh z
    · rw [z] at e; cases e
  | fn u => exact x
/-- what is fresh from a later state is fresh from an earlier one -/
theorem FDen.early {H0 : Hp} {g0 : G} (k : Keep W g0 g H0 H) (x : FDen K W fr ow H g1 H1 f v) : FDen K W fr ow H0 g1 H1 f v := by
  cases f with
  | val d => exact x
  | fresh xs =>
    obtain ⟨a, vs, rfl, n, r⟩ := x
    exact ⟨a, vs, rfl, k.back n, r⟩
  | bor xs => exact x
  | fn u => exact x
/-- its data, as a list, a tuple .. -/
theorem FDen.list {xs : List D} (x : FDen K W fr ow H g1 H1 f v) (e : f.data = .list xs) : ∃ a vs, v = .ref a ∧ H1 a = some (.lst vs) ∧ DnAll K (vw (hd W fr ow g1) H1) vs xs := by
  cases f with
  | val d =>
    have e : d = .list xs := e
    subst e
    have x : Dn K (vw (hd W fr ow g1) H1) v (.list xs) := x
    cases x with
    | lst h a => exact ⟨_, _, rfl, (vw_some.mp h).2, a⟩
  | fresh ys =>
    have e : PyData.list ys = .list xs := e
    cases e
    obtain ⟨a, vs, rfl, n, nh, e, da⟩ := x
    exact ⟨a, vs, rfl, e, DnAll.mono hd_less da⟩
  | bor ys =>
    have e : PyData.list ys = .list xs := e
    cases e
    obtain ⟨a, vs, rfl, n, nh, e, da⟩ := x
    exact ⟨a, vs, rfl, e, da⟩
  | fn u => cases e
theorem FDen.dn (x : FDen K W fr ow H g1 H1 f v) (e : ∀ xs, f.data ≠ .list xs) (e2 : ∀ xs, f.data ≠ .dict xs) : Dn K (vw (hd W fr ow g1) H1) v f.data := by
  cases f with
  | val d => exact x
  | fresh ys => exact absurd rfl (e ys)
  | bor ys => exact absurd rfl (e ys)
  | fn u => exact absurd rfl (e2 [])
theorem FDen.tup {xs : List D} (x : FDen K W fr ow H g1 H1 f v) (e : f.data = .tuple xs) : ∃ a vs, v = .ref a ∧ SqT K H1 a vs ∧ DnAll K (vw (hd W fr ow g1) H1) vs xs := by
  have y := x.dn (by rw [e]; intro _ z; cases z) (by rw [e]; intro _ z; cases z)
  rw [e] at y
  cases y with
  | tup h a => exact ⟨_, _, rfl, sameT vw_sub h, a⟩
theorem FDen.int {i : Int} (x : FDen K W fr ow H g1 H1 f v) (e : f.data = .int i) : v = .int i := by
  have y := x.dn (by rw [e]; intro _ z; cases z) (by rw [e]; intro _ z; cases z)
  rw [e] at y; cases y; rfl
theorem FDen.bl {i : Bool} (x : FDen K W fr ow H g1 H1 f v) (e : f.data = .bool i) : v = .bl i := by
  have y := x.dn (by rw [e]; intro _ z; cases z) (by rw [e]; intro _ z; cases z)
  rw [e] at y; cases y; rfl
theorem FDen.str {i : Str} (x : FDen K W fr ow H g1 H1 f v) (e : f.data = .str i) : v = .str i := by
  have y := x.dn (by rw [e]; intro _ z; cases z) (by rw [e]; intro _ z; cases z)
  rw [e] at y; cases y; rfl
theorem FDen.non (x : FDen K W fr ow H g1 H1 f v) (e : f.data = .none) : v = .non := by
  have y := x.dn (by rw [e]; intro _ z; cases z) (by rw [e]; intro _ z; cases z)
  rw [e] at y; cases y; rfl
/-- its data, whatever it is (no opaque one) -/
theorem FDen.any (x : FDen K W fr ow H g1 H1 f v) (e2 : ∀ xs, f.data ≠ .dict xs) : Dn K H1 v f.data := by
  cases f with
  | val d => exact Dn.mono vw_sub x
  | fresh ys => 
    obtain ⟨a, vs, rfl, e, da⟩ := x.list rfl
    exact .lst e (DnAll.mono vw_sub da)
  | bor ys => 
    obtain ⟨a, vs, rfl, e, da⟩ := x.list rfl
    exact .lst e (DnAll.mono vw_sub da)
  | fn u => exact absurd rfl (e2 [])
/-- safe: it may be stored, put into a tuple .. -/
def F.safe : F → Bool
  | .val _ => true
  | .fresh _ => true
  | _ => false
theorem FDen.safe (kk : ∀ a, ow a → H a ≠ none) (kf : ∀ a, fr a → H a ≠ none) (x : FDen K W fr ow H g1 H1 f v) (e : f.safe = true) : Dn K (vw (hd W fr ow g1) H1) v f.data := by
  cases f with
  | val d => exact x
  | fresh ys => 
    obtain ⟨a, vs, rfl, n, nh, e, da⟩ := x
    refine .lst (vw_some.mpr ⟨fun z => ?_, e⟩) (DnAll.mono hd_less da)
    rcases z with z | z | z
    · exact kf a z n
    · exact kk a z n
    · exact nh z
  | bor ys => cases e
  | fn u => cases e
end

/-! ### the frame and its environment -/
structure Fc (G : Type) where
  W : Wd G
  fr : Addr → Prop
  g0 : G
  H0 : Hp
  pin : List (V × D)
abbrev Fc.pn {G : Type} (c : Fc G) (ps : List (V × D)) : Fc G := { c with pin := ps }
def SlotOk (K : PySem.W.Frag) (Hv H : Hp) (ow : Addr → Prop) (σ : St) (i : Nat) : Slot → Prop
  | .none => True
  | .val d => ∃ v, σ[i]? = some (some v) ∧ Dn K Hv v d
  | .fn u => σ[i]? = some (some u)
  | .own xs => ∃ a vs, σ[i]? = some (some (.ref a)) ∧ ow a ∧ H a = some (.lst vs) ∧ DnAll K Hv vs xs
section
variable {G : Type}
structure Er (K : PySem.W.Frag) (c : Fc G) (ow : Addr → Prop) (ρ : DEnv) (g : G) (σ : St) (H : Hp) : Prop where
  k0 : Keep c.W c.g0 g c.H0 H
  fr : ∀ a, c.fr a → c.H0 a ≠ none
  owd : ∀ a, ow a → (∃ vs, H a = some (.lst vs)) ∧ c.H0 a = none ∧ ¬ c.W.hid g a
  sl : ∀ (i : Nat) (s : Slot), ρ[i]? = some s → SlotOk K (vw (hd c.W c.fr ow g) H) H ow σ i s
  inj : ∀ (i j : Nat) (xs ys : List D) (a : Addr), ρ[i]? = some (.own xs) → ρ[j]? = some (.own ys) → σ[i]? = some (some (V.ref a)) → σ[j]? = some (some (V.ref a)) → i = j
  pin : ∀ p ∈ c.pin, Dn K (vw (hd c.W c.fr ow g) H) p.1 p.2
  len : ρ.length = σ.length
variable {K : PySem.W.Frag} {c : Fc G} {ow : Addr → Prop} {ρ : DEnv} {g g1 : G} {σ : St} {H H1 : Hp}
theorem Er.ok (e : Er K c ow ρ g σ H) : c.W.ok g H := e.k0.ok
theorem Er.frs (e : Er K c ow ρ g σ H) : ∀ a, c.fr a → H a ≠ none := fun a h => e.k0.some (e.fr a h)
theorem Er.ows (e : Er K c ow ρ g σ H) : ∀ a, ow a → H a ≠ none := fun a h z => by
  obtain ⟨⟨vs, q⟩, _⟩ := e.owd a h
  rw [z] at q; cases q
theorem Er.nfr (e : Er K c ow ρ g σ H) : ∀ a, ow a → ¬ c.fr a := fun a h z => e.fr a z (e.owd a h).2.1
theorem Er.keep (e : Er K c ow ρ g σ H) (k : Keep c.W g g1 H H1) : Er K c ow ρ g1 σ H1 := by
  refine ⟨e.k0.trans k, e.fr, fun a h => ?_, fun i s hs => ?_, e.inj, fun p hp => Dn.mono (hd_keep k) (e.pin p hp), e.len⟩
  · obtain ⟨⟨vs, q⟩, h2, h3⟩ := e.owd a h
    refine ⟨⟨vs, k.keep a _ h3 q⟩, h2, fun z => ?_⟩
    rcases k.new a z with z | z
    · exact h3 z
    · rw [z] at q; cases q
  · have q := e.sl i s hs
    cases s with
    | none => trivial
    | val d => obtain ⟨v, h1, h2⟩ := q; exact ⟨v, h1, Dn.mono (hd_keep k) h2⟩
    | fn u => exact q
    | own xs =>
      obtain ⟨a, vs, h1, h2, h3, h4⟩ := q
      exact ⟨a, vs, h1, h2, k.keep a _ (e.owd a h2).2.2 h3, DnAll.mono (hd_keep k) h4⟩
end

/-! ### judgements -/
abbrev DT (G : Type) := DEnv → G → (F → G → Prop) → (Ex → G → Prop) → Prop
abbrev DTT (G : Type) := DEnv → G → (Bool → G → Prop) → (Ex → G → Prop) → Prop
abbrev DTA (G : Type) := DEnv → G → (List F → G → Prop) → (Ex → G → Prop) → Prop
/-- behind it: what is raised is wished for -/
def RzOk {G : Type} (W : Wd G) (wx : WX) (g : G) (σ : St) (H : Hp) (R : Ex → G → Prop) : Prop :=
  ∀ ex g' cls d H', Keep W g g' H H' → XDen ex cls d H' → R ex g' → wx cls d σ H'
theorem RzOk.keep {G : Type} {W : Wd G} {wx : WX} {g g1 : G} {σ : St} {H H1 : Hp} {R : Ex → G → Prop} (r : RzOk W wx g σ H R) (k : Keep W g g1 H H1) : RzOk W wx g1 σ H1 R :=
  fun ex g' cls d H' k' x q => r ex g' cls d H' (k.trans k') x q
section
variable {G : Type}
structure DE (X : Cx) (c : Fc G) (wx : WX) (e : Expr) (t : DT G) : Prop where
  run : ∃ te, PE X e te ∧ ∀ (ps : List (V × D)) ρ g σ H ow Q R (Qv : VK), Er X.K (c.pn ps) ow ρ g σ H → t ρ g Q R →
    (∀ f g' v H', Keep c.W g g' H H' → FDen X.K c.W c.fr ow H g' H' f v → Q f g' → Qv v H') → RzOk c.W wx g σ H R → te σ H Qv
structure DP (X : Cx) (c : Fc G) (wx : WX) (e : Expr) (t : DTT G) : Prop where
  run : ∃ te, PT X e te ∧ ∀ (ps : List (V × D)) ρ g σ H ow Q R (Qv : Bool → Hp → Prop), Er X.K (c.pn ps) ow ρ g σ H → t ρ g Q R →
    (∀ b g' H', Keep c.W g g' H H' → Q b g' → Qv b H') → RzOk c.W wx g σ H R → te σ H Qv
/-- and, or chains -/
structure DPW (X : Cx) (c : Fc G) (wx : WX) (e : Expr) (t : DTT G) : Prop where
  run : ∃ te, PW X e te ∧ ∀ (ps : List (V × D)) ρ g σ H ow Q R (Qv : Bool → Hp → Prop), Er X.K (c.pn ps) ow ρ g σ H → t ρ g Q R →
    (∀ b g' H', Keep c.W g g' H H' → Q b g' → Qv b H') → RzOk c.W wx g σ H R → te σ H Qv
inductive FAll (P : F → V → Prop) : List F → List V → Prop
  | nil : FAll P [] []
  | cons {f v fs vs} : P f v → FAll P fs vs → FAll P (f :: fs) (v :: vs)
theorem FAll.imp {P P' : F → V → Prop} (h : ∀ f v, P f v → P' f v) : ∀ {fs vs}, FAll P fs vs → FAll P' fs vs
  | _, _, .nil => .nil
  | _, _, .cons a b => .cons (h _ _ a) (FAll.imp h b)
theorem FAll.length {P : F → V → Prop} : ∀ {fs vs}, FAll P fs vs → fs.length = vs.length
  | _, _, .nil => rfl
  | _, _, .cons _ b => by simp [FAll.length b]
/-- new lists stand apart -/
def F.isFresh : F → Bool
  | .fresh _ => true
  | _ => false
def FrNd : List F → List V → Prop
  | f :: fs, v :: vs => (f.isFresh = true → ∀ (j : Nat) (f' : F), fs[j]? = some f' → f'.isFresh = true → vs[j]? ≠ some v) ∧ FrNd fs vs
  | _, _ => True
structure DA (X : Cx) (c : Fc G) (wx : WX) (es : List Expr) (t : DTA G) : Prop where
  run : ∃ te, PA X es te ∧ ∀ (ps : List (V × D)) ρ g σ H ow Q R (Qv : List V → Hp → Prop), Er X.K (c.pn ps) ow ρ g σ H → t ρ g Q R →
    (∀ fs g' vs H', Keep c.W g g' H H' → FAll (FDen X.K c.W c.fr ow H g' H') fs vs → FrNd fs vs → Q fs g' → Qv vs H') → RzOk c.W wx g σ H R → te σ H Qv
/-- what is wanted behind a statement -/
structure DEnds (G : Type) where
  nx : DEnv → G → Prop
  rt : F → G → Prop
  bk : DEnv → G → Prop
  ct : DEnv → G → Prop
  rz : Ex → DEnv → G → Prop
abbrev DSt (G : Type) := DEnv → G → DEnds G → Prop
def SR (K : PySem.W.Frag) (c : Fc G) (ρ : DEnv) (g : G) (σ : St) (H : Hp) : Prop := ∃ ow, Er K c ow ρ g σ H
structure Lift (K : PySem.W.Frag) (c : Fc G) (wx : WX) (E : DEnds G) (B : Ends) : Prop where
  nx : ∀ ρ g σ H, SR K c ρ g σ H → E.nx ρ g → B.nx σ H
  rt : ∀ f g v H, Keep c.W c.g0 g c.H0 H → FDen K c.W c.fr (fun _ => False) c.H0 g H f v → E.rt f g → B.rt v H
  bk : ∀ ρ g σ H, SR K c ρ g σ H → E.bk ρ g → B.bk σ H
  ct : ∀ ρ g σ H, SR K c ρ g σ H → E.ct ρ g → B.ct σ H
  rz : ∀ ex ρ g σ H cls d, SR K c ρ g σ H → XDen ex cls d H → E.rz ex ρ g → wx cls d σ H
structure DS (X : Cx) (c : Fc G) (wx : WX) (st : Stmt) (t : DSt G) : Prop where
  run : ∃ ts, PS X st ts ∧ ∀ (ps : List (V × D)) ρ g σ H E B, SR X.K (c.pn ps) ρ g σ H → t ρ g E → Lift X.K (c.pn ps) wx E B → ts B σ H
structure DSs (X : Cx) (c : Fc G) (wx : WX) (st : List Stmt) (t : DSt G) : Prop where
  run : ∃ ts, PSs X st ts ∧ ∀ (ps : List (V × D)) ρ g σ H E B, SR X.K (c.pn ps) ρ g σ H → t ρ g E → Lift X.K (c.pn ps) wx E B → ts B σ H
structure Cap (k : Nat) (X : Cx) (wx : WX) : Prop where
  tk : Takes X wx
  hp : PassesOwn (model X.prog X.w) X.A X.env X.xe
  hr : Room k X.A
  calm : X.calm = true
  nd : X.N.Nodup
end

/-! ### expressions -/
section
variable {G : Type} {X : Cx} {c : Fc G} {wx : WX} {pos : Pos}
def dName (i : Nat) : DT G := fun ρ g Q _ => match ρ[i]? with
  | some (.val d) => Q (.val d) g
  | some (.own xs) => Q (.bor xs) g
  | some (.fn u) => Q (.fn u) g
  | _ => False
theorem eName (i : Nat) {x : Str} (hN : X.N[i]? = some x := by rfl) (hv : Vis X.env.scope x := by first | exact Or.inl rfl | exact Or.inr (Or.inl rfl) | exact Or.inr (Or.inr rfl)) (hd : (x == ("__debug__" : Str)) = false := by decide)
    (hcd : (x == ("__classdict__" : Str)) = false := by decide) : DE X c wx (.Name x pos) (dName i) := by
  refine ⟨_, pe_var (i := i) hN hv hd hcd, fun ps ρ g σ H ow Q R Qv e t k r => ?_⟩
  have kr : Keep c.W g g H H := Keep.refl e.ok
  unfold dName at t
  split at t
  · rename_i d h
    obtain ⟨v, h1, h2⟩ := e.sl _ _ h
    exact ⟨v, h1, k (.val d) _ _ _ kr h2 t⟩
  · rename_i xs h
    obtain ⟨a, vs, h1, h2, h3, h4⟩ := e.sl _ _ h
    exact ⟨_, h1, k (.bor xs) _ _ _ kr ⟨a, vs, rfl, h2, (e.owd a h2).2.2, h3, h4⟩ t⟩
  · rename_i u h
    have h1 : σ[i]? = some (some u) := e.sl _ _ h
    exact ⟨_, h1, k (.fn u) _ _ _ kr rfl t⟩
  · exact t.elim
def dC (d : D) : DT G := fun _ g Q _ => Q (.val d) g
theorem eConst {e : Expr} {v : V} {d : D} (h : PE X e (tC v)) (hd : ∀ H, Dn X.K H v d) : DE X c wx e (dC d) :=
  ⟨_, h, fun ps ρ g σ H ow Q R Qv e t k r => k (.val d) _ _ _ (Keep.refl e.ok) (hd _) t⟩
theorem eInt {i j} : DE X c wx (.Constant (.int i) j pos) (dC (.int i)) := eConst pe_int fun _ => .int i
theorem eBl {b j} : DE X c wx (.Constant (.bool b) j pos) (dC (.bool b)) := eConst pe_bl fun _ => .bl b
theorem eNon {j} : DE X c wx (.Constant .none j pos) (dC .none) := eConst pe_non fun _ => .non
theorem eStr {x j} : DE X c wx (.Constant (.str x) j pos) (dC (.str x)) := eConst pe_str fun _ => .str x
/-- a constant of the module -/
structure GC (K : PySem.W.Frag) (mg : Str → Option Value) (x : Str) (d : D) : Prop where
  ex : ∃ v u, mg x = some u ∧ RelV v u ∧ ∀ H, Dn K H v d
theorem eGlob {x : Str} {d : D} (h : GC X.K X.mg x d) (hg : Gl X x := by rfl) (hdb : (x == ("__debug__" : Str)) = false := by decide) : DE X c wx (.Name x pos) (dC d) := by
  obtain ⟨v, u, hm, r, hd⟩ := h.ex
  exact eConst (pe_glob hg hm r hdb) hd
/-- an opaque global (a def, a class) as a value -/
def dFn (u : V) : DT G := fun _ g Q _ => Q (.fn u) g
theorem eGlobFn {x : Str} {v : V} {u : Value} (hm : X.mg x = some u) (r : RelV v u) (hg : Gl X x := by rfl) (hdb : (x == ("__debug__" : Str)) = false := by decide) : DE X c wx (.Name x pos) (dFn v) :=
  ⟨_, pe_glob hg hm r hdb, fun ps ρ g σ H ow Q R Qv e t k _ => k (.fn v) _ _ _ (Keep.refl e.ok) rfl t⟩
theorem eBltn {x : Str} {v : V} {u : Value} (hm : X.mg x = none) (hv : bootBuiltins x = some u) (r : RelV v u) (hg : Gl X x := by rfl) (hn : x ≠ "__name__" := by decide) (hdb : (x == ("__debug__" : Str)) = false := by decide) : DE X c wx (.Name x pos) (dFn v) :=
  ⟨_, pe_bltn hg hm hv r hn hdb, fun ps ρ g σ H ow Q R Qv e t k _ => k (.fn v) _ _ _ (Keep.refl e.ok) rfl t⟩

/-! two operands -/
def dBin (dop : F → F → (F → Prop) → Prop) (ta tb : DT G) : DT G := fun ρ g Q R => ta ρ g (fun x g1 => tb ρ g1 (fun y g2 => dop x y fun f => Q f g2) R) R
/-- an operation on values keeps to its data -/
def OpD (X : Cx) (c : Fc G) (r : R2) (dop : F → F → (F → Prop) → Prop) : Prop := ∀ (ps : List (V × D)) (ow : Addr → Prop) (ρ : DEnv) (g gs : G) (σ : St) (H Hs : Hp) (f1 f2 : F) (v1 v2 : V) (k : F → Prop) (Qv : VK),
  Er X.K (c.pn ps) ow ρ g σ H → Keep c.W gs g Hs H → FDen X.K c.W c.fr ow Hs g H f1 v1 → FDen X.K c.W c.fr ow Hs g H f2 v2 → dop f1 f2 k →
    (∀ f v H', Keep c.W g g H H' → FDen X.K c.W c.fr ow Hs g H' f v → k f → Qv v H') → r v1 v2 H Qv
variable {a b : Expr} {ta tb : DT G}
theorem two {tea teb : TE} {R2' : V → V → Hp → Prop} {ρ : DEnv} {g : G} {σ : St} {H : Hp} {ow : Addr → Prop} {ps : List (V × D)} {R : Ex → G → Prop} {Q : F → F → G → Prop}
    (ra : ∀ (ps : List (V × D)) ρ g σ H ow Q R (Qv : VK), Er X.K (c.pn ps) ow ρ g σ H → ta ρ g Q R → (∀ f g' v H', Keep c.W g g' H H' → FDen X.K c.W c.fr ow H g' H' f v → Q f g' → Qv v H') → RzOk c.W wx g σ H R → tea σ H Qv)
    (rb : ∀ (ps : List (V × D)) ρ g σ H ow Q R (Qv : VK), Er X.K (c.pn ps) ow ρ g σ H → tb ρ g Q R → (∀ f g' v H', Keep c.W g g' H H' → FDen X.K c.W c.fr ow H g' H' f v → Q f g' → Qv v H') → RzOk c.W wx g σ H R → teb σ H Qv)
    (e : Er X.K (c.pn ps) ow ρ g σ H) (t : ta ρ g (fun x g1 => tb ρ g1 (fun y g2 => Q x y g2) R) R) (r : RzOk c.W wx g σ H R)
    (k : ∀ x y g' v w H', Keep c.W g g' H H' → Er X.K (c.pn ps) ow ρ g' σ H' → FDen X.K c.W c.fr ow H g' H' x v → FDen X.K c.W c.fr ow H g' H' y w → Q x y g' → R2' v w H') : tea σ H fun v H1 => teb σ H1 fun w H2 => R2' v w H2 := by
  refine ra ps ρ g σ H ow _ R _ e t (fun x g1 v H1 k1 d1 t1 => ?_) r
  refine rb ps ρ g1 σ H1 ow _ R _ (e.keep k1) t1 (fun y g2 w H2 k2 d2 t2 => ?_) (r.keep k1)
  exact k x y g2 v w H2 (k1.trans k2) ((e.keep k1).keep k2) (d1.keep k2) (d2.early k1) t2
theorem eBin {op : Operator} {r : R2} {dop : F → F → (F → Prop) → Prop} (ho : OpR X (binaryOp op) r) (hd : OpD X c r dop) (ha : DE X c wx a ta) (hb : DE X c wx b tb) : DE X c wx (.BinOp a op b pos) (dBin dop ta tb) := by
  obtain ⟨tea, pa, ra⟩ := ha.run
  obtain ⟨teb, pb, rb⟩ := hb.run
  refine ⟨_, pe_op ho pa pb, fun ps ρ g σ H ow Q R Qv e t k rz => ?_⟩
  exact two ra rb e t rz fun x y g' v w H' k1 e1 d1 d2 t1 => hd ps ow ρ g' g σ H' H x y v w _ Qv e1 k1 d1 d2 t1 fun f u H2 k2 d3 q => k f g' u H2 (k1.trans k2) d3 q
theorem eCmp {op : CmpOp} {r : R2} {dop : F → F → (F → Prop) → Prop} (ho : OpR X (compareOp op) r) (hd : OpD X c r dop) (ha : DE X c wx a ta) (hb : DE X c wx b tb) (hm : behindInMarks op b = false := by first | exact nomark _ | rfl) : DE X c wx (.Compare a [op] [b] pos) (dBin dop ta tb) := by
  obtain ⟨tea, pa, ra⟩ := ha.run
  obtain ⟨teb, pb, rb⟩ := hb.run
  refine ⟨_, pe_cmpR ho pa pb hm, fun ps ρ g σ H ow Q R Qv e t k rz => ?_⟩
  exact two ra rb e t rz fun x y g' v w H' k1 e1 d1 d2 t1 => hd ps ow ρ g' g σ H' H x y v w _ Qv e1 k1 d1 d2 t1 fun f u H2 k2 d3 q => k f g' u H2 (k1.trans k2) d3 q
/-- an expression that is True or False, as a test of its comparison -/
def onBool (d : D) (k : Bool → Prop) : Prop := match d with | .bool b => k b | _ => False
theorem onBool_of {d : D} {k : Bool → Prop} (h : onBool d k) : ∃ b, d = .bool b ∧ k b := by
  cases d <;> first | exact h.elim | exact ⟨_, rfl, h⟩
def dBool (t : DT G) : DTT G := fun ρ g Q R => t ρ g (fun f g1 => onBool f.data fun b => Q b g1) R
theorem pCmp {op : CmpOp} {r : R2} {dop : F → F → (F → Prop) → Prop} (ho : OpR X (compareOp op) r) (hd : OpD X c r dop) (ha : DE X c wx a ta) (hb : DE X c wx b tb) (hm : behindInMarks op b = false := by first | exact nomark _ | rfl) : DP X c wx (.Compare a [op] [b] pos) (dBool (dBin dop ta tb)) := by
  obtain ⟨tea, pa, ra⟩ := ha.run
  obtain ⟨teb, pb, rb⟩ := hb.run
  refine ⟨_, pt_cmpR ho pa pb hm, fun ps ρ g σ H ow Q R Qv e t k rz => ?_⟩
  refine two ra rb e t rz fun x y g' v w H' k1 e1 d1 d2 t1 => hd ps ow ρ g' g σ H' H x y v w _ _ e1 k1 d1 d2 t1 fun f u H2 k2 d3 q => ?_
  obtain ⟨b, hb, q⟩ := onBool_of q
  exact ⟨b, d3.bl hb, k b g' H2 (k1.trans k2) q⟩
end
end DL

set_option Elab.async false
set_option linter.all false
set_option autoImplicit false
set_option maxRecDepth 100000
set_option maxHeartbeats 4000000
namespace DL
open PySem PySem.Spec L2
section
variable {G : Type} {X : Cx} {c : Fc G} {wx : WX} {pos : Pos}
variable {K : PySem.W.Frag} {ow : Addr → Prop} {ρ : DEnv} {g g1 gs : G} {σ : St} {H H1 Hs : Hp} {p : Addr}
/-! ### new objects -/
theorem Er.nhd (e : Er K c ow ρ g σ H) (hp : H p = none) : ¬ hd c.W c.fr ow g p := fun z => by
  rcases z with z | z | z
  · exact e.frs p z hp
  · exact e.ows p z hp
  · exact c.W.there e.ok z hp
theorem hd_up {W : Wd G} {fr : Addr → Prop} {o : HO} (hp : H p = none) : Same (vw (hd W fr ow g) H) (vw (hd W fr ow g) (upd H p o)) := vw_same fun a u n q => ⟨n, by rw [upd_ne (ne_of_none q hp)]; exact q⟩
theorem hd_up1 {W : Wd G} {fr : Addr → Prop} {o : HO} (hp : H p = none) : Same (vw (hd W fr ow g) H) (vw (fun b => hd W fr ow g b ∨ b = p) (upd H p o)) := vw_same fun a u n q => ⟨fun z => z.elim n fun z => ne_of_none q hp z, by rw [upd_ne (ne_of_none q hp)]; exact q⟩
theorem Er.newTup (e : Er K c ow ρ g σ H) (hp : H p = none) {vs : List V} {ds : List D} (d : DnAll K (vw (hd c.W c.fr ow g) H) vs ds) : FDen K c.W c.fr ow Hs g (upd H p (.tup vs)) (.val (.tuple ds)) (.ref p) :=
  Dn.tup (SqT.of (vw_some.mpr ⟨e.nhd hp, upd_same⟩)) (DnAll.mono (hd_up hp) d)
theorem Er.newList (e : Er K c ow ρ g σ H) (k : Keep c.W gs g Hs H) (hp : H p = none) {vs : List V} {ds : List D} (d : DnAll K (vw (hd c.W c.fr ow g) H) vs ds) : FDen K c.W c.fr ow Hs g (upd H p (.lst vs)) (.fresh ds) (.ref p) :=
  ⟨p, vs, rfl, k.back hp, fun z => c.W.there e.ok z hp, upd_same, DnAll.mono (hd_up1 hp) d⟩
def F.isD : F → Bool
  | .fn _ => false
  | _ => true
theorem FDen.nodict {W : Wd G} {fr : Addr → Prop} {f : F} {v : V} (x : FDen K W fr ow Hs g H f v) (e : f.isD = true) : ∀ xs, f.data ≠ .dict xs := fun xs q => by
  cases f with
  | val d =>
    have q : d = .dict xs := q
    subst q
    have x : Dn K (vw (hd W fr ow g) H) v (.dict xs) := x
    cases x
  | fresh ys => cases q
  | bor ys => cases q
  | fn u => cases e
theorem FDen.anyD {W : Wd G} {fr : Addr → Prop} {f : F} {v : V} (x : FDen K W fr ow Hs g H f v) (e : f.isD = true) : Dn K H v f.data := x.any (x.nodict e)
theorem isD_of {f : F} (h : ∀ xs, f.data ≠ .dict xs) : f.isD = true := by
  cases f <;> first | rfl | exact absurd rfl (h _)
/-! ### operators -/
def oAdd (x y : F) (k : F → Prop) : Prop := match x.data, y.data with
  | .int i, .int j => k (.val (.int (i + j)))
  | .str a, .str b => a.length + b.length ≤ sizeLine ∧ k (.val (.str (a ++ b)))
  | .tuple a, .tuple b => a.length + b.length ≤ sizeLine ∧ k (.val (.tuple (a ++ b)))
  | .list a, .list b => a.length + b.length ≤ sizeLine ∧ k (.fresh (a ++ b))
  | _, _ => False
theorem od_add : OpD X c (fun x y H Q => (rI0 fun i j => .int (i + j)) x y H Q ∨ (∃ i j, x = .str i ∧ y = .str j ∧ i.length + j.length ≤ sizeLine ∧ Q (.str (i ++ j)) H) ∨ rCatA X.K x y H Q ∨ rCat x y H Q) oAdd := by
  intro ps ow ρ g gs σ H Hs f1 f2 v1 v2 k Qv e kk d1 d2 t q
  have kr : Keep c.W g g H H := Keep.refl e.ok
  unfold oAdd at t
  split at t
  · rename_i i j h1 h2
    exact .inl ⟨i, j, d1.int h1, d2.int h2, q (.val (.int (i + j))) _ H kr (Dn.int _) t⟩
  · rename_i i j h1 h2
    exact .inr (.inl ⟨i, j, d1.str h1, d2.str h2, t.1, q (.val (.str (i ++ j))) _ H kr (Dn.str _) t.2⟩)
  · rename_i xs ys h1 h2
    obtain ⟨a, vs, rfl, s1, a1⟩ := d1.tup h1
    obtain ⟨b, ws, rfl, s2, a2⟩ := d2.tup h2
    refine .inr (.inr (.inl ⟨a, b, vs, ws, rfl, rfl, s1, s2, by rw [a1.length, a2.length]; exact t.1, fun z => ?_, fun z z2 => ?_, fun _ _ p hp => ?_⟩))
    · subst z
      cases a1
      have d2' := d2.dn (by rw [h2]; intro _ z; cases z) (by rw [h2]; intro _ z; cases z)
      rw [h2] at d2'
      exact q (.val (.tuple ys)) _ H kr d2' (by simpa using t.2)
    · subst z2
      cases a2
      have d1' := d1.dn (by rw [h1]; intro _ z; cases z) (by rw [h1]; intro _ z; cases z)
      rw [h1] at d1'
      exact q (.val (.tuple xs)) _ H kr d1' (by simpa using t.2)
    · exact q (.val (.tuple (xs ++ ys))) _ _ (Keep.new1 e.ok hp) (e.newTup hp (a1.append a2)) t.2
  · rename_i xs ys h1 h2
    obtain ⟨a, vs, rfl, s1, a1⟩ := d1.list h1
    obtain ⟨b, ws, rfl, s2, a2⟩ := d2.list h2
    refine .inr (.inr (.inr ⟨a, b, vs, ws, rfl, rfl, s1, s2, by rw [a1.length, a2.length]; exact t.1, fun p hp => ?_⟩))
    exact q (.fresh (xs ++ ys)) _ _ (Keep.new1 e.ok hp) (e.newList kk hp (a1.append a2)) t.2
  · exact t.elim
variable {a b : Expr} {ta tb : DT G}
theorem eAdd (ha : DE X c wx a ta) (hb : DE X c wx b tb) : DE X c wx (.BinOp a .Add b pos) (dBin oAdd ta tb) := eBin (op_add.or (op_add_str.or (op_catA.or op_cat))) od_add ha hb
def oInt (C : Int → Int → Prop) (h : Int → Int → Int) (x y : F) (k : F → Prop) : Prop := match x.data, y.data with
  | .int i, .int j => C i j ∧ k (.val (.int (h i j)))
  | _, _ => False
theorem od_int {C : Int → Int → Prop} {h : Int → Int → Int} : OpD X c (rI C fun i j => .int (h i j)) (oInt C h) := by
  intro ps ow ρ g gs σ H Hs f1 f2 v1 v2 k Qv e kk d1 d2 t q
  unfold oInt at t
  split at t
  · rename_i i j h1 h2
    exact ⟨i, j, d1.int h1, d2.int h2, t.1, q (.val (.int (h i j))) _ H (Keep.refl e.ok) (Dn.int _) t.2⟩
  · exact t.elim
theorem rI0_imp {h : Int → Int → V} {f : Value → Value → Sem Value} (o : OpR X f (rI0 h)) : OpR X f (rI (fun _ _ => True) h) := fun pins s σ H x y v u Q I r1 r2 ⟨i, j, e1, e2, _, q⟩ => o pins s σ H x y v u Q I r1 r2 ⟨i, j, e1, e2, q⟩
theorem eSub (ha : DE X c wx a ta) (hb : DE X c wx b tb) : DE X c wx (.BinOp a .Sub b pos) (dBin (oInt (fun _ _ => True) fun i j => i - j) ta tb) := eBin (rI0_imp op_sub) od_int ha hb
theorem eFdiv (ha : DE X c wx a ta) (hb : DE X c wx b tb) : DE X c wx (.BinOp a .FloorDiv b pos) (dBin (oInt CDivW fun i j => i / j) ta tb) := eBin op_fdivW od_int ha hb
theorem eMod (ha : DE X c wx a ta) (hb : DE X c wx b tb) : DE X c wx (.BinOp a .Mod b pos) (dBin (oInt (fun _ j => 0 < j) fun i j => i % j) ta tb) := eBin op_mod od_int ha hb
theorem eShl (ha : DE X c wx a ta) (hb : DE X c wx b tb) : DE X c wx (.BinOp a .LShift b pos) (dBin (oInt CPow fun i j => i * 2 ^ j.toNat) ta tb) := eBin op_shl od_int ha hb
section
open PyProof.Rows
/-- a tuple that is empty, or taken once: itself -/
theorem tuple_mul1 (l : Addr) (items : Array Value) (n : Nat) (dd : Option Addr) (sl : Array (Option Value)) (x : Int) (u : Tok) (c0 : (decide (x < -(2 ^ 63)) || decide (x ≥ 2 ^ 63)) = false) (c1 : (items.isEmpty || x == 1) = true) :
    Meets (Builtin.«tuple.__mul__» ⟨[.ref l, .int x u], []⟩) (fun _ R s => s.heap.get? l = some { cls := .type "tuple", dict := dd, data := .seq items n, slots := sl } ∧ R (.ok (.ret (Value.ref l))) s) :=
  .of_wp fun prog w A R s h => by
    obtain ⟨hp, g, d, tk, os⟩ := s
    obtain ⟨hl, h⟩ := h
    have f1 := AutoSeq1.idx_int
    wp_walk using wpAny_loadPart' hl
    repeat (first
      | (refine wpAny_ite_false (decide_eq_false (by rw [c0]; exact Bool.false_ne_true)) ?_; wp_walk using wpAny_loadPart' hl)
      | (refine wpAny_ite_true (decide_eq_true c1) ?_; wp_walk using wpAny_loadPart' hl))
    exact ⟨_, rfl, h⟩
def rRep1 (K : PySem.W.Frag) : R2 := fun x y H Q => ∃ l k xs, x = .ref l ∧ y = .int k ∧ SqT K H l xs ∧ (xs = [] ∨ k = 1) ∧ -1000000 ≤ k ∧ k ≤ 1000000 ∧ Q (.ref l) H
theorem op_rep1 : OpR X (binaryOp .Mult) (rRep1 X.K) := by
  intro pins s σ H x y v u Q I rx ry h
  obtain ⟨l, k, xs, rfl, rfl, hT, h1, h2, h3, q⟩ := h
  cases rx
  obtain ⟨t, rfl⟩ := ry
  obtain ⟨its, r, ⟨⟨cls, dd, data, sl⟩, ho, hc, n, hd⟩, hs⟩ := I.tuple hT
  simp only at hc hd
  subst hc hd
  have c0 : (decide (k < -(2 ^ 63)) || decide (k ≥ 2 ^ 63)) = false := by
    rw [decide_eq_false (by omega), decide_eq_false (by omega)] <;> rfl
  have c1 : (its.toArray.isEmpty || k == 1) = true := by
    rcases h1 with h1 | h1
    · subst h1; cases r; rfl
    · subst h1; simp
  exact wpAny_binaryOp_repeat_ref (T := "tuple") (U := "int") (by decide) ⟨_, ho, rfl⟩ (fun s' => typeIs_int s' k t) noFill_tuple_mul F.fills_int_mul F.slot_int_rmul repeat_tuple F.slot_int_index.lookup
    (call_meets F.slot_int_rmul (typeIs_int s k t) F.entry_int_rmul (F.args_int_rmul_2 _ _) (int_rmul_tuple k t l its.toArray n dd sl)
      ⟨ho, rfl, ⟨_, ho, rfl⟩, call_meets F.slot_tuple_mul ⟨_, ho, rfl⟩ F.entry_tuple_mul (F.args_tuple_mul_2 _ _) (tuple_mul1 l its.toArray n dd sl k t c0 c1) ⟨ho, ⟨.ref l, H, I, rfl, q⟩⟩⟩)
end
def oMul (x y : F) (k : F → Prop) : Prop := match x.data, y.data with
  | .int i, .int j => CMulW i j ∧ k (.val (.int (i * j)))
  | .tuple a, .int j => -1000 ≤ j ∧ j ≤ 1000 ∧ a.length ≤ 1000 ∧ (a = [] ∨ 1 ≤ j) ∧ k (.val (.tuple (List.replicate j.toNat a).flatten))
  | .list a, .int j => 0 ≤ j ∧ j ≤ 16777216 ∧ a.length * j.toNat ≤ sizeLine ∧ k (.fresh (List.replicate j.toNat a).flatten)
  | _, _ => False
theorem flat_nil {α : Type} : ∀ n : Nat, (List.replicate n ([] : List α)).flatten = []
  | 0 => rfl
  | n + 1 => by rw [List.replicate_succ, List.flatten_cons, flat_nil n]; rfl
theorem od_mul : OpD X c (fun x y H Q => (rI CMulW fun i j => .int (i * j)) x y H Q ∨ rRepT X.K x y H Q ∨ rRep1 X.K x y H Q ∨ rRep x y H Q) oMul := by
  intro ps ow ρ g gs σ H Hs f1 f2 v1 v2 k Qv e kk d1 d2 t q
  have kr : Keep c.W g g H H := Keep.refl e.ok
  unfold oMul at t
  split at t
  · rename_i i j h1 h2
    exact .inl ⟨i, j, d1.int h1, d2.int h2, t.1, q (.val (.int (i * j))) _ H kr (Dn.int _) t.2⟩
  · rename_i xs j h1 h2
    obtain ⟨a, vs, rfl, s1, a1⟩ := d1.tup h1
    obtain ⟨t1, t2, t3, t4, t5⟩ := t
    have hv2 := d2.int h2
    subst hv2
    by_cases hz : xs = [] ∨ j = 1
    · refine .inr (.inr (.inl ⟨a, j, vs, rfl, rfl, s1, ?_, by omega, by omega, ?_⟩))
      · rcases hz with hz | hz
        · subst hz; cases a1; exact .inl rfl
        · exact .inr hz
      · have d1' := d1.dn (by rw [h1]; intro _ z; cases z) (by rw [h1]; intro _ z; cases z)
        rw [h1] at d1'
        refine q (.val (.tuple xs)) _ H kr d1' ?_
        rcases hz with hz | hz
        · subst hz; rw [flat_nil] at t5; exact t5
        · subst hz; simpa using t5
    · have hne : vs ≠ [] := fun z => by subst z; cases a1; exact hz (.inl rfl)
      have hxs : xs ≠ [] := fun z => hz (.inl z)
      have hj : j ≠ 1 := fun z => hz (.inr z)
      have hj1 : 1 ≤ j := t4.elim (fun z => absurd z hxs) id
      refine .inr (.inl ⟨a, j, vs, rfl, rfl, s1, hne, by omega, t2, by rw [a1.length]; exact t3, fun p hp => ?_⟩)
      exact q (.val (.tuple _)) _ _ (Keep.new1 e.ok hp) (e.newTup hp (a1.rep _)) t5
  · rename_i xs j h1 h2
    obtain ⟨a, vs, rfl, s1, a1⟩ := d1.list h1
    obtain ⟨t1, t2, t3, t4⟩ := t
    refine .inr (.inr (.inr ⟨a, j, vs, rfl, d2.int h2, s1, by omega, by omega, by rw [a1.length]; exact t3, fun p hp => ?_⟩))
    exact q (.fresh _) _ _ (Keep.new1 e.ok hp) (e.newList kk hp (a1.rep _)) t4
  · exact t.elim
theorem eMul (ha : DE X c wx a ta) (hb : DE X c wx b tb) : DE X c wx (.BinOp a .Mult b pos) (dBin oMul ta tb) := eBin (op_mulW.or (op_repT.or (op_rep1.or op_rep))) od_mul ha hb

/-! ### comparisons -/
def oEq (x y : F) (k : F → Prop) : Prop := x.isD = true ∧ y.isD = true ∧ SeqAt.shaped x.data = true ∧ SeqAt.shaped y.data = true ∧ k (.val (.bool (PyData.eqv x.data y.data)))
def oNe (x y : F) (k : F → Prop) : Prop := x.isD = true ∧ y.isD = true ∧ SeqAt.shaped x.data = true ∧ SeqAt.shaped y.data = true ∧ k (.val (.bool (!PyData.eqv x.data y.data)))
theorem od_eq : OpD X c (rEqD X.K) oEq := by
  intro ps ow ρ g gs σ H Hs f1 f2 v1 v2 k Qv e kk d1 d2 t q
  obtain ⟨t1, t2, t3, t4, t5⟩ := t
  exact ⟨_, _, (d1.anyD t1).dp, (d2.anyD t2).dp, t3, t4, q (.val (.bool _)) _ H (Keep.refl e.ok) (Dn.bl _) t5⟩
theorem od_ne : OpD X c (rNeD X.K) oNe := by
  intro ps ow ρ g gs σ H Hs f1 f2 v1 v2 k Qv e kk d1 d2 t q
  obtain ⟨t1, t2, t3, t4, t5⟩ := t
  exact ⟨_, _, (d1.anyD t1).dp, (d2.anyD t2).dp, t3, t4, q (.val (.bool _)) _ H (Keep.refl e.ok) (Dn.bl _) t5⟩
theorem eEq {n : Nat} (C : Cap n X wx) (ha : DE X c wx a ta) (hb : DE X c wx b tb) : DE X c wx (.Compare a [.Eq] [b] pos) (dBin oEq ta tb) := eCmp (op_eqD C.hr.units) od_eq ha hb
theorem eNe {n : Nat} (C : Cap n X wx) (ha : DE X c wx a ta) (hb : DE X c wx b tb) : DE X c wx (.Compare a [.NotEq] [b] pos) (dBin oNe ta tb) := eCmp (op_neD C.hr.units) od_ne ha hb
theorem pEq {n : Nat} (C : Cap n X wx) (ha : DE X c wx a ta) (hb : DE X c wx b tb) : DP X c wx (.Compare a [.Eq] [b] pos) (dBool (dBin oEq ta tb)) := pCmp (op_eqD C.hr.units) od_eq ha hb
theorem pNe {n : Nat} (C : Cap n X wx) (ha : DE X c wx a ta) (hb : DE X c wx b tb) : DP X c wx (.Compare a [.NotEq] [b] pos) (dBool (dBin oNe ta tb)) := pCmp (op_neD C.hr.units) od_ne ha hb
/-- the order of whole numbers -/
def oRel (h : Int → Int → Bool) (x y : F) (k : F → Prop) : Prop := match x.data, y.data with
  | .int i, .int j => k (.val (.bool (h i j)))
  | _, _ => False
theorem od_rel {h : Int → Int → Bool} : OpD X c (rI0 fun i j => .bl (h i j)) (oRel h) := by
  intro ps ow ρ g gs σ H Hs f1 f2 v1 v2 k Qv e kk d1 d2 t q
  unfold oRel at t
  split at t
  · rename_i i j h1 h2
    exact ⟨i, j, d1.int h1, d2.int h2, q (.val (.bool (h i j))) _ H (Keep.refl e.ok) (Dn.bl _) t⟩
  · exact t.elim
abbrev oLt := oRel fun i j => decide (i < j)
abbrev oLe := oRel fun i j => decide (i ≤ j)
abbrev oGt := oRel fun i j => decide (j < i)
abbrev oGe := oRel fun i j => decide (j ≤ i)
theorem eLt (ha : DE X c wx a ta) (hb : DE X c wx b tb) : DE X c wx (.Compare a [.Lt] [b] pos) (dBin oLt ta tb) := eCmp op_lt od_rel ha hb
theorem eLe (ha : DE X c wx a ta) (hb : DE X c wx b tb) : DE X c wx (.Compare a [.LtE] [b] pos) (dBin oLe ta tb) := eCmp op_le od_rel ha hb
theorem eGt (ha : DE X c wx a ta) (hb : DE X c wx b tb) : DE X c wx (.Compare a [.Gt] [b] pos) (dBin oGt ta tb) := eCmp op_gt od_rel ha hb
theorem eGe (ha : DE X c wx a ta) (hb : DE X c wx b tb) : DE X c wx (.Compare a [.GtE] [b] pos) (dBin oGe ta tb) := eCmp op_ge od_rel ha hb
theorem pLt (ha : DE X c wx a ta) (hb : DE X c wx b tb) : DP X c wx (.Compare a [.Lt] [b] pos) (dBool (dBin oLt ta tb)) := pCmp op_lt od_rel ha hb
theorem pLe (ha : DE X c wx a ta) (hb : DE X c wx b tb) : DP X c wx (.Compare a [.LtE] [b] pos) (dBool (dBin oLe ta tb)) := pCmp op_le od_rel ha hb
theorem pGt (ha : DE X c wx a ta) (hb : DE X c wx b tb) : DP X c wx (.Compare a [.Gt] [b] pos) (dBool (dBin oGt ta tb)) := pCmp op_gt od_rel ha hb
theorem pGe (ha : DE X c wx a ta) (hb : DE X c wx b tb) : DP X c wx (.Compare a [.GtE] [b] pos) (dBool (dBin oGe ta tb)) := pCmp op_ge od_rel ha hb
/-- is None -/
def isNon : D → Bool
  | .none => true
  | _ => false
theorem isNon_of {K : PySem.W.Frag} {H : Hp} {v : V} {d : D} (h : Dn K H v d) : decide (v = V.non) = isNon d := by
  cases h <;> simp [isNon]
def oIsN (x y : F) (k : F → Prop) : Prop := x.isD = true ∧ y.data = .none ∧ k (.val (.bool (isNon x.data)))
def oNotN (x y : F) (k : F → Prop) : Prop := x.isD = true ∧ y.data = .none ∧ k (.val (.bool (!isNon x.data)))
theorem od_isN : OpD X c (fun x y H Q => y = .non ∧ Q (.bl (decide (x = .non))) H) oIsN := by
  intro ps ow ρ g gs σ H Hs f1 f2 v1 v2 k Qv e kk d1 d2 t q
  obtain ⟨t1, t2, t3⟩ := t
  refine ⟨d2.non t2, ?_⟩
  rw [isNon_of (d1.anyD t1)]
  exact q (.val (.bool _)) _ H (Keep.refl e.ok) (Dn.bl _) t3
theorem od_notN : OpD X c (fun x y H Q => y = .non ∧ Q (.bl (!decide (x = .non))) H) oNotN := by
  intro ps ow ρ g gs σ H Hs f1 f2 v1 v2 k Qv e kk d1 d2 t q
  obtain ⟨t1, t2, t3⟩ := t
  refine ⟨d2.non t2, ?_⟩
  rw [isNon_of (d1.anyD t1)]
  exact q (.val (.bool _)) _ H (Keep.refl e.ok) (Dn.bl _) t3
theorem eIsN (ha : DE X c wx a ta) (hb : DE X c wx b tb) : DE X c wx (.Compare a [.Is] [b] pos) (dBin oIsN ta tb) := eCmp op_isN od_isN ha hb
theorem eNotN (ha : DE X c wx a ta) (hb : DE X c wx b tb) : DE X c wx (.Compare a [.IsNot] [b] pos) (dBin oNotN ta tb) := eCmp op_notN od_notN ha hb
theorem pIsN (ha : DE X c wx a ta) (hb : DE X c wx b tb) : DP X c wx (.Compare a [.Is] [b] pos) (dBool (dBin oIsN ta tb)) := pCmp op_isN od_isN ha hb
theorem pNotN (ha : DE X c wx a ta) (hb : DE X c wx b tb) : DP X c wx (.Compare a [.IsNot] [b] pos) (dBool (dBin oNotN ta tb)) := pCmp op_notN od_notN ha hb
/-- a < b < c -/
def dChain (d1 d2 : F → F → (F → Prop) → Prop) (ta tb tc : DT G) : DT G := fun ρ g Q R => ta ρ g (fun x g1 => tb ρ g1 (fun y g2 => d1 x y fun f => onBool f.data fun b => if b = true then tc ρ g2 (fun z g3 => d2 y z fun f' => Q f' g3) R else Q (.val (.bool false)) g2) R) R
variable {cc : Expr} {tc : DT G}
theorem eChain {op op' : CmpOp} {r r' : R2} {dop dop' : F → F → (F → Prop) → Prop} (ho : OpR X (compareOp op) r) (ho' : OpR X (compareOp op') r') (hd : OpD X c r dop) (hd' : OpD X c r' dop') (ha : DE X c wx a ta) (hb : DE X c wx b tb) (hc : DE X c wx cc tc)
    (hm : lastMarks [op, op'] [b, cc] = false := by with_unfolding_all rfl) : DE X c wx (.Compare a [op, op'] [b, cc] pos) (dChain dop dop' ta tb tc) := by
  obtain ⟨tea, pa, ra⟩ := ha.run
  obtain ⟨teb, pb, rb⟩ := hb.run
  obtain ⟨tec, pc, rc⟩ := hc.run
  refine ⟨_, pe_chain ho ho' pa pb pc hm, fun ps ρ g σ H ow Q R Qv e t k rz => ?_⟩
  refine two ra rb e t rz fun x y g' v w H' k1 e1 d1 d2 t1 => hd ps ow ρ g' g σ H' H x y v w _ _ e1 k1 d1 d2 t1 fun f u H2 k2 d3 q => ?_
  obtain ⟨b, hb, q⟩ := onBool_of q
  refine ⟨b, d3.bl hb, ?_⟩
  cases b with
  | false => exact k (.val (.bool false)) g' _ H2 (k1.trans k2) (Dn.bl _) q
  | true =>
    refine rc ps ρ g' σ H2 ow _ R _ (e1.keep k2) q (fun z g3 u2 H3 k3 d4 q3 => ?_) (rz.keep (k1.trans k2))
    exact hd' ps ow ρ g3 g σ H3 H y z w u2 _ Qv ((e1.keep k2).keep k3) ((k1.trans k2).trans k3) ((d2.keep k2).keep k3) (d4.early (k1.trans k2)) q3 fun f' u3 H4 k4 d5 q4 => k f' g3 u3 H4 (((k1.trans k2).trans k3).trans k4) d5 q4
theorem pChain {op op' : CmpOp} {r r' : R2} {dop dop' : F → F → (F → Prop) → Prop} (ho : OpR X (compareOp op) r) (ho' : OpR X (compareOp op') r') (hd : OpD X c r dop) (hd' : OpD X c r' dop') (ha : DE X c wx a ta) (hb : DE X c wx b tb) (hc : DE X c wx cc tc)
    (hm : lastMarks [op, op'] [b, cc] = false := by with_unfolding_all rfl) : DP X c wx (.Compare a [op, op'] [b, cc] pos) (dBool (dChain dop dop' ta tb tc)) := by
  obtain ⟨tea, pa, ra⟩ := ha.run
  obtain ⟨teb, pb, rb⟩ := hb.run
  obtain ⟨tec, pc, rc⟩ := hc.run
  refine ⟨_, pt_chain ho ho' pa pb pc hm, fun ps ρ g σ H ow Q R Qv e t k rz => ?_⟩
  refine two ra rb e t rz fun x y g' v w H' k1 e1 d1 d2 t1 => hd ps ow ρ g' g σ H' H x y v w _ _ e1 k1 d1 d2 t1 fun f u H2 k2 d3 q => ?_
  obtain ⟨b, hb, q⟩ := onBool_of q
  refine ⟨b, d3.bl hb, ?_⟩
  cases b with
  | false => exact ⟨false, rfl, k false g' H2 (k1.trans k2) q⟩
  | true =>
    refine rc ps ρ g' σ H2 ow _ R _ (e1.keep k2) q (fun z g3 u2 H3 k3 d4 q3 => ?_) (rz.keep (k1.trans k2))
    refine hd' ps ow ρ g3 g σ H3 H y z w u2 _ _ ((e1.keep k2).keep k3) ((k1.trans k2).trans k3) ((d2.keep k2).keep k3) (d4.early (k1.trans k2)) q3 fun f' u3 H4 k4 d5 q4 => ?_
    obtain ⟨b, hb, q⟩ := onBool_of q4
    exact ⟨b, d5.bl hb, k b g3 H4 (((k1.trans k2).trans k3).trans k4) q⟩
end
end DL

set_option Elab.async false
set_option linter.all false
set_option autoImplicit false
set_option maxRecDepth 100000
set_option maxHeartbeats 4000000
namespace DL
open PySem PySem.Spec L2
section
variable {G : Type} {X : Cx} {c : Fc G} {wx : WX} {pos : Pos}
variable {K : PySem.W.Frag} {ow : Addr → Prop} {ρ : DEnv} {g g1 gs : G} {σ : St} {H H1 Hs : Hp} {p : Addr}
variable {a b : Expr} {ta tb : DT G}
/-! ### truth -/
def onTruth (d : D) (k : Bool → Prop) : Prop := match d with
  | .none => k false
  | .bool b => k b
  | .int i => k (i != 0)
  | .str x => x.length ≤ sizeLine ∧ k ((x.length : Int) != 0)
  | .list xs => k (!xs.isEmpty)
  | .tuple xs => k (!xs.isEmpty)
  | .dict _ => False
def dTruth (t : DT G) : DTT G := fun ρ g Q R => t ρ g (fun f g1 => onTruth f.data fun b => Q b g1) R
theorem empty_of {vs : List V} {ds : List D} (h : DnAll K H vs ds) : (!vs.isEmpty) = !ds.isEmpty := by cases h <;> rfl
theorem tru_of {W : Wd G} {fr : Addr → Prop} {f : F} {v : V} {k : Bool → Prop} (x : FDen K W fr ow Hs g H f v) (t : onTruth f.data k) : ∃ b, TruV K v H b ∧ k b := by
  cases e : f.data with
  | none => rw [e] at t; have := x.non e; subst this; exact ⟨false, rfl, t⟩
  | bool b => rw [e] at t; have := x.bl e; subst this; exact ⟨b, rfl, t⟩
  | int i => rw [e] at t; have := x.int e; subst this; exact ⟨_, rfl, t⟩
  | str y => rw [e] at t; have := x.str e; subst this; exact ⟨_, ⟨t.1, rfl⟩, t.2⟩
  | list xs => rw [e] at t; obtain ⟨a, vs, rfl, h, d⟩ := x.list e; exact ⟨_, .inl ⟨vs, SqL.of h, rfl⟩, by rw [empty_of d]; exact t⟩
  | tuple xs => rw [e] at t; obtain ⟨a, vs, rfl, h, d⟩ := x.tup e; exact ⟨_, .inr (.inl ⟨vs, h, rfl⟩), by rw [empty_of d]; exact t⟩
  | dict xs => rw [e] at t; exact t.elim
theorem pTruth (ha : DE X c wx a ta) (he : ∀ whole, isTrue a X.env whole = (do let v ← whole; standAt a.pos; holding [v] (truthy v)) := by intro _; rfl) : DP X c wx a (dTruth ta) := by
  obtain ⟨te, pa, ra⟩ := ha.run
  refine ⟨_, pt_truth pa he, fun ps ρ g σ H ow Q R Qv e t k rz => ?_⟩
  refine ra ps ρ g σ H ow _ R _ e t (fun f g1 v H1 k1 d1 q => ?_) rz
  obtain ⟨b, h1, h2⟩ := tru_of d1 q
  exact ⟨b, h1, k b g1 H1 k1 h2⟩
/-! ### not, and, or -/
variable {tta ttb : DTT G} {rest : List Expr}
def dNot (t : DTT G) : DTT G := fun ρ g Q R => t ρ g (fun b g1 => Q (!b) g1) R
theorem pNot (h : DP X c wx a tta) : DP X c wx (.UnaryOp .Not a pos) (dNot tta) := by
  obtain ⟨te, pa, ra⟩ := h.run
  exact ⟨_, pt_not pa, fun ps ρ g σ H ow Q R Qv e t k rz => ra ps ρ g σ H ow _ R _ e t (fun b g1 H1 k1 q => k _ g1 H1 k1 q) rz⟩
theorem pAnd1 (h : DP X c wx a tta) : DPW X c wx (.BoolOp .And [a] pos) tta := let ⟨te, pa, ra⟩ := h.run; ⟨te, pw_and1 pa, ra⟩
theorem pOr1 (h : DP X c wx a tta) : DPW X c wx (.BoolOp .Or [a] pos) tta := let ⟨te, pa, ra⟩ := h.run; ⟨te, pw_or1 pa, ra⟩
def dAnd (t u : DTT G) : DTT G := fun ρ g Q R => t ρ g (fun b g1 => if b = true then u ρ g1 Q R else Q false g1) R
def dOr (t u : DTT G) : DTT G := fun ρ g Q R => t ρ g (fun b g1 => if b = true then Q true g1 else u ρ g1 Q R) R
theorem pAnd (ha : DP X c wx a tta) (hb : DPW X c wx (.BoolOp .And (b :: rest) pos) ttb) : DPW X c wx (.BoolOp .And (a :: b :: rest) pos) (dAnd tta ttb) := by
  obtain ⟨tea, pa, ra⟩ := ha.run
  obtain ⟨teb, pb, rb⟩ := hb.run
  refine ⟨_, pw_and pa pb, fun ps ρ g σ H ow Q R Qv e t k rz => ?_⟩
  refine ra ps ρ g σ H ow _ R _ e t (fun b g1 H1 k1 q => ?_) rz
  cases b with
  | true => exact rb ps ρ g1 σ H1 ow Q R Qv (e.keep k1) q (fun b g2 H2 k2 q2 => k b g2 H2 (k1.trans k2) q2) (rz.keep k1)
  | false => exact k false g1 H1 k1 q
theorem pOr (ha : DP X c wx a tta) (hb : DPW X c wx (.BoolOp .Or (b :: rest) pos) ttb) : DPW X c wx (.BoolOp .Or (a :: b :: rest) pos) (dOr tta ttb) := by
  obtain ⟨tea, pa, ra⟩ := ha.run
  obtain ⟨teb, pb, rb⟩ := hb.run
  refine ⟨_, pw_or pa pb, fun ps ρ g σ H ow Q R Qv e t k rz => ?_⟩
  refine ra ps ρ g σ H ow _ R _ e t (fun b g1 H1 k1 q => ?_) rz
  cases b with
  | false => exact rb ps ρ g1 σ H1 ow Q R Qv (e.keep k1) q (fun b g2 H2 k2 q2 => k b g2 H2 (k1.trans k2) q2) (rz.keep k1)
  | true => exact k true g1 H1 k1 q
theorem pW (h : DPW X c wx a tta) : DP X c wx a tta := let ⟨te, pa, ra⟩ := h.run; ⟨te, pa.pt, ra⟩
/-- as values: all but the last are True or False -/
def dAndV (t u : DT G) : DT G := fun ρ g Q R => t ρ g (fun f g1 => onBool f.data fun b => if b = true then u ρ g1 Q R else Q (.val (.bool false)) g1) R
def dOrV (t u : DT G) : DT G := fun ρ g Q R => t ρ g (fun f g1 => onBool f.data fun b => if b = true then Q (.val (.bool true)) g1 else u ρ g1 Q R) R
def dNotV (t : DT G) : DT G := fun ρ g Q R => t ρ g (fun f g1 => onBool f.data fun b => Q (.val (.bool (!b))) g1) R
theorem eOne {op} (h : DE X c wx a ta) : DE X c wx (.BoolOp op [a] pos) ta := let ⟨te, pa, ra⟩ := h.run; ⟨te, pe_one pa, ra⟩
theorem eAnd (ha : DE X c wx a ta) (hb : DE X c wx (.BoolOp .And (b :: rest) pos) tb) : DE X c wx (.BoolOp .And (a :: b :: rest) pos) (dAndV ta tb) := by
  obtain ⟨tea, pa, ra⟩ := ha.run
  obtain ⟨teb, pb, rb⟩ := hb.run
  refine ⟨_, pe_and pa pb, fun ps ρ g σ H ow Q R Qv e t k rz => ?_⟩
  refine ra ps ρ g σ H ow _ R _ e t (fun f g1 v H1 k1 d1 q => ?_) rz
  obtain ⟨b, hb, q⟩ := onBool_of q
  refine ⟨b, d1.bl hb, ?_⟩
  cases b with
  | true => exact rb ps ρ g1 σ H1 ow Q R Qv (e.keep k1) q (fun f g2 v H2 k2 d2 q2 => k f g2 v H2 (k1.trans k2) (d2.early k1) q2) (rz.keep k1)
  | false => exact k (.val (.bool false)) g1 _ H1 k1 (Dn.bl _) q
theorem eOr (ha : DE X c wx a ta) (hb : DE X c wx (.BoolOp .Or (b :: rest) pos) tb) : DE X c wx (.BoolOp .Or (a :: b :: rest) pos) (dOrV ta tb) := by
  obtain ⟨tea, pa, ra⟩ := ha.run
  obtain ⟨teb, pb, rb⟩ := hb.run
  refine ⟨_, pe_or pa pb, fun ps ρ g σ H ow Q R Qv e t k rz => ?_⟩
  refine ra ps ρ g σ H ow _ R _ e t (fun f g1 v H1 k1 d1 q => ?_) rz
  obtain ⟨b, hb, q⟩ := onBool_of q
  refine ⟨b, d1.bl hb, ?_⟩
  cases b with
  | false => exact rb ps ρ g1 σ H1 ow Q R Qv (e.keep k1) q (fun f g2 v H2 k2 d2 q2 => k f g2 v H2 (k1.trans k2) (d2.early k1) q2) (rz.keep k1)
  | true => exact k (.val (.bool true)) g1 _ H1 k1 (Dn.bl _) q
theorem eNot (ha : DE X c wx a ta) : DE X c wx (.UnaryOp .Not a pos) (dNotV ta) := by
  obtain ⟨tea, pa, ra⟩ := ha.run
  refine ⟨_, pe_not pa, fun ps ρ g σ H ow Q R Qv e t k rz => ?_⟩
  refine ra ps ρ g σ H ow _ R _ e t (fun f g1 v H1 k1 d1 q => ?_) rz
  obtain ⟨b, hb, q⟩ := onBool_of q
  exact ⟨b, d1.bl hb, k (.val (.bool _)) g1 _ H1 k1 (Dn.bl _) q⟩
def onInt (d : D) (k : Int → Prop) : Prop := match d with | .int b => k b | _ => False
theorem onInt_of {d : D} {k : Int → Prop} (h : onInt d k) : ∃ b, d = .int b ∧ k b := by
  cases d <;> first | exact h.elim | exact ⟨_, rfl, h⟩
def dNeg (t : DT G) : DT G := fun ρ g Q R => t ρ g (fun f g1 => onInt f.data fun i => Q (.val (.int (-i))) g1) R
theorem eNeg (ha : DE X c wx a ta) : DE X c wx (.UnaryOp .USub a pos) (dNeg ta) := by
  obtain ⟨tea, pa, ra⟩ := ha.run
  refine ⟨_, pe_un un_neg pa, fun ps ρ g σ H ow Q R Qv e t k rz => ?_⟩
  refine ra ps ρ g σ H ow _ R _ e t (fun f g1 v H1 k1 d1 q => ?_) rz
  obtain ⟨i, hi, q⟩ := onInt_of q
  exact ⟨i, d1.int hi, k (.val (.int _)) g1 _ H1 k1 (Dn.int _) q⟩
/-- a if t else b -/
def dIf (t : DTT G) (ta tb : DT G) : DT G := fun ρ g Q R => t ρ g (fun b g1 => if b = true then ta ρ g1 Q R else tb ρ g1 Q R) R
theorem eIf {cc : Expr} {tt : DTT G} (hc : DP X c wx cc tt) (ha : DE X c wx a ta) (hb : DE X c wx b tb) : DE X c wx (.IfExp cc a b pos) (dIf tt ta tb) := by
  obtain ⟨tec, pc, rc⟩ := hc.run
  obtain ⟨tea, pa, ra⟩ := ha.run
  obtain ⟨teb, pb, rb⟩ := hb.run
  refine ⟨_, pe_ifExp pc pa pb, fun ps ρ g σ H ow Q R Qv e t k rz => ?_⟩
  refine rc ps ρ g σ H ow _ R _ e t (fun b g1 H1 k1 q => ?_) rz
  cases b with
  | true => exact ra ps ρ g1 σ H1 ow Q R Qv (e.keep k1) q (fun f g2 v H2 k2 d2 q2 => k f g2 v H2 (k1.trans k2) (d2.early k1) q2) (rz.keep k1)
  | false => exact rb ps ρ g1 σ H1 ow Q R Qv (e.keep k1) q (fun f g2 v H2 k2 d2 q2 => k f g2 v H2 (k1.trans k2) (d2.early k1) q2) (rz.keep k1)
/-! ### arguments, displays -/
variable {es : List Expr} {t' : DTA G}
theorem FAll.get {P : F → V → Prop} : ∀ {fs : List F} {vs : List V} {j : Nat} {f : F}, FAll P fs vs → fs[j]? = some f → ∃ v, vs[j]? = some v ∧ P f v
  | _, _, _, _, .nil, e => by simp at e
  | _, _, 0, _, .cons x _, e => by simp at e; subst e; exact ⟨_, rfl, x⟩
  | _, _, j + 1, f, .cons _ r, e => by
    obtain ⟨v, h1, h2⟩ := FAll.get (j := j) (f := f) r (by simpa using e)
    exact ⟨v, by simpa using h1, h2⟩
def dNil : DTA G := fun _ g Q _ => Q [] g
def dCons (t : DT G) (u : DTA G) : DTA G := fun ρ g Q R => t ρ g (fun f g1 => u ρ g1 (fun fs g2 => Q (f :: fs) g2) R) R
theorem aNil : DA X c wx [] dNil := ⟨_, pa_nil, fun ps ρ g σ H ow Q R Qv e t k rz => k [] g [] H (Keep.refl e.ok) .nil trivial t⟩
theorem aCons (ha : DE X c wx a ta) (hr : DA X c wx es t') (hs : starEach (a :: es) X.env = (false, eval a X.env) :: starEach es X.env := by rfl) : DA X c wx (a :: es) (dCons ta t') := by
  obtain ⟨tea, pa, ra⟩ := ha.run
  obtain ⟨teb, pb, rb⟩ := hr.run
  refine ⟨_, pa_cons pa pb hs, fun ps ρ g σ H ow Q R Qv e t k rz => ?_⟩
  refine ra ps ρ g σ H ow _ R _ e t (fun f g1 v H1 k1 d1 q => ?_) rz
  refine rb ps ρ g1 σ H1 ow _ R _ (e.keep k1) q (fun fs g2 vs H2 k2 d2 nd q2 => k (f :: fs) g2 (v :: vs) H2 (k1.trans k2) (.cons (d1.keep k2) (d2.imp fun _ _ x => x.early k1)) ⟨fun hf j f' h1 h2 h3 => ?_, nd⟩ q2) (rz.keep k1)
  cases f with
  | fresh xs =>
    obtain ⟨a, ws, rfl, n, nh, ha, _⟩ := d1
    obtain ⟨v', hv', x⟩ := d2.get h1
    rw [h3] at hv'; cases hv'
    cases f' with
    | fresh ys =>
      obtain ⟨b, us, hb, n2, _⟩ := x
      cases hb
      rw [n2] at ha; cases ha
    | _ => cases h2
  | _ => cases hf
theorem all_safe (e : Er K c ow ρ g1 σ H1) (k : Keep c.W gs g1 Hs H1) (e0 : ∀ a, ow a → Hs a ≠ none) (e1 : ∀ a, c.fr a → Hs a ≠ none) : ∀ {fs : List F} {vs : List V}, FAll (FDen K c.W c.fr ow Hs g1 H1) fs vs → fs.all F.safe = true → DnAll K (vw (hd c.W c.fr ow g1) H1) vs (fs.map F.data)
  | _, _, .nil, _ => .nil
  | _, _, .cons x r, h => by
    rw [List.all_cons, Bool.and_eq_true] at h
    exact .cons (x.safe e0 e1 h.1) (all_safe e k e0 e1 r h.2)
def dTup (t : DTA G) : DT G := fun ρ g Q R => t ρ g (fun fs g1 => fs.all F.safe = true ∧ fs.length ≤ sizeLine ∧ Q (.val (.tuple (fs.map F.data))) g1) R
def dLst (t : DTA G) : DT G := fun ρ g Q R => t ρ g (fun fs g1 => fs.all F.safe = true ∧ fs.length ≤ sizeLine ∧ Q (.fresh (fs.map F.data)) g1) R
theorem eTup {x1} (h : DA X c wx es t') : DE X c wx (.Tuple es x1 pos) (dTup t') := by
  obtain ⟨te, pa, ra⟩ := h.run
  refine ⟨_, pe_tup pa, fun ps ρ g σ H ow Q R Qv e t k rz => ?_⟩
  refine ra ps ρ g σ H ow _ R _ e t (fun fs g1 vs H1 k1 d1 _ q => ?_) rz
  obtain ⟨q1, q2, q3⟩ := q
  have e1 := e.keep k1
  refine ⟨by rw [← d1.length]; exact q2, fun p hp => ?_⟩
  exact k (.val (.tuple _)) g1 _ _ (k1.trans (Keep.new1 e1.ok hp)) (e1.newTup hp (all_safe e1 k1 e.ows e.frs d1 q1)) q3
theorem eLst (h : DA X c wx es t') : DE X c wx (.List es pos) (dLst t') := by
  obtain ⟨te, pa, ra⟩ := h.run
  refine ⟨_, pe_lst pa, fun ps ρ g σ H ow Q R Qv e t k rz => ?_⟩
  refine ra ps ρ g σ H ow _ R _ e t (fun fs g1 vs H1 k1 d1 _ q => ?_) rz
  obtain ⟨q1, q2, q3⟩ := q
  have e1 := e.keep k1
  refine ⟨by rw [← d1.length]; exact q2, fun p hp => ?_⟩
  exact k (.fresh _) g1 _ _ (k1.trans (Keep.new1 e1.ok hp)) (e1.newList k1 hp (all_safe e1 k1 e.ows e.frs d1 q1)) q3
/-! ### subscripts -/
theorem atI_dn {vs : List V} {ds : List D} {i : Int} {d : D} (h : DnAll K H vs ds) (e : atI ds i = some d) : ∃ v, atI vs i = some v ∧ Dn K H v d := by
  unfold atI at e ⊢
  rw [← h.length] at e
  cases q : ixN vs.length i with
  | none => rw [q] at e; cases e
  | some j =>
    rw [q] at e
    exact h.get (i := j) (d := d) e
def onSome {α : Type} (o : Option α) (k : α → Prop) : Prop := match o with
  | some x => k x
  | none => False
theorem onSome_of {α : Type} {o : Option α} {k : α → Prop} (h : onSome o k) : ∃ x, o = some x ∧ k x := by
  cases o with
  | none => exact h.elim
  | some x => exact ⟨x, rfl, h⟩
def oIx (x y : F) (k : F → Prop) : Prop := match x.data, y.data with
  | .list xs, .int i => onSome (atI xs i) fun d => k (.val d)
  | .tuple xs, .int i => onSome (atI xs i) fun d => k (.val d)
  | .str z, .int i => z.length ≤ sizeLine ∧ onSome (atI z.cps.toList i) fun ch => k (.val (.str ⟨#[ch]⟩))
  | _, _ => False
theorem od_ix : OpD X c (rIx X.K) oIx := by
  intro ps ow ρ g gs σ H Hs f1 f2 v1 v2 k Qv e kk d1 d2 t q
  have kr : Keep c.W g g H H := Keep.refl e.ok
  unfold oIx at t
  split at t
  · rename_i xs i h1 h2
    obtain ⟨a, vs, rfl, s1, a1⟩ := d1.list h1
    obtain ⟨d, h3, t⟩ := onSome_of t
    obtain ⟨v, h4, h5⟩ := atI_dn a1 h3
    exact .inl ⟨a, vs, i, v, rfl, d2.int h2, SqL.of s1, h4, q (.val d) _ H kr h5 t⟩
  · rename_i xs i h1 h2
    obtain ⟨a, vs, rfl, s1, a1⟩ := d1.tup h1
    obtain ⟨d, h3, t⟩ := onSome_of t
    obtain ⟨v, h4, h5⟩ := atI_dn a1 h3
    exact .inr (.inl ⟨a, vs, i, v, rfl, d2.int h2, s1, h4, q (.val d) _ H kr h5 t⟩)
  · rename_i z i h1 h2
    obtain ⟨t1, t⟩ := t
    obtain ⟨ch, h3, t⟩ := onSome_of t
    exact .inr (.inr ⟨z, i, ch, d1.str h1, d2.int h2, t1, h3, q (.val (.str _)) _ H kr (Dn.str _) t⟩)
  · exact t.elim
theorem eIx (ha : DE X c wx a ta) (hb : DE X c wx b tb) (hs : PlainIx b := by intro _ _; rfl) : DE X c wx (.Subscript a b pos) (dBin oIx ta tb) := by
  obtain ⟨tea, pa, ra⟩ := ha.run
  obtain ⟨teb, pb, rb⟩ := hb.run
  refine ⟨_, pe_ix ix_seq pa pb hs, fun ps ρ g σ H ow Q R Qv e t k rz => ?_⟩
  exact two ra rb e t rz fun x y g' v w H' k1 e1 d1 d2 t1 => od_ix ps ow ρ g' g σ H' H x y v w _ Qv e1 k1 d1 d2 t1 fun f u H2 k2 d3 q => k f g' u H2 (k1.trans k2) d3 q
/-! slices -/
abbrev DTO (G : Type) := DEnv → G → (Option Int → G → Prop) → (Ex → G → Prop) → Prop
structure DO (X : Cx) (c : Fc G) (wx : WX) (e : Option Expr) (t : DTO G) : Prop where
  run : ∃ te, PO X e te ∧ ∀ (ps : List (V × D)) ρ g σ H ow Q R (Qv : Option Int → Hp → Prop), Er X.K (c.pn ps) ow ρ g σ H → t ρ g Q R →
    (∀ o g' H', Keep c.W g g' H H' → Q o g' → Qv o H') → RzOk c.W wx g σ H R → te σ H Qv
def dNo : DTO G := fun _ g Q _ => Q none g
def dPart (t : DT G) : DTO G := fun ρ g Q R => t ρ g (fun f g1 => onInt f.data fun i => Q (some i) g1) R
theorem oNone : DO X c wx none dNo := ⟨_, po_none, fun ps ρ g σ H ow Q R Qv e t k rz => k none g H (Keep.refl e.ok) t⟩
theorem oSome (h : DE X c wx a ta) : DO X c wx (some a) (dPart ta) := by
  obtain ⟨te, pa, ra⟩ := h.run
  refine ⟨_, po_some pa, fun ps ρ g σ H ow Q R Qv e t k rz => ?_⟩
  refine ra ps ρ g σ H ow _ R _ e t (fun f g1 v H1 k1 d1 q => ?_) rz
  obtain ⟨i, hi, q⟩ := onInt_of q
  exact ⟨i, d1.int hi, k (some i) g1 H1 k1 q⟩
def cutL {α : Type} (xs : List α) (lo hi : Option Int) : List α := (xs.drop (HT.sIx xs.length 0 lo)).take (HT.sIx xs.length xs.length hi - HT.sIx xs.length 0 lo)
theorem DnAll.cut {vs : List V} {ds : List D} (h : DnAll K H vs ds) (lo hi : Option Int) : DnAll K H (cutV vs lo hi) (cutL ds lo hi) := by
  unfold cutV cutL
  rw [h.length]
  exact (h.drop _).take _
theorem cutL_whole {α : Type} {xs : List α} {lo hi : Option Int} (h : HT.sIx xs.length 0 lo = 0 ∧ HT.sIx xs.length xs.length hi = xs.length) : cutL xs lo hi = xs := by
  unfold cutL
  rw [h.1, h.2]
  simp
def oSl (x : F) (lo hi : Option Int) (k : F → Prop) : Prop := match x.data with
  | .list xs => k (.fresh (cutL xs lo hi))
  | .tuple xs => k (.val (.tuple (cutL xs lo hi)))
  | .str z => z.length ≤ sizeLine ∧ k (.val (.str (cutS z lo hi)))
  | _ => False
def dSl (ta : DT G) (tl th : DTO G) : DT G := fun ρ g Q R => ta ρ g (fun x g1 => tl ρ g1 (fun l g2 => th ρ g2 (fun h g3 => oSl x l h fun f => Q f g3) R) R) R
theorem eSlice {lo hi : Option Expr} {p2 : Pos} {tl th : DTO G} (ha : DE X c wx a ta) (hl : DO X c wx lo tl) (hh : DO X c wx hi th) : DE X c wx (.Subscript a (.Slice lo hi none p2) pos) (dSl ta tl th) := by
  obtain ⟨tea, pa, ra⟩ := ha.run
  obtain ⟨tel, pl, rl⟩ := hl.run
  obtain ⟨teh, ph, rh⟩ := hh.run
  refine ⟨_, pe_slice (sl_list.or (sl_tupA.or sl_str)) pa pl ph, fun ps ρ g σ H ow Q R Qv e t k rz => ?_⟩
  refine ra ps ρ g σ H ow _ R _ e t (fun x g1 v H1 k1 d1 q => ?_) rz
  refine rl ps ρ g1 σ H1 ow _ R _ (e.keep k1) q (fun l g2 H2 k2 q2 => ?_) (rz.keep k1)
  have k12 := k1.trans k2
  refine rh ps ρ g2 σ H2 ow _ R _ (e.keep k12) q2 (fun u g3 H3 k3 q3 => ?_) (rz.keep k12)
  have k13 := k12.trans k3
  have e3 := e.keep k13
  have d3 := d1.keep (k2.trans k3)
  unfold oSl at q3
  split at q3
  · rename_i xs h1
    obtain ⟨a, vs, rfl, s1, a1⟩ := d3.list h1
    exact .inl ⟨a, vs, rfl, SqL.of s1, fun p hp => k (.fresh _) g3 _ _ (k13.trans (Keep.new1 e3.ok hp)) (e3.newList k13 hp (a1.cut l u)) q3⟩
  · rename_i xs h1
    obtain ⟨a, vs, rfl, s1, a1⟩ := d3.tup h1
    refine .inr (.inl ⟨a, vs, rfl, s1, fun hw => ?_, fun _ p hp => ?_⟩)
    · rw [a1.length] at hw
      rw [cutL_whole hw] at q3
      have d1' := d3.dn (by rw [h1]; intro _ z; cases z) (by rw [h1]; intro _ z; cases z)
      rw [h1] at d1'
      exact k (.val (.tuple xs)) g3 _ _ k13 d1' q3
    · exact k (.val (.tuple _)) g3 _ _ (k13.trans (Keep.new1 e3.ok hp)) (e3.newTup hp (a1.cut l u)) q3
  · rename_i z h1
    exact .inr (.inr ⟨z, d3.str h1, q3.1, k (.val (.str _)) g3 _ _ k13 (Dn.str _) q3.2⟩)
  · exact q3.elim
/-! ### a def's contract -/
abbrev DSpec (G : Type) := DEnv → G → (F → G → Prop) → (Ex → G → Prop) → Prop
def ArgsOk (K : PySem.W.Frag) (Hv : Hp) : DEnv → List V → Prop
  | [], [] => True
  | .val d :: r, v :: vs => Dn K Hv v d ∧ ArgsOk K Hv r vs
  | .fn u :: r, v :: vs => v = u ∧ ArgsOk K Hv r vs
  | _, _ => False
theorem ArgsOk.length {Hv : Hp} : ∀ {as : DEnv} {vs : List V}, ArgsOk K Hv as vs → as.length = vs.length
  | [], [], _ => rfl
  | .val d :: r, v :: vs, h => by simp [ArgsOk.length (as := r) (vs := vs) h.2]
  | .fn u :: r, v :: vs, h => by simp [ArgsOk.length (as := r) (vs := vs) h.2]
  | .none :: r, v :: vs, h => h.elim
  | .own _ :: r, v :: vs, h => h.elim
  | [], _ :: _, h => h.elim
  | .val d :: r, [], h => h.elim
  | .fn u :: r, [], h => h.elim
  | .none :: r, [], h => h.elim
  | .own _ :: r, [], h => h.elim
def spOf (K : PySem.W.Frag) (W : Wd G) (np : Nat) (sp : DSpec G) : Sp := fun vs H Q E => ∃ (fr : Addr → Prop) (args : DEnv) (g : G) (Qd : F → G → Prop) (Rd : Ex → G → Prop), args.length = np ∧ ArgsOk K (vw (hd W fr (fun _ => False) g) H) args vs ∧ W.ok g H ∧ (∀ a, fr a → H a ≠ none) ∧ sp args g Qd Rd ∧
  (∀ f g' v H', Keep W g g' H H' → FDen K W fr (fun _ => False) H g' H' f v → Qd f g' → Q v H') ∧ (∀ ex g' cls d H', Keep W g g' H H' → XDen ex cls d H' → Rd ex g' → E cls d H')
/-- the def nm keeps the contract spec -/
structure DFn (P : Program) (w : World) (K : PySem.W.Frag) (mg : Str → Option Value) (base : Heap) (W : Wd G) (nm : Str) (k np : Nat) (spec : DSpec G) : Prop where
  ex : ∃ f fd ps, mg nm = some (.ref f) ∧ PySem.W.keepIn K (.ref f) = true ∧ Binds K fd ps [] ∧ ps.length = np ∧ FnOk P w K mg base (L2.CX P w) k f fd ps (spOf K W np spec)
/-! nothing in it is a list -/
mutual
def lf : D → Bool
  | .list _ => false
  | .tuple xs => lfAll xs
  | _ => true
def lfAll : List D → Bool
  | [] => true
  | d :: ds => lf d && lfAll ds
end
/-! hidden lists don't matter to data without lists -/
mutual
theorem Dn.lf {p q : Addr → Prop} (h : ∀ a, q a → ¬ p a → ∃ vs, H a = some (.lst vs)) : ∀ {v : V} {d : D}, Dn K (vw p H) v d → lf d = true → Dn K (vw q H) v d
  | _, _, .non, _ => .non
  | _, _, .bl b, _ => .bl b
  | _, _, .int i, _ => .int i
  | _, _, .str x, _ => .str x
  | _, _, .lst _ _, z => by cases z
  | _, _, .tup (a := a) s x, z => by
    refine .tup ?_ (DnAll.lf h x (by simpa [DL.lf] using z))
    rcases s with (s | ⟨o, s⟩) | s
    · obtain ⟨n, e⟩ := vw_some.mp s
      refine .inl (.inl (vw_some.mpr ⟨fun hq => ?_, e⟩))
      obtain ⟨vs, e2⟩ := h a hq n
      rw [e] at e2; cases e2
    · obtain ⟨n, e⟩ := vw_some.mp s
      refine .inl (.inr ⟨o, vw_some.mpr ⟨fun hq => ?_, e⟩⟩)
      obtain ⟨vs, e2⟩ := h a hq n
      rw [e] at e2; cases e2
    · exact .inr s
theorem DnAll.lf {p q : Addr → Prop} (h : ∀ a, q a → ¬ p a → ∃ vs, H a = some (.lst vs)) : ∀ {v : List V} {d : List D}, DnAll K (vw p H) v d → lfAll d = true → DnAll K (vw q H) v d
  | _, _, .nil, _ => .nil
  | _, _, .cons a b, z => by
    rw [lfAll, Bool.and_eq_true] at z
    exact .cons (Dn.lf h a z.1) (DnAll.lf h b z.2)
end
def F.noBor : F → Bool
  | .bor _ => false
  | _ => true
def F.lfree : F → Bool
  | .val d => lf d
  | .fresh xs => lfAll xs
  | .bor _ => false
  | .fn _ => false
def dCall (np : Nat) (spec : DSpec G) (t : DTA G) : DT G := fun ρ g Q R => t ρ g (fun fs g1 => fs.length = np ∧ spec (fs.map F.slot) g1 (fun f g2 => (fs.all F.noBor = true ∨ f.lfree = true) ∧ Q f g2) R) R
theorem args_all (e : Er K c ow ρ g1 σ H1) (e0 : ∀ a, ow a → Hs a ≠ none) (e1 : ∀ a, c.fr a → Hs a ≠ none) : ∀ {fs : List F} {vs : List V}, FAll (FDen K c.W c.fr ow Hs g1 H1) fs vs → fs.all F.noBor = true → ArgsOk K (vw (hd c.W (fun a => c.fr a ∨ ow a) (fun _ => False) g1) H1) (fs.map F.slot) vs
  | _, _, .nil, _ => trivial
  | _, _, .cons (f := f) x r, h => by
    rw [List.all_cons, Bool.and_eq_true] at h
    have ih := args_all e e0 e1 r h.2
    have sm : Same (vw (hd c.W c.fr ow g1) H1) (vw (hd c.W (fun a => c.fr a ∨ ow a) (fun _ => False) g1) H1) := vw_same fun a o n q => ⟨fun z => n (by
      rcases z with (z | z) | z | z
      · exact .inl z
      · exact .inr (.inl z)
      · exact z.elim
      · exact .inr (.inr z)), q⟩
    cases f with
    | val d => exact ⟨Dn.mono sm x, ih⟩
    | fresh xs => exact ⟨Dn.mono sm (x.safe e0 e1 rfl), ih⟩
    | bor xs => cases h.1
    | fn u => exact ⟨x, ih⟩
theorem args_bor (e : Er K c ow ρ g1 σ H1) (e0 : ∀ a, ow a → Hs a ≠ none) (e1 : ∀ a, c.fr a → Hs a ≠ none) : ∀ {fs : List F} {vs : List V}, FAll (FDen K c.W c.fr ow Hs g1 H1) fs vs → ArgsOk K (vw (hd c.W c.fr (fun _ => False) g1) H1) (fs.map F.slot) vs
  | _, _, .nil => trivial
  | _, _, .cons (f := f) x r => by
    have ih := args_bor e e0 e1 r
    have sm : Same (vw (hd c.W c.fr ow g1) H1) (vw (hd c.W c.fr (fun _ => False) g1) H1) := vw_same fun a o n q => ⟨fun z => n (by
      rcases z with z | z | z
      · exact .inl z
      · exact z.elim
      · exact .inr (.inr z)), q⟩
    cases f with
    | val d => exact ⟨Dn.mono sm x, ih⟩
    | fresh xs => exact ⟨Dn.mono sm (x.safe e0 e1 rfl), ih⟩
    | bor xs =>
      obtain ⟨a, vs, rfl, h1, h2, h3, h4⟩ := x
      refine ⟨.lst (vw_some.mpr ⟨fun z => ?_, h3⟩) (DnAll.mono sm h4), ih⟩
      rcases z with z | z | z
      · exact e.nfr a h1 z
      · exact z.elim
      · exact h2 z
    | fn u => exact ⟨x, ih⟩
theorem FDen.unhide {W : Wd G} {fr : Addr → Prop} {f : F} {v : V} (x : FDen K W (fun a => fr a ∨ ow a) (fun _ => False) Hs g H f v) : FDen K W fr ow Hs g H f v := by
  have sm : Same (vw (hd W (fun a => fr a ∨ ow a) (fun _ => False) g) H) (vw (hd W fr ow g) H) := vw_same fun a o n q => ⟨fun z => n (by
      rcases z with z | z | z
      · exact .inl (.inl z)
      · exact .inl (.inr z)
      · exact .inr (.inr z)), q⟩
  cases f with
  | val d => exact Dn.mono sm x
  | fresh xs =>
    obtain ⟨a, vs, h1, h2, h3, h4, h5⟩ := x
    refine ⟨a, vs, h1, h2, h3, h4, DnAll.mono (vw_same fun b o n q => ⟨fun z => n ?_, q⟩) h5⟩
    rcases z with (z | z | z) | z
    · exact .inl (.inl (.inl z))
    · exact .inl (.inl (.inr z))
    · exact .inl (.inr (.inr z))
    · exact .inr z
  | bor xs =>
    obtain ⟨a, vs, h1, h2, h3⟩ := x
    exact h2.elim
  | fn u => exact x
theorem FDen.lfree {f : F} {v : V} (e : Er K c ow ρ g σ H) (x : FDen K c.W c.fr (fun _ => False) Hs g H f v) (h0 : ∀ a, ow a → Hs a ≠ none) (h : f.lfree = true) : FDen K c.W c.fr ow Hs g H f v := by
  cases f with
  | val d => exact Dn.lf (fun a hq np => by
      rcases hq with z | z | z
      · exact absurd (.inl z) np
      · exact (e.owd a z).1
      · exact absurd (.inr (.inr z)) np) x h
  | fresh xs =>
    obtain ⟨a, vs, h1, h2, h3, h4, h5⟩ := x
    refine ⟨a, vs, h1, h2, h3, h4, DnAll.lf (fun b hq np => ?_) h5 h⟩
    rcases hq with (z | z | z) | z
    · exact absurd (.inl (.inl z)) np
    · exact (e.owd b z).1
    · exact absurd (.inl (.inr (.inr z))) np
    · exact absurd (.inr z) np
  | bor xs => cases h
  | fn u => cases h
theorem WE_at {W : WX} {σ : St} {cls : Value} {d : Option Addr} {H : Hp} (h : W cls d σ H) : WE W σ cls d H := h
theorem eCall {k j np : Nat} {nm : Str} {spec : DSpec G} {p : Pos} (Fn : DFn X.prog X.w X.K X.mg X.base c.W nm j np spec) (C : Cap k X wx) (hj : j ≤ k) (h : DA X c wx (a :: es) t') (hg : Gl X nm := by rfl) (hdb : (nm == ("__debug__" : Str)) = false := by decide)
    (he : starEach (a :: es) X.env = (false, eval a X.env) :: starEach es X.env := by rfl) (hpl : (backTo pos (starEach es X.env)).any (·.1) = false := by rfl) : DE X c wx (.Call (.Name nm p) (a :: es) [] pos) (dCall np spec t') := by
  obtain ⟨te, pa, ra⟩ := h.run
  obtain ⟨f, fd, ps, hm, hk, hb, hl, FO⟩ := Fn.ex
  refine ⟨_, pe_callS (FO.mono hj) C.hr hg hm hk hb (fun σ => passAt C.tk σ) pa hdb he hpl, fun ps ρ g σ H ow Q R Qv e t k rz => ?_⟩
  refine ra ps ρ g σ H ow _ R _ e t (fun fs g1 vs H1 k1 d1 _ q => ?_) rz
  have e1 := e.keep k1
  obtain ⟨hlen, q⟩ := q
  by_cases hnb : fs.all F.noBor = true
  · refine ⟨fun a => c.fr a ∨ ow a, fs.map F.slot, g1, _, _, ?_, args_all e1 e.ows e.frs d1 hnb, e1.ok, fun a z => z.elim (e1.frs a) (e1.ows a), q, fun f g' v H' k2 d2 q2 => ?_, fun ex g' cls d H' k2 x2 q2 => ?_⟩
    · rw [List.length_map]; exact hlen
    · exact k f g' v H' (k1.trans k2) (d2.unhide.early k1) q2.2
    · exact rz ex g' cls d H' (k1.trans k2) x2 q2
  · refine ⟨c.fr, fs.map F.slot, g1, _, _, ?_, args_bor e1 e.ows e.frs d1, e1.ok, e1.frs, q, fun f g' v H' k2 d2 q2 => ?_, fun ex g' cls d H' k2 x2 q2 => ?_⟩
    · rw [List.length_map]; exact hlen
    · have hf : f.lfree = true := q2.1.elim (fun z => absurd z hnb) id
      have e2 := e1.keep k2
      exact k f g' v H' (k1.trans k2) ((d2.lfree e2 e1.ows hf).early k1) q2.2
    · exact rz ex g' cls d H' (k1.trans k2) x2 q2
end
end DL

set_option Elab.async false
set_option linter.all false
set_option autoImplicit false
set_option maxRecDepth 100000
set_option maxHeartbeats 4000000
namespace DL
open PySem PySem.Spec L2
section
variable {G : Type} {X : Cx} {c : Fc G} {wx : WX} {pos : Pos}
variable {K : PySem.W.Frag} {ow : Addr → Prop} {ρ : DEnv} {g g1 gs : G} {σ : St} {H H1 Hs : Hp} {p : Addr}
/-! ### the environment changes -/
theorem set_get {α : Type} {l : List α} {i j : Nat} {x y : α} (h : (l.set i x)[j]? = some y) : (i = j ∧ y = x) ∨ (i ≠ j ∧ l[j]? = some y) := by
  by_cases e : i = j
  · subst e
    by_cases hl : i < l.length
    · rw [List.getElem?_set_self hl] at h
      cases h; exact .inl ⟨rfl, rfl⟩
    · rw [List.getElem?_eq_none (by simpa using hl)] at h; cases h
  · rw [List.getElem?_set_ne e] at h
    exact .inr ⟨e, h⟩
theorem get_set {α : Type} {l : List α} {i : Nat} {x : α} (h : i < l.length) : (l.set i x)[i]? = some x := List.getElem?_set_self h
theorem Er.lt (e : Er K c ow ρ g σ H) {i : Nat} {s : Slot} (h : ρ[i]? = some s) : i < σ.length := by
  rw [← e.len]; exact (List.getElem?_eq_some_iff.mp h).1
/-- a slot that is no owner -/
theorem Er.put (e : Er K c ow ρ g σ H) (i : Nat) (s : Slot) (o : Option V) (hs : ∀ σ', σ'[i]? = some o → SlotOk K (vw (hd c.W c.fr ow g) H) H ow σ' i s) (hn : ∀ xs, s ≠ .own xs) : Er K c ow (ρ.set i s) g (σ.set i o) H := by
  refine ⟨e.k0, e.fr, e.owd, fun j s' h => ?_, fun j j' xs ys a h1 h2 h3 h4 => ?_, e.pin, by rw [List.length_set, List.length_set]; exact e.len⟩
  · have hj : j < (σ.set i o).length := by
      rw [List.length_set, ← e.len]
      have := (List.getElem?_eq_some_iff.mp h).1
      rwa [List.length_set] at this
    rcases set_get h with ⟨rfl, rfl⟩ | ⟨ne, h⟩
    · exact hs _ (get_set (by rwa [List.length_set] at hj))
    · have q := e.sl j s' h
      cases s' with
      | none => trivial
      | val d => obtain ⟨v, h1, h2⟩ := q; exact ⟨v, by rw [List.getElem?_set_ne ne]; exact h1, h2⟩
      | fn u => show (σ.set i o)[j]? = _; rw [List.getElem?_set_ne ne]; exact q
      | own xs => obtain ⟨a, vs, h1, r⟩ := q; exact ⟨a, vs, by rw [List.getElem?_set_ne ne]; exact h1, r⟩
  · rcases set_get h1 with ⟨rfl, z⟩ | ⟨ne1, h1⟩
    · exact absurd z.symm (hn xs)
    rcases set_get h2 with ⟨rfl, z⟩ | ⟨ne2, h2⟩
    · exact absurd z.symm (hn ys)
    rw [List.getElem?_set_ne ne1] at h3
    rw [List.getElem?_set_ne ne2] at h4
    exact e.inj j j' xs ys a h1 h2 h3 h4
theorem Er.putVal (e : Er K c ow ρ g σ H) (i : Nat) {v : V} {d : D} (h : Dn K (vw (hd c.W c.fr ow g) H) v d) : Er K c ow (ρ.set i (.val d)) g (σ.set i (some v)) H :=
  e.put i (.val d) (some v) (fun _ h' => ⟨v, h', h⟩) fun _ z => by cases z
theorem Er.putFn (e : Er K c ow ρ g σ H) (i : Nat) (u : V) : Er K c ow (ρ.set i (.fn u)) g (σ.set i (some u)) H :=
  e.put i (.fn u) (some u) (fun _ h' => h') fun _ z => by cases z
theorem Er.putNone (e : Er K c ow ρ g σ H) (i : Nat) (o : Option V) : Er K c ow (ρ.set i .none) g (σ.set i o) H :=
  e.put i .none o (fun _ _ => trivial) fun _ z => by cases z
/-- what was there ahead of the making of A doesn't hang on A -/
theorem less_new {W : Wd G} {fr A : Addr → Prop} (k : Keep W gs g Hs H) (n : ∀ a, A a → Hs a = none) : Same (vw (hd W fr ow gs) Hs) (vw (hd W fr (fun b => ow b ∨ A b) g) H) := fun b o q => by
  obtain ⟨h1, h2⟩ := vw_some.mp q
  obtain ⟨h3, h4⟩ := vw_some.mp (hd_keep k b o q)
  refine vw_some.mpr ⟨fun z => ?_, h4⟩
  rcases z with z | (z | z) | z
  · exact h3 (.inl z)
  · exact h3 (.inr (.inl z))
  · rw [n b z] at h2; cases h2
  · exact h3 (.inr (.inr z))
/-- new lists become owned: no slot knows them yet -/
theorem Er.ownedS (e : Er K c ow ρ gs σ Hs) (k : Keep c.W gs g Hs H) {A : Addr → Prop} (hA : ∀ a, A a → Hs a = none ∧ (∃ vs, H a = some (.lst vs)) ∧ ¬ c.W.hid g a) : Er K c (fun b => ow b ∨ A b) ρ g σ H := by
  have e1 := e.keep k
  have sm : Same (vw (hd c.W c.fr ow gs) Hs) (vw (hd c.W c.fr (fun b => ow b ∨ A b) g) H) := less_new k fun a z => (hA a z).1
  refine ⟨e1.k0, e1.fr, fun b h => h.elim (e1.owd b) fun z => ⟨(hA b z).2.1, e.k0.back (hA b z).1, (hA b z).2.2⟩, fun i s h => ?_, e.inj, fun p hp => Dn.mono sm (e.pin p hp), e.len⟩
  have q := e.sl i s h
  cases s with
  | none => trivial
  | val d => obtain ⟨v, h1, h2⟩ := q; exact ⟨v, h1, Dn.mono sm h2⟩
  | fn u => exact q
  | own xs =>
    obtain ⟨b, ws, h1, h2, h3, h4⟩ := q
    exact ⟨b, ws, h1, .inl h2, k.keep b _ (e.owd b h2).2.2 h3, DnAll.mono sm h4⟩
theorem Er.owned (e : Er K c ow ρ gs σ Hs) (k : Keep c.W gs g Hs H) {a : Addr} {vs : List V} (n : Hs a = none) (ha : H a = some (.lst vs)) (nh : ¬ c.W.hid g a) : Er K c (fun b => ow b ∨ b = a) ρ g σ H :=
  e.ownedS k fun b z => by subst z; exact ⟨n, ⟨vs, ha⟩, nh⟩
theorem hd_or {W : Wd G} {fr : Addr → Prop} {a : Addr} : Same (vw (fun b => hd W fr ow g b ∨ b = a) H) (vw (hd W fr (fun b => ow b ∨ b = a) g) H) := vw_same fun b o n q => ⟨fun z => n (by
  rcases z with z | (z | z) | z
  · exact .inl (.inl z)
  · exact .inl (.inr (.inl z))
  · exact .inr z
  · exact .inl (.inr (.inr z))), q⟩
/-- an owned list that no slot knows is put into one -/
theorem Er.putOw (e : Er K c ow ρ g σ H) (i : Nat) {a : Addr} {vs : List V} {xs : List D} (oa : ow a) (ha : H a = some (.lst vs)) (da : DnAll K (vw (hd c.W c.fr ow g) H) vs xs)
    (old : ∀ (j : Nat) (ys : List D), ρ[j]? = some (.own ys) → σ[j]? ≠ some (some (V.ref a))) : Er K c ow (ρ.set i (.own xs)) g (σ.set i (some (V.ref a))) H := by
  refine ⟨e.k0, e.fr, e.owd, fun j s' h => ?_, fun j j' ys zs b h1 h2 h3 h4 => ?_, e.pin, by rw [List.length_set, List.length_set]; exact e.len⟩
  · have hj : j < (σ.set i (some (V.ref a))).length := by
      rw [List.length_set, ← e.len]
      have := (List.getElem?_eq_some_iff.mp h).1
      rwa [List.length_set] at this
    rcases set_get h with ⟨rfl, rfl⟩ | ⟨ne, h⟩
    · exact ⟨a, vs, get_set (by rwa [List.length_set] at hj), oa, ha, da⟩
    · have q := e.sl j s' h
      cases s' with
      | none => trivial
      | val d => obtain ⟨v, h1, h2⟩ := q; exact ⟨v, by rw [List.getElem?_set_ne ne]; exact h1, h2⟩
      | fn u => show (σ.set i _)[j]? = _; rw [List.getElem?_set_ne ne]; exact q
      | own xs => obtain ⟨a, vs, h1, r⟩ := q; exact ⟨a, vs, by rw [List.getElem?_set_ne ne]; exact h1, r⟩
  · rcases set_get h1 with ⟨rfl, z⟩ | ⟨ne1, h1⟩
    · rcases set_get h2 with ⟨rfl, z2⟩ | ⟨ne2, h2⟩
      · rfl
      · rw [List.getElem?_set_ne ne2] at h4
        have lt : i < σ.length := by
          have := (List.getElem?_eq_some_iff.mp h3).1
          rwa [List.length_set] at this
        rw [get_set lt] at h3
        cases h3
        exact absurd h4 (old j' zs h2)
    · rcases set_get h2 with ⟨rfl, z2⟩ | ⟨ne2, h2⟩
      · rw [List.getElem?_set_ne ne1] at h3
        have lt : i < σ.length := by
          have := (List.getElem?_eq_some_iff.mp h4).1
          rwa [List.length_set] at this
        rw [get_set lt] at h4
        cases h4
        exact absurd h3 (old j ys h1)
      · rw [List.getElem?_set_ne ne1] at h3
        rw [List.getElem?_set_ne ne2] at h4
        exact e.inj j j' ys zs b h1 h2 h3 h4
theorem Er.noOld (e : Er K c ow ρ gs σ Hs) {a : Addr} (n : Hs a = none) (j : Nat) (ys : List D) (q1 : ρ[j]? = some (.own ys)) : σ[j]? ≠ some (some (V.ref a)) := fun q2 => by
  obtain ⟨b', ws, r1, r2, r3, _⟩ := e.sl j _ q1
  rw [q2] at r1; cases r1
  rw [n] at r3; cases r3
theorem Er.putOwn (e : Er K c ow ρ gs σ Hs) (k : Keep c.W gs g Hs H) (i : Nat) {v : V} {xs : List D} (d : FDen K c.W c.fr ow Hs g H (.fresh xs) v) : ∃ ow', Er K c ow' (ρ.set i (.own xs)) g (σ.set i (some v)) H := by
  obtain ⟨a, vs, rfl, n, nh, ha, da⟩ := d
  exact ⟨_, (e.owned k n ha nh).putOw i (.inr rfl) ha (DnAll.mono hd_or da) fun j ys q => e.noOld n j ys q⟩
/-- a result is stored -/
def stF (i : Nat) (f : F) (ρ : DEnv) (k : DEnv → Prop) : Prop := match f with
  | .val d => k (ρ.set i (.val d))
  | .fresh xs => k (ρ.set i (.own xs))
  | .fn u => k (ρ.set i (.fn u))
  | .bor xs => lfAll xs = true ∧ False
theorem Er.putF (e : Er K c ow ρ gs σ Hs) (k : Keep c.W gs g Hs H) (i : Nat) {f : F} {v : V} {Q : DEnv → Prop} (d : FDen K c.W c.fr ow Hs g H f v) (h : stF i f ρ Q) : ∃ ρ', SR K c ρ' g (σ.set i (some v)) H ∧ Q ρ' := by
  cases f with
  | val d' => exact ⟨_, ⟨ow, (e.keep k).putVal i d⟩, h⟩
  | fresh xs => exact ⟨_, e.putOwn k i d, h⟩
  | bor xs => exact h.2.elim
  | fn u => exact ⟨_, ⟨ow, by have e' := (e.keep k).putFn i u; rwa [show v = u from d]⟩, h⟩
/-! ### statements -/
variable {a b : Expr} {ta tb : DT G} {st : Stmt} {rest body : List Stmt} {t u : DSt G}
theorem Lift.rzOk {E : DEnds G} {B : Ends} (l : Lift K c wx E B) (e : Er K c ow ρ g σ H) : RzOk c.W wx g σ H (fun ex g1 => E.rz ex ρ g1) :=
  fun ex g' cls d H' k x q => l.rz ex ρ g' σ H' cls d ⟨ow, e.keep k⟩ x q
def dNext : DSt G := fun ρ g E => E.nx ρ g
def dSeq (t u : DSt G) : DSt G := fun ρ g E => t ρ g { E with nx := fun ρ' g' => u ρ' g' E }
theorem sNil : DSs X c wx [] dNext := ⟨_, pss_nil, fun ps ρ g σ H E B s t l => l.nx ρ g σ H s t⟩
theorem sCons (h1 : DS X c wx st t) (h2 : DSs X c wx rest u) : DSs X c wx (st :: rest) (dSeq t u) := by
  obtain ⟨t1, p1, r1⟩ := h1.run
  obtain ⟨t2, p2, r2⟩ := h2.run
  refine ⟨_, pss_cons p1 p2, fun ps ρ g σ H E B s t l => ?_⟩
  exact r1 ps ρ g σ H _ _ s t ⟨fun ρ' g' σ' H' s' q => r2 ps ρ' g' σ' H' E B s' q l, l.rt, l.bk, l.ct, l.rz⟩
theorem sOne (h1 : DS X c wx st t) : DSs X c wx [st] t := let ⟨t1, p1, r1⟩ := h1.run; ⟨t1, pss_one p1, r1⟩
theorem sPass : DS X c wx (.Pass pos) dNext := ⟨_, ps_pass, fun ps ρ g σ H E B s t l => l.nx ρ g σ H s t⟩
def dBreak : DSt G := fun ρ g E => E.bk ρ g
def dCont : DSt G := fun ρ g E => E.ct ρ g
theorem sBreak : DS X c wx (.Break pos) dBreak := ⟨_, ps_break, fun ps ρ g σ H E B s t l => l.bk ρ g σ H s t⟩
theorem sCont : DS X c wx (.Continue pos) dCont := ⟨_, ps_continue, fun ps ρ g σ H E B s t l => l.ct ρ g σ H s t⟩
/-- name = e -/
def dSet (i : Nat) (ta : DT G) : DSt G := fun ρ g E => ta ρ g (fun f g1 => stF i f ρ fun ρ' => E.nx ρ' g1) fun ex g1 => E.rz ex ρ g1
theorem sSet (i : Nat) {x : Str} {pos' : Pos} {n : Nat} (C : Cap n X wx) (he : DE X c wx a ta) (hi : X.N[i]? = some x := by rfl) (hx : Loc X.env.scope x := by first | exact Or.inl rfl | exact Or.inr rfl) (hs : swapsWith a (some (.Name x pos')) pos.line X.env = pure false := by rfl)
    (hf : X.fn x = true ∨ X.env.scope.names.lookup x = some .local := by first | exact .inl rfl | exact .inr rfl) : DS X c wx (.Assign [.Name x pos'] a pos) (dSet i ta) := by
  obtain ⟨te, pa, ra⟩ := he.run
  refine ⟨_, ps_set (i := i) C.nd hi hx pa hs hf, fun ps ρ g σ H E B s t l => ?_⟩
  obtain ⟨ow, e⟩ := s
  refine ra ps ρ g σ H ow _ _ _ e t (fun f g1 v H1 k1 d1 q => ?_) (l.rzOk e)
  obtain ⟨ρ', s', q'⟩ := e.putF k1 i d1 q
  exact l.nx ρ' g1 _ H1 s' q'
/-- return e -/
def retF : F → F
  | .bor xs => .fresh xs
  | f => f
def dRet (ta : DT G) : DSt G := fun ρ g E => ta ρ g (fun f g1 => E.rt (retF f) g1) fun ex g1 => E.rz ex ρ g1
theorem Er.toRet (e : Er K c ow ρ gs σ Hs) (k : Keep c.W gs g Hs H) {f : F} {v : V} (d : FDen K c.W c.fr ow Hs g H f v) : FDen K c.W c.fr (fun _ => False) c.H0 g H (retF f) v := by
  have sm : Same (vw (hd c.W c.fr ow g) H) (vw (hd c.W c.fr (fun _ => False) g) H) := vw_same fun a o n q => ⟨fun z => n (by
      rcases z with z | z | z
      · exact .inl z
      · exact z.elim
      · exact .inr (.inr z)), q⟩
  cases f with
  | val d' => exact Dn.mono sm d
  | fresh xs =>
    obtain ⟨a, vs, h1, h2, h3, h4, h5⟩ := d
    refine ⟨a, vs, h1, e.k0.back h2, h3, h4, DnAll.mono (vw_same fun b o n q => ⟨fun z => n ?_, q⟩) h5⟩
    rcases z with (z | z | z) | z
    · exact .inl (.inl z)
    · exact z.elim
    · exact .inl (.inr (.inr z))
    · exact .inr z
  | bor xs =>
    obtain ⟨a, vs, h1, h2, h3, h4, h5⟩ := d
    refine ⟨a, vs, h1, (e.owd a h2).2.1, h3, h4, DnAll.mono (vw_same fun b o n q => ⟨fun z => n ?_, q⟩) h5⟩
    rcases z with (z | z | z) | z
    · exact .inl z
    · exact z.elim
    · exact .inr (.inr z)
    · subst z; exact .inr (.inl h2)
  | fn u => exact d
theorem sRet (he : DE X c wx a ta) : DS X c wx (.Return (some a) pos) (dRet ta) := by
  obtain ⟨te, pa, ra⟩ := he.run
  refine ⟨_, ps_ret pa, fun ps ρ g σ H E B s t l => ?_⟩
  obtain ⟨ow, e⟩ := s
  refine ra ps ρ g σ H ow _ _ _ e t (fun f g1 v H1 k1 d1 q => ?_) (l.rzOk e)
  exact l.rt _ g1 v H1 (e.k0.trans k1) (e.toRet k1 d1) q
theorem sRetN : DS X c wx (.Return none pos) (fun _ g E => E.rt (.val .none) g) := ⟨_, ps_retN, fun ps ρ g σ H E B s t l => by
  obtain ⟨ow, e⟩ := s
  exact l.rt (.val .none) g _ H e.k0 Dn.non t⟩
/-- return a, b, ..: the frame's lists go out -/
def dRetTup (t : DTA G) : DSt G := fun ρ g E => t ρ g (fun fs g1 => fs.all F.isD = true ∧ fs.length ≤ sizeLine ∧ E.rt (.val (.tuple (fs.map F.data))) g1) fun ex g1 => E.rz ex ρ g1
theorem all_ret (e : Er K c ow ρ gs σ Hs) (k : Keep c.W gs g Hs H) : ∀ {fs : List F} {vs : List V}, FAll (FDen K c.W c.fr ow Hs g H) fs vs → fs.all F.isD = true → DnAll K (vw (hd c.W c.fr (fun _ => False) g) H) vs (fs.map F.data)
  | _, _, .nil, _ => .nil
  | _, _, .cons (f := f) x r, h => by
    rw [List.all_cons, Bool.and_eq_true] at h
    refine .cons ?_ (all_ret e k r h.2)
    have q := e.toRet k x
    cases f with
    | val d => exact q
    | fresh xs => exact q.safe (fun a z => z.elim) e.fr rfl
    | bor xs => exact FDen.safe (f := .fresh xs) (fun a z => z.elim) e.fr q rfl
    | fn u => cases h.1
theorem sRetTup {es : List Expr} {x1} {p2 : Pos} {t' : DTA G} (h : DA X c wx es t') : DS X c wx (.Return (some (.Tuple es x1 p2)) pos) (dRetTup t') := by
  obtain ⟨te, pa, ra⟩ := h.run
  refine ⟨_, ps_ret (pe_tup pa), fun ps ρ g σ H E B s t l => ?_⟩
  obtain ⟨ow, e⟩ := s
  refine ra ps ρ g σ H ow _ _ _ e t (fun fs g1 vs H1 k1 d1 _ q => ?_) (l.rzOk e)
  obtain ⟨q1, q2, q3⟩ := q
  have e1 := e.keep k1
  refine ⟨by rw [← d1.length]; exact q2, fun p hp => ?_⟩
  refine l.rt (.val (.tuple _)) g1 _ _ (e1.k0.trans (Keep.new1 e1.ok hp)) ?_ q3
  have n : ¬ hd c.W c.fr (fun _ => False) g1 p := fun z => e1.nhd hp (by
    rcases z with z | z | z
    · exact .inl z
    · exact z.elim
    · exact .inr (.inr z))
  exact Dn.tup (SqT.of (vw_some.mpr ⟨n, upd_same⟩)) (DnAll.mono (hd_up hp) (all_ret e k1 d1 q1))
def dIfS (tc : DTT G) (t u : DSt G) : DSt G := fun ρ g E => tc ρ g (fun b g1 => if b = true then t ρ g1 E else u ρ g1 E) fun ex g1 => E.rz ex ρ g1
theorem sIf {cc : Expr} {s1 s2 : List Stmt} {tc : DTT G} (hc : DP X c wx cc tc) (h1 : DSs X c wx s1 t) (h2 : DSs X c wx s2 u) : DS X c wx (.If cc s1 s2 pos) (dIfS tc t u) := by
  obtain ⟨tec, pc, rc⟩ := hc.run
  obtain ⟨t1, p1, r1⟩ := h1.run
  obtain ⟨t2, p2, r2⟩ := h2.run
  refine ⟨_, ps_if pc p1 p2, fun ps ρ g σ H E B s t l => ?_⟩
  obtain ⟨ow, e⟩ := s
  refine rc ps ρ g σ H ow _ _ _ e t (fun b g1 H1 k1 q => ?_) (l.rzOk e)
  cases b with
  | true => exact r1 ps ρ g1 σ H1 E B ⟨ow, e.keep k1⟩ q l
  | false => exact r2 ps ρ g1 σ H1 E B ⟨ow, e.keep k1⟩ q l
/-- an expression, its value dropped -/
def dDrop (ta : DT G) : DSt G := fun ρ g E => ta ρ g (fun _ g1 => E.nx ρ g1) fun ex g1 => E.rz ex ρ g1
theorem sExpr (he : DE X c wx a ta) (hs : swapsWith a none pos.line X.env = pure false := by rfl) : DS X c wx (.Expr a pos) (dDrop ta) := by
  obtain ⟨te, pa, ra⟩ := he.run
  refine ⟨_, ps_expr pa hs, fun ps ρ g σ H E B s t l => ?_⟩
  obtain ⟨ow, e⟩ := s
  exact ra ps ρ g σ H ow _ _ _ e t (fun f g1 v H1 k1 d1 q => l.nx ρ g1 σ H1 ⟨ow, e.keep k1⟩ q) (l.rzOk e)
/-- x += e: whole numbers -/
def onSlotInt (ρ : DEnv) (i : Nat) (k : Int → Prop) : Prop := match ρ[i]? with
  | some (.val (.int m)) => k m
  | _ => False
theorem onSlotInt_of {ρ : DEnv} {i : Nat} {k : Int → Prop} (h : onSlotInt ρ i k) : ∃ m, ρ[i]? = some (.val (.int m)) ∧ k m := by
  unfold onSlotInt at h
  split at h
  · exact ⟨_, by assumption, h⟩
  · exact h.elim
def dAug (i : Nat) (ta : DT G) : DSt G := fun ρ g E => onSlotInt ρ i fun m => ta ρ g (fun f g1 => onInt f.data fun n => E.nx (ρ.set i (.val (.int (m + n)))) g1) fun ex g1 => E.rz ex ρ g1
theorem sAug (i : Nat) {x : Str} {pos' : Pos} {n : Nat} (C : Cap n X wx) (he : DE X c wx a ta) (hi : X.N[i]? = some x := by rfl) (hx : Loc X.env.scope x := by first | exact Or.inl rfl | exact Or.inr rfl)
    (hf : X.fn x = true ∨ X.env.scope.names.lookup x = some .local := by first | exact .inl rfl | exact .inr rfl) : DS X c wx (.AugAssign (.Name x pos') .Add a pos) (dAug i ta) := by
  obtain ⟨te, pa, ra⟩ := he.run
  refine ⟨_, ps_aug (i := i) C.nd hi hx pa ip_add hf, fun ps ρ g σ H E B s t l => ?_⟩
  obtain ⟨ow, e⟩ := s
  obtain ⟨m, hm, t⟩ := onSlotInt_of t
  obtain ⟨v, hv, dv⟩ := e.sl _ _ hm
  cases dv
  refine ⟨_, hv, ?_⟩
  refine ra ps ρ g σ H ow _ _ _ e t (fun f g1 v H1 k1 d1 q => ?_) (l.rzOk e)
  obtain ⟨n, hn, q⟩ := onInt_of q
  exact ⟨m, n, rfl, d1.int hn, l.nx _ g1 _ H1 ⟨ow, (e.keep k1).putVal i (Dn.int _)⟩ q⟩
/-! ### targets -/
abbrev DTg := D → DEnv → (DEnv → Prop) → Prop
abbrev DTgs := List D → DEnv → (DEnv → Prop) → Prop
structure DG (X : Cx) (c : Fc G) (tg : Expr) (t : DTg) : Prop where
  run : ∃ g', PG X tg g' ∧ ∀ (ps : List (V × D)) ρ g σ H ow v d Q (Qv : St → Hp → Prop), Er X.K (c.pn ps) ow ρ g σ H → Dn X.K (vw (hd c.W c.fr ow g) H) v d → t d ρ Q →
    (∀ ρ' σ', Er X.K (c.pn ps) ow ρ' g σ' H → Q ρ' → Qv σ' H) → g' v σ H Qv
structure DGs (X : Cx) (c : Fc G) (es : List Expr) (t : DTgs) : Prop where
  run : ∃ g', PGs X es g' ∧ ∀ (ps : List (V × D)) ρ g σ H ow vs ds Q (Qv : St → Hp → Prop), Er X.K (c.pn ps) ow ρ g σ H → DnAll X.K (vw (hd c.W c.fr ow g) H) vs ds → t ds ρ Q →
    (∀ ρ' σ', Er X.K (c.pn ps) ow ρ' g σ' H → Q ρ' → Qv σ' H) → g' vs σ H Qv
def tgName (i : Nat) : DTg := fun d ρ Q => Q (ρ.set i (.val d))
theorem gNm (i : Nat) {x : Str} (hN : X.N.Nodup) (hi : X.N[i]? = some x := by rfl) (hx : Loc X.env.scope x := by first | exact Or.inl rfl | exact Or.inr rfl) (hf : X.fn x = true ∨ X.env.scope.names.lookup x = some .local := by first | exact .inl rfl | exact .inr rfl) : DG X c (.Name x pos) (tgName i) :=
  ⟨_, pg_name (i := i) hN hi hx hf, fun ps ρ g σ H ow v d Q Qv e dv t k => k _ _ (e.putVal i dv) t⟩
def tgNil : DTgs := fun ds ρ Q => ds = [] ∧ Q ρ
def tgCons (t : DTg) (u : DTgs) : DTgs := fun ds ρ Q => match ds with
  | [] => False
  | d :: r => t d ρ fun ρ' => u r ρ' Q
theorem gNil' : DGs X c [] tgNil := ⟨_, pgs_nil, fun ps ρ g σ H ow vs ds Q Qv e dv t k => by
  obtain ⟨rfl, t⟩ := t
  cases dv
  exact ⟨rfl, k ρ σ e t⟩⟩
theorem gCons' {es : List Expr} {t : DTg} {u : DTgs} (h1 : DG X c a t) (h2 : DGs X c es u) (hs : (assignEach (a :: es) X.env).map (·.2) = assign a X.env :: (assignEach es X.env).map (·.2) := by rfl) : DGs X c (a :: es) (tgCons t u) := by
  obtain ⟨g1, p1, r1⟩ := h1.run
  obtain ⟨g2, p2, r2⟩ := h2.run
  refine ⟨_, pgs_cons p1 p2 hs, fun ps ρ g σ H ow vs ds Q Qv e dv t k => ?_⟩
  cases dv with
  | nil => exact t.elim
  | cons d1 dr => exact ⟨_, _, rfl, r1 ps ρ g σ H ow _ _ _ _ e d1 t fun ρ' σ' e' q => r2 ps ρ' g σ' H ow _ _ Q Qv e' dr q k⟩
def tgTup (n : Nat) (u : DTgs) : DTg := fun d ρ Q => match d with
  | .tuple ds => ds.length = n ∧ u ds ρ Q
  | _ => False
theorem gTp {es : List Expr} {kk : Nat} {u : DTgs} {n : Nat} (hc : X.calm = true) (h : DGs X c es u) (hn : (assignEach es X.env).length = n := by rfl) (hst : (assignEach es X.env).findIdx? (·.1) = none := by rfl) : DG X c (.Tuple es kk pos) (tgTup n u) := by
  obtain ⟨g1, p1, r1⟩ := h.run
  refine ⟨_, pg_tup hc p1 hn hst, fun ps ρ g σ H ow v d Q Qv e dv t k => ?_⟩
  cases dv with
  | tup s x => exact ⟨_, _, rfl, sameT vw_sub s, by rw [x.length]; exact t.1, r1 ps ρ g σ H ow _ _ Q Qv e x t.2 k⟩
  | lst s x => exact t.elim
  | non => exact t.elim
  | bl _ => exact t.elim
  | int _ => exact t.elim
  | str _ => exact t.elim
/-- a target other than a name (or a name, by data) = e -/
def dAsgD (ta : DT G) (tg : DTg) : DSt G := fun ρ g E => ta ρ g (fun f g1 => f.safe = true ∧ tg f.data ρ fun ρ' => E.nx ρ' g1) fun ex g1 => E.rz ex ρ g1
theorem sAsg {tgt : Expr} {tg : DTg} (he : DE X c wx a ta) (hg : DG X c tgt tg) (hs : swapsWithSole [tgt] a pos.line X.env = pure false := by rfl) (hw : swappedStores [tgt] a X.env = pure none := by rfl)
    (h1 : (assignEach [tgt] X.env).map (·.2) = [assign tgt X.env] := by rfl) : DS X c wx (.Assign [tgt] a pos) (dAsgD ta tg) := by
  obtain ⟨te, pa, ra⟩ := he.run
  obtain ⟨g', pg, rg⟩ := hg.run
  refine ⟨_, ps_asg pa pg hs hw h1, fun ps ρ g σ H E B s t l => ?_⟩
  obtain ⟨ow, e⟩ := s
  refine ra ps ρ g σ H ow _ _ _ e t (fun f g1 v H1 k1 d1 q => ?_) (l.rzOk e)
  exact rg ps ρ g1 σ H1 ow v f.data _ _ (e.keep k1) (d1.safe e.ows e.frs q.1) q.2 fun ρ' σ' e' q' => l.nx ρ' g1 σ' H1 ⟨ow, e'⟩ q'
end
end DL

set_option Elab.async false
set_option linter.all false
set_option autoImplicit false
set_option maxRecDepth 100000
set_option maxHeartbeats 4000000
namespace DL
open PySem PySem.Spec L2
section
variable {G : Type} {X : Cx} {c : Fc G} {wx : WX} {pos : Pos}
variable {K : PySem.W.Frag} {ow : Addr → Prop} {ρ : DEnv} {g g1 gs : G} {σ : St} {H H1 Hs : Hp} {p : Addr}
variable {a b : Expr} {ta tb : DT G} {st : Stmt} {rest body : List Stmt} {t u : DSt G}
/-! ### several stores at once -/
def stFs : List Nat → List F → DEnv → (DEnv → Prop) → Prop
  | i :: is, f :: fs, ρ, Q => stF i f ρ fun ρ' => stFs is fs ρ' Q
  | [], [], ρ, Q => Q ρ
  | _, _, _, _ => False
def setSs : List Nat → List V → St → St
  | i :: is, v :: vs, σ => setSs is vs (σ.set i (some v))
  | _, _, σ => σ
def F.lfr : F → Bool
  | .val d => lf d
  | .fresh xs => lfAll xs
  | .bor _ => false
  | .fn _ => true
/-- a result without lists within, when more lists are owned -/
theorem FDen.owm {W : Wd G} {fr ow' : Addr → Prop} {f : F} {v : V} (x : FDen K W fr ow Hs g H f v) (h : f.lfr = true) (ho : ∀ a, ow' a → ¬ ow a → ∃ vs, H a = some (.lst vs)) : FDen K W fr ow' Hs g H f v := by
  cases f with
  | val d => exact Dn.lf (fun a hq np => by
      rcases hq with z | z | z
      · exact absurd (.inl z) np
      · exact ho a z fun q => np (.inr (.inl q))
      · exact absurd (.inr (.inr z)) np) x h
  | fresh xs =>
    obtain ⟨a, vs, h1, h2, h3, h4, h5⟩ := x
    refine ⟨a, vs, h1, h2, h3, h4, DnAll.lf (fun b hq np => ?_) h5 h⟩
    rcases hq with (z | z | z) | z
    · exact absurd (.inl (.inl z)) np
    · exact ho b z fun q => np (.inl (.inr (.inl q)))
    · exact absurd (.inl (.inr (.inr z))) np
    · exact absurd (.inr z) np
  | bor xs => cases h
  | fn u => exact x
theorem Er.putFs {Q : DEnv → Prop} : ∀ {is : List Nat} {fs : List F} {vs : List V} {ρ : DEnv} {σ : St}, Er K c ow ρ g σ H → FAll (fun f v => match f with
      | .val d => Dn K (vw (hd c.W c.fr ow g) H) v d
      | .fresh xs => ∃ a ws, v = .ref a ∧ ow a ∧ H a = some (.lst ws) ∧ DnAll K (vw (hd c.W c.fr ow g) H) ws xs
      | .bor _ => False
      | .fn u => v = u) fs vs → FrNd fs vs →
    (∀ (i : Nat) (f : F) (a : Addr), fs[i]? = some f → f.isFresh = true → vs[i]? = some (V.ref a) → ∀ (j : Nat) (ys : List D), ρ[j]? = some (.own ys) → σ[j]? ≠ some (some (V.ref a))) → stFs is fs ρ Q → ∃ ρ', Er K c ow ρ' g (setSs is vs σ) H ∧ Q ρ'
  | [], [], [], ρ, σ, e, _, _, _, h => ⟨ρ, e, h⟩
  | i :: is, f :: fs, v :: vs, ρ, σ, e, .cons x r, nd, na, h => by
    have step : ∀ (s : Slot), (∀ ys, s ≠ .own ys) → ∀ (i' : Nat) (f' : F) (a : Addr), fs[i']? = some f' → f'.isFresh = true → vs[i']? = some (V.ref a) → ∀ (j : Nat) (ys : List D), (ρ.set i s)[j]? = some (.own ys) → (σ.set i (some v))[j]? ≠ some (some (V.ref a)) := fun s hs i' f' a h1 h2 h3 j ys h4 => by
      rcases set_get h4 with ⟨rfl, z⟩ | ⟨ne, h4⟩
      · exact absurd z.symm (hs ys)
      · rw [List.getElem?_set_ne ne]
        exact na (i' + 1) f' a (by simpa using h1) h2 (by simpa using h3) j ys h4
    cases f with
    | val d => exact Er.putFs (is := is) (fs := fs) (vs := vs) (e.putVal i x) r nd.2 (step (.val d) fun _ z => nomatch z) h
    | fn w => 
      have x : v = w := x
      subst x
      exact Er.putFs (is := is) (fs := fs) (vs := vs) (e.putFn i v) r nd.2 (step (.fn v) fun _ z => nomatch z) h
    | bor xs => exact x.elim
    | fresh xs =>
      obtain ⟨a, ws, rfl, oa, ha, da⟩ := x
      refine Er.putFs (is := is) (fs := fs) (vs := vs) (e.putOw i oa ha da (na 0 _ a rfl rfl rfl)) r nd.2 (fun i' f' b h1 h2 h3 j ys h4 => ?_) h
      rcases set_get h4 with ⟨rfl, z⟩ | ⟨ne, h4⟩
      · intro z2
        have lt : i < σ.length := by
          have := (List.getElem?_eq_some_iff.mp z2).1
          rwa [List.length_set] at this
        rw [get_set lt] at z2
        cases z2
        exact nd.1 rfl i' f' h1 h2 h3
      · rw [List.getElem?_set_ne ne]
        exact na (i' + 1) f' b (by simpa using h1) h2 (by simpa using h3) j ys h4
  | [], _ :: _, _, _, _, _, _, _, _, h => h.elim
  | _ :: _, [], _, _, _, _, _, _, _, h => h.elim
theorem stFs_len {Q : DEnv → Prop} : ∀ {is : List Nat} {fs : List F} {ρ : DEnv}, stFs is fs ρ Q → fs.length = is.length
  | [], [], _, _ => rfl
  | i :: is, f :: fs, ρ, h => by
    have ih : ∀ ρ', stFs is fs ρ' Q → fs.length = is.length := fun ρ' => stFs_len
    unfold stFs at h
    cases f with
    | val d => simp [ih _ h]
    | fresh xs => simp [ih _ h]
    | fn u => simp [ih _ h]
    | bor xs => exact h.2.elim
  | [], _ :: _, _, h => h.elim
  | _ :: _, [], _, h => h.elim
theorem len2 {α : Type} {l : List α} (h : l.length = 2) : ∃ x y, l = [x, y] := match l, h with
  | [x, y], _ => ⟨x, y, rfl⟩
theorem len3 {α : Type} {l : List α} (h : l.length = 3) : ∃ x y z, l = [x, y, z] := match l, h with
  | [x, y, z], _ => ⟨x, y, z, rfl⟩
theorem FAll.mem {P : F → V → Prop} {P' : F → V → Prop} : ∀ {fs : List F} {vs : List V}, FAll P fs vs → (∀ (i : Nat) f v, fs[i]? = some f → vs[i]? = some v → P f v → P' f v) → FAll P' fs vs
  | _, _, .nil, _ => .nil
  | _, _, .cons x r, h => .cons (h 0 _ _ rfl rfl x) (FAll.mem r fun i f v h1 h2 h3 => h (i + 1) f v (by simpa using h1) (by simpa using h2) h3)
/-- all results of a statement are stored -/
theorem Er.storeAll {Q : DEnv → Prop} {is : List Nat} {fs : List F} {vs : List V} (e : Er K c ow ρ gs σ Hs) (k : Keep c.W gs g Hs H) (x : FAll (FDen K c.W c.fr ow Hs g H) fs vs) (nd : FrNd fs vs) (hl : fs.all F.lfr = true) (h : stFs is fs ρ Q) : ∃ ρ', SR K c ρ' g (setSs is vs σ) H ∧ Q ρ' := by
  let A : Addr → Prop := fun a => Hs a = none ∧ (∃ vs, H a = some (.lst vs)) ∧ ¬ c.W.hid g a
  have e1 : Er K c (fun b => ow b ∨ A b) ρ g σ H := e.ownedS k fun a z => z
  have y := x.mem (P' := fun f v => match f with
      | .val d => Dn K (vw (hd c.W c.fr (fun b => ow b ∨ A b) g) H) v d
      | .fresh xs => ∃ a ws, v = .ref a ∧ (ow a ∨ A a) ∧ H a = some (.lst ws) ∧ DnAll K (vw (hd c.W c.fr (fun b => ow b ∨ A b) g) H) ws xs
      | .bor _ => False
      | .fn u => v = u) fun i f v h1 h2 h3 => by
    have hf : f.lfr = true := List.all_eq_true.mp hl f (List.mem_of_getElem? h1)
    have q := h3.owm (ow' := fun b => ow b ∨ A b) hf fun a z n => z.elim (fun z => absurd z n) fun z => z.2.1
    cases f with
    | val d => exact q
    | fresh xs =>
      obtain ⟨a, ws, r1, r2, r3, r4, r5⟩ := q
      exact ⟨a, ws, r1, .inr ⟨r2, ⟨ws, r4⟩, r3⟩, r4, DnAll.mono hd_less r5⟩
    | bor xs => cases hf
    | fn u => exact q
  obtain ⟨ρ', e2, q⟩ := Er.putFs e1 y nd (fun i f a h1 h2 h3 j ys h4 => by
    obtain ⟨v, hv, z⟩ := x.get h1
    rw [h3] at hv; cases hv
    cases f with
    | fresh xs =>
      obtain ⟨b, ws, r1, r2, _⟩ := z
      cases r1
      exact e.noOld r2 j ys h4
    | _ => cases h2) h
  exact ⟨ρ', ⟨_, e2⟩, q⟩
def dPar (is : List Nat) (t : DTA G) : DSt G := fun ρ g E => t ρ g (fun fs g1 => fs.all F.lfr = true ∧ stFs is fs ρ fun ρ' => E.nx ρ' g1) fun ex g1 => E.rz ex ρ g1
theorem sPar2 (i j : Nat) {x y : Str} {t' : DTA G} {px py pt : Pos} {kt k2 pt2} {n : Nat} (C : Cap n X wx) (ha : DA X c wx [a, b] t') (hij : i ≠ j := by decide) (hi : X.N[i]? = some x := by rfl) (hj : X.N[j]? = some y := by rfl)
    (hx : X.env.scope.names.lookup x = some .local := by rfl) (hy : X.env.scope.names.lookup y = some .local := by rfl)
    (hw : swappedStores [.Tuple [.Name x px, .Name y py] kt pt] (.Tuple [a, b] k2 pt2) X.env = pure (some [x, y]) := by rfl)
    (hs : swapsWithSole [.Tuple [.Name x px, .Name y py] kt pt] (.Tuple [a, b] k2 pt2) pos.line X.env = pure false := by rfl) :
    DS X c wx (.Assign [.Tuple [.Name x px, .Name y py] kt pt] (.Tuple [a, b] k2 pt2) pos) (dPar [i, j] t') := by
  obtain ⟨te, pa, ra⟩ := ha.run
  refine ⟨_, ps_par C.calm C.nd hi hj hij hx hy pa hw hs, fun ps ρ g σ H E B s t l => ?_⟩
  obtain ⟨ow, e⟩ := s
  refine ra ps ρ g σ H ow _ _ _ e t (fun fs g1 vs H1 k1 d1 nd q => ?_) (l.rzOk e)
  obtain ⟨ρ', s', q'⟩ := e.storeAll k1 d1 nd q.1 q.2
  obtain ⟨v1, v2, rfl⟩ := len2 (d1.length.symm.trans (stFs_len q.2))
  exact ⟨v1, v2, rfl, l.nx ρ' g1 _ H1 s' q'⟩
theorem sPar3 (i j m : Nat) {x y z : Str} {cc : Expr} {t' : DTA G} {px py pz pt : Pos} {kt k2 pt2} {n : Nat} (C : Cap n X wx) (ha : DA X c wx [a, b, cc] t') (hij : i ≠ j := by decide) (him : i ≠ m := by decide) (hjm : j ≠ m := by decide) (hi : X.N[i]? = some x := by rfl) (hj : X.N[j]? = some y := by rfl) (hm : X.N[m]? = some z := by rfl)
    (hx : X.env.scope.names.lookup x = some .local := by rfl) (hy : X.env.scope.names.lookup y = some .local := by rfl) (hz : X.env.scope.names.lookup z = some .local := by rfl)
    (hw : swappedStores [.Tuple [.Name x px, .Name y py, .Name z pz] kt pt] (.Tuple [a, b, cc] k2 pt2) X.env = pure (some [x, y, z]) := by rfl)
    (hs : swapsWithSole [.Tuple [.Name x px, .Name y py, .Name z pz] kt pt] (.Tuple [a, b, cc] k2 pt2) pos.line X.env = pure false := by rfl) :
    DS X c wx (.Assign [.Tuple [.Name x px, .Name y py, .Name z pz] kt pt] (.Tuple [a, b, cc] k2 pt2) pos) (dPar [i, j, m] t') := by
  obtain ⟨te, pa, ra⟩ := ha.run
  refine ⟨_, ps_par3 C.calm C.nd hi hj hm hij him hjm hx hy hz pa hw hs, fun ps ρ g σ H E B s t l => ?_⟩
  obtain ⟨ow, e⟩ := s
  refine ra ps ρ g σ H ow _ _ _ e t (fun fs g1 vs H1 k1 d1 nd q => ?_) (l.rzOk e)
  obtain ⟨ρ', s', q'⟩ := e.storeAll k1 d1 nd q.1 q.2
  obtain ⟨v1, v2, v3, rfl⟩ := len3 (d1.length.symm.trans (stFs_len q.2))
  exact ⟨v1, v2, v3, rfl, l.nx ρ' g1 _ H1 s' q'⟩
end
end DL

set_option Elab.async false
set_option linter.all false
set_option autoImplicit false
set_option maxRecDepth 100000
set_option maxHeartbeats 4000000
namespace DL
open PySem PySem.Spec L2
section
variable {G : Type} {X : Cx} {c : Fc G} {wx : WX} {pos : Pos}
variable {K : PySem.W.Frag} {ow : Addr → Prop} {ρ : DEnv} {g g1 gs : G} {σ : St} {H H1 Hs : Hp} {p : Addr}
variable {a b : Expr} {ta tb : DT G} {st : Stmt} {rest body : List Stmt} {t u : DSt G}
/-! ### owned lists that change -/
theorem vw_own {W : Wd G} {fr : Addr → Prop} {a : Addr} {o : HO} (h : ow a) : Same (vw (hd W fr ow g) H) (vw (hd W fr ow g) (upd H a o)) := vw_same fun b u n q => ⟨n, by
  rw [upd_ne (fun z => n (.inr (.inl (by rw [z]; exact h))))]; exact q⟩
theorem Er.updOwn (e : Er K c ow ρ g σ H) {i : Nat} {a : Addr} {xs ys : List D} {ws : List V} (h : ρ[i]? = some (.own xs)) (hs : σ[i]? = some (some (V.ref a))) (d : DnAll K (vw (hd c.W c.fr ow g) H) ws ys) : Er K c ow (ρ.set i (.own ys)) g σ (upd H a (.lst ws)) := by
  obtain ⟨b, vs, q1, q2, q3, q4⟩ := e.sl _ _ h
  rw [hs] at q1; cases q1
  obtain ⟨_, h0, nh⟩ := e.owd a q2
  refine ⟨⟨fun b o n z => ?_, c.W.frame e.ok fun b hb => upd_ne fun z => nh (z ▸ hb), e.k0.new, e.k0.mono⟩, e.fr, fun b hb => ?_, fun j s' hj => ?_, fun j j' xs' ys' b h1 h2 h3 h4 => ?_, fun p hp => Dn.mono (vw_own q2) (e.pin p hp), by rw [List.length_set]; exact e.len⟩
  · rw [upd_ne fun q => by rw [q, h0] at z; cases z]
    exact e.k0.keep b o n z
  · obtain ⟨⟨us, r1⟩, r2⟩ := e.owd b hb
    refine ⟨?_, r2⟩
    by_cases z : b = a
    · subst z; exact ⟨ws, upd_same⟩
    · exact ⟨us, by rw [upd_ne z]; exact r1⟩
  · rcases set_get hj with ⟨rfl, rfl⟩ | ⟨ne, hj⟩
    · exact ⟨a, ws, hs, q2, upd_same, DnAll.mono (vw_own q2) d⟩
    · have q := e.sl j s' hj
      cases s' with
      | none => trivial
      | val d => obtain ⟨v, h1, h2⟩ := q; exact ⟨v, h1, Dn.mono (vw_own q2) h2⟩
      | fn u => exact q
      | own zs =>
        obtain ⟨b, us, r1, r2, r3, r4⟩ := q
        refine ⟨b, us, r1, r2, ?_, DnAll.mono (vw_own q2) r4⟩
        rw [upd_ne fun z => ?_]; exact r3
        subst z
        exact ne (e.inj i j xs zs b h hj hs r1)
  · have h1' : ∃ zs, ρ[j]? = some (.own zs) := by
      rcases set_get h1 with ⟨rfl, _⟩ | ⟨_, h1⟩
      · exact ⟨xs, h⟩
      · exact ⟨_, h1⟩
    have h2' : ∃ zs, ρ[j']? = some (.own zs) := by
      rcases set_get h2 with ⟨rfl, _⟩ | ⟨_, h2⟩
      · exact ⟨xs, h⟩
      · exact ⟨_, h2⟩
    obtain ⟨_, r1⟩ := h1'
    obtain ⟨_, r2⟩ := h2'
    exact e.inj j j' _ _ b r1 r2 h3 h4
def onOwn (ρ : DEnv) (i : Nat) (k : List D → Prop) : Prop := match ρ[i]? with
  | some (.own xs) => k xs
  | _ => False
theorem onOwn_of {ρ : DEnv} {i : Nat} {k : List D → Prop} (h : onOwn ρ i k) : ∃ m, ρ[i]? = some (.own m) ∧ k m := by
  unfold onOwn at h
  split at h
  · exact ⟨_, by assumption, h⟩
  · exact h.elim
/-- x.append(e) -/
def dAppend (i : Nat) (ta : DT G) : DSt G := fun ρ g E => onOwn ρ i fun xs => ta ρ g (fun f g1 => f.safe = true ∧ xs.length < sizeLine ∧ E.nx (ρ.set i (.own (xs ++ [f.data]))) g1) fun ex g1 => E.rz ex ρ g1
theorem sAppend (i : Nat) {x : Str} {p1 p2 p3 : Pos} (he : DE X c wx a ta) (hN : X.N[i]? = some x := by rfl) (hv : Vis X.env.scope x := by first | exact Or.inl rfl | exact Or.inr (Or.inl rfl) | exact Or.inr (Or.inr rfl)) (hd : (x == ("__debug__" : Str)) = false := by decide)
    (hcd : (x == ("__classdict__" : Str)) = false := by decide)
    (hbase : attributeBase (.Name x p1) "append" X.env (eval (.Name x p1) X.env) = eval (.Name x p1) X.env := by rfl)
    (hfew : ((backTo p3 (starEach [a] X.env)).all (fun x => !x.1) && (backToKw p3 (keywordEach [] X.env)).all (fun x => x.1.isSome)
      && decide ([a].length + ([] : List Keyword).length + (if ([] : List Keyword).isEmpty then 0 else 1) < 30)) = true := by rfl)
    (hline : (p2.endLine == p3.line) = true := by rfl) (hs : starEach [a] X.env = (false, eval a X.env) :: starEach [] X.env := by rfl) (hplain : (backTo p3 (starEach [] X.env)).any (·.1) = false := by rfl)
    (hsw : swapsWith (.Call (.Attribute (.Name x p1) "append" p2) [a] [] p3) none pos.line X.env = pure false := by rfl) : DS X c wx (.Expr (.Call (.Attribute (.Name x p1) "append" p2) [a] [] p3) pos) (dAppend i ta) := by
  obtain ⟨te, pa, ra⟩ := he.run
  refine ⟨_, ps_expr (pe_bm PySem.F.plainAttrs_list PySem.F.slot_list_append PySem.F.type_list_append mt_append (pe_var (i := i) hN hv hd hcd) (pa_cons pa pa_nil hs) hbase hfew hline hs hplain) hsw, fun ps ρ g σ H E B s t l => ?_⟩
  obtain ⟨ow, e⟩ := s
  obtain ⟨xs, hx, t⟩ := onOwn_of t
  obtain ⟨b, vs, h1, h2, h3, h4⟩ := e.sl _ _ hx
  refine ⟨_, h1, .inl ⟨rfl, _, SqL.of h3⟩, ?_⟩
  refine ra ps ρ g σ H ow _ _ _ e t (fun f g1 v H1 k1 d1 q => ?_) (l.rzOk e)
  obtain ⟨q1, q2, q3⟩ := q
  have e1 := e.keep k1
  have hb1 := k1.keep b _ (e.owd b h2).2.2 h3
  refine ⟨b, vs, v, rfl, rfl, hb1, by rw [h4.length]; exact q2, ?_⟩
  exact l.nx _ g1 _ _ ⟨ow, e1.updOwn hx h1 ((DnAll.mono (hd_keep k1) h4).append (.cons (d1.safe e.ows e.frs q1) .nil))⟩ q3
/-- x.extend(e), e a list -/
def dExtend (i : Nat) (ta : DT G) : DSt G := fun ρ g E => onOwn ρ i fun xs => ta ρ g (fun f g1 => match f.data with
  | .list ys => xs.length + ys.length ≤ sizeLine ∧ E.nx (ρ.set i (.own (xs ++ ys))) g1
  | _ => False) fun ex g1 => E.rz ex ρ g1
theorem sExtend (i : Nat) {x : Str} {p1 p2 p3 : Pos} (he : DE X c wx a ta) (hN : X.N[i]? = some x := by rfl) (hv : Vis X.env.scope x := by first | exact Or.inl rfl | exact Or.inr (Or.inl rfl) | exact Or.inr (Or.inr rfl)) (hd : (x == ("__debug__" : Str)) = false := by decide)
    (hcd : (x == ("__classdict__" : Str)) = false := by decide)
    (hbase : attributeBase (.Name x p1) "extend" X.env (eval (.Name x p1) X.env) = eval (.Name x p1) X.env := by rfl)
    (hfew : ((backTo p3 (starEach [a] X.env)).all (fun x => !x.1) && (backToKw p3 (keywordEach [] X.env)).all (fun x => x.1.isSome)
      && decide ([a].length + ([] : List Keyword).length + (if ([] : List Keyword).isEmpty then 0 else 1) < 30)) = true := by rfl)
    (hline : (p2.endLine == p3.line) = true := by rfl) (hs : starEach [a] X.env = (false, eval a X.env) :: starEach [] X.env := by rfl) (hplain : (backTo p3 (starEach [] X.env)).any (·.1) = false := by rfl)
    (hsw : swapsWith (.Call (.Attribute (.Name x p1) "extend" p2) [a] [] p3) none pos.line X.env = pure false := by rfl) : DS X c wx (.Expr (.Call (.Attribute (.Name x p1) "extend" p2) [a] [] p3) pos) (dExtend i ta) := by
  obtain ⟨te, pa, ra⟩ := he.run
  refine ⟨_, ps_expr (pe_bm PySem.F.plainAttrs_list PySem.F.slot_list_extend PySem.F.type_list_extend mt_extend (pe_var (i := i) hN hv hd hcd) (pa_cons pa pa_nil hs) hbase hfew hline hs hplain) hsw, fun ps ρ g σ H E B s t l => ?_⟩
  obtain ⟨ow, e⟩ := s
  obtain ⟨xs, hx, t⟩ := onOwn_of t
  obtain ⟨b, vs, h1, h2, h3, h4⟩ := e.sl _ _ hx
  refine ⟨_, h1, .inl ⟨rfl, _, SqL.of h3⟩, ?_⟩
  refine ra ps ρ g σ H ow _ _ _ e t (fun f g1 v H1 k1 d1 q => ?_) (l.rzOk e)
  have e1 := e.keep k1
  have hb1 := k1.keep b _ (e.owd b h2).2.2 h3
  cases hf : f.data with
  | list ys =>
    rw [hf] at q
    obtain ⟨b2, ws, rfl, hb2, d2⟩ := d1.list hf
    refine ⟨b, b2, vs, ws, rfl, rfl, hb1, hb2, by rw [h4.length, d2.length]; exact q.1, ?_⟩
    exact l.nx _ g1 _ _ ⟨ow, e1.updOwn hx h1 ((DnAll.mono (hd_keep k1) h4).append d2)⟩ q.2
  | _ => rw [hf] at q; exact q.elim
/-! ### what a for walks -/
def Seen (K : PySem.W.Frag) (W : Wd G) (fr ow : Addr → Prop) (g : G) (H : Hp) (v : V) : D → Prop
  | .list xs => ∃ a vs, v = .ref a ∧ H a = some (.lst vs) ∧ ¬ W.hid g a ∧ DnAll K (vw (hd W fr ow g) H) vs xs
  | .tuple xs => ∃ a vs, v = .ref a ∧ SqT K (vw (hd W fr ow g) H) a vs ∧ DnAll K (vw (hd W fr ow g) H) vs xs
  | d => Dn K (vw (hd W fr ow g) H) v d
theorem Dn.seen {W : Wd G} {fr : Addr → Prop} {v : V} {d : D} (h : Dn K (vw (hd W fr ow g) H) v d) : Seen K W fr ow g H v d := by
  cases h with
  | non => exact Dn.non
  | bl b => exact Dn.bl b
  | int b => exact Dn.int b
  | str b => exact Dn.str b
  | lst h x => obtain ⟨n, q⟩ := vw_some.mp h; exact ⟨_, _, rfl, q, fun z => n (.inr (.inr z)), x⟩
  | tup h x => exact ⟨_, _, rfl, h, x⟩
theorem FDen.seen {W : Wd G} {fr : Addr → Prop} {f : F} {v : V} (x : FDen K W fr ow Hs g H f v) (hf : f.isD = true) : Seen K W fr ow g H v f.data := by
  cases f with
  | val d => exact Dn.seen x
  | fresh xs => obtain ⟨a, vs, h1, h2, h3, h4, h5⟩ := x; exact ⟨a, vs, h1, h4, h3, DnAll.mono hd_less h5⟩
  | bor xs => obtain ⟨a, vs, h1, h2, h3, h4, h5⟩ := x; exact ⟨a, vs, h1, h4, h3, h5⟩
  | fn u => cases hf
theorem Seen.keep {W : Wd G} {fr : Addr → Prop} {v : V} {d : D} (k : Keep W gs g Hs H) (h : Seen K W fr ow gs Hs v d) : Seen K W fr ow g H v d := by
  cases d with
  | list xs =>
    obtain ⟨a, vs, h1, h2, h3, h4⟩ := h
    refine ⟨a, vs, h1, k.keep a _ h3 h2, fun z => ?_, DnAll.mono (hd_keep k) h4⟩
    rcases k.new a z with z | z
    · exact h3 z
    · rw [z] at h2; cases h2
  | tuple xs => obtain ⟨a, vs, h1, h2, h3⟩ := h; exact ⟨a, vs, h1, sameT (hd_keep k) h2, DnAll.mono (hd_keep k) h3⟩
  | none => exact Dn.mono (hd_keep k) h
  | bool _ => exact Dn.mono (hd_keep k) h
  | int _ => exact Dn.mono (hd_keep k) h
  | str _ => exact Dn.mono (hd_keep k) h
  | dict _ => exact Dn.mono (hd_keep k) h
/-- J yields items, as long as ps are seen -/
def ItOk (X : Cx) (c : Fc G) (J : It) (ps : List (V × D)) (items : List D) : Prop := ∀ (ow : Addr → Prop) (g g0 : G) (H H0' : Hp), c.W.ok g H → (∀ a, hd c.W c.fr ow g a → H a ≠ none) → (∀ p ∈ ps, Seen X.K c.W c.fr ow g H p.1 p.2) →
  J.stop items.length H ∧ ∀ (i : Nat) (x : D), items[i]? = some x → J.go i H ∧ ∀ v' H', J.yld i H v' H' → Keep c.W g g H H' ∧ Dn X.K (vw (hd c.W c.fr ow g) H') v' x
abbrev DTI (G : Type) := DEnv → G → (List D → Bool → G → Prop) → (Ex → G → Prop) → Prop
structure DI (X : Cx) (c : Fc G) (wx : WX) (tg iter : Expr) (t : DTI G) : Prop where
  run : ∃ wi, PI X tg iter wi ∧ ∀ (ps : List (V × D)) ρ g σ H ow Q R (Qv : It → Hp → Prop), Er X.K (c.pn ps) ow ρ g σ H → t ρ g Q R →
    (∀ items sf g' J ps H', Keep c.W g g' H H' → ItOk X c J ps items → (∀ p ∈ ps, Seen X.K c.W c.fr ow g' H' p.1 p.2) → (sf = true → ∀ p ∈ ps, Dn X.K (vw (hd c.W c.fr ow g') H') p.1 p.2) → Q items sf g' → Qv J H') → RzOk c.W wx g σ H R → wi σ H Qv
theorem Er.hds (e : Er K c ow ρ g σ H) : ∀ a, hd c.W c.fr ow g a → H a ≠ none := fun a h => by
  rcases h with h | h | h
  · exact e.frs a h
  · exact e.ows a h
  · exact c.W.there e.ok h
/-- over a list -/
def dIterL (ta : DT G) : DTI G := fun ρ g Q R => ta ρ g (fun f g1 => match f.data with
  | .list xs => Q xs f.safe g1
  | _ => False) R
def dIterT (ta : DT G) : DTI G := fun ρ g Q R => ta ρ g (fun f g1 => match f.data with
  | .tuple xs => Q xs true g1
  | _ => False) R
variable {tg : Expr}
theorem iList (ha : DE X c wx a ta) : DI X c wx tg a (dIterL ta) := by
  obtain ⟨te, pa, ra⟩ := ha.run
  refine ⟨_, pi_list pa, fun ps ρ g σ H ow Q R Qv e t k rz => ?_⟩
  refine ra ps ρ g σ H ow _ R _ e t (fun f g1 v H1 k1 d1 q => ?_) rz
  cases hf : f.data with
  | list xs =>
    rw [hf] at q
    have sn := d1.seen (isD_of (by rw [hf]; intro _ z; cases z))
    rw [hf] at sn
    obtain ⟨a', vs, rfl, h1, h2, h3⟩ := id sn
    refine ⟨a', rfl, ⟨vs, SqL.of h1⟩, k xs f.safe g1 (Itl X.K a') [(.ref a', .list xs)] H1 k1 (fun ow g g0 H H0' hok hh hs => ?_) (fun p hp => ?_) (fun hsf p hp => ?_) q⟩
    · obtain ⟨b, ws, hb, h4, h5, h6⟩ := hs _ (List.mem_singleton.mpr rfl)
      cases hb
      refine ⟨⟨ws, SqL.of h4, by rw [h6.length]; exact Nat.le_refl _⟩, fun i x hx => ?_⟩
      obtain ⟨w, hw, dw⟩ := h6.get hx
      refine ⟨⟨ws, w, SqL.of h4, hw⟩, fun v' H' y => ?_⟩
      obtain ⟨rfl, y⟩ := y
      have := y ws (SqL.of h4)
      rw [hw] at this
      cases this
      exact ⟨Keep.refl hok, dw⟩
    · have := List.mem_singleton.mp hp; subst this; exact sn
    · have := List.mem_singleton.mp hp; subst this
      have := d1.safe e.ows e.frs hsf
      rwa [hf] at this
  | _ => rw [hf] at q; exact q.elim
theorem iTuple (ha : DE X c wx a ta) : DI X c wx tg a (dIterT ta) := by
  obtain ⟨te, pa, ra⟩ := ha.run
  refine ⟨_, pi_tup pa, fun ps ρ g σ H ow Q R Qv e t k rz => ?_⟩
  refine ra ps ρ g σ H ow _ R _ e t (fun f g1 v H1 k1 d1 q => ?_) rz
  cases hf : f.data with
  | tuple xs =>
    rw [hf] at q
    have sn := d1.seen (isD_of (by rw [hf]; intro _ z; cases z))
    rw [hf] at sn
    obtain ⟨a', vs, rfl, h1, h3⟩ := id sn
    refine ⟨a', rfl, ⟨vs, sameT vw_sub h1⟩, k xs true g1 (Itt X.K a') [(.ref a', .tuple xs)] H1 k1 (fun ow g g0 H H0' hok hh hs => ?_) (fun p hp => ?_) (fun hsf p hp => ?_) q⟩
    · obtain ⟨b, ws, hb, h4, h6⟩ := hs _ (List.mem_singleton.mpr rfl)
      cases hb
      have h4 := sameT vw_sub h4
      refine ⟨⟨ws, h4, by rw [h6.length]; exact Nat.le_refl _⟩, fun i x hx => ?_⟩
      obtain ⟨w, hw, dw⟩ := h6.get hx
      refine ⟨⟨ws, w, h4, hw⟩, fun v' H' y => ?_⟩
      obtain ⟨rfl, y⟩ := y
      have := y ws h4
      rw [hw] at this
      cases this
      exact ⟨Keep.refl hok, dw⟩
    · have := List.mem_singleton.mp hp; subst this; exact sn
    · have := List.mem_singleton.mp hp; subst this
      exact .tup h1 h3
  | _ => rw [hf] at q; exact q.elim
def rngD (lo : Int) (n : Nat) : List D := (List.range n).map fun i => PyData.int (lo + (i : Nat))
theorem rngD_ok {lo : Int} {n : Nat} : ItOk X c (Itr lo n) [] (rngD lo n) := fun ow g g0 H H0' hok hh hs => by
  refine ⟨by unfold rngD; rw [List.length_map, List.length_range]; exact Nat.le_refl _, fun i x hx => ?_⟩
  unfold rngD at hx
  rw [List.getElem?_map] at hx
  have hi : i < n := by
    by_cases h : i < n
    · exact h
    · rw [List.getElem?_eq_none (by simpa using h)] at hx; cases hx
  rw [List.getElem?_range hi] at hx
  cases hx
  refine ⟨hi, fun v' H' y => ?_⟩
  obtain ⟨rfl, rfl⟩ := y
  exact ⟨Keep.refl hok, Dn.int _⟩
def dRng1 (t : DTA G) : DTI G := fun ρ g Q R => t ρ g (fun fs g1 => match fs with
  | [f] => onInt f.data fun n => -(2 ^ 62) ≤ n ∧ n < 2 ^ 62 ∧ Q (rngD 0 n.toNat) true g1
  | _ => False) R
def dRng2 (t : DTA G) : DTI G := fun ρ g Q R => t ρ g (fun fs g1 => match fs with
  | [f, f'] => onInt f.data fun m => onInt f'.data fun n => (-(2 ^ 62) ≤ m ∧ m < 2 ^ 62 ∧ -(2 ^ 62) ≤ n ∧ n < 2 ^ 62) ∧ Q (rngD m (n - m).toNat) true g1
  | _ => False) R
theorem iRange1 {t' : DTA G} {p1 : Pos} (hm : X.mg "range" = none) (ha : DA X c wx [a] t') (hg : Gl X "range" := by rfl) (hs : starEach [a] X.env = [(false, eval a X.env)] := by rfl) : DI X c wx tg (.Call (.Name "range" p1) [a] [] pos) (dRng1 t') := by
  obtain ⟨te, pa, ra⟩ := ha.run
  refine ⟨_, pi_range1 hg hm pa hs, fun ps ρ g σ H ow Q R Qv e t k rz => ?_⟩
  refine ra ps ρ g σ H ow _ R _ e t (fun fs g1 vs H1 k1 d1 nd q => ?_) rz
  match fs, vs, d1, q with
  | [f], [v], .cons d1 .nil, q =>
    obtain ⟨n, hn, q1, q2, q⟩ := onInt_of q
    exact ⟨n, by rw [d1.int hn], q1, q2, k _ true g1 _ [] H1 k1 rngD_ok (fun _ z => nomatch z) (fun _ _ z => nomatch z) q⟩
theorem iRange2 {t' : DTA G} {p1 : Pos} (hm : X.mg "range" = none) (ha : DA X c wx [a, b] t') (hg : Gl X "range" := by rfl) (hs : starEach [a, b] X.env = [(false, eval a X.env), (false, eval b X.env)] := by rfl) (hs2 : starEach [b] X.env = [(false, eval b X.env)] := by rfl) : DI X c wx tg (.Call (.Name "range" p1) [a, b] [] pos) (dRng2 t') := by
  obtain ⟨te, pa, ra⟩ := ha.run
  refine ⟨_, pi_range2 hg hm pa hs hs2, fun ps ρ g σ H ow Q R Qv e t k rz => ?_⟩
  refine ra ps ρ g σ H ow _ R _ e t (fun fs g1 vs H1 k1 d1 nd q => ?_) rz
  match fs, vs, d1, q with
  | [f, f'], [v, v'], .cons d1 (.cons d2 .nil), q =>
    obtain ⟨m, hm', q⟩ := onInt_of q
    obtain ⟨n, hn, q1, q⟩ := onInt_of q
    exact ⟨m, n, by rw [d1.int hm', d2.int hn], q1, k _ true g1 _ [] H1 k1 rngD_ok (fun _ z => nomatch z) (fun _ _ z => nomatch z) q⟩
end
end DL

set_option Elab.async false
set_option linter.all false
set_option autoImplicit false
set_option maxRecDepth 100000
set_option maxHeartbeats 4000000
namespace DL
open PySem PySem.Spec L2
section
variable {G : Type} {X : Cx} {c : Fc G} {wx : WX} {pos : Pos}
variable {K : PySem.W.Frag} {ow : Addr → Prop} {ρ : DEnv} {g g1 gs : G} {σ : St} {H H1 Hs : Hp} {p : Addr}
variable {a b : Expr} {ta tb : DT G} {st : Stmt} {rest body : List Stmt} {t u : DSt G}
theorem Er.repin {ps qs : List (V × D)} (e : Er K (c.pn ps) ow ρ g σ H) (h : ∀ p ∈ qs, Dn K (vw (hd c.W c.fr ow g) H) p.1 p.2) : Er K (c.pn (qs ++ ps)) ow ρ g σ H :=
  ⟨e.k0, e.fr, e.owd, e.sl, e.inj, fun p hp => (List.mem_append.mp hp).elim (h p) (e.pin p), e.len⟩
theorem Er.unpin {ps qs : List (V × D)} (e : Er K (c.pn (qs ++ ps)) ow ρ g σ H) : Er K (c.pn ps) ow ρ g σ H :=
  ⟨e.k0, e.fr, e.owd, e.sl, e.inj, fun p hp => e.pin p (List.mem_append_right _ hp), e.len⟩
theorem SR.unpin {ps qs : List (V × D)} (e : SR K (c.pn (qs ++ ps)) ρ g σ H) : SR K (c.pn ps) ρ g σ H := let ⟨ow, e⟩ := e; ⟨ow, e.unpin⟩
def dForL (tgt : DTg) (body : DSt G) : List D → DSt G
  | [], ρ, g, E => E.nx ρ g
  | x :: xs, ρ, g, E => tgt x ρ fun ρ1 => body ρ1 g { E with nx := fun ρ' g' => dForL tgt body xs ρ' g' E, ct := fun ρ' g' => dForL tgt body xs ρ' g' E, bk := E.nx }
def dFor (ti : DTI G) (tgt : DTg) (body : DSt G) : DSt G := fun ρ g E => ti ρ g (fun items sf g1 => sf = true ∧ dForL tgt body items ρ g1 E) fun ex g1 => E.rz ex ρ g1
theorem sFor {tg iter : Expr} {ti : DTI G} {tgt : DTg} {n : Nat} (C : Cap n X wx) (hi : DI X c wx tg iter ti) (hg : DG X c tg tgt) (hb : DSs X c wx body t)
    (hs : ∀ x, foldedSetIterable iter X.env x = pure x := by intro _; rfl) : DS X c wx (.For tg iter body [] pos) (dFor ti tgt t) := by
  obtain ⟨wi, pi, ri⟩ := hi.run
  obtain ⟨gt, pg, rg⟩ := hg.run
  obtain ⟨ts, pb, rb⟩ := hb.run
  refine ⟨_, ps_for C.hp C.calm pi pg pb hs, fun ps ρ g σ H E B s t l => ?_⟩
  obtain ⟨ow, e⟩ := s
  refine ri ps ρ g σ H ow _ _ _ e t (fun items sf g1 J qs H1 k1 hit hsn hsf q => ?_) (l.rzOk e)
  obtain ⟨rfl, q⟩ := q
  have e1 : Er X.K (c.pn (qs ++ ps)) ow ρ g1 σ H1 := (e.keep k1).repin (hsf rfl)
  refine ⟨fun i m σ' H' => m = items.length - i ∧ i ≤ items.length ∧ ∃ ρ' g', SR X.K (c.pn (qs ++ ps)) ρ' g' σ' H' ∧ dForL tgt _ (items.drop i) ρ' g' E, ⟨_, rfl, Nat.zero_le _, ρ, g1, ⟨ow, e1⟩, by simpa using q⟩, ?_⟩
  rintro i m σ' H' ⟨rfl, hi, ρ', g', ⟨ow', e'⟩, q'⟩
  have pins : ∀ p ∈ qs, Dn X.K (vw (hd c.W c.fr ow' g') H') p.1 p.2 := fun p hp => e'.pin p (List.mem_append_left _ hp)
  obtain ⟨hst, hgo⟩ := hit ow' g' g' H' H' e'.ok e'.hds fun p hp => (pins p hp).seen
  by_cases hlt : i < items.length
  · have hx : items[i]? = some items[i] := by simp [hlt]
    obtain ⟨go, yl⟩ := hgo i _ hx
    rw [List.drop_eq_getElem_cons hlt] at q'
    unfold dForL at q'
    refine .inr ⟨go, fun σ2 H2 => ∃ ρ2 g2, SR X.K (c.pn (qs ++ ps)) ρ2 g2 σ2 H2 ∧ dForL tgt _ (items.drop (i + 1)) ρ2 g2 E, fun σ2 H2 z => ⟨_, by omega, rfl, hlt, z⟩, fun v' H2 y => ?_⟩
    obtain ⟨k2, dv⟩ := yl v' H2 y
    refine rg (qs ++ ps) ρ' g' σ' H2 ow' v' _ _ _ (e'.keep k2) dv q' fun ρ3 σ3 e3 q3 => ?_
    refine rb (qs ++ ps) ρ3 g' σ3 H2 _ _ ⟨ow', e3⟩ q3 ⟨fun ρ4 g4 σ4 H4 s4 q4 => ⟨ρ4, g4, s4, q4⟩, l.rt, fun ρ4 g4 σ4 H4 s4 q4 => l.nx ρ4 g4 σ4 H4 s4.unpin q4, fun ρ4 g4 σ4 H4 s4 q4 => ⟨ρ4, g4, s4, q4⟩, fun ex ρ4 g4 σ4 H4 cls d s4 => l.rz ex ρ4 g4 σ4 H4 cls d s4.unpin⟩
  · have hi' : i = items.length := by omega
    subst hi'
    rw [List.drop_length] at q'
    unfold dForL at q'
    exact .inl ⟨hst, l.nx ρ' g' σ' H' (SR.unpin ⟨ow', e'⟩) q'⟩
/-! ### while -/
def dWh (test : DTT G) (body : DSt G) : Nat → DSt G
  | 0, _, _, _ => False
  | n + 1, ρ, g, E => test ρ g (fun b g1 => if b = true then body ρ g1 { E with nx := fun ρ' g' => dWh test body n ρ' g' E, ct := fun ρ' g' => dWh test body n ρ' g' E, bk := E.nx } else E.nx ρ g1) fun ex g1 => E.rz ex ρ g1
def dWhile (test : DTT G) (body : DSt G) : DSt G := fun ρ g E => ∃ n, dWh test body n ρ g E
theorem sWhile {cc : Expr} {tc : DTT G} {n : Nat} (C : Cap n X wx) (hc : DP X c wx cc tc) (hb : DSs X c wx body t) : DS X c wx (.While cc body [] pos) (dWhile tc t) := by
  obtain ⟨tec, pc, rc⟩ := hc.run
  obtain ⟨ts, pb, rb⟩ := hb.run
  refine ⟨_, ps_while C.hp pc pb, fun ps ρ g σ H E B s t l => ?_⟩
  obtain ⟨m, t⟩ := t
  refine ⟨fun m σ' H' => ∃ ρ' g', SR X.K (c.pn ps) ρ' g' σ' H' ∧ dWh tc _ m ρ' g' E, ⟨m, ρ, g, s, t⟩, ?_⟩
  rintro m σ' H' ⟨ρ', g', ⟨ow', e'⟩, q'⟩
  cases m with
  | zero => exact q'.elim
  | succ m =>
    refine rc ps ρ' g' σ' H' ow' _ _ _ e' q' (fun b g1 H1 k1 q => ?_) (l.rzOk e')
    cases b with
    | false => exact l.nx ρ' g1 σ' H1 ⟨ow', e'.keep k1⟩ q
    | true =>
      refine ⟨fun σ2 H2 => ∃ ρ2 g2, SR X.K (c.pn ps) ρ2 g2 σ2 H2 ∧ dWh tc _ m ρ2 g2 E, fun σ2 H2 z => ⟨m, Nat.lt_succ_self _, z⟩, ?_⟩
      exact rb ps ρ' g1 σ' H1 _ _ ⟨ow', e'.keep k1⟩ q ⟨fun ρ4 g4 σ4 H4 s4 q4 => ⟨ρ4, g4, s4, q4⟩, l.rt, fun ρ4 g4 σ4 H4 s4 q4 => l.nx ρ4 g4 σ4 H4 s4 q4, fun ρ4 g4 σ4 H4 s4 q4 => ⟨ρ4, g4, s4, q4⟩, l.rz⟩
/-! ### a list comprehension, one for -/
structure DTs (X : Cx) (c : Fc G) (wx : WX) (es : List Expr) (t : DTT G) : Prop where
  run : ∃ te, PTs X es te ∧ ∀ (ps : List (V × D)) ρ g σ H ow Q R (Qv : Bool → Hp → Prop), Er X.K (c.pn ps) ow ρ g σ H → t ρ g Q R →
    (∀ b g' H', Keep c.W g g' H H' → Q b g' → Qv b H') → RzOk c.W wx g σ H R → te σ H Qv
def dYes : DTT G := fun _ g Q _ => Q true g
theorem tNil : DTs X c wx [] dYes := ⟨_, pts_nil, fun ps ρ g σ H ow Q R Qv e t k rz => k true g H (Keep.refl e.ok) t⟩
theorem tOne {tt : DTT G} (h : DP X c wx a tt) : DTs X c wx [a] tt := let ⟨te, pa, ra⟩ := h.run; ⟨te, pts_one pa, ra⟩
def wipeD (ρ : DEnv) : List Nat → DEnv
  | [] => ρ
  | v :: vs => (wipeD ρ vs).set v .none
theorem Er.wipe (e : Er K c ow ρ g σ H) : ∀ vs : List Nat, Er K c ow (wipeD ρ vs) g (L2.wipe σ vs) H
  | [] => e
  | v :: vs => (Er.wipe e vs).putNone v none
abbrev wF : WX := fun _ _ _ _ => False
/-- at a set of the comprehension's slots the target's stores don't show -/
structure DGw (X : Cx) (c : Fc G) (tg : Expr) (t : DTg) (vs : List Nat) : Prop where
  run : ∃ g', PG X tg g' ∧ ∀ (ps : List (V × D)) ρ g σ H ow v d Q (Qv : St → Hp → Prop), Er X.K (c.pn ps) ow ρ g σ H → Dn X.K (vw (hd c.W c.fr ow g) H) v d → t d ρ Q →
    (∀ ρ' σ', Er X.K (c.pn ps) ow ρ' g σ' H → L2.wipe σ' vs = L2.wipe σ vs → Q ρ' → Qv σ' H) → g' v σ H Qv
structure DGsw (X : Cx) (c : Fc G) (es : List Expr) (t : DTgs) (vs : List Nat) : Prop where
  run : ∃ g', PGs X es g' ∧ ∀ (ps : List (V × D)) ρ g σ H ow ws ds Q (Qv : St → Hp → Prop), Er X.K (c.pn ps) ow ρ g σ H → DnAll X.K (vw (hd c.W c.fr ow g) H) ws ds → t ds ρ Q →
    (∀ ρ' σ', Er X.K (c.pn ps) ow ρ' g σ' H → L2.wipe σ' vs = L2.wipe σ vs → Q ρ' → Qv σ' H) → g' ws σ H Qv
theorem wipe_set {σ : St} {i : Nat} {o : Option V} : ∀ {vs : List Nat}, i ∈ vs → L2.wipe (σ.set i o) vs = L2.wipe σ vs
  | v :: vs, h => by
    unfold L2.wipe
    by_cases e : i = v
    · subst e
      have : ∀ us : List Nat, (L2.wipe (σ.set i o) us).set i none = (L2.wipe σ us).set i none := by
        intro us
        induction us with
        | nil => simp [L2.wipe]
        | cons u us ih =>
          unfold L2.wipe
          by_cases e : u = i
          · subst e; rw [ih]
          · rw [List.set_comm _ _ e, ih, List.set_comm _ _ (Ne.symm e)]
      exact this vs
    · rw [wipe_set (vs := vs) ((List.mem_cons.mp h).resolve_left e)]
theorem gNmw (i : Nat) {vs : List Nat} {x : Str} (hN : X.N.Nodup) (hv : i ∈ vs := by decide) (hi : X.N[i]? = some x := by rfl) (hx : Loc X.env.scope x := by first | exact Or.inl rfl | exact Or.inr rfl) (hf : X.fn x = true ∨ X.env.scope.names.lookup x = some .local := by first | exact .inl rfl | exact .inr rfl) : DGw X c (.Name x pos) (tgName i) vs :=
  ⟨_, pg_name (i := i) hN hi hx hf, fun ps ρ g σ H ow v d Q Qv e dv t k => k _ _ (e.putVal i dv) (wipe_set hv) t⟩
theorem gNilw {vs : List Nat} : DGsw X c [] tgNil vs := ⟨_, pgs_nil, fun ps ρ g σ H ow ws ds Q Qv e dv t k => by
  obtain ⟨rfl, t⟩ := t
  cases dv
  exact ⟨rfl, k ρ σ e rfl t⟩⟩
theorem gConsw {vs : List Nat} {es : List Expr} {t : DTg} {u : DTgs} (h1 : DGw X c a t vs) (h2 : DGsw X c es u vs) (hs : (assignEach (a :: es) X.env).map (·.2) = assign a X.env :: (assignEach es X.env).map (·.2) := by rfl) : DGsw X c (a :: es) (tgCons t u) vs := by
  obtain ⟨g1, p1, r1⟩ := h1.run
  obtain ⟨g2, p2, r2⟩ := h2.run
  refine ⟨_, pgs_cons p1 p2 hs, fun ps ρ g σ H ow ws ds Q Qv e dv t k => ?_⟩
  cases dv with
  | nil => exact t.elim
  | cons d1 dr => exact ⟨_, _, rfl, r1 ps ρ g σ H ow _ _ _ _ e d1 t fun ρ' σ' e' hw q => r2 ps ρ' g σ' H ow _ _ Q Qv e' dr q fun ρ2 σ2 e2 hw2 q2 => k ρ2 σ2 e2 (hw2.trans hw) q2⟩
theorem gTpw {vs : List Nat} {es : List Expr} {kk : Nat} {u : DTgs} {n : Nat} (hc : X.calm = true) (h : DGsw X c es u vs) (hn : (assignEach es X.env).length = n := by rfl) (hst : (assignEach es X.env).findIdx? (·.1) = none := by rfl) : DGw X c (.Tuple es kk pos) (tgTup n u) vs := by
  obtain ⟨g1, p1, r1⟩ := h.run
  refine ⟨_, pg_tup hc p1 hn hst, fun ps ρ g σ H ow v d Q Qv e dv t k => ?_⟩
  cases dv with
  | tup s x => exact ⟨_, _, rfl, sameT vw_sub s, by rw [x.length]; exact t.1, r1 ps ρ g σ H ow _ _ Q Qv e x t.2 k⟩
  | lst s x => exact t.elim
  | non => exact t.elim
  | bl _ => exact t.elim
  | int _ => exact t.elim
  | str _ => exact t.elim
def dLcL (tgt : DTg) (tt : DTT G) (te : DT G) (ρ : DEnv) : List D → List D → G → (List D → G → Prop) → Prop
  | [], acc, g, Q => Q acc g
  | x :: xs, acc, g, Q => tgt x ρ fun ρ1 => tt ρ1 g (fun b g1 => if b = true then te ρ1 g1 (fun f g2 => f.safe = true ∧ acc.length < sizeLine ∧ dLcL tgt tt te ρ xs (acc ++ [f.data]) g2 Q) (fun _ _ => False) else dLcL tgt tt te ρ xs acc g1 Q) fun _ _ => False
def dLc (ti : DTI G) (tgt : DTg) (tt : DTT G) (te : DT G) (vs : List Nat) : DT G := fun ρ g Q R => ti ρ g (fun items _ g1 => dLcL tgt tt te (wipeD ρ vs) items [] g1 fun acc g2 => Q (.fresh acc) g2) R
end
end DL

set_option Elab.async false
set_option linter.all false
set_option autoImplicit false
set_option maxRecDepth 100000
set_option maxHeartbeats 4000000
namespace DL
open PySem PySem.Spec L2
section
variable {G : Type} {X : Cx} {c : Fc G} {wx : WX} {pos : Pos}
variable {K : PySem.W.Frag} {ow : Addr → Prop} {ρ : DEnv} {g g1 gs : G} {σ : St} {H H1 Hs : Hp} {p : Addr}
/-- the list D that no slot knows is changed -/
theorem Er.updFree (e : Er K c ow ρ g σ H) {a : Addr} {ws : List V} (oa : ow a) (n : ∀ (j : Nat) (ys : List D), ρ[j]? = some (.own ys) → σ[j]? ≠ some (some (V.ref a))) : Er K c ow ρ g σ (upd H a (.lst ws)) := by
  obtain ⟨_, h0, nh⟩ := e.owd a oa
  refine ⟨⟨fun b o n z => ?_, c.W.frame e.ok fun b hb => upd_ne fun z => nh (z ▸ hb), e.k0.new, e.k0.mono⟩, e.fr, fun b hb => ?_, fun j s' hj => ?_, e.inj, fun p hp => Dn.mono (vw_own oa) (e.pin p hp), e.len⟩
  · rw [upd_ne fun q => by rw [q, h0] at z; cases z]
    exact e.k0.keep b o n z
  · obtain ⟨⟨us, r1⟩, r2⟩ := e.owd b hb
    refine ⟨?_, r2⟩
    by_cases z : b = a
    · subst z; exact ⟨ws, upd_same⟩
    · exact ⟨us, by rw [upd_ne z]; exact r1⟩
  · have q := e.sl j s' hj
    cases s' with
    | none => trivial
    | val d => obtain ⟨v, h1, h2⟩ := q; exact ⟨v, h1, Dn.mono (vw_own oa) h2⟩
    | fn u => exact q
    | own zs =>
      obtain ⟨b, us, r1, r2, r3, r4⟩ := q
      refine ⟨b, us, r1, r2, ?_, DnAll.mono (vw_own oa) r4⟩
      rw [upd_ne fun z => ?_]; exact r3
      subst z
      exact n j zs hj r1
theorem or_hd {W : Wd G} {fr : Addr → Prop} {a : Addr} : Same (vw (hd W fr (fun b => ow b ∨ b = a) g) H) (vw (fun b => hd W fr ow g b ∨ b = a) H) := vw_same fun b o n q => ⟨fun z => n (by
  rcases z with (z | z | z) | z
  · exact .inl z
  · exact .inr (.inl (.inl z))
  · exact .inr (.inr z)
  · exact .inr (.inl (.inr z))), q⟩
theorem wipeD_own {vs : List Nat} : ∀ {ρ : DEnv} {j : Nat} {ys : List D}, (wipeD ρ vs)[j]? = some (.own ys) → ρ[j]? = some (.own ys) ∧ j ∉ vs := by
  induction vs with
  | nil => intro ρ j ys h; exact ⟨h, by simp⟩
  | cons v vs ih =>
    intro ρ j ys h
    unfold wipeD at h
    rcases set_get h with ⟨rfl, z⟩ | ⟨ne, h⟩
    · cases z
    · obtain ⟨h1, h2⟩ := ih h
      exact ⟨h1, by simp only [List.mem_cons, not_or]; exact ⟨fun e => ne e.symm, h2⟩⟩
theorem wipe_get {vs : List Nat} : ∀ {σ : St} {j : Nat}, j ∉ vs → (L2.wipe σ vs)[j]? = σ[j]? := by
  induction vs with
  | nil => intro σ j h; rfl
  | cons v vs ih =>
    intro σ j h
    rw [List.mem_cons, not_or] at h
    unfold L2.wipe
    rw [List.getElem?_set_ne (Ne.symm h.1)]
    exact ih h.2
variable {elt tg iter : Expr} {ifs : List Expr} {scope : Scope} {own : List (Str × Nat)} {ti : DTI G} {tgt : DTg} {tt : DTT G} {te : DT G} {n : Nat}
/-- the three readings, one for all blocks -/
theorem blk_e (he : ∀ (s : Shared) (H : Hp) (C : Addr) (cl : List (Str × Addr)) (fp : List Addr), DE (X.blk s H scope (compEnvC scope cl C X.env) fp) c wF elt te) :
    ∃ t : TE, (∀ (s : Shared) (H : Hp) (C : Addr) (cl : List (Str × Addr)) (fp : List Addr), PE (X.blk s H scope (compEnvC scope cl C X.env) fp) elt t) ∧
      ∀ (ps : List (V × D)) ρ g σ H ow Q R (Qv : VK), Er X.K (c.pn ps) ow ρ g σ H → te ρ g Q R → (∀ f g' v H', Keep c.W g g' H H' → FDen X.K c.W c.fr ow H g' H' f v → Q f g' → Qv v H') → RzOk c.W wF g σ H R → t σ H Qv := by
  refine ⟨fun σ H Q => ∀ (s : Shared) (H' : Hp) (C : Addr) (cl : List (Str × Addr)) (fp : List Addr), Classical.choose (he s H' C cl fp).run σ H Q, fun s H C cl fp => ⟨fun pins s' σ H' Q I h => (Classical.choose_spec (he s H C cl fp).run).1.run pins s' σ H' Q I (h s H C cl fp)⟩, fun ps ρ g σ H ow Q R Qv e t k rz s H' C cl fp => ?_⟩
  exact (Classical.choose_spec (he s H' C cl fp).run).2 ps ρ g σ H ow Q R Qv e t k rz
theorem blk_t (ht : ∀ (s : Shared) (H : Hp) (C : Addr) (cl : List (Str × Addr)) (fp : List Addr), DTs (X.blk s H scope (compEnvC scope cl C X.env) fp) c wF ifs tt) :
    ∃ t : TT, (∀ (s : Shared) (H : Hp) (C : Addr) (cl : List (Str × Addr)) (fp : List Addr), PTs (X.blk s H scope (compEnvC scope cl C X.env) fp) ifs t) ∧
      ∀ (ps : List (V × D)) ρ g σ H ow Q R (Qv : Bool → Hp → Prop), Er X.K (c.pn ps) ow ρ g σ H → tt ρ g Q R → (∀ b g' H', Keep c.W g g' H H' → Q b g' → Qv b H') → RzOk c.W wF g σ H R → t σ H Qv := by
  refine ⟨fun σ H Q => ∀ (s : Shared) (H' : Hp) (C : Addr) (cl : List (Str × Addr)) (fp : List Addr), Classical.choose (ht s H' C cl fp).run σ H Q, fun s H C cl fp => ⟨fun pins s' σ H' Q I h => (Classical.choose_spec (ht s H C cl fp).run).1.run pins s' σ H' Q I (h s H C cl fp)⟩, fun ps ρ g σ H ow Q R Qv e t k rz s H' C cl fp => ?_⟩
  exact (Classical.choose_spec (ht s H' C cl fp).run).2 ps ρ g σ H ow Q R Qv e t k rz
theorem blk_g {vs : List Nat} (hg : ∀ (s : Shared) (H : Hp) (C : Addr) (cl : List (Str × Addr)) (fp : List Addr), DGw (X.blk s H scope (compEnvC scope cl C X.env) fp) c tg tgt vs) :
    ∃ t : TG, (∀ (s : Shared) (H : Hp) (C : Addr) (cl : List (Str × Addr)) (fp : List Addr), PG (X.blk s H scope (compEnvC scope cl C X.env) fp) tg t) ∧
      ∀ (ps : List (V × D)) ρ g σ H ow v d Q (Qv : St → Hp → Prop), Er X.K (c.pn ps) ow ρ g σ H → Dn X.K (vw (hd c.W c.fr ow g) H) v d → tgt d ρ Q → (∀ ρ' σ', Er X.K (c.pn ps) ow ρ' g σ' H → L2.wipe σ' vs = L2.wipe σ vs → Q ρ' → Qv σ' H) → t v σ H Qv := by
  refine ⟨fun v σ H Q => ∀ (s : Shared) (H' : Hp) (C : Addr) (cl : List (Str × Addr)) (fp : List Addr), Classical.choose (hg s H' C cl fp).run v σ H Q, fun s H C cl fp => ⟨fun pins s' σ H' v u Q I r h => (Classical.choose_spec (hg s H C cl fp).run).1.run pins s' σ H' v u Q I r (h s H C cl fp)⟩, fun ps ρ g σ H ow v d Q Qv e dv t k s H' C cl fp => ?_⟩
  exact (Classical.choose_spec (hg s H' C cl fp).run).2 ps ρ g σ H ow v d Q Qv e dv t k
theorem wipe_wipe (σ : St) (vs : List Nat) : L2.wipe (L2.wipe σ vs) vs = L2.wipe σ vs := by
  apply List.ext_getElem?
  intro j
  by_cases h : j ∈ vs
  · have gone : ∀ (τ : St) (us : List Nat), j ∈ us → (L2.wipe τ us)[j]? = if j < τ.length then some none else none := by
      intro τ us
      induction us with
      | nil => intro z; cases z
      | cons u us ih =>
        intro z
        unfold L2.wipe
        by_cases e : u = j
        · subst e
          by_cases hl : u < τ.length
          · rw [List.getElem?_set_self (by rw [L2.wipe_length]; exact hl), if_pos hl]
          · rw [List.getElem?_eq_none (by rw [List.length_set, L2.wipe_length]; omega), if_neg hl]
        · rw [List.getElem?_set_ne e]
          exact ih ((List.mem_cons.mp z).resolve_left fun q => e q.symm)
    rw [gone _ vs h, gone _ vs h, L2.wipe_length]
  · rw [wipe_get h]
/-- the core: the comprehension's reading at data -/
theorem lc_read {wi : TI} {gt : TG} {ttt : TT} {ttE : TE} {vs : List Nat}
    (ri : ∀ (ps : List (V × D)) ρ g σ H ow Q R (Qv : It → Hp → Prop), Er X.K (c.pn ps) ow ρ g σ H → ti ρ g Q R →
      (∀ items sf g' J ps H', Keep c.W g g' H H' → ItOk X c J ps items → (∀ p ∈ ps, Seen X.K c.W c.fr ow g' H' p.1 p.2) → (sf = true → ∀ p ∈ ps, Dn X.K (vw (hd c.W c.fr ow g') H') p.1 p.2) → Q items sf g' → Qv J H') → RzOk c.W wx g σ H R → wi σ H Qv)
    (rg : ∀ (ps : List (V × D)) ρ g σ H ow v d Q (Qv : St → Hp → Prop), Er X.K (c.pn ps) ow ρ g σ H → Dn X.K (vw (hd c.W c.fr ow g) H) v d → tgt d ρ Q → (∀ ρ' σ', Er X.K (c.pn ps) ow ρ' g σ' H → L2.wipe σ' vs = L2.wipe σ vs → Q ρ' → Qv σ' H) → gt v σ H Qv)
    (rt : ∀ (ps : List (V × D)) ρ g σ H ow Q R (Qv : Bool → Hp → Prop), Er X.K (c.pn ps) ow ρ g σ H → tt ρ g Q R → (∀ b g' H', Keep c.W g g' H H' → Q b g' → Qv b H') → RzOk c.W wF g σ H R → ttt σ H Qv)
    (re : ∀ (ps : List (V × D)) ρ g σ H ow Q R (Qv : VK), Er X.K (c.pn ps) ow ρ g σ H → te ρ g Q R → (∀ f g' v H', Keep c.W g g' H H' → FDen X.K c.W c.fr ow H g' H' f v → Q f g' → Qv v H') → RzOk c.W wF g σ H R → ttE σ H Qv)
    {ps : List (V × D)} {Q : F → G → Prop} {R : Ex → G → Prop} {Qv : VK} (e : Er X.K (c.pn ps) ow ρ g σ H) (t : dLc ti tgt tt te vs ρ g Q R)
    (k : ∀ f g' v H', Keep c.W g g' H H' → FDen X.K c.W c.fr ow H g' H' f v → Q f g' → Qv v H') (rz : RzOk c.W wx g σ H R) : tLc wi gt ttt ttE vs σ H Qv := by
  refine ri ps ρ g σ H ow _ R _ e t (fun items sf g1 J qs H1 k1 hit hsn _ q => ?_) rz
  intro Da hDa
  have e1 := e.keep k1
  have kD : Keep c.W g1 g1 H1 (upd H1 Da (.lst [])) := Keep.new1 e1.ok hDa
  have nD : ¬ c.W.hid g1 Da := fun z => c.W.there e1.ok z hDa
  have e2 := (e1.owned kD hDa upd_same nD).wipe vs
  have hDs : H Da = none := k1.back hDa
  -- no slot knows D
  have noD : ∀ (j : Nat) (ys : List D), (wipeD ρ vs)[j]? = some (.own ys) → (L2.wipe σ vs)[j]? ≠ some (some (V.ref Da)) := fun j ys hj => by
    obtain ⟨h1, h2⟩ := wipeD_own hj
    rw [wipe_get h2]
    exact e1.noOld hDa j ys h1
  refine ⟨fun i m H' => m = items.length - i ∧ i ≤ items.length ∧ ∃ acc accV g', Er X.K (c.pn ps) (fun b => ow b ∨ b = Da) (wipeD ρ vs) g' (L2.wipe σ vs) H' ∧ Keep c.W g1 g' H1 H' ∧ H' Da = some (.lst accV) ∧ DnAll X.K (vw (hd c.W c.fr (fun b => ow b ∨ b = Da) g') H') accV acc ∧
    dLcL tgt tt te (wipeD ρ vs) (items.drop i) acc g' (fun acc g2 => Q (.fresh acc) g2), ⟨_, rfl, Nat.zero_le _, [], [], g1, e2, kD, upd_same, .nil, by simpa using q⟩, ?_⟩
  rintro i m H2 ⟨rfl, hi, acc, accV, g2, e3, k2, hD2, da, q2⟩
  have seen : ∀ p ∈ qs, Seen X.K c.W c.fr (fun b => ow b ∨ b = Da) g2 H2 p.1 p.2 := fun p hp => by
    have s1 := hsn p hp
    -- what was seen doesn't hang on D
    have sm : Same (vw (hd c.W c.fr ow g1) H1) (vw (hd c.W c.fr (fun b => ow b ∨ b = Da) g2) H2) := less_new k2 fun a z => by subst z; exact hDa
    revert s1
    cases p.2 with
    | list xs =>
      rintro ⟨a, ws, r1, r2, r3, r4⟩
      refine ⟨a, ws, r1, k2.keep a _ r3 r2, fun z => ?_, DnAll.mono sm r4⟩
      rcases k2.new a z with z | z
      · exact r3 z
      · rw [z] at r2; cases r2
    | tuple xs => rintro ⟨a, ws, r1, r2, r3⟩; exact ⟨a, ws, r1, sameT sm r2, DnAll.mono sm r3⟩
    | none => exact fun s1 => Dn.mono sm s1
    | bool _ => exact fun s1 => Dn.mono sm s1
    | int _ => exact fun s1 => Dn.mono sm s1
    | str _ => exact fun s1 => Dn.mono sm s1
    | dict _ => exact fun s1 => Dn.mono sm s1
  obtain ⟨hst, hgo⟩ := hit (fun b => ow b ∨ b = Da) g2 g2 H2 H2 e3.ok e3.hds seen
  by_cases hlt : i < items.length
  · have hx : items[i]? = some items[i] := by simp [hlt]
    obtain ⟨go, yl⟩ := hgo i _ hx
    rw [List.drop_eq_getElem_cons hlt] at q2
    unfold dLcL at q2
    refine .inr ⟨go, fun H' => ∃ acc accV g', Er X.K (c.pn ps) (fun b => ow b ∨ b = Da) (wipeD ρ vs) g' (L2.wipe σ vs) H' ∧ Keep c.W g1 g' H1 H' ∧ H' Da = some (.lst accV) ∧ DnAll X.K (vw (hd c.W c.fr (fun b => ow b ∨ b = Da) g') H') accV acc ∧
      dLcL tgt tt te (wipeD ρ vs) (items.drop (i + 1)) acc g' (fun acc g2 => Q (.fresh acc) g2), fun H' z => ⟨_, by omega, rfl, hlt, z⟩, fun v' H3 y => ?_⟩
    obtain ⟨k3, dv⟩ := yl v' H3 y
    have oD : ¬ c.W.hid g2 Da := (e3.owd Da (.inr rfl)).2.2
    refine rg ps _ g2 _ H3 _ v' _ _ _ (e3.keep k3) dv q2 fun ρ4 σ4 e4 hw q4 => ?_
    rw [wipe_wipe] at hw
    refine ⟨hw, ?_⟩
    refine rt ps ρ4 g2 σ4 H3 _ _ _ _ e4 q4 (fun b g5 H5 k5 q5 => ?_) fun ex g' cls d H' _ _ z => z
    have k35 := k3.trans k5
    have e5 := e3.keep k35
    cases b with
    | false =>
      simp only [Bool.false_eq_true, if_false] at q5 ⊢
      exact ⟨acc, accV, g5, e5, k2.trans k35, k35.keep _ _ oD hD2, DnAll.mono (hd_keep k35) da, q5⟩
    | true =>
      simp only [if_true] at q5 ⊢
      refine re ps ρ4 g5 σ4 H5 _ _ _ _ (e4.keep k5) q5 (fun f g6 v H6 k6 d6 q6 => ?_) fun ex g' cls d H' _ _ z => z
      obtain ⟨q61, q62, q6⟩ := q6
      have k36 := k35.trans k6
      have e6 := e3.keep k36
      have hD6 := k36.keep _ _ oD hD2
      have da6 := DnAll.mono (hd_keep (fr := c.fr) (ow := fun b => ow b ∨ b = Da) k36) da
      refine ⟨accV, hD6, by rw [da6.length]; exact q62, acc ++ [f.data], accV ++ [v], g6, e6.updFree (.inr rfl) noD, ?_, upd_same, DnAll.mono (vw_own (.inr rfl)) (da6.append (.cons (d6.safe (e5.ows) (e5.frs) q61) .nil)), q6⟩
      have k26 := k2.trans k36
      refine ⟨fun a o nh z => ?_, (e6.updFree (ws := accV ++ [v]) (.inr rfl) noD).ok, k26.new, k26.mono⟩
      rw [upd_ne (ne_of_none z hDa)]
      exact k26.keep a o nh z
  · have hi' : i = items.length := by omega
    subst hi'
    rw [List.drop_length] at q2
    unfold dLcL at q2
    have k12 := k1.trans k2
    exact .inl ⟨hst, k (.fresh acc) g2 _ H2 k12 ⟨Da, accV, rfl, hDs, (e3.owd Da (.inr rfl)).2.2, hD2, DnAll.mono or_hd da⟩ q2⟩
theorem eLc (C : Cap n X wx) (hi : DI X c wx tg iter ti) (ok : BlkOk X.N X.env.scope scope own)
    (hg : ∀ (s : Shared) (H : Hp) (C : Addr) (cl : List (Str × Addr)) (fp : List Addr), DGw (X.blk s H scope (compEnvC scope cl C X.env) fp) c tg tgt (own.map (·.2)))
    (ht : ∀ (s : Shared) (H : Hp) (C : Addr) (cl : List (Str × Addr)) (fp : List Addr), DTs (X.blk s H scope (compEnvC scope cl C X.env) fp) c wF ifs tt)
    (he : ∀ (s : Shared) (H : Hp) (C : Addr) (cl : List (Str × Addr)) (fp : List Addr), DE (X.blk s H scope (compEnvC scope cl C X.env) fp) c wF elt te)
    (hs : ∀ x, foldedSetIterable iter X.env x = pure x := by intro _; rfl) : DE X c wx (.ListComp elt [⟨tg, iter, ifs, 0⟩] scope pos) (dLc ti tgt tt te (own.map (·.2))) := by
  obtain ⟨wi, pi, ri⟩ := hi.run
  obtain ⟨gt, pg, rg⟩ := blk_g hg
  obtain ⟨ttt, pt, rt⟩ := blk_t ht
  obtain ⟨tte, pe, re⟩ := blk_e he
  exact ⟨_, pe_lc C.calm C.nd pi ok pg pt pe hs, fun ps ρ g σ H ow Q R Qv e t k rz => lc_read ri rg rt re e t k rz⟩
/-- name = [..] on one line, the name a local -/
theorem sSetLc (i : Nat) {y : Str} {py spos : Pos} (C : Cap n X wx) (hi : DI X c wx tg iter ti) (ok : BlkOk X.N X.env.scope scope own)
    (hg : ∀ (s : Shared) (H : Hp) (C : Addr) (cl : List (Str × Addr)) (fp : List Addr), DGw (X.blk s H scope (compEnvC scope cl C X.env) fp) c tg tgt (own.map (·.2)))
    (ht : ∀ (s : Shared) (H : Hp) (C : Addr) (cl : List (Str × Addr)) (fp : List Addr), DTs (X.blk s H scope (compEnvC scope cl C X.env) fp) c wF ifs tt)
    (he : ∀ (s : Shared) (H : Hp) (C : Addr) (cl : List (Str × Addr)) (fp : List Addr), DE (X.blk s H scope (compEnvC scope cl C X.env) fp) c wF elt te)
    (hy : X.N[i]? = some y := by rfl) (hyl : X.env.scope.names.lookup y = some .local := by rfl)
    (hsw : swapsWith (.ListComp elt [⟨tg, iter, ifs, 0⟩] scope pos) (some (.Name y py)) spos.line X.env = pure true := by exact sw_true rfl rfl rfl (by decide +kernel))
    (hs : ∀ x, foldedSetIterable iter X.env x = pure x := by intro _; rfl) : DS X c wx (.Assign [.Name y py] (.ListComp elt [⟨tg, iter, ifs, 0⟩] scope pos) spos) (dSet i (dLc ti tgt tt te (own.map (·.2)))) := by
  obtain ⟨wi, pi, ri⟩ := hi.run
  obtain ⟨gt, pg, rg⟩ := blk_g hg
  obtain ⟨ttt, pt, rt⟩ := blk_t ht
  obtain ⟨tte, pe, re⟩ := blk_e he
  refine ⟨_, ps_setLc (i := i) C.calm C.nd hy hyl hsw pi ok pg pt pe hs, fun ps ρ g σ H E B s t l => ?_⟩
  obtain ⟨ow, e⟩ := s
  refine lc_read ri rg rt re e t (fun f g1 v H1 k1 d1 q => ?_) (l.rzOk e)
  obtain ⟨ρ', s', q'⟩ := e.putF k1 i d1 q
  exact l.nx ρ' g1 _ H1 s' q'
end
end DL

set_option Elab.async false
set_option linter.all false
set_option autoImplicit false
set_option maxRecDepth 100000
set_option maxHeartbeats 4000000
namespace DL
open PySem PySem.Spec L2
section
variable {G : Type} {X : Cx} {c : Fc G} {wx : WX} {pos : Pos}
variable {K : PySem.W.Frag} {ow : Addr → Prop} {ρ : DEnv} {g g1 gs : G} {σ : St} {H H1 Hs : Hp} {p : Addr}
variable {a b : Expr} {ta tb : DT G} {st : Stmt} {rest body : List Stmt} {t u : DSt G} {es : List Expr} {t' : DTA G}
/-! ### a def by its body -/
def startD (n : Nat) (args : DEnv) : DEnv := args ++ List.replicate (n - args.length) .none
theorem args_slot {W : Wd G} {fr : Addr → Prop} : ∀ {args : DEnv} {vs : List V}, ArgsOk K (vw (hd W fr (fun _ => False) g) H) args vs → ∀ (i : Nat) (s : Slot), args[i]? = some s → (∀ xs, s ≠ .own xs) ∧ ∀ σ' : St, σ'[i]? = (vs.map some)[i]? → SlotOk K (vw (hd W fr (fun _ => False) g) H) H (fun _ => False) σ' i s
  | [], _, _, i, s, h => by simp at h
  | .val d :: r, v :: vs, x, 0, s, h => by
    simp at h; subst h
    exact ⟨fun xs z => (nomatch z), fun σ' e => ⟨v, by simpa using e, x.1⟩⟩
  | .fn u :: r, v :: vs, x, 0, s, h => by
    simp at h; subst h
    refine ⟨fun xs z => (nomatch z), fun σ' e => ?_⟩
    have : v = u := x.1
    subst this
    exact (by simpa using e : σ'[0]? = some (some v))
  | .val d :: r, v :: vs, x, i + 1, s, h => by
    obtain ⟨h1, h2⟩ := args_slot (args := r) (vs := vs) x.2 i s (by simpa using h)
    refine ⟨h1, fun σ' e => ?_⟩
    have q := h2 (σ'.drop 1) (by rw [List.getElem?_drop, Nat.add_comm]; simpa using e)
    cases s with
    | none => trivial
    | val d => obtain ⟨w, q1, q2⟩ := q; exact ⟨w, by rw [List.getElem?_drop, Nat.add_comm] at q1; exact q1, q2⟩
    | fn u => have q : (σ'.drop 1)[i]? = some (some u) := q; rw [List.getElem?_drop, Nat.add_comm] at q; exact q
    | own xs => exact absurd rfl (h1 xs)
  | .fn u :: r, v :: vs, x, i + 1, s, h => by
    obtain ⟨h1, h2⟩ := args_slot (args := r) (vs := vs) x.2 i s (by simpa using h)
    refine ⟨h1, fun σ' e => ?_⟩
    have q := h2 (σ'.drop 1) (by rw [List.getElem?_drop, Nat.add_comm]; simpa using e)
    cases s with
    | none => trivial
    | val d => obtain ⟨w, q1, q2⟩ := q; exact ⟨w, by rw [List.getElem?_drop, Nat.add_comm] at q1; exact q1, q2⟩
    | fn u => have q : (σ'.drop 1)[i]? = some (some u) := q; rw [List.getElem?_drop, Nat.add_comm] at q; exact q
    | own xs => exact absurd rfl (h1 xs)
  | .none :: _, _ :: _, x, _, _, _ => x.elim
  | .own _ :: _, _ :: _, x, _, _, _ => x.elim
  | .none :: _, [], x, _, _, _ => x.elim
  | .own _ :: _, [], x, _, _, _ => x.elim
  | .val _ :: _, [], x, _, _, _ => x.elim
  | .fn _ :: _, [], x, _, _, _ => x.elim
theorem er_start {W : Wd G} {fr : Addr → Prop} {N : List Str} {args : DEnv} {vs : List V} (x : ArgsOk K (vw (hd W fr (fun _ => False) g) H) args vs) (ok : W.ok g H) (hf : ∀ a, fr a → H a ≠ none) (hl : args.length ≤ N.length) :
    Er K ⟨W, fr, g, H, []⟩ (fun _ => False) (startD N.length args) g (L2.start N vs) H := by
  have hlen := x.length
  refine ⟨Keep.refl ok, hf, fun a z => z.elim, fun i s h => ?_, fun i j xs ys a h1 h2 h3 h4 => ?_, fun p z => (nomatch z), ?_⟩
  · unfold startD at h
    by_cases hi : i < args.length
    · rw [List.getElem?_append_left hi] at h
      refine (args_slot x i s h).2 _ ?_
      unfold L2.start
      rw [List.getElem?_append_left (by rw [List.length_map, ← hlen]; exact hi)]
    · rw [List.getElem?_append_right (by omega), List.getElem?_replicate] at h
      split at h
      · cases h; trivial
      · cases h
  · unfold startD at h1
    by_cases hi : i < args.length
    · rw [List.getElem?_append_left hi] at h1
      exact absurd rfl ((args_slot x i _ h1).1 xs)
    · rw [List.getElem?_append_right (by omega), List.getElem?_replicate] at h1
      split at h1 <;> cases h1
  · unfold startD L2.start
    rw [List.length_append, List.length_append, List.length_replicate, List.length_replicate, List.length_map, hlen]
abbrev wE (E : XK) : WX := fun cls d _ H => E cls d H
/-- THE RULE for a def -/
theorem fnok_of {P : Program} {w : World} {mg : Str → Option Value} {base : Heap} {W : Wd G} {x qual : Str} {st : Stmt} {f : Addr} {fd : FuncData} {N ps : List Str} {k np : Nat} {spec : DSpec G} {t : DSt G} (F : Fun K x qual st f fd) (S : FnScope N ps (defScope st)) (hnp : ps.length = np)
    (hbody : ∀ (cdv : Value) (A : Around) (outer : List Env) (s : Shared) (H : Hp) (E : XK) (fr : Addr → Prop) (g : G), Cap k (cxOf (L2.CX P w) P w K mg base N qual (defScope st) f cdv A outer s H E) (wE E) →
      DSs (cxOf (L2.CX P w) P w K mg base N qual (defScope st) f cdv A outer s H E) ⟨W, fr, g, H, []⟩ (wE E) (defBody st) t)
    (hspec : ∀ args g Q R, args.length = np → spec args g Q R → t (startD N.length args) g { nx := fun _ g' => Q (.val .none) g', rt := Q, bk := fun _ _ => False, ct := fun _ _ => False, rz := fun ex _ g' => R ex g' }) :
    FnOk P w K mg base (L2.CX P w) (k + 1) f fd ps (spOf K W np spec) := by
  refine F.okX S (fun vs H Q E h => ?_) fun cdv A outer s H vs Q E hr h => ?_
  · obtain ⟨fr, args, g, Qd, Rd, h1, h2, _⟩ := h
    rw [← h2.length, h1, hnp]
  · obtain ⟨fr, args, g, Qd, Rd, h1, h2, h3, h4, h5, h6, h7⟩ := h
    have C : Cap k (cxOf (L2.CX P w) P w K mg base N qual (defScope st) f cdv A outer s H E) (wE E) := ⟨takes_of rfl rfl rfl rfl, passes_of rfl, hr, rfl, S.nd⟩
    obtain ⟨ts, hp, hr2⟩ := (hbody cdv A outer s H E fr g C).run
    refine ⟨ts, hp, ?_⟩
    have hl : args.length ≤ N.length := by
      rw [h1, ← hnp]
      have := congrArg List.length S.pre
      rw [List.length_take] at this
      omega
    refine hr2 [] (startD N.length args) g (L2.start N vs) H _ _ ⟨_, er_start h2 h3 h4 hl⟩ (hspec args g Qd Rd h1 h5) ⟨fun ρ' g' σ' H' s' q => ?_, fun f' g' v H' k' d' q => h6 f' g' v H' k' d' q, fun ρ' g' σ' H' s' q => q.elim, fun ρ' g' σ' H' s' q => q.elim, fun ex ρ' g' σ' H' cls d s' x q => ?_⟩
    · obtain ⟨ow', e'⟩ := s'
      exact h6 (.val .none) g' _ H' e'.k0 Dn.non q
    · obtain ⟨ow', e'⟩ := s'
      exact h7 ex g' cls d H' e'.k0 x q
theorem dfn_of {P : Program} {w : World} {mg : Str → Option Value} {base : Heap} {W : Wd G} {x qual : Str} {st : Stmt} {f : Addr} {fd : FuncData} {N ps : List Str} {k np : Nat} {spec : DSpec G} {t : DSt G} (F : Fun K x qual st f fd) (S : FnScope N ps (defScope st)) (hm : mg x = some (.ref f)) (hb : Binds K fd ps []) (hnp : ps.length = np)
    (hbody : ∀ (cdv : Value) (A : Around) (outer : List Env) (s : Shared) (H : Hp) (E : XK) (fr : Addr → Prop) (g : G), Cap k (cxOf (L2.CX P w) P w K mg base N qual (defScope st) f cdv A outer s H E) (wE E) →
      DSs (cxOf (L2.CX P w) P w K mg base N qual (defScope st) f cdv A outer s H E) ⟨W, fr, g, H, []⟩ (wE E) (defBody st) t)
    (hspec : ∀ args g Q R, args.length = np → spec args g Q R → t (startD N.length args) g { nx := fun _ g' => Q (.val .none) g', rt := Q, bk := fun _ _ => False, ct := fun _ _ => False, rz := fun ex _ g' => R ex g' }) :
    DFn P w K mg base W x (k + 1) np spec := ⟨f, fd, ps, hm, F.kp, hb, hnp, fnok_of F S hnp hbody hspec⟩
/-! ### built-ins, called by name -/
def OpL (X : Cx) (c : Fc G) (r : List V → Hp → VK → Prop) (dop : List F → (F → Prop) → Prop) : Prop := ∀ (ps : List (V × D)) (ow : Addr → Prop) (ρ : DEnv) (g gs : G) (σ : St) (H Hs : Hp) (fs : List F) (vs : List V) (k : F → Prop) (Qv : VK),
  Er X.K (c.pn ps) ow ρ g σ H → Keep c.W gs g Hs H → (∀ a, ow a → Hs a ≠ none) → (∀ a, c.fr a → Hs a ≠ none) → FAll (FDen X.K c.W c.fr ow Hs g H) fs vs → dop fs k →
    (∀ f v H', Keep c.W g g H H' → FDen X.K c.W c.fr ow Hs g H' f v → k f → Qv v H') → r vs H Qv
def dBi (dop : List F → (F → Prop) → Prop) (t : DTA G) : DT G := fun ρ g Q R => t ρ g (fun fs g1 => dop fs fun f => Q f g1) R
variable {x T id : String} {r : List V → Hp → VK → Prop} {dop : List F → (F → Prop) → Prop} {xn : Str} {p1 : Pos}
theorem eBiB {nm : Str} (hc : CallR X (.builtin id) r) (hd : OpL X c r dop) (hm : X.mg nm = none) (hv : bootBuiltins nm = some (.builtin id)) (ha : DA X c wx (a :: es) t') (hg : Gl X nm := by rfl) (hn : nm ≠ "__name__" := by decide) (hdb : (nm == ("__debug__" : Str)) = false := by decide)
    (he : starEach (a :: es) X.env = (false, eval a X.env) :: starEach es X.env := by rfl) (hpl : (backTo pos (starEach es X.env)).any (·.1) = false := by rfl) : DE X c wx (.Call (.Name nm p1) (a :: es) [] pos) (dBi dop t') := by
  obtain ⟨te, pa, ra⟩ := ha.run
  refine ⟨_, pe_callB hc hg hm hv pa hn hdb he hpl, fun ps ρ g σ H ow Q R Qv e t k rz => ?_⟩
  refine ra ps ρ g σ H ow _ R _ e t (fun fs g1 vs H1 k1 d1 nd q => ?_) rz
  exact hd ps ow ρ g1 g σ H1 H fs vs _ Qv (e.keep k1) k1 e.ows e.frs d1 q fun f v H' k2 d2 q2 => k f g1 v H' (k1.trans k2) d2 q2
theorem eBiT {nm : Str} (hc : CallR X (.type T) r) (hd : OpL X c r dop) (hm : X.mg nm = none) (hv : bootBuiltins nm = some (.type T)) (ha : DA X c wx (a :: es) t') (hg : Gl X nm := by rfl) (hn : nm ≠ "__name__" := by decide) (hdb : (nm == ("__debug__" : Str)) = false := by decide)
    (he : starEach (a :: es) X.env = (false, eval a X.env) :: starEach es X.env := by rfl) (hpl : (backTo pos (starEach es X.env)).any (·.1) = false := by rfl) : DE X c wx (.Call (.Name nm p1) (a :: es) [] pos) (dBi dop t') := by
  obtain ⟨te, pa, ra⟩ := ha.run
  refine ⟨_, pe_callTy hc hg hm hv pa hn hdb he hpl, fun ps ρ g σ H ow Q R Qv e t k rz => ?_⟩
  refine ra ps ρ g σ H ow _ R _ e t (fun fs g1 vs H1 k1 d1 nd q => ?_) rz
  exact hd ps ow ρ g1 g σ H1 H fs vs _ Qv (e.keep k1) k1 e.ows e.frs d1 q fun f v H' k2 d2 q2 => k f g1 v H' (k1.trans k2) d2 q2
/-- one argument -/
def on1 (fs : List F) (k : F → Prop) : Prop := match fs with
  | [f] => k f
  | _ => False
def on2 (fs : List F) (k : F → F → Prop) : Prop := match fs with
  | [f, f'] => k f f'
  | _ => False
theorem on1_of {P : F → V → Prop} {fs : List F} {vs : List V} {k : F → Prop} (h : on1 fs k) (x : FAll P fs vs) : ∃ f v, fs = [f] ∧ vs = [v] ∧ P f v ∧ k f := by
  match fs, vs, x, h with
  | [f], [v], .cons d .nil, h => exact ⟨f, v, rfl, rfl, d, h⟩
theorem on2_of {P : F → V → Prop} {fs : List F} {vs : List V} {k : F → F → Prop} (h : on2 fs k) (x : FAll P fs vs) : ∃ f v f' v', fs = [f, f'] ∧ vs = [v, v'] ∧ P f v ∧ P f' v' ∧ k f f' := by
  match fs, vs, x, h with
  | [f, f'], [v, v'], .cons d (.cons d' .nil), h => exact ⟨f, v, f', v', rfl, rfl, d, d', h⟩
/-! len -/
def bLen (fs : List F) (k : F → Prop) : Prop := on1 fs fun f => match f.data with
  | .str y => y.length ≤ sizeLine ∧ k (.val (.int y.length))
  | .list xs => k (.val (.int xs.length))
  | .tuple xs => k (.val (.int xs.length))
  | _ => False
theorem ol_len : OpL X c (fun xs H Q => ∃ x n, xs = [x] ∧ LenV X.K x H n ∧ Q (.int n) H) bLen := by
  intro ps ow ρ g gs σ H Hs fs vs k Qv e kk h0 h1 d t q
  obtain ⟨f, v, rfl, rfl, d, t⟩ := on1_of t d
  have kr : Keep c.W g g H H := Keep.refl e.ok
  cases hf : f.data with
  | str y => rw [hf] at t; exact ⟨_, _, rfl, by rw [d.str hf]; exact ⟨t.1, rfl⟩, q (.val (.int _)) _ H kr (Dn.int _) t.2⟩
  | list xs =>
    rw [hf] at t
    obtain ⟨a, ws, rfl, s1, a1⟩ := d.list hf
    exact ⟨_, ws.length, rfl, .inl ⟨ws, SqL.of s1, rfl⟩, by rw [a1.length]; exact q (.val (.int _)) _ H kr (Dn.int _) t⟩
  | tuple xs =>
    rw [hf] at t
    obtain ⟨a, ws, rfl, s1, a1⟩ := d.tup hf
    exact ⟨_, ws.length, rfl, .inr ⟨ws, s1, rfl⟩, by rw [a1.length]; exact q (.val (.int _)) _ H kr (Dn.int _) t⟩
  | _ => rw [hf] at t; exact t.elim
theorem eLen (hm : X.mg "len" = none) (ha : DA X c wx (a :: es) t') (hg : Gl X "len" := by rfl) (he : starEach (a :: es) X.env = (false, eval a X.env) :: starEach es X.env := by rfl) (hpl : (backTo pos (starEach es X.env)).any (·.1) = false := by rfl) : DE X c wx (.Call (.Name "len" p1) (a :: es) [] pos) (dBi bLen t') :=
  eBiB call_len ol_len hm PySem.boot_len ha hg (by decide) (by decide) he hpl
/-! max, min of two -/
def bMax2 (fs : List F) (k : F → Prop) : Prop := on2 fs fun f f' => onInt f.data fun i => onInt f'.data fun j => k (.val (.int (if j > i then j else i)))
def bMin2 (fs : List F) (k : F → Prop) : Prop := on2 fs fun f f' => onInt f.data fun i => onInt f'.data fun j => k (.val (.int (if j < i then j else i)))
theorem ol_max2 : OpL X c (fun xs H Q => ∃ i j, xs = [.int i, .int j] ∧ Q (.int (if j > i then j else i)) H) bMax2 := by
  intro ps ow ρ g gs σ H Hs fs vs k Qv e kk h0 h1 d t q
  obtain ⟨f, v, f', v', rfl, rfl, d, d', t⟩ := on2_of t d
  obtain ⟨i, hi, t⟩ := onInt_of t
  obtain ⟨j, hj, t⟩ := onInt_of t
  exact ⟨i, j, by rw [d.int hi, d'.int hj], q (.val (.int _)) _ H (Keep.refl e.ok) (Dn.int _) t⟩
theorem ol_min2 : OpL X c (fun xs H Q => ∃ i j, xs = [.int i, .int j] ∧ Q (.int (if j < i then j else i)) H) bMin2 := by
  intro ps ow ρ g gs σ H Hs fs vs k Qv e kk h0 h1 d t q
  obtain ⟨f, v, f', v', rfl, rfl, d, d', t⟩ := on2_of t d
  obtain ⟨i, hi, t⟩ := onInt_of t
  obtain ⟨j, hj, t⟩ := onInt_of t
  exact ⟨i, j, by rw [d.int hi, d'.int hj], q (.val (.int _)) _ H (Keep.refl e.ok) (Dn.int _) t⟩
/-! int, tuple, list -/
def bInt (fs : List F) (k : F → Prop) : Prop := on1 fs fun f => match f.data with
  | .int i => k (.val (.int i))
  | .bool b => k (.val (.int (if b then 1 else 0)))
  | _ => False
theorem ol_int : OpL X c (fun xs H Q => (∃ i, xs = [.int i] ∧ Q (.int i) H) ∨ ∃ k, xs = [.bl k] ∧ Q (.int (if k then 1 else 0)) H) bInt := by
  intro ps ow ρ g gs σ H Hs fs vs k Qv e kk h0 h1 d t q
  obtain ⟨f, v, rfl, rfl, d, t⟩ := on1_of t d
  cases hf : f.data with
  | int i => rw [hf] at t; exact .inl ⟨i, by rw [d.int hf], q (.val (.int _)) _ H (Keep.refl e.ok) (Dn.int _) t⟩
  | bool b => rw [hf] at t; exact .inr ⟨b, by rw [d.bl hf], q (.val (.int _)) _ H (Keep.refl e.ok) (Dn.int _) t⟩
  | _ => rw [hf] at t; exact t.elim
def bTup (fs : List F) (k : F → Prop) : Prop := on1 fs fun f => match f.data with
  | .list xs => k (.val (.tuple xs))
  | .tuple xs => k (.val (.tuple xs))
  | _ => False
theorem ol_tup : OpL X c (fun xs H Q => ∃ p ys, xs = [.ref p] ∧ ((SqL X.K H p ys ∧ ∀ l, H l = none → Q (.ref l) (upd H l (.tup ys))) ∨ (SqT X.K H p ys ∧ Q (.ref p) H))) bTup := by
  intro ps ow ρ g gs σ H Hs fs vs k Qv e kk h0 h1 d t q
  obtain ⟨f, v, rfl, rfl, d, t⟩ := on1_of t d
  cases hf : f.data with
  | list xs =>
    rw [hf] at t
    obtain ⟨a, ws, rfl, s1, a1⟩ := d.list hf
    exact ⟨a, ws, rfl, .inl ⟨SqL.of s1, fun l hl => q (.val (.tuple xs)) _ _ (Keep.new1 e.ok hl) (e.newTup hl a1) t⟩⟩
  | tuple xs =>
    rw [hf] at t
    obtain ⟨a, ws, rfl, s1, a1⟩ := d.tup hf
    have d' := d.dn (by rw [hf]; intro _ z; cases z) (by rw [hf]; intro _ z; cases z)
    rw [hf] at d'
    exact ⟨a, ws, rfl, .inr ⟨s1, q (.val (.tuple xs)) _ H (Keep.refl e.ok) d' t⟩⟩
  | _ => rw [hf] at t; exact t.elim
def bList (fs : List F) (k : F → Prop) : Prop := on1 fs fun f => match f.data with
  | .list xs => k (.fresh xs)
  | .tuple xs => k (.fresh xs)
  | _ => False
theorem ol_list : OpL X c (fun xs H Q => ∃ p ys, xs = [.ref p] ∧ (SqL X.K H p ys ∨ SqT X.K H p ys) ∧ ∀ l, H l = none → Q (.ref l) (upd H l (.lst ys))) bList := by
  intro ps ow ρ g gs σ H Hs fs vs k Qv e kk h0 h1 d t q
  obtain ⟨f, v, rfl, rfl, d, t⟩ := on1_of t d
  cases hf : f.data with
  | list xs =>
    rw [hf] at t
    obtain ⟨a, ws, rfl, s1, a1⟩ := d.list hf
    exact ⟨a, ws, rfl, .inl (SqL.of s1), fun l hl => q (.fresh xs) _ _ (Keep.new1 e.ok hl) (e.newList kk hl a1) t⟩
  | tuple xs =>
    rw [hf] at t
    obtain ⟨a, ws, rfl, s1, a1⟩ := d.tup hf
    exact ⟨a, ws, rfl, .inr s1, fun l hl => q (.fresh xs) _ _ (Keep.new1 e.ok hl) (e.newList kk hl a1) t⟩
  | _ => rw [hf] at t; exact t.elim
/-! all, any, sum -/
def toBools : List D → Option (List Bool)
  | [] => some []
  | .bool b :: r => (toBools r).map (b :: ·)
  | _ :: _ => none
theorem toBools_map : ∀ {ds : List D} {bs : List Bool}, toBools ds = some bs → ds = bs.map PyData.bool
  | [], bs, h => by cases h; rfl
  | .bool b :: r, bs, h => by
    unfold toBools at h
    cases q : toBools r with
    | none => rw [q] at h; cases h
    | some cs => rw [q] at h; cases h; rw [toBools_map q]; rfl
  | .none :: r, bs, h => by cases h
  | .int _ :: r, bs, h => by cases h
  | .str _ :: r, bs, h => by cases h
  | .list _ :: r, bs, h => by cases h
  | .tuple _ :: r, bs, h => by cases h
  | .dict _ :: r, bs, h => by cases h
theorem toBools_of (bs : List Bool) : toBools (bs.map PyData.bool) = some bs := by
  induction bs with
  | nil => rfl
  | cons b bs ih => simp [toBools, ih]
def toInts : List D → Option (List Int)
  | [] => some []
  | .int b :: r => (toInts r).map (b :: ·)
  | _ :: _ => none
theorem toInts_map : ∀ {ds : List D} {bs : List Int}, toInts ds = some bs → ds = bs.map PyData.int
  | [], bs, h => by cases h; rfl
  | .int b :: r, bs, h => by
    unfold toInts at h
    cases q : toInts r with
    | none => rw [q] at h; cases h
    | some cs => rw [q] at h; cases h; rw [toInts_map q]; rfl
  | .none :: r, bs, h => by cases h
  | .bool _ :: r, bs, h => by cases h
  | .str _ :: r, bs, h => by cases h
  | .list _ :: r, bs, h => by cases h
  | .tuple _ :: r, bs, h => by cases h
  | .dict _ :: r, bs, h => by cases h
theorem toInts_of (bs : List Int) : toInts (bs.map PyData.int) = some bs := by
  induction bs with
  | nil => rfl
  | cons b bs ih => simp [toInts, ih]
def onList (d : D) (k : List D → Prop) : Prop := match d with
  | .list xs => k xs
  | _ => False
theorem onList_of {d : D} {k : List D → Prop} (h : onList d k) : ∃ xs, d = .list xs ∧ k xs := by
  cases d <;> first | exact h.elim | exact ⟨_, rfl, h⟩
def bAll (fs : List F) (k : F → Prop) : Prop := on1 fs fun f => onList f.data fun xs => onSome (toBools xs) fun bs => k (.val (.bool (bs.all fun b => b)))
def bAny (fs : List F) (k : F → Prop) : Prop := on1 fs fun f => onList f.data fun xs => onSome (toBools xs) fun bs => k (.val (.bool (bs.any fun b => b)))
def bSum (fs : List F) (k : F → Prop) : Prop := on1 fs fun f => onList f.data fun xs => onSome (toInts xs) fun ns => k (.val (.int ns.sum))
theorem ol_all : OpL X c (rAll X.K) bAll := by
  intro ps ow ρ g gs σ H Hs fs vs k Qv e kk h0 h1 d t q
  obtain ⟨f, v, rfl, rfl, d, t⟩ := on1_of t d
  obtain ⟨xs, hf, t⟩ := onList_of t
  obtain ⟨bs, hb, t⟩ := onSome_of t
  obtain ⟨a, ws, rfl, s1, a1⟩ := d.list hf
  rw [toBools_map hb] at a1
  rw [a1.bools] at s1
  exact ⟨a, bs, rfl, SqL.of s1, q (.val (.bool _)) _ H (Keep.refl e.ok) (Dn.bl _) t⟩
theorem ol_any : OpL X c (rAny X.K) bAny := by
  intro ps ow ρ g gs σ H Hs fs vs k Qv e kk h0 h1 d t q
  obtain ⟨f, v, rfl, rfl, d, t⟩ := on1_of t d
  obtain ⟨xs, hf, t⟩ := onList_of t
  obtain ⟨bs, hb, t⟩ := onSome_of t
  obtain ⟨a, ws, rfl, s1, a1⟩ := d.list hf
  rw [toBools_map hb] at a1
  rw [a1.bools] at s1
  exact ⟨a, bs, rfl, SqL.of s1, q (.val (.bool _)) _ H (Keep.refl e.ok) (Dn.bl _) t⟩
theorem ol_sum : OpL X c (rSum X.K) bSum := by
  intro ps ow ρ g gs σ H Hs fs vs k Qv e kk h0 h1 d t q
  obtain ⟨f, v, rfl, rfl, d, t⟩ := on1_of t d
  obtain ⟨xs, hf, t⟩ := onList_of t
  obtain ⟨bs, hb, t⟩ := onSome_of t
  obtain ⟨a, ws, rfl, s1, a1⟩ := d.list hf
  rw [toInts_map hb] at a1
  rw [a1.ints] at s1
  exact ⟨a, bs, rfl, SqL.of s1, q (.val (.int _)) _ H (Keep.refl e.ok) (Dn.int _) t⟩
/-! isinstance(x, T), T a built-in class -/
def tyNm : D → String
  | .none => "NoneType"
  | .bool _ => "bool"
  | .int _ => "int"
  | .str _ => "str"
  | .list _ => "list"
  | .tuple _ => "tuple"
  | .dict _ => "dict"
def tyIs (a T : String) : Bool := a == T || (a == "bool" && T == "int")
def isTy (d : D) (T : String) : Bool := tyIs (tyNm d) T
def tyNames : List String := ["bool", "int", "str", "list", "tuple"]
def bIsi (fs : List F) (k : F → Prop) : Prop := on2 fs fun f f' => f.isD = true ∧ match f' with
  | .fn (.ty T) => tyNames.contains T = true ∧ k (.val (.bool (isTy f.data T)))
  | _ => False
theorem kit_nm : (["NoneType", "bool", "int", "str", "list", "tuple", "dict"] : List String).all (fun a => tyNames.all fun T => kitB a T == some (tyIs a T)) = true := by decide +kernel
theorem kit_all {K : PySem.W.Frag} {d : D} {T : String} (h : tyNames.contains T = true) : PySem.W.kitOne K (.type (tyNm d)) (.type T) = some (isTy d T) := by
  have h' : T ∈ tyNames := by simpa using h
  have hn : tyNm d ∈ (["NoneType", "bool", "int", "str", "list", "tuple", "dict"] : List String) := by cases d <;> simp [tyNm]
  have q := List.all_eq_true.mp (List.all_eq_true.mp kit_nm _ hn) _ h'
  exact kit_ty (beq_iff_eq.mp q)
theorem tyx_of {v : V} {d : D} (h : Dn K H v d) : TyX K H v (.type (tyNm d)) := by
  cases h with
  | non => exact .base .non
  | bl b => exact .base (.bl b)
  | int b => exact .base (.int b)
  | str b => exact .base (.str b)
  | lst h x => exact .base (.lst h)
  | tup s x =>
    rcases s with (s | ⟨o, s⟩) | ⟨o, its, n, hk, hc, _⟩
    · exact .base (.tup s)
    · exact .fTuple s
    · exact .kTuple hk hc
theorem ol_isi : OpL X c (rIsi X.K) bIsi := by
  intro ps ow ρ g gs σ H Hs fs vs k Qv e kk h0 h1 d t q
  obtain ⟨f, v, f', v', rfl, rfl, d0, d', t1, t⟩ := on2_of t d
  cases f' with
  | fn u =>
    cases u with
    | ty T =>
      have d' : v' = V.ty T := d'
      subst d'
      exact ⟨v, .ty T, _, _, _, rfl, .ty T, tyx_of (d0.anyD t1), kit_all t.1, q (.val (.bool _)) _ H (Keep.refl e.ok) (Dn.bl _) t.2⟩
    | _ => exact t.elim
  | _ => exact t.elim
end
end DL

set_option Elab.async false
set_option linter.all false
set_option autoImplicit false
set_option maxRecDepth 100000
set_option maxHeartbeats 4000000
/-! raise C(n): an own error over ValueError whose __init__(self, fld) says super().__init__(txt + str(fld)); self.fld = fld -/
namespace DL
namespace Rz
open PySem PySem.W PySem.Calls PyProof.Rows PySem.HandSPX
structure Ps where
  (p1 p2 q1 q2 q3 q4 q5 q6 q7 q8 q9 q10 q11 q12 q13 q14 : Pos)
def rA (fld : Str) (p : Ps) : Arguments := { posonlyargs := [], args := [{ arg := "self", annotation := none, pos := p.p1 }, { arg := fld, annotation := none, pos := p.p2 }], vararg := none, kwonlyargs := [], kw_defaults := [], kwarg := none, defaults := [] }
def rB (txt fld : Str) (p : Ps) : List Stmt := [.Expr (.Call (.Attribute (.Call (.Name "super" p.q1) [] [] p.q2) "__init__" p.q3) [.BinOp (.Constant (.str txt) 0 p.q4) .Add (.Call (.Name "str" p.q5) [.Name fld p.q6] [] p.q7) p.q8] [] p.q9) p.q10,
  .Assign [.Attribute (.Name "self" p.q11) fld p.q12] (.Name fld p.q13) p.q14]
def rS (fld : Str) : Scope := { kind := .function, names := [(PySem.Str.ofString "self", .local), (fld, .local), (PySem.Str.ofString "__class__", .free), (PySem.Str.ofString "super", .globalImplicit), (PySem.Str.ofString "str", .globalImplicit)], isGenerator := false, isCoroutine := false, more := [] }
/-- the text of super().__init__(..) is run as an attribute of super(), called (its places say so) -/
def RzEv (txt fld : Str) (p : Ps) (qual : Str) (fI cda cc : Addr) : Prop := ∀ L : Addr, ∃ pl : Sem Bool,
  eval (.Call (.Attribute (.Call (.Name "super" p.q1) [] [] p.q2) "__init__" p.q3) [.BinOp (.Constant (.str txt) 0 p.q4) .Add (.Call (.Name "str" p.q5) [.Name fld p.q6] [] p.q7) p.q8] [] p.q9) (ksEnv qual (rS fld) L fI (.ref cda) cc) = (do
      let ov ← attributeBase (.Call (.Name "super" p.q1) [] [] p.q2) "__init__" (ksEnv qual (rS fld) L fI (.ref cda) cc) (eval (.Call (.Name "super" p.q1) [] [] p.q2) (ksEnv qual (rS fld) L fI (.ref cda) cc))
      standAt p.q3.atName
      let (f, first) ← holding [ov] (getMethod ov "__init__" pl)
      callWith p.q9 f first (backTo p.q9 (starEach [.BinOp (.Constant (.str txt) 0 p.q4) .Add (.Call (.Name "str" p.q5) [.Name fld p.q6] [] p.q7) p.q8] (ksEnv qual (rS fld) L fI (.ref cda) cc))) [])
/-- what the written part says of the class at C -/
structure RzTxt (prog : Program) (K : Frag) (C : Addr) (txt fld : Str) : Prop where
  cls : ∃ nm q N bs bm sn sub ab col dd k0 k1 k2 k3 k5, K.lookup C = some (excClassObj nm q C N bs bm true sn sub ab col dd k0 k1 k2 k3 k5 "ValueError.__new__") ∧ refsVE bm = true
  sa : findIn K (.ref C) "__setattr__" = some (some (.builtin "object.__setattr__"))
  noN : findIn K (.ref C) fld = some none
  fn : ∃ (fI cc cda : Addr) (oc : Value) (od : Option Addr) (doc pm : Value) (an : Option Addr) (ct : Value) (osl : Array (Option Value)) (p : Ps) (qual : Str),
    K.lookup fI = some ⟨oc, od, .func (ksFn "__init__" qual (rA fld p) (rB txt fld p) (rS fld) .none .none doc pm an (.ref cda) ct cc), osl⟩ ∧ codeIn K (.ref cda) qual = true ∧
      findIn K (.ref C) "__init__" = some (some (.ref fI)) ∧ typeIn K (.ref fI) = some (.type "function") ∧
      RzEv txt fld p qual fI cda cc ∧ (∃ (ccl : Value) (cdd : Option Addr) (ccs : Array (Option Value)) (vs : Array Value) (file : Str) (tf : Tok), K.lookup cda = some ⟨ccl, cdd, .fields vs, ccs⟩ ∧ vs[2]? = some (.str file tf) ∧ ((prog.main.file : Str) == file) = true) ∧
      ∃ (cl : Value) (cld : Option Addr) (csl : Array (Option Value)), K.lookup cc = some ⟨cl, cld, .cell (some (.ref C)), csl⟩
  top : (prog.main.scope.names.lookup ("super" : Str)).isSome = false
  sup : ks_superIn K C C "__init__" = some (some (.builtin "ValueError.__init__"))
  opq : nsIn K cStatics "thirdparty.any" = some none
  isV : subIn K (.ref C) (.type "ValueError") = some true
  mro : mroIn K C (.ref C) = some true
  exC : subIn K (.ref C) (.type "BaseException") = some true
  tyC : typeIn K (.ref C) = some (.type "type")
  kC : keepIn K (.ref C) = true
section
variable {prog : Program} {w : World} {A : Around} {R : Result → Shared → Prop} {s : Shared} {K : Frag} {mg mb : Str → Option Value} {C : Addr} {txt fld : Str}
/-- what __init__ leaves of a fresh error at x -/
structure RzEnd (h h' : Heap) (x C dx t1 : Addr) (fld : Str) (v : Value) : Prop where
  keep : ∀ b o, b ≠ x → h.get? b = some o → h'.get? b = some o
  obj : h'.get? x = some { cls := .ref C, dict := some dx, data := .fields #[.ref t1, .none, .none, .none, .bool false, .none] }
  dbig : h.objs.size ≤ dx
  dne : dx ≠ x
  ns : h'.Ns1 dx (fun y => if y = fld then some v else none)
theorem rz_init (T : RzTxt prog K C txt "place") (ht : txt.length ≤ 1000) {fI cc cda : Addr} {oc : Value} {od : Option Addr} {doc pm : Value} {an : Option Addr} {ct : Value} {osl : Array (Option Value)} {p : Ps} {qual : Str}
    (ho : K.lookup fI = some ⟨oc, od, .func (ksFn "__init__" qual (rA "place" p) (rB txt "place" p) (rS "place") .none .none doc pm an (.ref cda) ct cc), osl⟩) (hcd : codeIn K (.ref cda) qual = true) (hev : RzEv txt "place" p qual fI cda cc)
    {ccl : Value} {cdd : Option Addr} {ccs : Array (Option Value)} {vs : Array Value} {file : Str} {tf : Tok} (hcode : K.lookup cda = some ⟨ccl, cdd, .fields vs, ccs⟩) (hvs : vs[2]? = some (.str file tf)) (hfile : ((prog.main.file : Str) == file) = true)
    {cl : Value} {cld : Option Addr} {csl : Array (Option Value)} (hcell : K.lookup cc = some ⟨cl, cld, .cell (some (.ref C)), csl⟩)
    (X : K.In s.heap) (G : s.heap.Ns mainGlobals mg) (Bn : s.heap.Ns builtinsNs mb) (hB : ∀ x : Str, x ≠ "__name__" → mb x = bootBuiltins x) (mS : mg "super" = none) (mT : mg "str" = none) (hlim : s.heap.NoLimit)
    {x t0 : Addr} {n : Int} {tk0 : Tok} (hx : s.heap.get? x = some (excO C t0)) (hnx : K.lookup x = none) (hroom : A.depth < recursionLimit) (hn : n.natAbs.log2 < 1920)
    (hq : ∀ h' tk dx t1 tk1, RzEnd s.heap h' x C dx t1 "place" (.int n tk1) → R (.ok (.ret .none)) { s with heap := h', toks := tk }) :
    codeAny (model prog w) A (.call (.ref fI) ⟨[.ref x, .int n tk0], []⟩) R s := by
  obtain ⟨nm, q, N, bs, bm, sn, sub, ab, col, dd, k0, k1, k2, k3, k5, hC, hbm⟩ := T.cls
  have hcl : clsIn K C = some { name := nm, bases := bs, mro := .ref C :: bm, ns := N, qualname := q, hasDict := true, slotNames := sn, subclasses := sub, abstract := ab, collection := col, hasDel := false } := by unfold clsIn; rw [hC] <;> rfl
  refine ks_codeAny_call_defAt (fd := ksFn "__init__" qual (rA "place" p) (rB txt "place" p) (rS "place") .none .none doc pm an (.ref cda) ct cc) (body := rB txt "place" p) (binds := [("self", .ref x), ("place", .int n tk0)]) hroom (X _ _ ho) rfl hlim (codeRec_of X hcd) rfl ?_ (show ∀ x ∈ (rS "place").names, x.2 ≠ NameKind.cell by decide) ?_ (fun h₁ hns k => ?_)
  · exact BindsTo.of_eq (by with_unfolding_all rfl)
  · intro y hy
    rcases List.mem_cons.mp hy with rfl | hy
    · rfl
    · have := List.mem_singleton.mp hy; subst this; rfl
  have hns : h₁.Ns s.heap.objs.size (fun y => List.lookup y [(("place" : Str), Value.int n tk0), ("self", .ref x)]) := hns
  have X₁ : K.In h₁ := X.keeps k
  have G₁ := G.keeps k
  have B₁ := Bn.keeps k
  have hx₁ := k _ _ hx
  show PySem.wpAt _ (A.deeper (ksEnv qual (rS "place") s.heap.objs.size fI (.ref cda) cc)) (.func (rB txt "place" p) (ksEnv qual (rS "place") s.heap.objs.size fI (.ref cda) cc)) (execs (rB txt "place" p) (ksEnv qual (rS "place") s.heap.objs.size fI (.ref cda) cc)) _ _ _
  generalize hA' : A.deeper (ksEnv qual (rS "place") s.heap.objs.size fI (.ref cda) cc) = A'
  have I₁ : InstAt h₁ x (excO C t0) C none := ⟨hx₁, rfl, rfl, trivial⟩
  obtain ⟨pl, he⟩ := hev s.heap.objs.size
  refine ks_wpAt_execs_cons (ks_wpAt_Expr_any (ks_wpAt_MethodCall (pl := pl) ?_ he) rfl rfl)
  obtain ⟨hh, g, d, tk, os⟩ := s
  obtain ⟨oD, hD1, hD2⟩ : ∃ oD, h₁.get? C = some oD ∧ oD.data = .cls { name := nm, bases := bs, mro := .ref C :: bm, ns := N, qualname := q, hasDict := true, slotNames := sn, subclasses := sub, abstract := ab, collection := col, hasDel := false } := ⟨_, X₁ _ _ hC, rfl⟩
  -- super()
  refine ks_wpAt_super_base (env := ksEnv qual (rS "place") hh.objs.size fI (.ref cda) cc) rfl rfl (by decide) rfl (X₁ _ _ ho) rfl rfl rfl (X₁ _ _ hcode) rfl hvs hfile T.top ?_
  refine ks_loadName_global rfl rfl (loadGlobal_builtin (env := ksEnv qual (rS "place") hh.objs.size fI (.ref cda) cc) G₁ mS B₁ ((hB _ (by decide +kernel)).trans (by first | boot_by_name | rfl | kernel_rfl)) ⟨rfl, ?_⟩)
  refine wpAny_loadName_free rfl rfl rfl ⟨_, X₁ _ _ hcell, rfl⟩ ?_
  refine wpAny_loadName_local rfl rfl hns (v := .ref x) (by rfl) ?_
  refine ks_wpAny_isType_cls hD1 hD2 ⟨rfl, ?_⟩
  refine ks_wpAny_call_super hD1 hD2 hx₁ rfl (fun c z => by cases z) (looks_mroIn X₁ T.mro) (fun h₂ hso k2 => ?_)
  have X₂ : K.In h₂ := X₁.keeps k2
  have hx₂ := k2 _ _ hx₁
  have I₂ : InstAt h₂ x (excO C t0) C none := ⟨hx₂, rfl, rfl, trivial⟩
  have hcl₂ : Looks (model prog w) h₂ (classData C) _ := looks_clsIn X₂ hcl
  -- .__init__
  have hsup := T.sup
  unfold ks_superIn at hsup
  rw [hcl] at hsup
  refine kxs_getMethod (K := K) kxs_ValueError hso (looks_opaque X₂ T.opq) (l₀ := .ref C :: bm) (fun A Q E s k q => wpAny_bind (hcl₂ A _ E s k (wpAny_pure q))) rfl X₂ hsup (I₂.type.andThen (looks_subIn X₂ T.isV)) (fun z => by subst z; rw [hnx] at hC; cases hC) (by decide) ?_
  -- its argument
  generalize hu : h₂.objs.size = u
  have hu₃ : (h₂.push (kxs_mw "ValueError.__init__" x)).get? u = some (kxs_mw "ValueError.__init__" x) := by rw [← hu]; exact Heap.get?_push_at rfl rfl
  have k3 : ∀ b o, h₂.get? b = some o → (h₂.push (kxs_mw "ValueError.__init__" x)).get? b = some o := fun b o e => Heap.get?_push_of_some _ e
  generalize hh₃ : h₂.push (kxs_mw "ValueError.__init__" x) = h₃ at hu₃ k3
  have k13 : ∀ b o, h₁.get? b = some o → h₃.get? b = some o := fun b o e => k3 b o (k2 b o e)
  have X₃ : K.In h₃ := X₁.keeps k13
  have G₃ := G₁.keeps k13
  have B₃ := B₁.keeps k13
  have hns₃ := hns.keeps k13
  have hx₃ := k13 _ _ hx₁
  refine kxs_callWith (i := "ValueError.__init__") (u := u) (x := x) rfl (evalArgs_plain ?_)
  show wpAny _ _ (spliced ((false, eval (.BinOp (.Constant (.str txt) 0 p.q4) .Add (.Call (.Name "str" p.q5) [.Name "place" p.q6] [] p.q7) p.q8) (ksEnv qual (rS "place") hh.objs.size fI (.ref cda) cc)) :: backTo p.q9 (starEach [] (ksEnv qual (rS "place") hh.objs.size fI (.ref cda) cc)))) _ _ _
  refine spliced_cons (wpAny_BinOp (Calls.Constant_str ?_))
  refine Call_ (Name_function_global rfl rfl (loadGlobal_builtin G₃ mT B₃ ((hB _ (by decide +kernel)).trans (by first | boot_by_name | rfl | kernel_rfl)) (callWith_type1 ?_ rfl rfl)) (by decide))
  show wpAny _ _ (spliced ((false, eval (.Name "place" p.q6) (ksEnv qual (rS "place") hh.objs.size fI (.ref cda) cc)) :: backTo p.q7 (starEach [] (ksEnv qual (rS "place") hh.objs.size fI (.ref cda) cc)))) _ _ _
  refine spliced_cons (wpAny_Name (wpAny_loadName_local rfl rfl hns₃ (v := .int n tk0) (by rfl) (spliced_nil ?_)) (by decide))
  refine PySem.P.str_of_int hn ?_
  have hl := int_text_len_1921 hn
  refine add_str (fun t' tk' => spliced_nil ⟨hu₃, ?_⟩) (by
    have e : sizeLine = 16777216 := sizeLine_eq
    have : (PySem.Str.ofString (toString n)).length ≤ 1921 := hl
    show txt.length + (PySem.Str.ofString (toString n)).length ≤ sizeLine
    omega)
  -- its run
  refine wpAny_call (codeAny_of_tree ?_)
  show wpAny _ _ (callAny (.ref u) ⟨[.str (txt ++ PySem.Str.ofString (toString n)) t'], []⟩) _ _ _
  simp only [callAny]
  refine wpAny_bind (wpAny_load hu₃ ?_)
  simp only [kxs_mw, show (Value.type "method-wrapper" == Value.type "method" || Value.type "method-wrapper" == Value.type "builtin_function_or_method" || Value.type "method-wrapper" == Value.type "method-wrapper") = true by decide, if_true]
  refine KFB.if_so (by decide) ?_
  refine wpAny_bind (check_bound_init F.excBase_ValueError.toExcCallFacts (X₃ _ _ hC) hx₃ rfl ?_)
  refine wpAny_bind (wpAny_pure (wpAny_pure ?_))
  refine ⟨plainId_quiet F.excBase_ValueError.init.plain _, codeAny_builtin F.excBase_ValueError.initEntry ?_⟩
  refine exc_init_tree (cls := .ref C) (t0 := t0) (dv := none) (c2 := .none) (c3 := .none) (b4 := .bool false) hx₃ (by show 1 ≤ sizeLine; rw [sizeLine_eq]; omega) (fun h₄ k4 hx₄ _ => ?_)
  -- self.fld = fld
  have xL : hh.objs.size ≠ x := Nat.ne_of_gt (Heap.lt_size hx)
  have keep4 : ∀ b o, b ≠ x → hh.get? b = some o → h₄.get? b = some o := fun b o hb e => k4 b o hb (k13 b o (k b o e))
  have X₄ : K.In h₄ := fun a o e => keep4 a o (fun z => by rw [z, hnx] at e; cases e) (X a o e)
  obtain ⟨oL, es, ep, hL, r⟩ := hns₃
  have hns₄ : h₄.Ns hh.objs.size _ := ⟨oL, es, ep, k4 _ _ xL hL, r⟩
  have sz : hh.objs.size < h₄.objs.size := hns₄.lt
  refine wpAt_of_wpAny ?_
  show wpAny _ _ (execs [.Assign [.Attribute (.Name "self" p.q11) "place" p.q12] (.Name "place" p.q13) p.q14] (ksEnv qual (rS "place") hh.objs.size fI (.ref cda) cc)) _ _ _
  refine wpAny_execs_cons (plainObj_wpAny_Assign_Attribute ?_)
  refine wpAny_Name (wpAny_loadName_local rfl rfl hns₄ (v := .int n tk0) (by rfl) ?_) (by decide)
  refine wpAny_Name (wpAny_loadName_local rfl rfl hns₄ (v := .ref x) (by rfl) ?_) (by decide)
  refine set_plain X₄ (ox := excO C h₃.objs.size) (od := none) ⟨hx₄, rfl, rfl, trivial⟩ T.sa ?_
  refine exc_osa X₄ hx₄ hcl (show refsVE (.ref C :: bm) = true from hbm) rfl T.noN (fun h₅ tk₅ dx k₅ dn dne hx₅ hn₅ => ?_)
  exact wpAny_execs_nil (hq h₅ tk₅ dx h₃.objs.size tk0 ⟨fun b o hb e => k₅ b o hb (keep4 b o hb e), hx₅, Nat.le_of_lt (Nat.lt_of_lt_of_le sz dn), dne, hn₅⟩)
/-- a made error -/
structure RzMade (h h' : Heap) (e C d : Addr) (fld : Str) (v : Value) : Prop where
  keep : ∀ b o, h.get? b = some o → h'.get? b = some o
  new : h.objs.size ≤ e
  obj : ∃ oe vs, h'.get? e = some oe ∧ oe.cls = .ref C ∧ oe.dict = some d ∧ oe.data = .fields vs ∧ vs[1]? = some .none
  dbig : h.objs.size ≤ d
  dne : d ≠ e
  ns : h'.Ns1 d (fun y => if y = fld then some v else none)
theorem rz_made (T : RzTxt prog K C txt "place") (ht : txt.length ≤ 1000) (X : K.In s.heap) (G : s.heap.Ns mainGlobals mg) (Bn : s.heap.Ns builtinsNs mb) (hB : ∀ x : Str, x ≠ "__name__" → mb x = bootBuiltins x) (mS : mg "super" = none) (mT : mg "str" = none) (hlim : s.heap.NoLimit)
    {n : Int} {tk0 : Tok} (hroom : A.depth + 1 < recursionLimit) (hn : n.natAbs.log2 < 1920) (hq : ∀ h' tk e d tk1, RzMade s.heap h' e C d "place" (.int n tk1) → R (.ok (.ret (.ref e))) { s with heap := h', toks := tk }) :
    codeAny (model prog w) A (.call (.ref C) ⟨[.int n tk0], []⟩) R s := by
  obtain ⟨nm, q, N, bs, bm, sn, sub, ab, col, dd, k0, k1, k2, k3, k5, hC, hbm⟩ := T.cls
  obtain ⟨fI, cc, cda, oc, od, doc, pm, an, ct, osl, p, qual, ho, hcd, iC, tC, hev, ⟨ccl, cdd, ccs, vs, file, tf, hcode, hvs, hfile⟩, cl, cld, csl, hcell⟩ := T.fn
  obtain ⟨hp, g, dr, tk, os⟩ := s
  have k : ∀ b o, hp.get? b = some o → ((hp.push (kdv_tup [.int n tk0])).push (excO C hp.objs.size)).get? b = some o := fun b o e => Heap.get?_push_of_some _ (Heap.get?_push_of_some _ e)
  have hget : ((hp.push (kdv_tup [.int n tk0])).push (excO C hp.objs.size)).get? (hp.objs.size + 1) = some (excO C hp.objs.size) := by heap_get
  have hnx : K.lookup (hp.objs.size + 1) = none := by
    cases e : K.lookup (hp.objs.size + 1) with
    | none => rfl
    | some o => exact absurd (Nat.lt_of_succ_lt (Heap.lt_size (X _ _ e))) (Nat.lt_irrefl _)
  refine call_own F.excBase_ValueError (fun X => refsVE_contains X bm hbm) (X _ _ hC) (looks_findIn X iC) (fun self => bind_fn X self tC) (by show 1 ≤ sizeLine; rw [sizeLine_eq]; omega) ?_
  refine rz_init (s := ⟨(hp.push (kdv_tup [.int n tk0])).push (excO C hp.objs.size), g, dr, tk, os⟩) T ht ho hcd hev hcode hvs hfile hcell (X.keeps k) (G.keeps k) (Bn.keeps k) hB mS mT (hlim.keeps k) hget hnx ?_ hn fun h' tk' dx t1 tk1 ⟨k', hx, dn, dne, hns⟩ => ?_
  · show A.depth + 1 < recursionLimit
    exact hroom
  · have old : ∀ b o, hp.get? b = some o → h'.get? b = some o := fun b o e => k' b o (Nat.ne_of_lt (Nat.lt_succ_of_lt (Heap.lt_size e))) (k b o e)
    have z : hp.objs.size + 1 + 1 ≤ dx := by
      have q := dn
      rw [Heap.size_push, Heap.size_push] at q
      exact q
    exact ⟨rfl, hq h' tk' (hp.objs.size + 1) dx tk1 ⟨old, Nat.le_succ _, ⟨_, _, hx, rfl, rfl, rfl, rfl⟩, Nat.le_trans (Nat.le_trans (Nat.le_succ _) (Nat.le_succ _)) z, dne, hns⟩⟩
end
end Rz
end DL

set_option Elab.async false
set_option linter.all false
set_option autoImplicit false
set_option maxRecDepth 100000
set_option maxHeartbeats 4000000
namespace DL
open PySem PySem.Spec L2
section
variable {G : Type} {X : Cx} {c : Fc G} {wx : WX} {pos : Pos}
variable {K : PySem.W.Frag} {ow : Addr → Prop} {ρ : DEnv} {g g1 gs : G} {σ : St} {H H1 Hs : Hp} {p : Addr}
variable {a b : Expr} {ta tb : DT G} {st : Stmt} {rest body : List Stmt} {t u : DSt G} {es : List Expr} {t' : DTA G}
/-! ### raise C(n) -/
theorem relO_one {v : V} {v' : Value} (r : RelV v v') (fld f : Str) : RelO (List.lookup f [(fld, v)]) (if f = fld then some v' else none) := by
  by_cases hw : f = fld
  · subst hw
    rw [if_pos rfl]
    have q : List.lookup f [(f, v)] = some v := by simp [List.lookup]
    rw [q]
    exact r
  · rw [if_neg hw]
    have qw : (f == fld) = false := by simpa using hw
    have q2 : List.lookup f [(fld, v)] = none := by simp [List.lookup, qw]
    rw [q2]
    trivial
def tMkRz (C : Addr) (fld : Str) (te : TE) : St → Hp → XK → Prop := fun σ H Q => te σ H fun v H1 => ∃ n, v = .int n ∧ n.natAbs.log2 < 1920 ∧ ∀ d, H1 d = none → Q (.ref C) (some d) (upd H1 d (.xd [(fld, .int n)]))
theorem pmk_rz {te : TE} {nm txt : Str} {C : Addr} {q1 : Pos} {k : Nat} (T : Rz.RzTxt X.prog X.K C txt "place") (ht : txt.length ≤ 1000) (hm : X.mg nm = some (.ref C)) (mS : X.mg "super" = none) (mT : X.mg "str" = none) (hr : Room k X.A) (ha : PE X a te) (hg : Gl X nm := by rfl) (hdb : (nm == ("__debug__" : Str)) = false := by decide)
    (he : starEach (a :: []) X.env = (false, eval a X.env) :: starEach [] X.env := by rfl) (hpl : (backTo pos (starEach [] X.env)).any (·.1) = false := by rfl) :
    PMk X (.Call (.Name nm q1) [a] [] pos) (tMkRz C "place" te) := by
  intro pins s σ H Q I h
  refine wpAny_Call_Name_kw (ld_glob I hg hm ?_ hdb)
  refine PySem.W.callWith_K (h₀ := X.base) I.ok.mod.kin T.kC (thn ((pa_cons ha pa_nil he).run pos pins s σ H (fun vs H1 => ∃ v, vs = [v] ∧ ∃ n, v = .int n ∧ n.natAbs.log2 < 1920 ∧ ∀ d, H1 d = none → Q (.ref C) (some d) (upd H1 d (.xd [(("place" : Str), .int n)]))) I (show te σ H _ from ?_)) fun us s1 hh => ?_) he hpl
  · have h' : te σ H fun v H1 => ∃ n, v = .int n ∧ n.natAbs.log2 < 1920 ∧ ∀ d, H1 d = none → Q (.ref C) (some d) (upd H1 d (.xd [(("place" : Str), .int n)])) := h
    have e : (fun (x : V) (H1 : Hp) => L2.tNil σ H1 fun xs H2 => ∃ v, x :: xs = [v] ∧ ∃ n, v = V.int n ∧ n.natAbs.log2 < 1920 ∧ ∀ d, H2 d = none → Q (.ref C) (some d) (upd H2 d (.xd [(("place" : Str), .int n)]))) = fun v H1 => ∃ n, v = V.int n ∧ n.natAbs.log2 < 1920 ∧ ∀ d, H1 d = none → Q (.ref C) (some d) (upd H1 d (.xd [(("place" : Str), .int n)])) := by
      funext x H1
      apply propext
      constructor
      · rintro ⟨v, e, z⟩
        cases e
        exact z
      · intro z
        exact ⟨x, rfl, z⟩
    rw [e]
    exact h'
  obtain ⟨vs, H1, I1, r1, v, ev, n, en, hn, q1⟩ := hh
  subst ev
  subst en
  refine ⟨I1.kIn, ?_⟩
  cases r1 with
  | cons rv rn =>
    rename_i v' us'
    cases rn
    obtain ⟨tk0, rfl⟩ := rv
    show wpAny _ _ (call (.ref C) [.int n tk0]) _ _ _
    have hlim := I1.nolimit
    obtain ⟨mb, hb1, hb2⟩ := I1.mod.blt
    have G1 := I1.mod.glob.keeps I1.bk
    have B1 := hb1.keeps I1.bk
    obtain ⟨hp, g, dr, tk, os⟩ := s1
    refine wpAny_call (Rz.rz_made T ht I1.kIn G1 B1 hb2 mS mT hlim (by have := hr.dp; omega) hn fun h' tk' e d tk1 M => ?_)
    show MkP X pins σ Q (.ref e) ⟨h', g, dr, tk', os⟩
    obtain ⟨oe, fv, hoe, hc, hd, hdat, h1⟩ := M.obj
    have hns := M.ns
    obtain ⟨G', g1, g2⟩ := restrict h' fun b => decide (b ≠ e)
    have gk : ∀ b, b ≠ e → G'.get? b = h'.get? b := fun b hb => g1 b (decide_eq_true hb)
    have ge : G'.get? e = none := g2 e (by simp)
    have old : ∀ b o, hp.get? b = some o → G'.get? b = some o := fun b o q => (gk b (Nat.ne_of_lt (Nat.lt_of_lt_of_le (Heap.lt_size q) M.new))).trans (M.keep b o q)
    have ob : ObjOk X.prog X.w (upd H1 d (.xd [(("place" : Str), .int n)])) G' d (.xd [(("place" : Str), .int n)]) :=
      ⟨_, hns.at (fun o q => (gk d M.dne).trans q), fun f => relO_one (v := .int n) ⟨tk1, rfl⟩ "place" f⟩
    have J : Inv X pins σ (upd H1 d (.xd [(("place" : Str), .int n)])) ⟨G', g, dr, tk', os⟩ := I1.laid (t' := tk') old M.dbig ob
    refine ⟨e, oe, fv, ⟨G', g, dr, tk', os⟩, _, .ref C, some d, rfl, J, fun b o q => ?_, ge, hoe, ⟨hc, hd⟩, hdat, h1, ?_, rfl, I1.bare, raises_own T.exC T.tyC, q1 d (I1.hok.fresh M.dbig)⟩
    · by_cases hb : b = e
      · have q' : G'.get? b = some o := q
        rw [hb, ge] at q'; cases q'
      · exact (gk b hb).symm.trans q
    · rw [upd_ne (Ne.symm M.dne)]
      exact I1.hok.fresh M.new
def dRz (C : Addr) (fld : Str) (ta : DT G) : DSt G := fun ρ g E => ta ρ g (fun f g1 => onInt f.data fun n => n.natAbs.log2 < 1920 ∧ E.rz ⟨.ref C, some (fld, n)⟩ ρ g1) fun ex g1 => E.rz ex ρ g1
theorem sRaise {nm txt : Str} {C : Addr} {q1 pos2 : Pos} {k : Nat} (Cp : Cap k X wx) (T : Rz.RzTxt X.prog X.K C txt "place") (ht : txt.length ≤ 1000) (hm : X.mg nm = some (.ref C)) (mS : X.mg "super" = none) (mT : X.mg "str" = none) (ha : DE X c wx a ta) (hg : Gl X nm := by rfl) (hdb : (nm == ("__debug__" : Str)) = false := by decide)
    (he : starEach (a :: []) X.env = (false, eval a X.env) :: starEach [] X.env := by rfl) (hpl : (backTo pos (starEach [] X.env)).any (·.1) = false := by rfl) :
    DS X c wx (.Raise (some (.Call (.Name nm q1) [a] [] pos)) none pos2) (dRz C "place" ta) := by
  obtain ⟨te, pa, ra⟩ := ha.run
  refine ⟨_, ps_raise Cp.calm Cp.tk (pmk_rz T ht hm mS mT Cp.hr pa hg hdb he hpl), fun ps ρ g σ H E B s t l => ?_⟩
  obtain ⟨ow, e⟩ := s
  refine ra ps ρ g σ H ow _ _ _ e t (fun f g1 v H1 k1 d1 q => ?_) (l.rzOk e)
  obtain ⟨n, hn, h1, q⟩ := onInt_of q
  have e1 := e.keep k1
  exact ⟨n, d1.int hn, h1, fun d hd => l.rz ⟨.ref C, some ("place", n)⟩ ρ g1 σ _ _ _ ⟨ow, e1.keep (Keep.new1 e1.ok hd)⟩ ⟨rfl, d, rfl, upd_same⟩ q⟩
/-- raise C('..'), a class without an __init__ of its own -/
def dRzT (C : Addr) : DSt G := fun ρ g E => E.rz ⟨.ref C, none⟩ ρ g
theorem sRaiseT {e : Expr} {t : St → Hp → XK → Prop} {C : Addr} {k : Nat} (Cp : Cap k X wx) (hp : PMk X e t) (ht : ∀ σ H Q, Q (.ref C) none H → t σ H Q) : DS X c wx (.Raise (some e) none pos) (dRzT C) :=
  ⟨_, ps_raise Cp.calm Cp.tk hp, fun ps ρ g σ H E B s t l => ht _ _ _ (l.rz ⟨.ref C, none⟩ ρ g σ H _ _ s ⟨rfl, trivial⟩ t)⟩
/-! ### try -/
theorem try_body (h : ∀ (W : WX) (pn : List (Addr × Obj)) (xe : Value → Shared → Prop), Takes (X.tr pn xe) W → PassesOwn (model X.prog X.w) X.A X.env xe → DSs (X.tr pn xe) c W body t) :
    ∃ tb : WX → TS, (∀ (W : WX) (pn : List (Addr × Obj)) (xe : Value → Shared → Prop), Takes (X.tr pn xe) W → PassesOwn (model X.prog X.w) X.A X.env xe → PSs (X.tr pn xe) body (tb W)) ∧
      ∀ (W : WX), (∃ pn xe, Takes (X.tr pn xe) W ∧ PassesOwn (model X.prog X.w) X.A X.env xe) ∨ True → ∀ (ps : List (V × D)) ρ g σ H E B, SR X.K (c.pn ps) ρ g σ H → t ρ g E → Lift X.K (c.pn ps) W E B → tb W B σ H := by
  refine ⟨fun W B σ H => ∀ (pn : List (Addr × Obj)) (xe : Value → Shared → Prop) (h1 : Takes (X.tr pn xe) W) (h2 : PassesOwn (model X.prog X.w) X.A X.env xe), Classical.choose (h W pn xe h1 h2).run B σ H,
    fun W pn xe h1 h2 => ⟨fun pins s σ H B I q => (Classical.choose_spec (h W pn xe h1 h2).run).1.run pins s σ H B I (q pn xe h1 h2)⟩, fun W _ ps ρ g σ H E B s t l pn xe h1 h2 => (Classical.choose_spec (h W pn xe h1 h2).run).2 ps ρ g σ H E B s t l⟩
/-! try: body except C as n: y = n.fld -/
/-- which classes of errors a clause takes -/
def exmL (l : List (Addr × Bool)) (v : Value) : Option Bool := match v with
  | .ref a => l.lookup a
  | _ => none
structure ExM (K : PySem.W.Frag) (C : Addr) (l : List (Addr × Bool)) : Prop where
  ok : ∀ v b, exmL l v = some b → PySem.W.exmOne K v (.ref C) = some b
theorem ExM.nil {K : PySem.W.Frag} {C : Addr} : ExM K C [] := ⟨fun v b h => by cases v <;> cases h⟩
theorem ExM.cons {K : PySem.W.Frag} {C a : Addr} {b : Bool} {l : List (Addr × Bool)} (h : PySem.W.exmOne K (.ref a) (.ref C) = some b) (r : ExM K C l) : ExM K C ((a, b) :: l) := ⟨fun v b' q => by
  cases v with
  | ref x =>
    have q : List.lookup x ((a, b) :: l) = some b' := q
    by_cases e : x = a
    · subst e
      rw [List.lookup_cons_self] at q
      cases q
      exact h
    · rw [List.lookup_cons] at q
      rw [show (x == a) = false by simpa using e] at q
      exact r.ok (.ref x) b' q
  | _ => cases q⟩
def dTryF (l : List (Addr × Bool)) (C : Addr) (i j : Nat) (fld : Str) (body : DSt G) : DSt G := fun ρ g E => body ρ g { E with rz := fun ex ρ' g' => ∃ b, exmL l ex.cls = some b ∧
  i < ρ'.length ∧ (b = true → ∃ m, ex.cls = .ref C ∧ ex.pay = some (fld, m) ∧ E.nx ((ρ'.set j (.val (.int m))).set i .none) g') ∧ (b = false → E.rz ex ρ' g') }
theorem sTryF {C : Addr} {l₀ : List (Addr × Bool)} {i j : Nat} {x n y fld : Str} {np pos' p1 p2 p3 p4 : Pos} {k : Nat} (Cp : Cap k X wx) (M : ExM X.K C l₀) (T : XfC X.K C) (hno : PySem.W.findIn X.K (.ref C) fld = some none) (hm : X.mg x = some (.ref C))
    (hb : ∀ (W : WX) (pn : List (Addr × Obj)) (xe : Value → Shared → Prop), Takes (X.tr pn xe) W → PassesOwn (model X.prog X.w) X.A X.env xe → DSs (X.tr pn xe) c W body t) (hij : i ≠ j := by decide)
    (hi : X.N[i]? = some n := by rfl) (hln : X.env.kindOf n = some .local := by rfl) (hj : X.N[j]? = some y := by rfl) (hy : Loc X.env.scope y := by first | exact Or.inl rfl | exact Or.inr rfl) (hfy : X.fn y = true ∨ X.env.scope.names.lookup y = some .local := by first | exact .inl rfl | exact .inr rfl)
    (hst : X.stack = X.env :: X.outer := by rfl) (hfr : X.env.frame = some X.env.locals := by rfl) (hg : Gl X x := by rfl) (hdb : (x == ("__debug__" : Str)) = false := by decide) (hdn : (n == ("__debug__" : Str)) = false := by decide) (hcdn : (n == ("__classdict__" : Str)) = false := by decide)
    (hba : attributeBase (.Name n p3) fld X.env (eval (.Name n p3) X.env) = eval (.Name n p3) X.env := by rfl)
    (hsw : swapsWith (.Attribute (.Name n p3) fld p4) (some (.Name y p2)) p1.line X.env = pure false := by rfl) :
    DS X c wx (.Try body [.ExceptHandler (some (.Name x np)) (some n) [.Assign [.Name y p2] (.Attribute (.Name n p3) fld p4) p1] pos'] [] [] pos) (dTryF l₀ C i j fld t) := by
  obtain ⟨tb, pb, rb⟩ := try_body hb
  refine ⟨_, ps_try_as (i := i) hst hfr Cp.nd hi hln ⟨hg, hdb, .inl hm⟩ Cp.tk pb
    (fun a oe cls d pn hz hf => pss_one (ps_set (i := j) Cp.nd hj hy (pe_xf T hno hz hf (pe_var (i := i) hi (.inl hln) hdn hcdn) hba) hsw hfy)), fun ps ρ g σ H E B s t l => ?_⟩
  refine rb _ (.inr trivial) ps ρ g σ H _ _ s t ⟨l.nx, l.rt, l.bk, l.ct, fun ex ρ' g' σ' H' cls d s' x' q => ?_⟩
  obtain ⟨b, hb1, hlt, hyes, hn⟩ := q
  obtain ⟨hcls, hpay⟩ := x'
  refine ⟨b, by rw [hcls]; exact M.ok _ _ hb1, fun hbt a ha => ?_, fun hbf => l.rz ex ρ' g' σ' H' cls d s' ⟨hcls, hpay⟩ (hn hbf)⟩
  obtain ⟨m, hc, hp, q⟩ := hyes hbt
  rw [hp] at hpay
  obtain ⟨dd, hd, hx⟩ := hpay
  obtain ⟨ow, e⟩ := s'
  have hil : i < σ'.length := by rw [← e.len]; exact hlt
  refine ⟨_, List.getElem?_set_self hil, rfl, hcls.trans hc, dd, _, .int m, hd, hx, by simp [List.lookup], ?_⟩
  have e1 := ((e.putFn i (V.ref a)).putVal j (d := .int m) (Dn.int m)).putNone i none
  have eq : (((ρ'.set i (Slot.fn (V.ref a))).set j (.val (.int m))).set i .none) = ((ρ'.set j (.val (.int m))).set i .none) := by
    rw [List.set_comm _ _ hij, List.set_set]
  rw [eq] at e1
  exact l.nx _ g' _ H' ⟨ow, e1⟩ q
/-- try: body except C: suite -/
def dTryP (l : List (Addr × Bool)) (body suite : DSt G) : DSt G := fun ρ g E => body ρ g { E with rz := fun ex ρ' g' => ∃ b, exmL l ex.cls = some b ∧
  (b = true → suite ρ' g' { E with rz := fun _ _ _ => False }) ∧ (b = false → E.rz ex ρ' g') }
theorem suite_body {b₀ : Stmt} {suite : List Stmt} (h : ∀ (a : Addr) (oe : Obj) (cls : Value) (d : Option Addr) (pn : List (Addr × Obj)), Zc cls d oe → (∃ vs, oe.data = .fields vs) → DSs (X.suite a ((a, oe) :: pn)) c wF (b₀ :: suite) u) :
    ∃ ts : Addr → Value → Option Addr → TS, (∀ (a : Addr) (oe : Obj) (cls : Value) (d : Option Addr) (pn : List (Addr × Obj)), Zc cls d oe → (∃ vs, oe.data = .fields vs) → PSs (X.suite a ((a, oe) :: pn)) (b₀ :: suite) (ts a cls d)) ∧
      ∀ a cls d (ps : List (V × D)) ρ g σ H E B, SR X.K (c.pn ps) ρ g σ H → u ρ g E → Lift X.K (c.pn ps) wF E B → ts a cls d B σ H := by
  refine ⟨fun a cls d B σ H => ∀ (oe : Obj) (pn : List (Addr × Obj)) (h1 : Zc cls d oe) (h2 : ∃ vs, oe.data = .fields vs), Classical.choose (h a oe cls d pn h1 h2).run B σ H,
    fun a oe cls d pn h1 h2 => ⟨fun pins s σ H B I q => (Classical.choose_spec (h a oe cls d pn h1 h2).run).1.run pins s σ H B I (q oe pn h1 h2)⟩, fun a cls d ps ρ g σ H E B s t l oe pn h1 h2 => (Classical.choose_spec (h a oe cls d pn h1 h2).run).2 ps ρ g σ H E B s t l⟩
theorem sTryP {C : Addr} {l₀ : List (Addr × Bool)} {x : Str} {np pos' : Pos} {k : Nat} {b₀ : Stmt} {suite : List Stmt} (Cp : Cap k X wx) (M : ExM X.K C l₀) (hm : X.mg x = some (.ref C))
    (hb : ∀ (W : WX) (pn : List (Addr × Obj)) (xe : Value → Shared → Prop), Takes (X.tr pn xe) W → PassesOwn (model X.prog X.w) X.A X.env xe → DSs (X.tr pn xe) c W body t)
    (hsu : ∀ (a : Addr) (oe : Obj) (cls : Value) (d : Option Addr) (pn : List (Addr × Obj)), Zc cls d oe → (∃ vs, oe.data = .fields vs) → DSs (X.suite a ((a, oe) :: pn)) c wF (b₀ :: suite) u)
    (hst : X.stack = X.env :: X.outer := by rfl) (hfr : X.env.frame = some X.env.locals := by rfl) (hg : Gl X x := by rfl) (hdb : (x == ("__debug__" : Str)) = false := by decide) :
    DS X c wx (.Try body [.ExceptHandler (some (.Name x np)) none (b₀ :: suite) pos'] [] [] pos) (dTryP l₀ t u) := by
  obtain ⟨tb, pb, rb⟩ := try_body hb
  obtain ⟨ts, pt, rt⟩ := suite_body hsu
  refine ⟨_, ps_try_only hst hfr ⟨hg, hdb, .inl hm⟩ Cp.tk pb pt, fun ps ρ g σ H E B s t l => ?_⟩
  refine rb _ (.inr trivial) ps ρ g σ H _ _ s t ⟨l.nx, l.rt, l.bk, l.ct, fun ex ρ' g' σ' H' cls d s' x' q => ?_⟩
  obtain ⟨b, hb1, hyes, hn⟩ := q
  refine ⟨b, by rw [x'.1]; exact M.ok _ _ hb1, fun hbt a ha => ?_, fun hbf => l.rz ex ρ' g' σ' H' cls d s' x' (hn hbf)⟩
  exact rt a cls d ps ρ' g' σ' H' _ _ s' (hyes hbt) ⟨l.nx, l.rt, l.bk, l.ct, fun _ _ _ _ _ _ _ _ _ z => z.elim⟩
end
end DL

set_option Elab.async false
set_option linter.all false
set_option autoImplicit false
set_option maxRecDepth 100000
set_option maxHeartbeats 4000000
/-! the law's box of draws: a list [cells, held, state] that three defs know -/
namespace DL
open PySem PySem.Spec L2
structure BoxOk (H : Hp) (b c : Addr) : Prop where
  ne : b ≠ c
  ex : ∃ (ns : List Int) (held st : Int), H b = some (.lst [.ref c, .int held, .int st]) ∧ H c = some (.lst (ns.map V.int)) ∧ 0 ≤ held ∧ 0 ≤ st ∧ st < 2 ^ 40
/-- all but the box is as it was -/
def ButBox (b c : Addr) (H H' : Hp) : Prop := ∀ x, x ≠ b → x ≠ c → H' x = H x
theorem ButBox.refl {b c : Addr} {H : Hp} : ButBox b c H H := fun _ _ _ => rfl
theorem ButBox.trans {b c : Addr} {H H1 H2 : Hp} (h : ButBox b c H H1) (k : ButBox b c H1 H2) : ButBox b c H H2 := fun x h1 h2 => (k x h1 h2).trans (h x h1 h2)
theorem ButBox.b {b c : Addr} {H : Hp} {o : HO} : ButBox b c H (upd H b o) := fun x h1 _ => upd_ne h1
theorem ButBox.c {b c : Addr} {H : Hp} {o : HO} : ButBox b c H (upd H c o) := fun x _ h2 => upd_ne h2
def spLoad : Sp := fun vs H Q _ => ∃ b c, vs = [.ref b] ∧ BoxOk H b c ∧ ∀ (r : Int) (H' : Hp), 0 ≤ r → BoxOk H' b c → ButBox b c H H' → Q (.int r) H'
theorem at0 {x y z : V} : atI [x, y, z] 0 = some x := rfl
theorem at1 {x y z : V} : atI [x, y, z] 1 = some y := rfl
theorem at2 {x y z : V} : atI [x, y, z] 2 = some z := rfl
abbrev rInt1 : List V → Hp → VK → Prop := fun xs H Q => (∃ i, xs = [.int i] ∧ Q (.int i) H) ∨ ∃ k, xs = [.bl k] ∧ Q (.int (if k then 1 else 0)) H
abbrev tInt (t : TE) : TE := tCB rInt1 (tCons t L2.tNil)
abbrev tIx0 (K : PySem.W.Frag) (i : Int) : TE := tOp (rIx K) (tVar 0) (tC (.int i))
abbrev tLn (K : PySem.W.Frag) (t : TE) : TE := tCB (fun xs H Q => ∃ x n, xs = [x] ∧ LenV K x H n ∧ Q (.int n) H) (tCons t L2.tNil)
abbrev tN (i : Int) : TE := tC (.int i)
abbrev tPl (a b : TE) : TE := tOp (rI0 fun i j => .int (i + j)) a b
abbrev tMi (a b : TE) : TE := tOp (rI0 fun i j => .int (i - j)) a b
abbrev tMu (a b : TE) : TE := tOp (rI CMul fun i j => .int (i * j)) a b
abbrev tMd (a b : TE) : TE := tOp (rI (fun _ j => 0 < j) fun i j => .int (i % j)) a b
abbrev tTail (K : PySem.W.Frag) : TS :=
  tSeq (tAsg (tMd (tInt (tPl (tMu (tIx0 K 2) (tN 48271)) (tN 17))) (tN 2147483629)) (gName 4)) <|
  tSeq (tAsg (tMd (tInt (tPl (tMu (tVar 4) (tN 69621)) (tN 5))) (tN 2147483587)) (gName 5)) <|
  tSeq (tAsg (tMd (tInt (tPl (tMu (tVar 5) (tN 40692)) (tN 3))) (tN 2147483563)) (gSub (tVar 0) (tN 2) rSetL)) <|
  tRet (tPl (tPl (tMu (tVar 4) (tN 4611686014132420609)) (tMu (tVar 5) (tN 2147483647))) (tIx0 K 2))
abbrev tLoad (K : PySem.W.Frag) : TS :=
  tSeq (tAsg (tIx0 K 0) (gName 1)) <|
  tSeq (tIfS (tB (tGt (tLn K (tVar 1)) (tN 0)))
    (tSeq (tAsg (tInt (tBM K "list" rPopAt (tVar 1) (tCons (tN 0) L2.tNil))) (gName 2)) <|
     tSeq (tAsg (tIf (tB (tGe (tVar 2) (tN 0))) (tMu (tN 2) (tVar 2)) (tMi (tMu (tUn (rU fun i => .int (-i)) (tN 2)) (tVar 2)) (tN 1))) (gName 3)) <|
     tSeq (tIfS (tB (tGe (tVar 3) (tN 1000000000000000000))) (tRet (tVar 3)) tNext) <|
     tAsg (tMd (tInt (tPl (tPl (tMu (tIx0 K 2) (tN 69621)) (tMu (tVar 3) (tN 48271))) (tN 11))) (tN 2147483647)) (gSub (tVar 0) (tN 2) rSetL))
    tNext) <|
  tTail K
section
variable {K : PySem.W.Frag} {b c : Addr} {H : Hp}
/-- the state is read -/
theorem ix_box {held st : Int} {i : Int} {v : V} {Q : VK} (hb : H b = some (.lst [.ref c, .int held, .int st])) (hv : atI [V.ref c, .int held, .int st] i = some v) (q : Q v H) : rIx K (.ref b) (.int i) H Q :=
  .inl ⟨b, _, i, v, rfl, rfl, SqL.of hb, hv, q⟩
/-- the part of _law_load behind the cells -/
theorem load_tail {D : Ends} {σ : St} (h0 : σ[0]? = some (some (.ref b))) (h6 : σ.length = 6) (ok : BoxOk H b c)
    (q : ∀ (r : Int) (H' : Hp), 0 ≤ r → BoxOk H' b c → ButBox b c H H' → D.rt (.int r) H') :
    (tTail K) D σ H := by
  obtain ⟨hne, ns, held, st, hb, hc, p1, p2, p3⟩ := ok
  refine ⟨_, h0, ix_box hb at2 ⟨st, 48271, rfl, rfl, .inr ⟨by omega, by omega⟩, _, 17, rfl, rfl, .inl ⟨_, rfl, _, 2147483629, rfl, rfl, by omega, ?_⟩⟩⟩
  dsimp only
  generalize hx : (st * 48271 + 17) % 2147483629 = x
  have x0 : 0 ≤ x ∧ x < 2147483629 := by omega
  have e4 : (σ.set 4 (some (V.int x)))[4]? = some (some (.int x)) := List.getElem?_set_self (by omega)
  refine ⟨_, e4, x, 69621, rfl, rfl, .inr ⟨by omega, by omega⟩, _, 5, rfl, rfl, .inl ⟨_, rfl, _, 2147483587, rfl, rfl, by omega, ?_⟩⟩
  dsimp only
  generalize hy : (x * 69621 + 5) % 2147483587 = y
  have y0 : 0 ≤ y ∧ y < 2147483587 := by omega
  have e5 : ((σ.set 4 (some (V.int x))).set 5 (some (V.int y)))[5]? = some (some (.int y)) := List.getElem?_set_self (by rw [List.length_set]; omega)
  have e4' : ((σ.set 4 (some (V.int x))).set 5 (some (V.int y)))[4]? = some (some (.int x)) := by rw [List.getElem?_set_ne (by decide)]; exact e4
  have e0' : ((σ.set 4 (some (V.int x))).set 5 (some (V.int y)))[0]? = some (some (.ref b)) := by rw [List.getElem?_set_ne (by decide), List.getElem?_set_ne (by decide)]; exact h0
  refine ⟨_, e5, y, 40692, rfl, rfl, .inr ⟨by omega, by omega⟩, _, 3, rfl, rfl, .inl ⟨_, rfl, _, 2147483563, rfl, rfl, by omega, ?_⟩⟩
  dsimp only
  generalize hz : (y * 40692 + 3) % 2147483563 = z
  have z0 : 0 ≤ z ∧ z < 2147483563 := by omega
  refine ⟨_, e0', b, _, 2, 2, rfl, rfl, hb, rfl, ?_⟩
  have hb' : upd H b (.lst ([V.ref c, .int held, .int st].set 2 (.int z))) b = some (.lst [.ref c, .int held, .int z]) := upd_same
  refine ⟨_, e4', x, _, rfl, rfl, .inr ⟨by omega, by omega⟩, _, e5, y, _, rfl, rfl, .inr ⟨by omega, by omega⟩, _, _, rfl, rfl, ?_⟩
  refine ⟨_, e0', ix_box hb' at2 ⟨_, z, rfl, rfl, q _ _ ?_ ⟨hne, ns, held, z, hb', by rw [upd_ne (Ne.symm hne)]; exact hc, p1, z0.1, by omega⟩ ButBox.b⟩⟩
  omega
theorem load_run {D : Ends} (ok : BoxOk H b c) (q : ∀ (r : Int) (H' : Hp), 0 ≤ r → BoxOk H' b c → ButBox b c H H' → D.rt (.int r) H') : tLoad K D (L2.start ["box", "cells", "cell", "size", "first", "second"] [.ref b]) H := by
  have ok0 := ok
  obtain ⟨hne, ns, held, st, hb, hc, p1, p2, p3⟩ := ok
  refine ⟨_, rfl, ix_box hb at0 ?_⟩
  refine ⟨_, rfl, _, ns.length, rfl, .inl ⟨_, SqL.of hc, (List.length_map ..).symm⟩, _, 0, rfl, rfl, _, rfl, ?_⟩
  cases ns with
  | nil =>
    dsimp only
    rw [if_neg (by simp)]
    exact load_tail rfl rfl ok0 q
  | cons n ns =>
    dsimp only
    rw [if_pos (by simp)]
    refine ⟨_, rfl, .inl ⟨rfl, _, SqL.of hc⟩, c, _, 0, 0, .int n, rfl, rfl, hc, by omega, by omega, by simp [seqIndex?], rfl, ?_⟩
    have hc' : upd H c (.lst (((n :: ns).map V.int).eraseIdx 0)) c = some (.lst (ns.map V.int)) := upd_same
    generalize hH1 : upd H c (.lst (((n :: ns).map V.int).eraseIdx 0)) = H1 at hc'
    have hb' : H1 b = some (.lst [.ref c, .int held, .int st]) := by rw [← hH1, upd_ne hne]; exact hb
    have bb : ButBox b c H H1 := by rw [← hH1]; exact ButBox.c
    have ok1 : BoxOk H1 b c := ⟨hne, ns, held, st, hb', hc', p1, p2, p3⟩
    refine .inl ⟨n, rfl, ?_⟩
    -- size
    suffices hs : ∀ sz : Int, 0 ≤ sz → (tSeq (tIfS (tB (tGe (tVar 3) (tN 1000000000000000000))) (tRet (tVar 3)) tNext) <|
     tAsg (tMd (tInt (tPl (tPl (tMu (tIx0 K 2) (tN 69621)) (tMu (tVar 3) (tN 48271))) (tN 11))) (tN 2147483647)) (gSub (tVar 0) (tN 2) rSetL)) { D with nx := fun σ H => (tTail K) D σ H } [some (.ref b), some (.ref c), some (.int n), some (.int sz), none, none] H1 by
      refine ⟨_, rfl, n, 0, rfl, rfl, _, rfl, ?_⟩
      by_cases h : n ≥ 0
      · dsimp only
        rw [if_pos (by simpa using h)]
        exact ⟨_, rfl, 2, n, rfl, rfl, .inl ⟨by omega, by omega⟩, hs (2 * n) (by omega)⟩
      · dsimp only
        rw [if_neg (by simpa using h)]
        exact ⟨2, rfl, _, rfl, _, n, rfl, rfl, .inl ⟨by omega, by omega⟩, _, 1, rfl, rfl, hs (-2 * n - 1) (by omega)⟩
    intro sz hsz
    refine ⟨_, rfl, sz, _, rfl, rfl, _, rfl, ?_⟩
    by_cases h : sz ≥ 1000000000000000000
    · dsimp only
      rw [if_pos (by simpa using h)]
      exact ⟨_, rfl, q sz H1 hsz ok1 bb⟩
    · dsimp only
      rw [if_neg (by simpa using h)]
      refine ⟨_, rfl, ix_box hb' at2 ⟨st, 69621, rfl, rfl, .inr ⟨by omega, by omega⟩, _, rfl, sz, 48271, rfl, rfl, .inr ⟨by omega, by omega⟩, _, _, rfl, rfl, _, 11, rfl, rfl, .inl ⟨_, rfl, _, 2147483647, rfl, rfl, by omega, ?_⟩⟩⟩
      dsimp only
      generalize hz : (st * 69621 + sz * 48271 + 11) % 2147483647 = z
      have z0 : 0 ≤ z ∧ z < 2147483647 := by omega
      refine ⟨_, rfl, b, _, 2, 2, rfl, rfl, hb', rfl, ?_⟩
      have hb2 : upd H1 b (.lst ([V.ref c, .int held, .int st].set 2 (.int z))) b = some (.lst [.ref c, .int held, .int z]) := upd_same
      refine load_tail rfl rfl ⟨hne, ns, held, z, hb2, by rw [upd_ne (Ne.symm hne)]; exact hc', p1, z0.1, by omega⟩ fun r H' r0 ok' bb' => q r H' r0 ok' (bb.trans (ButBox.trans ButBox.b bb'))
abbrev tDraw (K : PySem.W.Frag) (E : XK) : TS :=
  tSeq (tIfS (tB (tLt (tIx0 K 1) (tVar 1))) (tAsg (tCallS spLoad (WE (wE E)) (tCons (tVar 0) L2.tNil)) (gSub (tVar 0) (tN 1) rSetL)) tNext) <|
  tSeq (tAsg (tMd (tInt (tIx0 K 1)) (tVar 1)) (gName 2)) <|
  tSeq (tAsg (tOp (rI CDivW fun i j => .int (i / j)) (tIx0 K 1) (tVar 1)) (gSub (tVar 0) (tN 1) rSetL)) <|
  tRet (tVar 2)
theorem draw_tail {D : Ends} {m : Int} (hm : 0 < m) (hl : m.natAbs.log2 < 9000) (ok : BoxOk H b c) (q : ∀ (r : Int) (H' : Hp), 0 ≤ r → r < m → BoxOk H' b c → ButBox b c H H' → D.rt (.int r) H') :
    (tSeq (tAsg (tMd (tInt (tIx0 K 1)) (tVar 1)) (gName 2)) <|
  tSeq (tAsg (tOp (rI CDivW fun i j => .int (i / j)) (tIx0 K 1) (tVar 1)) (gSub (tVar 0) (tN 1) rSetL)) <|
  tRet (tVar 2)) D [some (.ref b), some (.int m), none] H := by
  obtain ⟨hne, ns, held, st, hb, hc, p1, p2, p3⟩ := ok
  refine ⟨_, rfl, ix_box hb at1 (.inl ⟨held, rfl, _, rfl, held, m, rfl, rfl, hm, ?_⟩)⟩
  refine ⟨_, rfl, ix_box hb at1 ⟨_, rfl, held, m, rfl, rfl, ⟨hm, hl⟩, ?_⟩⟩
  refine ⟨_, rfl, b, _, 1, 1, rfl, rfl, hb, rfl, ?_⟩
  refine ⟨_, rfl, q (held % m) _ (Int.emod_nonneg _ (by omega)) (Int.emod_lt_of_pos _ hm) ?_ ButBox.b⟩
  exact ⟨hne, ns, held / m, st, upd_same, by rw [upd_ne (Ne.symm hne)]; exact hc, Int.ediv_nonneg p1 (by omega), p2, p3⟩
theorem draw_run {D : Ends} {E : XK} {m : Int} (hm : 0 < m) (hl : m.natAbs.log2 < 9000) (ok : BoxOk H b c) (q : ∀ (r : Int) (H' : Hp), 0 ≤ r → r < m → BoxOk H' b c → ButBox b c H H' → D.rt (.int r) H') :
    tDraw K E D (L2.start ["box", "many", "digit"] [.ref b, .int m]) H := by
  have ok0 := ok
  obtain ⟨hne, ns, held, st, hb, hc, p1, p2, p3⟩ := ok
  refine ⟨_, rfl, ix_box hb at1 ⟨_, rfl, held, m, rfl, rfl, _, rfl, ?_⟩⟩
  dsimp only
  by_cases h : held < m
  · rw [if_pos (by simpa using h)]
    refine ⟨_, rfl, b, c, rfl, ok0, fun r H1 r0 ok1 bb => ?_⟩
    obtain ⟨_, ns', held', st', hb', hc', p1', p2', p3'⟩ := ok1
    refine ⟨_, rfl, b, _, 1, 1, rfl, rfl, hb', rfl, ?_⟩
    exact draw_tail hm hl ⟨hne, ns', r, st', upd_same, by rw [upd_ne (Ne.symm hne)]; exact hc', r0, p2', p3'⟩ fun r' H' q1 q2 q3 q4 => q r' H' q1 q2 q3 (bb.trans (ButBox.trans ButBox.b q4))
  · rw [if_neg (by simpa using h)]
    exact draw_tail hm hl ok0 q
end
/-! ### the world of a law: its script, and its box -/
structure BG where
  a : Addr
  tr : Bool
  bc : Option (Addr × Addr)
def ScrOk (K : PySem.W.Frag) (a : Addr) (tr : Bool) (H : Hp) : Prop := ∃ ns : List Int, ns.length ≤ 1000 ∧ ((tr = true ∧ Rd H a (.lst (ns.map V.int))) ∨ (tr = false ∧ ∀ H, SqL K H a (ns.map V.int)))
def BG.hid (g : BG) (x : Addr) : Prop := (g.tr = true ∧ x = g.a) ∨ ∃ b c, g.bc = some (b, c) ∧ (x = b ∨ x = c)
structure BG.ok (K : PySem.W.Frag) (g : BG) (H : Hp) : Prop where
  scr : ScrOk K g.a g.tr H
  box : ∀ b c, g.bc = some (b, c) → BoxOk H b c ∧ (g.tr = true → g.a ≠ b ∧ g.a ≠ c)
theorem ScrOk.frame {K : PySem.W.Frag} {a : Addr} {tr : Bool} {H H' : Hp} (s : ScrOk K a tr H) (h : tr = true → H' a = H a) : ScrOk K a tr H' := by
  obtain ⟨ns, h1, ⟨h2, h3⟩ | h2⟩ := s
  · refine ⟨ns, h1, .inl ⟨h2, ?_⟩⟩
    unfold Rd at h3 ⊢
    rw [h h2]
    exact h3
  · exact ⟨ns, h1, .inr h2⟩
def Wb (K : PySem.W.Frag) : Wd BG where
  hid := BG.hid
  ok := BG.ok K
  frame := by
    intro g H H' h e
    refine ⟨h.scr.frame fun z => e _ (.inl ⟨z, rfl⟩), fun b c hbc => ?_⟩
    obtain ⟨⟨n, ns, held, st, h1, h2, h3⟩, h4⟩ := h.box b c hbc
    exact ⟨⟨n, ns, held, st, by rw [e b (.inr ⟨b, c, hbc, .inl rfl⟩)]; exact h1, by rw [e c (.inr ⟨b, c, hbc, .inr rfl⟩)]; exact h2, h3⟩, h4⟩
  there := by
    intro g H a h x z
    rcases x with ⟨h1, rfl⟩ | ⟨b, c, h1, h2⟩
    · obtain ⟨ns, _, ⟨_, h3⟩ | ⟨h3, _⟩⟩ := h.scr
      · rcases h3 with h3 | ⟨o, h3⟩ <;> (rw [z] at h3; cases h3)
      · rw [h3] at h1; cases h1
    · obtain ⟨⟨n, ns, held, st, h3, h4, _⟩, _⟩ := h.box b c h1
      rcases h2 with rfl | rfl
      · rw [z] at h3; cases h3
      · rw [z] at h4; cases h4
def sp_box : DSpec BG := fun args g Q _ => args = [.fn (.ref g.a)] ∧ g.bc = none ∧ ∀ b c, Q (.fn (.ref b)) { g with bc := some (b, c) }
def sp_draw : DSpec BG := fun args g Q _ => ∃ b c m, args = [.fn (.ref b), .val (.int m)] ∧ g.bc = some (b, c) ∧ 0 < m ∧ m.natAbs.log2 < 9000 ∧ ∀ r, 0 ≤ r → r < m → Q (.val (.int r)) g
section
variable {P : Program} {w : World} {K : PySem.W.Frag} {mg : Str → Option Value} {base : Heap} {x qual : Str} {st : Stmt} {f : Addr} {fd : FuncData} {k : Nat}
structure LdOk (P : Program) (w : World) (K : PySem.W.Frag) (mg : Str → Option Value) (base : Heap) (k : Nat) : Prop where
  ex : ∃ f fd, mg "_law_load" = some (.ref f) ∧ PySem.W.keepIn K (.ref f) = true ∧ Binds K fd ["box"] [] ∧ FnOk P w K mg base (L2.CX P w) k f fd ["box"] spLoad
theorem ld_of (F : Fun K x qual st f fd) (S : FnScope ["box", "cells", "cell", "size", "first", "second"] ["box"] (defScope st)) (hm : mg "_law_load" = some (.ref f)) (hb : Binds K fd ["box"] [])
    (hbody : ∀ (cdv : Value) (A : Around) (outer : List Env) (s : Shared) (H : Hp) (E : XK), PSs (cxOf (L2.CX P w) P w K mg base ["box", "cells", "cell", "size", "first", "second"] qual (defScope st) f cdv A outer s H E) (defBody st) (tLoad K)) : LdOk P w K mg base (k + 1) := by
  refine ⟨f, fd, hm, F.kp, hb, F.okX S (fun vs H Q E h => ?_) fun cdv A outer s H vs Q E hr h => ?_⟩
  · obtain ⟨b, c, rfl, _⟩ := h
    rfl
  · obtain ⟨b, c, rfl, ok, q⟩ := h
    exact ⟨_, hbody cdv A outer s H E, load_run ok q⟩
theorem dfn_draw (F : Fun K x qual st f fd) (S : FnScope ["box", "many", "digit"] ["box", "many"] (defScope st)) (hm : mg x = some (.ref f)) (hb : Binds K fd ["box", "many"] [])
    (hbody : ∀ (cdv : Value) (A : Around) (outer : List Env) (s : Shared) (H : Hp) (E : XK), Cap k (cxOf (L2.CX P w) P w K mg base ["box", "many", "digit"] qual (defScope st) f cdv A outer s H E) (wE E) →
      PSs (cxOf (L2.CX P w) P w K mg base ["box", "many", "digit"] qual (defScope st) f cdv A outer s H E) (defBody st) (tDraw K E)) : DFn P w K mg base (Wb K) x (k + 1) 2 sp_draw := by
  refine ⟨f, fd, _, hm, F.kp, hb, rfl, F.okX S (fun vs H Q E h => ?_) fun cdv A outer s H vs Q E hr h => ?_⟩
  · obtain ⟨fr, args, g, Qd, Rd, h1, h2, _⟩ := h
    rw [← h2.length, h1]
    rfl
  · obtain ⟨fr, args, g, Qd, Rd, h1, h2, h3, h4, ⟨b, c, m, rfl, h5, h6, h7, h8⟩, h9, _⟩ := h
    have C : Cap k (cxOf (L2.CX P w) P w K mg base ["box", "many", "digit"] qual (defScope st) f cdv A outer s H E) (wE E) := ⟨takes_of rfl rfl rfl rfl, passes_of rfl, hr, rfl, S.nd⟩
    match vs, h2 with
    | [v1, v2], ⟨e1, e2, _⟩ =>
      subst e1
      cases e2
      obtain ⟨ok, sep⟩ := h3.box b c h5
      refine ⟨_, hbody cdv A outer s H E C, draw_run h6 h7 ok fun r H' r0 r1 ok' bb => ?_⟩
      refine h9 (.val (.int r)) g _ H' ⟨fun y o n e => ?_, ⟨h3.scr.frame fun z => ?_, fun b' c' e => ?_⟩, fun y z => .inl z, fun y z => z⟩ (Dn.int _) (h8 r r0 r1)
      · exact (bb y (fun z => n (.inr ⟨b, c, h5, .inl z⟩)) (fun z => n (.inr ⟨b, c, h5, .inr z⟩))).trans e
      · exact bb _ (sep z).1 (sep z).2
      · rw [h5] at e; cases e
        exact ⟨ok', sep⟩
abbrev tBox (K : PySem.W.Frag) : TS := tRet (tLst (tCons (tCB (fun xs H Q => ∃ p ys, xs = [.ref p] ∧ (SqL K H p ys ∨ SqT K H p ys) ∧ ∀ l, H l = none → Q (.ref l) (upd H l (.lst ys))) (tCons (tSl (rSlL K) (tVar 0) tNoPart (tPart (tN 63))) L2.tNil)) (tCons (tN 0) (tCons (tPl (tN 4711) (tLn K (tVar 0))) L2.tNil))))
theorem cut_ints (ns : List Int) (lo hi : Option Int) : ∃ ms : List Int, cutV (ns.map V.int) lo hi = ms.map V.int := by
  unfold cutV
  rw [← List.map_drop, ← List.map_take]
  exact ⟨_, rfl⟩
theorem dfn_box (F : Fun K x qual st f fd) (S : FnScope ["script"] ["script"] (defScope st)) (hm : mg x = some (.ref f)) (hb : Binds K fd ["script"] [])
    (hbody : ∀ (cdv : Value) (A : Around) (outer : List Env) (s : Shared) (H : Hp) (E : XK), PSs (cxOf (L2.CX P w) P w K mg base ["script"] qual (defScope st) f cdv A outer s H E) (defBody st) (tBox K)) : DFn P w K mg base (Wb K) x (k + 1) 1 sp_box := by
  refine ⟨f, fd, _, hm, F.kp, hb, rfl, F.okX S (fun vs H Q E h => ?_) fun cdv A outer s H vs Q E hr h => ?_⟩
  · obtain ⟨fr, args, g, Qd, Rd, h1, h2, _⟩ := h
    rw [← h2.length, h1]
    rfl
  · obtain ⟨fr, args, g, Qd, Rq, h1, h2, h3, h4, ⟨rfl, h5, h6⟩, h9, _⟩ := h
    match vs, h2 with
    | [v1], ⟨e1, _⟩ =>
      subst e1
      have sq : ∃ ns : List Int, ns.length ≤ 1000 ∧ ∀ H' : Hp, (g.tr = true → H' g.a = H g.a) → SqL K H' g.a (ns.map V.int) := by
        obtain ⟨ns, q1, ⟨q2, q3⟩ | ⟨q2, q3⟩⟩ := h3.scr
        · refine ⟨ns, q1, fun H' e => .inl ?_⟩
          unfold Rd at q3 ⊢
          rw [e q2]
          exact q3
        · exact ⟨ns, q1, fun H' _ => q3 H'⟩
      obtain ⟨ns, q1, q2⟩ := sq
      have live : g.tr = true → H g.a ≠ none := fun z => (Wb K).there h3 (.inl ⟨z, rfl⟩)
      refine ⟨_, hbody cdv A outer s H E, ⟨_, rfl, 63, rfl, g.a, _, rfl, q2 H (fun _ => rfl), fun p hp => ?_⟩⟩
      obtain ⟨ms, hms⟩ := cut_ints ns none (some 63)
      rw [hms]
      refine ⟨p, _, rfl, .inl (SqL.of upd_same), fun l hl => ?_⟩
      have pl : p ≠ l := fun z => by rw [← z, upd_same] at hl; cases hl
      have hl0 : H l = none := by rw [upd_ne (Ne.symm pl)] at hl; exact hl
      have same2 : ∀ y, y ≠ p → y ≠ l → upd (upd H p (.lst (ms.map V.int))) l (.lst (ms.map V.int)) y = H y := fun y y1 y2 => by rw [upd_ne y2, upd_ne y1]
      refine ⟨_, rfl, _, ns.length, rfl, .inl ⟨_, q2 _ (fun z => same2 _ (fun e => live z (e ▸ hp)) (fun e => live z (e ▸ hl0))), (List.length_map ..).symm⟩, 4711, _, rfl, rfl, ?_⟩
      refine ⟨Nat.le_of_lt (small1000 (by simp)), fun q hq => ?_⟩
      have ql : q ≠ l := fun z => by rw [z, upd_same] at hq; cases hq
      have qp : q ≠ p := fun z => by rw [z, upd_ne pl, upd_same] at hq; cases hq
      have hq0 : H q = none := by rw [same2 q qp ql] at hq; exact hq
      have same3 : ∀ y, H y ≠ none → upd (upd (upd H p (.lst (ms.map V.int))) l (.lst (ms.map V.int))) q (.lst [.ref l, .int 0, .int (4711 + ns.length)]) y = H y := fun y hy => by
        rw [upd_ne (fun z : y = q => hy (by rw [z]; exact hq0)), same2 y (fun z => hy (by rw [z]; exact hp)) (fun z => hy (by rw [z]; exact hl0))]
      refine h9 (.fn (.ref q)) { g with bc := some (q, l) } _ _ ⟨fun y o n e => ?_, ⟨h3.scr.frame fun z => ?_, fun b' c' e => ?_⟩, fun y z => ?_, fun y z => ?_⟩ rfl (h6 q l)
      · exact (same3 y (by rw [e]; intro z; cases z)).trans e
      · exact same3 _ (live z)
      · cases e
        refine ⟨⟨ql, ms, 0, 4711 + ns.length, upd_same, ?_, by omega, by omega, by omega⟩, fun z => ⟨fun e => live z (e ▸ hq0), fun e => live z (e ▸ hl0)⟩⟩
        rw [upd_ne (Ne.symm ql), upd_same]
      · rcases z with z | ⟨b', c', e, z⟩
        · exact .inl (.inl z)
        · cases e
          rcases z with rfl | rfl
          · exact .inr hq0
          · exact .inr hl0
      · rcases z with z | ⟨b', c', e, z⟩
        · exact .inl z
        · rw [h5] at e; cases e
end
end DL

set_option Elab.async false
set_option linter.all false
set_option autoImplicit false
set_option maxRecDepth 100000
set_option maxHeartbeats 4000000
namespace DL
open PySem PySem.Spec L2
section
variable {X : Cx} {wx : WX} {k : Nat}
theorem Cap.blk (C : Cap k X wx) {s : Shared} {H : Hp} {scope : Scope} {cenv : Env} {fp : List Addr} : Cap k (X.blk s H scope cenv fp) wF := ⟨takes0, PassesOwn.never, C.hr, C.calm, C.nd⟩
theorem Cap.tr {W : WX} {pn : List (Addr × Obj)} {xe : Value → Shared → Prop} (C : Cap k X wx) (h1 : Takes (X.tr pn xe) W) (h2 : PassesOwn (model X.prog X.w) X.A X.env xe) : Cap k (X.tr pn xe) W := ⟨h1, h2, C.hr, C.calm, C.nd⟩
end
/-! the built-in names -/
theorem bb_int : bootBuiltins "int" = some (.type "int") := by boot_by_name
theorem bb_bool : bootBuiltins "bool" = some (.type "bool") := by boot_by_name
theorem bb_str : bootBuiltins "str" = some (.type "str") := by boot_by_name
theorem bb_tuple : bootBuiltins "tuple" = some (.type "tuple") := by boot_by_name
theorem bb_list : bootBuiltins "list" = some (.type "list") := by boot_by_name
theorem bb_dict : bootBuiltins "dict" = some (.type "dict") := by boot_by_name
theorem bb_set : bootBuiltins "set" = some (.type "set") := by boot_by_name
theorem bb_all : bootBuiltins "all" = some (.builtin "all") := by boot_by_name
theorem bb_any : bootBuiltins "any" = some (.builtin "any") := by boot_by_name
theorem bb_sum : bootBuiltins "sum" = some (.builtin "sum") := by boot_by_name
theorem bb_max : bootBuiltins "max" = some (.builtin "max") := by boot_by_name
theorem bb_min : bootBuiltins "min" = some (.builtin "min") := by boot_by_name
theorem bb_isinstance : bootBuiltins "isinstance" = some (.builtin "isinstance") := by boot_by_name
theorem bb_sorted : bootBuiltins "sorted" = some (.builtin "sorted") := by boot_by_name
end DL

set_option Elab.async false
set_option linter.all false
set_option autoImplicit false
set_option maxRecDepth 100000
set_option maxHeartbeats 4000000
/-! plain laws of readings -/
namespace DL
open PySem PySem.Spec L2
theorem ite_ok {p : Bool} {A B : Prop} (h1 : p = true → A) (h2 : p = false → B) : if p = true then A else B := by
  cases p with
  | true => rw [if_pos rfl]; exact h1 rfl
  | false => rw [if_neg (by decide)]; exact h2 rfl
theorem ite_yes {p : Bool} {A B : Prop} (h : p = true) (h1 : A) : if p = true then A else B := by rw [if_pos h]; exact h1
theorem ite_no {p : Bool} {A B : Prop} (h : p = false) (h1 : B) : if p = true then A else B := by rw [if_neg (by rw [h]; decide)]; exact h1
theorem szl {n : Nat} (h : Nat.ble n 1000 = true := by rfl) : n ≤ sizeLine := Nat.le_of_lt (small1000 (Nat.le_of_ble_eq_true h))
theorem cdiv {i j : Int} (h : 0 < j) (h2 : j < 2 ^ 64) : CDivW i j := wide_div (b := 64) h (by omega) (by decide) (by decide)
theorem lg_small {n : Int} (h : n.natAbs < 2 ^ 64) : n.natAbs.log2 < 1920 := Nat.lt_of_lt_of_le (PySem.Flt.log2_lt_of (k := 64) (by decide) h) (by decide)
theorem lg_9 {n : Int} (h : n.natAbs < 2 ^ 64) : n.natAbs.log2 < 9000 := Nat.lt_of_lt_of_le (PySem.Flt.log2_lt_of (k := 64) (by decide) h) (by decide)
theorem cmul {i j : Int} (h1 : i.natAbs < 2 ^ 64) (h2 : j.natAbs < 2 ^ 64) : CMulW i j := by
  have a := lg_small h1
  have b := lg_small h2
  unfold CMulW
  omega
abbrev endsOf {G : Type} (Q : F → G → Prop) (R : Ex → G → Prop) : DEnds G := { nx := fun _ g' => Q (.val .none) g', rt := Q, bk := fun _ _ => False, ct := fun _ _ => False, rz := fun ex _ g' => R ex g' }
abbrev ti (ns : List Int) : D := .tuple (ns.map PyData.int)
abbrev li (ns : List Int) : D := .list (ns.map PyData.int)
theorem onSome_some {α : Type} {o : Option α} {x : α} {k : α → Prop} (h : o = some x) (q : k x) : onSome o k := by subst h; exact q
theorem atI_map {α β : Type} {f : α → β} {xs : List α} {i : Int} {x : α} (h : atI xs i = some x) : atI (xs.map f) i = some (f x) := by
  unfold atI at h ⊢
  rw [List.length_map]
  cases e : ixN xs.length i with
  | none => rw [e] at h; cases h
  | some j =>
    rw [e] at h
    have h : xs[j]? = some x := h
    show (xs.map f)[j]? = some (f x)
    rw [List.getElem?_map, h]
    rfl
theorem at_ok {α : Type} {xs : List α} {i : Int} {x : α} (k : Nat) (h : i = k) (h2 : xs[k]? = some x) : atI xs i = some x := by
  subst h; exact atI_nat h2
theorem cutL_map {α β : Type} {f : α → β} (xs : List α) (lo hi : Option Int) : cutL (xs.map f) lo hi = (cutL xs lo hi).map f := by
  unfold cutL
  rw [List.length_map, List.map_take, List.map_drop]
theorem cutL_take {α : Type} (xs : List α) {k : Int} (h : 0 ≤ k) : cutL xs none (some k) = xs.take k.toNat := by
  unfold cutL HT.sIx
  simp only [List.drop_zero, Nat.sub_zero]
  rw [if_neg (by omega), ← List.take_eq_take_min]
theorem cutL_drop {α : Type} (xs : List α) {k : Int} (h : 0 ≤ k) : cutL xs (some k) none = xs.drop k.toNat := by
  unfold cutL HT.sIx
  simp only []
  rw [if_neg (by omega)]
  by_cases e : k.toNat ≤ xs.length
  · rw [Nat.min_eq_left e, List.take_of_length_le (by rw [List.length_drop]; omega)]
  · rw [Nat.min_eq_right (by omega), List.drop_of_length_le (Nat.le_refl _), List.drop_of_length_le (by omega)]
    simp
theorem cutL_neg {α : Type} (xs : List α) {k : Int} (h : k < 0) : cutL xs none (some k) = xs.take (k + xs.length).toNat := by
  unfold cutL HT.sIx
  simp only [List.drop_zero, Nat.sub_zero]
  rw [if_pos h]
theorem cutL_negd {α : Type} (xs : List α) {k : Int} (h : k < 0) : cutL xs (some k) none = xs.drop (k + xs.length).toNat := by
  unfold cutL HT.sIx
  simp only []
  rw [if_pos h, List.take_of_length_le (by rw [List.length_drop]; exact Nat.le_refl _)]
/-! equality -/
theorem eqvAll_ints : ∀ ns ms : List Int, PyData.eqvAll (ns.map PyData.int) (ms.map PyData.int) = decide (ns = ms)
  | [], [] => by simp [PyData.eqvAll]
  | [], _ :: _ => by simp [PyData.eqvAll]
  | _ :: _, [] => by simp [PyData.eqvAll]
  | n :: ns, m :: ms => by
    simp only [List.map_cons, PyData.eqvAll, PyData.eqv, eqvAll_ints ns ms]
    by_cases h : n = m
    · subst h; simp
    · simp [h]
theorem eqv_ti (ns ms : List Int) : PyData.eqv (ti ns) (ti ms) = decide (ns = ms) := by simp only [ti, PyData.eqv]; exact eqvAll_ints ns ms
theorem eqv_li (ns ms : List Int) : PyData.eqv (li ns) (li ms) = decide (ns = ms) := by simp only [li, PyData.eqv]; exact eqvAll_ints ns ms
theorem canLayAll_ints : ∀ ns : List Int, PyData.canLayAll0 (ns.map PyData.int) = true
  | [] => by simp [PyData.canLayAll0]
  | n :: ns => by simp [PyData.canLayAll0, PyData.canLay0, canLayAll_ints ns]
theorem depthAll_ints : ∀ ns : List Int, PyData.depthAll (ns.map PyData.int) = 0
  | [] => by simp [PyData.depthAll]
  | n :: ns => by simp [PyData.depthAll, PyData.depth, depthAll_ints ns]
theorem shaped_ti (ns : List Int) : SeqAt.shaped (ti ns) = true := by simp [SeqAt.shaped, ti, PyData.canLay0, PyData.depth, canLayAll_ints, depthAll_ints]
theorem shaped_li (ns : List Int) : SeqAt.shaped (li ns) = true := by simp [SeqAt.shaped, li, PyData.canLay0, PyData.depth, canLayAll_ints, depthAll_ints]
theorem shaped_int (n : Int) : SeqAt.shaped (.int n) = true := by simp [SeqAt.shaped, PyData.canLay0, PyData.depth]
theorem eqv_int (n m : Int) : PyData.eqv (.int n) (.int m) = decide (n = m) := by simp only [PyData.eqv]; rw [Bool.beq_eq_decide_eq]
/-! what a statement leads to -/
section
variable {G : Type} {ta : DT G} {tt : DTT G} {t u : DSt G} {ρ : DEnv} {g : G} {E : DEnds G}
/-- the expression gives f, and changes nothing -/
abbrev Ev (ta : DT G) (ρ : DEnv) (g : G) (R : Ex → G → Prop) (f : F) : Prop := ∀ K : F → G → Prop, K f g → ta ρ g K R
abbrev EvT (tt : DTT G) (ρ : DEnv) (g : G) (R : Ex → G → Prop) (b : Bool) : Prop := ∀ K : Bool → G → Prop, K b g → tt ρ g K R
theorem set_to {i : Nat} (d : D) (h : ∀ R, Ev ta ρ g R (.val d)) (q : E.nx (ρ.set i (.val d)) g) : dSet i ta ρ g E := h _ _ q
theorem set_own {i : Nat} (xs : List D) (h : ∀ R, Ev ta ρ g R (.fresh xs)) (q : E.nx (ρ.set i (.own xs)) g) : dSet i ta ρ g E := h _ _ q
theorem ret_to (d : D) (h : ∀ R, Ev ta ρ g R (.val d)) (q : E.rt (.val d) g) : dRet ta ρ g E := h _ _ q
theorem if_to (b : Bool) (h : ∀ R, EvT tt ρ g R b) (h1 : b = true → t ρ g E) (h2 : b = false → u ρ g E) : dIfS tt t u ρ g E := h _ _ (ite_ok h1 h2)
theorem if_yes (h : ∀ R, EvT tt ρ g R true) (h1 : t ρ g E) : dIfS tt t u ρ g E := h _ _ (ite_yes rfl h1)
theorem if_not (h : ∀ R, EvT tt ρ g R false) (h1 : u ρ g E) : dIfS tt t u ρ g E := h _ _ (ite_no rfl h1)
theorem seq_ok (P : DEnv → G → Prop) (h : ∀ E' : DEnds G, E'.rt = E.rt → E'.bk = E.bk → E'.ct = E.ct → E'.rz = E.rz → (∀ ρ' g', P ρ' g' → E'.nx ρ' g') → t ρ g E') (k : ∀ ρ' g', P ρ' g' → u ρ' g' E) : dSeq t u ρ g E := h _ rfl rfl rfl rfl k
/-- one statement, then the others -/
theorem seq_to (ρ' : DEnv) (g' : G) (h : ∀ E' : DEnds G, E'.rt = E.rt → E'.bk = E.bk → E'.ct = E.ct → E'.rz = E.rz → E'.nx ρ' g' → t ρ g E') (k : u ρ' g' E) : dSeq t u ρ g E := h _ rfl rfl rfl rfl k
/-- if tt: t, then the others, where t does not come back -/
theorem seq_guard (b : Bool) (h : ∀ R, EvT tt ρ g R b) (h1 : b = true → ∀ E' : DEnds G, E'.rt = E.rt → E'.bk = E.bk → E'.ct = E.ct → E'.rz = E.rz → t ρ g E') (h2 : b = false → u ρ g E) : dSeq (dIfS tt t dNext) u ρ g E :=
  h _ _ (ite_ok (fun e => h1 e _ rfl rfl rfl rfl) h2)
theorem seq_pass (h : ∀ R, EvT tt ρ g R false) (h2 : u ρ g E) : dSeq (dIfS tt t dNext) u ρ g E := h _ _ (ite_no rfl h2)
end
/-! comprehensions -/
section
variable {G : Type} {tgt : DTg} {te : DT G} {ρ : DEnv} {g : G}
theorem lc_pure {h : D → D} {Q : List D → G → Prop} : ∀ (items acc : List D), (∀ x ∈ items, ∀ K : F → G → Prop, K (.val (h x)) g → tgt x ρ fun ρ1 => te ρ1 g K fun _ _ => False) → acc.length + items.length ≤ sizeLine → Q (acc ++ items.map h) g → dLcL tgt dYes te ρ items acc g Q
  | [], acc, _, _, q => by
    have q : Q (acc ++ []) g := q
    rw [List.append_nil] at q
    exact q
  | x :: xs, acc, hx, hl, q => by
    have hl : acc.length + (xs.length + 1) ≤ sizeLine := hl
    refine hx x (.head _) _ ⟨rfl, by omega, ?_⟩
    refine lc_pure xs _ (fun y hy => hx y (.tail _ hy)) (by rw [List.length_append]; simp only [List.length_cons, List.length_nil]; omega) ?_
    show Q ((acc ++ [h x]) ++ xs.map h) g
    rw [List.append_assoc]
    exact q
/-- each item is one of some -/
theorem lc_any {I : D → D → Prop} {Q : List D → G → Prop} : ∀ (items acc : List D), (∀ x ∈ items, ∀ K : F → G → Prop, (∀ d, I x d → K (.val d) g) → tgt x ρ fun ρ1 => te ρ1 g K fun _ _ => False) → acc.length + items.length ≤ sizeLine →
    (∀ ds : List D, ds.length = items.length → (∀ d ∈ ds, ∃ x ∈ items, I x d) → Q (acc ++ ds) g) → dLcL tgt dYes te ρ items acc g Q
  | [], acc, _, _, q => by
    have q : Q (acc ++ []) g := q [] rfl (fun _ z => nomatch z)
    rw [List.append_nil] at q
    exact q
  | x :: xs, acc, hx, hl, q => by
    have hl : acc.length + (xs.length + 1) ≤ sizeLine := hl
    refine hx x (.head _) _ fun d hd => ⟨rfl, by omega, ?_⟩
    refine lc_any xs _ (fun y hy => hx y (.tail _ hy)) (by rw [List.length_append]; simp only [List.length_cons, List.length_nil]; omega) fun ds h1 h2 => ?_
    show Q ((acc ++ [d]) ++ ds) g
    rw [List.append_assoc]
    refine q (d :: ds) (by rw [List.length_cons, List.length_cons, h1]) fun e he => ?_
    rcases List.mem_cons.mp he with rfl | he
    · exact ⟨x, .head _, hd⟩
    · obtain ⟨y, h3, h4⟩ := h2 e he
      exact ⟨y, .tail _ h3, h4⟩
end
theorem mem_rng {lo : Int} {n : Nat} {x : D} (h : x ∈ rngD lo n) : ∃ i : Nat, i < n ∧ x = .int (lo + i) := by
  unfold rngD at h
  obtain ⟨i, h1, h2⟩ := List.mem_map.mp h
  exact ⟨i, List.mem_range.mp h1, h2.symm⟩
theorem rng_len {lo : Int} {n : Nat} : (rngD lo n).length = n := by simp [rngD]
/-! one turn of a for over range: an invariant by the number of turns -/
section
variable {G : Type} {tgt : DTg} {body : DSt G}
theorem forL_nil {ρ : DEnv} {g : G} {E : DEnds G} (h : E.nx ρ g) : dForL tgt body [] ρ g E := h
/-- a loop whose turns keep an invariant -/
theorem for_ok {E : DEnds G} (P : List D → DEnv → G → Prop)
    (h : ∀ x xs ρ g (E' : DEnds G), P (x :: xs) ρ g → E'.rt = E.rt → E'.rz = E.rz → E'.bk = E.nx → (∀ ρ' g', P xs ρ' g' → E'.nx ρ' g') → (∀ ρ' g', P xs ρ' g' → E'.ct ρ' g') → tgt x ρ fun ρ1 => body ρ1 g E') :
    ∀ (items : List D) (ρ : DEnv) (g : G), P items ρ g → (∀ ρ g, P [] ρ g → E.nx ρ g) → dForL tgt body items ρ g E
  | [], ρ, g, p, q => q ρ g p
  | x :: xs, ρ, g, p, q => h x xs ρ g _ p rfl rfl rfl (fun ρ' g' p' => for_ok P h xs ρ' g' p' q) fun ρ' g' p' => for_ok P h xs ρ' g' p' q
end
/-! sameness -/
open Classical in
noncomputable def sameD (a b : D) : Bool := decide (a = b)
theorem sameD_self (a : D) : sameD a a = true := by unfold sameD; simp
theorem sameD_of {a b : D} (h : a = b) : sameD a b = true := by subst h; exact sameD_self a
theorem sameD_ne {a b : D} (h : a ≠ b) : sameD a b = false := by unfold sameD; simp [h]
theorem sameD_dec {a b : D} {p : Prop} [Decidable p] (h : a = b ↔ p) : sameD a b = decide p := by
  by_cases e : p
  · rw [decide_eq_true e]; exact sameD_of (h.mpr e)
  · rw [decide_eq_false e]; exact sameD_ne fun z => e (h.mp z)
/-- data of no more than so deep, no dict -/
def gd : Nat → D → Bool
  | _, .none => true
  | _, .bool _ => true
  | _, .int _ => true
  | _, .str x => PyData.canLay0 (.str x)
  | n + 1, .list xs => decide (xs.length ≤ 1000000) && xs.all (gd n)
  | n + 1, .tuple xs => decide (xs.length ≤ 1000000) && xs.all (gd n)
  | 0, .list _ => false
  | 0, .tuple _ => false
  | _, .dict _ => false
theorem gd_all {n : Nat} {xs : List D} (ih : ∀ d, gd n d = true → d.canLay0 = true ∧ d.depth ≤ n) : xs.all (gd n) = true → PyData.canLayAll0 xs = true ∧ PyData.depthAll xs ≤ n := by
  induction xs with
  | nil => intro _; simp [PyData.canLayAll0, PyData.depthAll]
  | cons x xs ihx =>
    intro h
    rw [List.all_cons, Bool.and_eq_true] at h
    obtain ⟨h1, h2⟩ := h
    obtain ⟨a1, a2⟩ := ih x h1
    obtain ⟨b1, b2⟩ := ihx h2
    simp only [PyData.canLayAll0, PyData.depthAll]
    exact ⟨by rw [a1, b1]; rfl, by omega⟩
theorem gd_ok : ∀ (n : Nat) (d : D), gd n d = true → d.canLay0 = true ∧ d.depth ≤ n
  | _, .none, _ => by simp [PyData.canLay0, PyData.depth]
  | _, .bool _, _ => by simp [PyData.canLay0, PyData.depth]
  | _, .int _, _ => by simp [PyData.canLay0, PyData.depth]
  | _, .str x, h => ⟨by cases ‹Nat› <;> exact h, by simp [PyData.depth]⟩
  | n + 1, .list xs, h => by
    have h : (decide (xs.length ≤ 1000000) && xs.all (gd n)) = true := h
    rw [Bool.and_eq_true] at h
    have q := gd_all (gd_ok n) h.2
    simp only [PyData.canLay0, PyData.depth]
    exact ⟨q.1, by omega⟩
  | n + 1, .tuple xs, h => by
    have h : (decide (xs.length ≤ 1000000) && xs.all (gd n)) = true := h
    rw [Bool.and_eq_true] at h
    have q := gd_all (gd_ok n) h.2
    simp only [PyData.canLay0, PyData.depth]
    exact ⟨q.1, by omega⟩
  | 0, .list _, h => by cases h
  | 0, .tuple _, h => by cases h
  | 0, .dict _, h => by cases h
  | _ + 1, .dict _, h => by cases h
theorem gd_mono : ∀ (n m : Nat) (d : D), n ≤ m → gd n d = true → gd m d = true
  | 0, 0, .none, _, _ => rfl
  | _, _, .bool _, _, _ => by unfold gd; rfl
  | _, _, .int _, _, _ => by unfold gd; rfl
  | n, m, .str x, _, h => by cases n <;> cases m <;> exact h
  | n, m, .none, _, h => by cases n <;> cases m <;> exact h
  | n + 1, m + 1, .list xs, l, h => by
    have h : (decide (xs.length ≤ 1000000) && xs.all (gd n)) = true := h
    rw [Bool.and_eq_true] at h
    show (decide (xs.length ≤ 1000000) && xs.all (gd m)) = true
    rw [Bool.and_eq_true]
    exact ⟨h.1, List.all_eq_true.mpr fun x hx => gd_mono n m x (by omega) (List.all_eq_true.mp h.2 x hx)⟩
  | n + 1, m + 1, .tuple xs, l, h => by
    have h : (decide (xs.length ≤ 1000000) && xs.all (gd n)) = true := h
    rw [Bool.and_eq_true] at h
    show (decide (xs.length ≤ 1000000) && xs.all (gd m)) = true
    rw [Bool.and_eq_true]
    exact ⟨h.1, List.all_eq_true.mpr fun x hx => gd_mono n m x (by omega) (List.all_eq_true.mp h.2 x hx)⟩
  | 0, _, .list _, _, h => by cases h
  | 0, _, .tuple _, _, h => by cases h
  | n + 1, 0, _, l, _ => by omega
  | n, _, .dict _, _, h => by cases n <;> cases h
theorem gd_tup {n : Nat} {xs : List D} (h : xs.length ≤ 1000000) (h2 : ∀ x ∈ xs, gd n x = true) : gd (n + 1) (.tuple xs) = true := by
  show (decide (xs.length ≤ 1000000) && xs.all (gd n)) = true
  rw [decide_eq_true h, List.all_eq_true.mpr h2]
  rfl
theorem gd_lst {n : Nat} {xs : List D} (h : xs.length ≤ 1000000) (h2 : ∀ x ∈ xs, gd n x = true) : gd (n + 1) (.list xs) = true := by
  show (decide (xs.length ≤ 1000000) && xs.all (gd n)) = true
  rw [decide_eq_true h, List.all_eq_true.mpr h2]
  rfl
theorem gd_int {n : Nat} {i : Int} : gd n (.int i) = true := by cases n <;> rfl
theorem gd_non {n : Nat} : gd n .none = true := by cases n <;> rfl
theorem gd_ti {n : Nat} {ns : List Int} (h : ns.length ≤ 1000000) : gd (n + 1) (ti ns) = true := gd_tup (by rw [List.length_map]; exact h) fun x hx => by
  obtain ⟨i, _, rfl⟩ := List.mem_map.mp hx
  exact gd_int
theorem gd_li {n : Nat} {ns : List Int} (h : ns.length ≤ 1000000) : gd (n + 1) (li ns) = true := gd_lst (by rw [List.length_map]; exact h) fun x hx => by
  obtain ⟨i, _, rfl⟩ := List.mem_map.mp hx
  exact gd_int
def sp_same {G : Type} (n : Nat) : DSpec G := fun args g Q _ => ∃ a b, args = [.val a, .val b] ∧ gd n a = true ∧ gd 60 b = true ∧ n ≤ 60 ∧ Q (.val (.bool (sameD a b))) g
/-! tests -/
section
variable {G : Type} {t u : DTT G} {ρ : DEnv} {g : G} {R : Ex → G → Prop} {b1 b2 : Bool}
theorem ev_and (h1 : EvT t ρ g R b1) (h2 : b1 = true → EvT u ρ g R b2) : EvT (dAnd t u) ρ g R (b1 && b2) := fun K q => h1 _ (ite_ok (fun e => h2 e _ (by rw [e] at q; exact q)) fun e => by rw [e] at q; exact q)
theorem ev_or (h1 : EvT t ρ g R b1) (h2 : b1 = false → EvT u ρ g R b2) : EvT (dOr t u) ρ g R (b1 || b2) := fun K q => h1 _ (ite_ok (fun e => by rw [e] at q; exact q) fun e => h2 e _ (by rw [e] at q; exact q))
theorem ev_not (h1 : EvT t ρ g R b1) : EvT (dNot t) ρ g R (!b1) := fun K q => h1 _ q
end
/-! ### _law_same -/
section
variable {G : Type}
theorem sameD_int (i j : Int) : sameD (.int i) (.int j) = decide (i = j) := sameD_dec ⟨fun h => by cases h; rfl, fun h => by rw [h]⟩
theorem sameD_bool (i j : Bool) : sameD (.bool i) (.bool j) = decide (i = j) := sameD_dec ⟨fun h => by cases h; rfl, fun h => by rw [h]⟩
theorem sameD_str (i j : Str) : sameD (.str i) (.str j) = decide (i = j) := sameD_dec ⟨fun h => by cases h; rfl, fun h => by rw [h]⟩
theorem sameD_tup (xs ys : List D) : sameD (.tuple xs) (.tuple ys) = sameD (.list xs) (.list ys) := by
  by_cases h : xs = ys
  · subst h; rw [sameD_self, sameD_self]
  · rw [sameD_ne (by intro z; cases z; exact h rfl), sameD_ne (by intro z; cases z; exact h rfl)]
def bothSeq (a b : D) : Bool := (isTy a "tuple" && isTy b "tuple") || (isTy a "list" && isTy b "list")
def boolOne (a b : D) : Bool := isTy a "bool" || isTy b "bool"
def bothLeaf (a b : D) : Bool := (isTy a "int" && isTy b "int") || (isTy a "str" && isTy b "str")
theorem same_bool {a b : D} (h : boolOne a b = true) (hs : bothSeq a b = false) : (isTy a "bool" && (isTy b "bool" && PyData.eqv a b)) = sameD a b := by
  cases a <;> cases b <;> first | (exact absurd (show false = true from h) (by decide)) | (rw [sameD_ne (by intro z; cases z)]; decide +kernel) | (rw [sameD_ne (by intro z; cases z)]; rfl) | skip
  rw [sameD_bool]
  rename_i x y
  cases x <;> cases y <;> rfl
theorem same_leaf {a b : D} (h : bothLeaf a b = true) (h2 : boolOne a b = false) : PyData.eqv a b = sameD a b := by
  cases a <;> cases b <;> first | (exact absurd (show false = true from h) (by decide)) | (exact absurd (show true = false from h2) (by decide)) | skip
  · rw [sameD_int, eqv_int]
  · rw [sameD_str]; simp only [PyData.eqv]; exact Bool.beq_eq_decide_eq _ _
theorem same_rest {a b : D} (ha : a.canLay0 = true) (h0 : bothSeq a b = false) (h : bothLeaf a b = false) (h2 : boolOne a b = false) : (isNon a && isNon b) = sameD a b := by
  cases a <;> cases b <;> first | (exact absurd (show false = true from ha) (by decide)) | (exact absurd (show true = false from h) (by decide)) | (exact absurd (show true = false from h2) (by decide)) | (exact absurd (show true = false from h0) (by decide)) | (rw [sameD_ne (by intro z; cases z)]; rfl) | (rw [sameD_self]; rfl)
abbrev tSameTail {G : Type} : DSt G := (dSeq (dIfS (dOr (dTruth (dBi bIsi (dCons (dName 0) (dCons (dFn (.ty "bool")) dNil)))) (dTruth (dBi bIsi (dCons (dName 1) (dCons (dFn (.ty "bool")) dNil))))) (dRet (dAndV (dBi bIsi (dCons (dName 0) (dCons (dFn (.ty "bool")) dNil))) (dAndV (dBi bIsi (dCons (dName 1) (dCons (dFn (.ty "bool")) dNil))) (dBin oEq (dName 0) (dName 1))))) dNext)
  (dSeq (dIfS (dOr (dAnd (dTruth (dBi bIsi (dCons (dName 0) (dCons (dFn (.ty "int")) dNil)))) (dTruth (dBi bIsi (dCons (dName 1) (dCons (dFn (.ty "int")) dNil))))) (dAnd (dTruth (dBi bIsi (dCons (dName 0) (dCons (dFn (.ty "str")) dNil)))) (dTruth (dBi bIsi (dCons (dName 1) (dCons (dFn (.ty "str")) dNil)))))) (dRet (dBin oEq (dName 0) (dName 1))) dNext)
  (dRet (dAndV (dBin oIsN (dName 0) (dC .none)) (dBin oIsN (dName 1) (dC .none))))))
abbrev tSame {G : Type} (x : DSpec G) : DSt G := (dSeq (dIfS (dOr (dAnd (dTruth (dBi bIsi (dCons (dName 0) (dCons (dFn (.ty "tuple")) dNil)))) (dTruth (dBi bIsi (dCons (dName 1) (dCons (dFn (.ty "tuple")) dNil))))) (dAnd (dTruth (dBi bIsi (dCons (dName 0) (dCons (dFn (.ty "list")) dNil)))) (dTruth (dBi bIsi (dCons (dName 1) (dCons (dFn (.ty "list")) dNil)))))) (dRet (dAndV (dBin oEq (dBi bLen (dCons (dName 0) dNil)) (dBi bLen (dCons (dName 1) dNil))) (dBi bAll (dCons (dLc (dRng1 (dCons (dBi bLen (dCons (dName 0) dNil)) dNil)) (tgName 2) dYes (dCall 2 x (dCons (dBin oIx (dName 0) (dName 2)) (dCons (dBin oIx (dName 1) (dName 2)) dNil))) [2]) dNil)))) dNext)
  tSameTail)
abbrev t_two {G : Type} (x : DSpec G) : DSt G := dRet (dAndV (dBin oEq (dBi bLen (dCons (dName 0) dNil)) (dBi bLen (dCons (dName 1) dNil))) (dBi bAll (dCons (dLc (dRng1 (dCons (dBi bLen (dCons (dName 0) dNil)) dNil)) (tgName 2) dYes (dCall 2 x (dCons (dBin oIx (dName 0) (dName 2)) (dCons (dBin oIx (dName 1) (dName 2)) dNil))) [2]) dNil)))
theorem toBools_bool (n : Nat) (f : Nat → Bool) : toBools ((List.range n).map fun i => PyData.bool (f i)) = some ((List.range n).map f) := by
  have e : (List.range n).map (fun i => PyData.bool (f i)) = ((List.range n).map f).map PyData.bool := by rw [List.map_map]; rfl
  rw [e, toBools_of]
theorem all_same {xs ys : List D} (h : xs.length = ys.length) : (((List.range xs.length).map fun i => sameD (xs[i]?.getD .none) (ys[i]?.getD .none)).all fun b => b) = sameD (.list xs) (.list ys) := by
  by_cases e : xs = ys
  · subst e
    rw [sameD_self, List.all_eq_true]
    intro b hb
    obtain ⟨i, _, rfl⟩ := List.mem_map.mp hb
    exact sameD_self _
  · rw [sameD_ne (by intro z; cases z; exact e rfl)]
    rw [Bool.eq_false_iff]
    intro z
    refine e (List.ext_getElem h fun i h1 h2 => ?_)
    have q := List.all_eq_true.mp z _ (List.mem_map.mpr ⟨i, List.mem_range.mpr h1, rfl⟩)
    have q : sameD (xs[i]?.getD .none) (ys[i]?.getD .none) = true := q
    rw [List.getElem?_eq_getElem h1, List.getElem?_eq_getElem h2] at q
    refine Classical.byContradiction fun n => ?_
    rw [show sameD ((some xs[i]).getD .none) ((some ys[i]).getD .none) = false from sameD_ne n] at q
    cases q
theorem mem_canLay : ∀ {xs : List D} {d : D}, PyData.canLayAll0 xs = true → d ∈ xs → d.canLay0 = true
  | x :: r, d, h, m => by
    simp only [PyData.canLayAll0, Bool.and_eq_true] at h
    rcases List.mem_cons.mp m with rfl | m
    · exact h.1
    · exact mem_canLay h.2 m
theorem mem_depth : ∀ {xs : List D} {d : D}, d ∈ xs → d.depth ≤ PyData.depthAll xs
  | x :: r, d, m => by
    simp only [PyData.depthAll]
    rcases List.mem_cons.mp m with rfl | m
    · omega
    · have := mem_depth m; omega
theorem shaped_of {d : D} (h1 : d.canLay0 = true) (h2 : d.depth ≤ 64) : SeqAt.shaped d = true := by unfold SeqAt.shaped; rw [h1, decide_eq_true h2]; rfl
theorem ev_call2 {spec : DSpec G} {ta tb : DT G} {ρ : DEnv} {g : G} {R : Ex → G → Prop} {K : F → G → Prop} {f1 f2 : F} (h1 : Ev ta ρ g R f1) (h2 : Ev tb ρ g R f2) (q : spec [f1.slot, f2.slot] g (fun f g2 => ([f1, f2].all F.noBor = true ∨ f.lfree = true) ∧ K f g2) R) : dCall 2 spec (dCons ta (dCons tb dNil)) ρ g K R := h1 _ (h2 _ ⟨rfl, q⟩)
/-- all([_law_same(a[k], b[k]) for k in range(len(a))]) -/
theorem same_seq {n : Nat} {a b : D} {xs ys : List D} {g : G} {E : DEnds G} (hl : xs.length ≤ sizeLine) (ha : ∀ (i : Nat) (K : F → G → Prop) (R : Ex → G → Prop) (d : D), xs[i]? = some d → K (.val d) g → dBin oIx (dName 0) (dName 2) [.val a, .val b, .val (.int i)] g K R)
    (hb : ∀ (i : Nat) (K : F → G → Prop) (R : Ex → G → Prop) (d : D), ys[i]? = some d → K (.val d) g → dBin oIx (dName 1) (dName 2) [.val a, .val b, .val (.int i)] g K R)
    (c1 : xs.all (gd n) = true) (c2 : ys.all (gd 60) = true) (hn : n ≤ 60) (h : xs.length = ys.length) (q : E.rt (.val (.bool (sameD (.list xs) (.list ys)))) g) :
    dLcL (tgName 2) dYes (dCall 2 (sp_same n) (dCons (dBin oIx (dName 0) (dName 2)) (dCons (dBin oIx (dName 1) (dName 2)) dNil))) [.val a, .val b, .none] (rngD 0 xs.length) [] g fun acc g2 => bAll [.fresh acc] fun f => E.rt (retF f) g2 := by
  refine lc_pure (h := fun x => match x with | .int i => .bool (sameD (xs[i.toNat]?.getD .none) (ys[i.toNat]?.getD .none)) | _ => .none) _ _ (fun x hx K q => ?_) (by rw [rng_len]; simpa using hl) ?_
  · obtain ⟨i, hi, rfl⟩ := mem_rng hx
    have e0 : (0 : Int) + (i : Int) = i := by omega
    rw [e0] at q ⊢
    have h1 : xs[i]? = some (xs[i]?.getD .none) := by rw [List.getElem?_eq_getElem hi]; rfl
    have hi2 : i < ys.length := by omega
    have h2 : ys[i]? = some (ys[i]?.getD .none) := by rw [List.getElem?_eq_getElem hi2]; rfl
    have m1 : xs[i]?.getD .none ∈ xs := List.mem_of_getElem? h1
    have m2 : ys[i]?.getD .none ∈ ys := List.mem_of_getElem? h2
    show dCall 2 (sp_same n) _ [.val a, .val b, .val (.int i)] g K _
    exact ev_call2 (fun K q => ha i K _ _ h1 q) (fun K q => hb i K _ _ h2 q) ⟨_, _, rfl, List.all_eq_true.mp c1 _ m1, List.all_eq_true.mp c2 _ m2, hn, .inl rfl, q⟩
  · show onSome (toBools ([] ++ (rngD 0 xs.length).map _)) _
    refine onSome_some (x := (List.range xs.length).map fun i => sameD (xs[i]?.getD .none) (ys[i]?.getD .none)) ?_ ?_
    · rw [List.nil_append]
      unfold rngD
      rw [List.map_map, ← toBools_bool]
      congr 1
      refine List.map_congr_left fun i _ => ?_
      show PyData.bool (sameD (xs[(0 + (i : Int)).toNat]?.getD .none) (ys[(0 + (i : Int)).toNat]?.getD .none)) = _
      rw [show (0 + (i : Int)).toNat = i by omega]
    · rw [all_same h]
      exact q
theorem same_tail {a b : D} {g : G} {Q : F → G → Prop} {R : Ex → G → Prop} (ca : a.canLay0 = true) (sa : SeqAt.shaped a = true) (sb : SeqAt.shaped b = true) (h : bothSeq a b = false) (q : Q (.val (.bool (sameD a b))) g) : tSameTail (startD 3 [.val a, .val b]) g (endsOf Q R) := by
  refine seq_guard (boolOne a b) (fun R => ev_or (fun K q => ⟨rfl, rfl, q⟩) fun _ K q => ⟨rfl, rfl, q⟩) (fun h2 E' e1 _ _ e4 => ?_) fun h2 => ?_
  · have e := same_bool h2 h
    refine ⟨rfl, rfl, ite_ok (fun h3 => ⟨rfl, rfl, ite_ok (fun h4 => ⟨rfl, rfl, sa, sb, ?_⟩) fun h4 => ?_⟩) fun h3 => ?_⟩
    · rw [show isTy a "bool" = true from h3, show isTy b "bool" = true from h4] at e
      rw [e1]
      show Q (.val (.bool (PyData.eqv a b))) g
      rw [show PyData.eqv a b = sameD a b from e]
      exact q
    · rw [show isTy b "bool" = false from h4] at e
      rw [e1]
      show Q (.val (.bool false)) g
      rw [show false = sameD a b by rw [← e]; simp]
      exact q
    · rw [show isTy a "bool" = false from h3] at e
      rw [e1]
      show Q (.val (.bool false)) g
      rw [show false = sameD a b from e]
      exact q
  refine seq_guard (bothLeaf a b) (fun R => ev_or (ev_and (fun K q => ⟨rfl, rfl, q⟩) fun _ K q => ⟨rfl, rfl, q⟩) fun _ => ev_and (fun K q => ⟨rfl, rfl, q⟩) fun _ K q => ⟨rfl, rfl, q⟩) (fun h3 E' e1 _ _ e4 => ?_) fun h3 => ?_
  · refine ⟨rfl, rfl, sa, sb, ?_⟩
    rw [e1]
    show Q (.val (.bool (PyData.eqv a b))) g
    rw [same_leaf h3 h2]
    exact q
  · have e := same_rest ca h h3 h2
    refine ⟨rfl, rfl, ite_ok (fun h4 => ⟨rfl, rfl, ?_⟩) fun h4 => ?_⟩
    · show Q (.val (.bool (isNon b))) g
      rw [show isNon a = true from h4] at e
      rw [show isNon b = sameD a b from e]
      exact q
    · show Q (.val (.bool false)) g
      rw [show isNon a = false from h4] at e
      rw [show false = sameD a b from e]
      exact q
theorem r_same {n : Nat} : ∀ (args : DEnv) (g : G) (Q : F → G → Prop) (R : Ex → G → Prop), args.length = 2 → sp_same (n + 1) args g Q R → tSame (sp_same n) (startD 3 args) g (endsOf Q R) := by
  intro args g Q R hl0 ⟨a, b, e, ga, gb, hn, q⟩
  subst e
  obtain ⟨ca, da⟩ := gd_ok _ _ ga
  obtain ⟨cb, db⟩ := gd_ok _ _ gb
  have sa := shaped_of ca (by omega)
  have sb := shaped_of cb (by omega)
  refine seq_guard (bothSeq a b) (fun R => ev_or (ev_and (fun K q => ⟨rfl, rfl, q⟩) fun _ K q => ⟨rfl, rfl, q⟩) fun _ => ev_and (fun K q => ⟨rfl, rfl, q⟩) fun _ K q => ⟨rfl, rfl, q⟩) (fun h E' e1 _ _ e4 => ?_) fun h => ?_
  · have key : ∀ xs ys : List D, (∀ (i : Nat) (K : F → G → Prop) (R : Ex → G → Prop) (d : D), xs[i]? = some d → K (.val d) g → dBin oIx (dName 0) (dName 2) [.val a, .val b, .val (.int i)] g K R) →
        (∀ (i : Nat) (K : F → G → Prop) (R : Ex → G → Prop) (d : D), ys[i]? = some d → K (.val d) g → dBin oIx (dName 1) (dName 2) [.val a, .val b, .val (.int i)] g K R) →
        xs.length ≤ 1000000 → xs.all (gd n) = true → ys.all (gd 60) = true → sameD (.list xs) (.list ys) = sameD a b →
        (if PyData.eqv (.int xs.length) (.int ys.length) = true then -(2 ^ 62) ≤ (xs.length : Int) ∧ (xs.length : Int) < 2 ^ 62 ∧ dLcL (tgName 2) dYes (dCall 2 (sp_same n) (dCons (dBin oIx (dName 0) (dName 2)) (dCons (dBin oIx (dName 1) (dName 2)) dNil))) [.val a, .val b, .none] (rngD 0 ((xs.length : Int)).toNat) [] g (fun acc g2 => bAll [.fresh acc] fun f => E'.rt (retF f) g2) else E'.rt (.val (.bool false)) g) := by
      intro xs ys h1 h2 h3 h4 h5 h8
      refine ite_ok (fun e => ?_) fun e => ?_
      · have e : xs.length = ys.length := by
          rw [eqv_int] at e
          have := of_decide_eq_true e
          omega
        refine ⟨by omega, by omega, ?_⟩
        rw [show ((xs.length : Int)).toNat = xs.length by omega]
        refine same_seq (by rw [sizeLine_eq]; omega) h1 h2 h4 h5 (by omega) e ?_
        rw [h8, e1]
        exact q
      · have e : ¬ xs.length = ys.length := by
          rw [eqv_int] at e
          have := of_decide_eq_false e
          omega
        rw [e1]
        show Q (.val (.bool false)) g
        rw [← h8, sameD_ne (by intro z; cases z; exact e rfl)] at q
        exact q
    cases a <;> cases b <;> first | (exact absurd (show false = true from h) (by decide)) | skip
    · rename_i xs ys
      have ga' : (decide (xs.length ≤ 1000000) && xs.all (gd n)) = true := ga
      have gb' : (decide (ys.length ≤ 1000000) && ys.all (gd 59)) = true := gb
      rw [Bool.and_eq_true] at ga' gb'
      exact ⟨rfl, rfl, shaped_int _, shaped_int _, key xs ys (fun i K R d h q => onSome_some (atI_nat h) q) (fun i K R d h q => onSome_some (atI_nat h) q) (of_decide_eq_true ga'.1) ga'.2 (List.all_eq_true.mpr fun x hx => gd_mono 59 60 x (by omega) (List.all_eq_true.mp gb'.2 x hx)) rfl⟩
    · rename_i xs ys
      have ga' : (decide (xs.length ≤ 1000000) && xs.all (gd n)) = true := ga
      have gb' : (decide (ys.length ≤ 1000000) && ys.all (gd 59)) = true := gb
      rw [Bool.and_eq_true] at ga' gb'
      exact ⟨rfl, rfl, shaped_int _, shaped_int _, key xs ys (fun i K R d h q => onSome_some (atI_nat h) q) (fun i K R d h q => onSome_some (atI_nat h) q) (of_decide_eq_true ga'.1) ga'.2 (List.all_eq_true.mpr fun x hx => gd_mono 59 60 x (by omega) (List.all_eq_true.mp gb'.2 x hx)) (sameD_tup _ _).symm⟩
  exact same_tail ca sa sb h q
theorem r_same0 {x : DSpec G} : ∀ (args : DEnv) (g : G) (Q : F → G → Prop) (R : Ex → G → Prop), args.length = 2 → sp_same 0 args g Q R → tSame x (startD 3 args) g (endsOf Q R) := by
  intro args g Q R hl0 ⟨a, b, e, ga, gb, hn, q⟩
  subst e
  obtain ⟨ca, da⟩ := gd_ok _ _ ga
  obtain ⟨cb, db⟩ := gd_ok _ _ gb
  have sa := shaped_of ca (by omega)
  have sb := shaped_of cb (by omega)
  refine seq_guard (bothSeq a b) (fun R => ev_or (ev_and (fun K q => ⟨rfl, rfl, q⟩) fun _ K q => ⟨rfl, rfl, q⟩) fun _ => ev_and (fun K q => ⟨rfl, rfl, q⟩) fun _ K q => ⟨rfl, rfl, q⟩) (fun h E' e1 _ _ e4 => ?_) fun h => same_tail ca sa sb h q
  cases a <;> cases b <;> first | (exact absurd (show false = true from h) (by decide)) | cases ga
end
section
variable {G : Type} {P : Program} {w : World} {K : PySem.W.Frag} {mg : Str → Option Value} {base : Heap} {W : Wd G} {x qual : Str} {st : Stmt} {f : Addr} {fd : FuncData} {N ps : List Str}
theorem dfn_false {np : Nat} (F : Fun K x qual st f fd) (S : FnScope N ps (defScope st)) (hm : mg x = some (.ref f)) (hb : Binds K fd ps []) (hnp : ps.length = np) : DFn P w K mg base W x 1 np (fun _ _ _ _ => False) := by
  refine ⟨f, fd, ps, hm, F.kp, hb, hnp, F.okX (k := 0) S (fun vs H Q E h => ?_) fun cdv A outer s H vs Q E hr h => ?_⟩ <;>
  · obtain ⟨fr, args, g, Qd, Rd, h1, h2, h3, h4, h5, _⟩ := h
    exact h5.elim
theorem dfn_same (F : Fun K x qual st f fd) (S : FnScope ["a", "b", "k"] ["a", "b"] (defScope st)) (hm : mg x = some (.ref f)) (hb : Binds K fd ["a", "b"] [])
    (hbody : ∀ {k : Nat} {x' : DSpec G} (Fx : DFn P w K mg base W x k 2 x') (cdv : Value) (A : Around) (outer : List Env) (s : Shared) (H : Hp) (E : XK) (fr : Addr → Prop) (g0 : G), Cap k (cxOf (L2.CX P w) P w K mg base ["a", "b", "k"] qual (defScope st) f cdv A outer s H E) (wE E) →
      DSs (cxOf (L2.CX P w) P w K mg base ["a", "b", "k"] qual (defScope st) f cdv A outer s H E) ⟨W, fr, g0, H, []⟩ (wE E) (defBody st) (tSame x')) : ∀ n : Nat, DFn P w K mg base W x (n + 2) 2 (sp_same n)
  | 0 => dfn_of F S hm hb rfl (fun cdv A outer s H E fr g C => hbody (dfn_false F S hm hb rfl) cdv A outer s H E fr g C) r_same0
  | n + 1 => dfn_of F S hm hb rfl (fun cdv A outer s H E fr g C => hbody (dfn_same F S hm hb hbody n) cdv A outer s H E fr g C) r_same
end
section
variable {G : Type} {t u : DTT G} {ρ : DEnv} {g : G} {R : Ex → G → Prop} {b1 b2 : Bool} {ta tb : DT G}
theorem ev_and_f (h1 : EvT t ρ g R b1) (h2 : b1 = true → EvT u ρ g R false) : EvT (dAnd t u) ρ g R false := fun K q => h1 _ (ite_ok (fun e => h2 e _ q) fun e => q)
theorem ev_or_f (h1 : EvT t ρ g R false) (h2 : EvT u ρ g R false) : EvT (dOr t u) ρ g R false := fun K q => h1 _ (ite_no rfl (h2 _ q))
theorem ev_or_t (h1 : EvT t ρ g R b1) (h2 : b1 = false → EvT u ρ g R true) : EvT (dOr t u) ρ g R true := fun K q => h1 _ (ite_ok (fun e => q) fun e => h2 e _ q)
/-- not _law_same(x, y), where both are alike -/
theorem ev_same {n : Nat} {da db : D} (h1 : Ev ta ρ g R (.val da)) (h2 : Ev tb ρ g R (.val db)) (e : da = db) (hg : gd n da = true) (hn : n ≤ 60) : EvT (dNot (dTruth (dCall 2 (sp_same n) (dCons ta (dCons tb dNil))))) ρ g R false := by
  subst e
  intro K q
  refine ev_call2 (f1 := .val da) (f2 := .val da) h1 h2 ⟨da, da, rfl, hg, gd_mono n 60 da hn hg, hn, .inl rfl, ?_⟩
  show K (!(sameD da da)) g
  rw [sameD_self]
  exact q
end
/-- a draw -/
theorem drawn {b c : Addr} {m : Int} {g : BG} {A : Prop} {K : F → BG → Prop} {R : Ex → BG → Prop} (hb : g.bc = some (b, c)) (ha : A) (hm : 0 < m) (hl : m < 2 ^ 64) (k : ∀ r, 0 ≤ r → r < m → K (.val (.int r)) g) : sp_draw [.fn (.ref b), .val (.int m)] g (fun f g2 => (A ∨ f.lfree = true) ∧ K f g2) R :=
  ⟨b, c, m, rfl, hb, hm, lg_9 (by omega), fun r h0 h1 => ⟨.inl ha, k r h0 h1⟩⟩
theorem ev_draw {b c : Addr} {m : Int} {g : BG} {ρ : DEnv} {i : Nat} {tm : DT BG} {K : F → BG → Prop} {R : Ex → BG → Prop} (hb : g.bc = some (b, c)) (hi : ρ[i]? = some (.fn (.ref b))) (hv : Ev tm ρ g R (.val (.int m))) (hm : 0 < m) (hl : m < 2 ^ 64) (k : ∀ r, 0 ≤ r → r < m → K (.val (.int r)) g) :
    dCall 2 sp_draw (dCons (dName i) (dCons tm dNil)) ρ g K R := by
  unfold dCall dCons dName
  dsimp only
  rw [hi]
  exact hv _ ⟨rfl, drawn hb rfl hm hl k⟩
theorem ints_of : ∀ {ds : List D} {I : Int → Prop}, (∀ d ∈ ds, ∃ i, d = .int i ∧ I i) → ∃ ms : List Int, ds = ms.map PyData.int ∧ ∀ m ∈ ms, I m
  | [], _, _ => ⟨[], rfl, fun _ z => nomatch z⟩
  | d :: ds, I, h => by
    obtain ⟨i, rfl, hi⟩ := h d (.head _)
    obtain ⟨ms, rfl, hm⟩ := ints_of (ds := ds) (I := I) fun e he => h e (.tail _ he)
    exact ⟨i :: ms, rfl, fun m hm' => (List.mem_cons.mp hm').elim (fun z => by rw [z]; exact hi) (hm m)⟩
theorem flat_len {α : Type} (n : Nat) (xs : List α) : (List.replicate n xs).flatten.length = n * xs.length := by
  induction n with
  | zero => simp
  | succ n ih => rw [List.replicate_succ, List.flatten_cons, List.length_append, ih, Nat.succ_mul]; omega
theorem flat_mem {α : Type} {n : Nat} {xs : List α} {x : α} (h : x ∈ (List.replicate n xs).flatten) : x ∈ xs := by
  obtain ⟨l, h1, h2⟩ := List.mem_flatten.mp h
  rw [(List.mem_replicate.mp h1).2] at h2
  exact h2
theorem flat_map {α β : Type} (f : α → β) (n : Nat) (xs : List α) : (List.replicate n (xs.map f)).flatten = ((List.replicate n xs).flatten).map f := by
  induction n with
  | zero => rfl
  | succ n ih => rw [List.replicate_succ, List.flatten_cons, ih, List.replicate_succ, List.flatten_cons, List.map_append]
theorem lfAll_ints : ∀ ns : List Int, lfAll (ns.map PyData.int) = true
  | [] => by simp [lfAll]
  | n :: ns => by simp [lfAll, lf, lfAll_ints ns]
theorem lf_ti (ns : List Int) : lf (ti ns) = true := by unfold ti; unfold lf; exact lfAll_ints ns
end DL

set_option Elab.async false
set_option linter.all false
set_option autoImplicit false
set_option maxRecDepth 100000
set_option maxHeartbeats 4000000
/-! readings step by step: each rule's goal has the shape that is met -/
namespace DL
open PySem PySem.Spec L2
section
variable {G : Type} {ta tb tc : DT G} {tt t2 : DTT G} {t u : DSt G} {a b : DTA G} {ρ : DEnv} {g : G} {E : DEnds G} {Q : F → G → Prop} {QB : Bool → G → Prop} {QA : List F → G → Prop} {QO : Option Int → G → Prop} {QI : List D → Bool → G → Prop} {R : Ex → G → Prop} {i : Nat} {to th : DTO G} {k : F → Prop} {n m : Int} {d : D} {xs ys : List D}
theorem e_set : dSet i ta ρ g E = (ta ρ g (fun f g1 => stF i f ρ fun ρ' => E.nx ρ' g1) fun ex g1 => E.rz ex ρ g1) := rfl
theorem e_ret : dRet ta ρ g E = (ta ρ g (fun f g1 => E.rt (retF f) g1) fun ex g1 => E.rz ex ρ g1) := rfl
theorem e_ifS : dIfS tt t u ρ g E = (tt ρ g (fun b g1 => if b = true then t ρ g1 E else u ρ g1 E) fun ex g1 => E.rz ex ρ g1) := rfl
theorem e_drop : dDrop ta ρ g E = (ta ρ g (fun _ g1 => E.nx ρ g1) fun ex g1 => E.rz ex ρ g1) := rfl
theorem e_par {is : List Nat} : dPar is a ρ g E = (a ρ g (fun fs g1 => fs.all F.lfr = true ∧ stFs is fs ρ fun ρ' => E.nx ρ' g1) fun ex g1 => E.rz ex ρ g1) := rfl
theorem e_asg {tg : DTg} : dAsgD ta tg ρ g E = (ta ρ g (fun f g1 => f.safe = true ∧ tg f.data ρ fun ρ' => E.nx ρ' g1) fun ex g1 => E.rz ex ρ g1) := rfl
theorem e_retT : dRetTup a ρ g E = (a ρ g (fun fs g1 => fs.all F.isD = true ∧ fs.length ≤ sizeLine ∧ E.rt (.val (.tuple (fs.map F.data))) g1) fun ex g1 => E.rz ex ρ g1) := rfl
theorem e_next : dNext ρ g E = (E.nx ρ g) := rfl
theorem e_brk : dBreak ρ g E = (E.bk ρ g) := rfl
theorem e_cnt : dCont ρ g E = (E.ct ρ g) := rfl
theorem e_c : dC d ρ g Q R = (Q (.val d) g) := rfl
theorem e_fn {v : V} : dFn v ρ g Q R = (Q (.fn v) g) := rfl
theorem e_bin {dop : F → F → (F → Prop) → Prop} : dBin dop ta tb ρ g Q R = (ta ρ g (fun x g1 => tb ρ g1 (fun y g2 => dop x y fun f => Q f g2) R) R) := rfl
theorem e_bool : dBool ta ρ g QB R = (ta ρ g (fun f g1 => onBool f.data fun b => QB b g1) R) := rfl
theorem e_truth : dTruth ta ρ g QB R = (ta ρ g (fun f g1 => onTruth f.data fun b => QB b g1) R) := rfl
theorem e_not : dNot tt ρ g QB R = (tt ρ g (fun b g1 => QB (!b) g1) R) := rfl
theorem e_and : dAnd tt t2 ρ g QB R = (tt ρ g (fun b g1 => if b = true then t2 ρ g1 QB R else QB false g1) R) := rfl
theorem e_or : dOr tt t2 ρ g QB R = (tt ρ g (fun b g1 => if b = true then QB true g1 else t2 ρ g1 QB R) R) := rfl
theorem e_andV : dAndV ta tb ρ g Q R = (ta ρ g (fun f g1 => onBool f.data fun b => if b = true then tb ρ g1 Q R else Q (.val (.bool false)) g1) R) := rfl
theorem e_orV : dOrV ta tb ρ g Q R = (ta ρ g (fun f g1 => onBool f.data fun b => if b = true then Q (.val (.bool true)) g1 else tb ρ g1 Q R) R) := rfl
theorem e_notV : dNotV ta ρ g Q R = (ta ρ g (fun f g1 => onBool f.data fun b => Q (.val (.bool (!b))) g1) R) := rfl
theorem e_neg : dNeg ta ρ g Q R = (ta ρ g (fun f g1 => onInt f.data fun i => Q (.val (.int (-i))) g1) R) := rfl
theorem e_if : dIf tt ta tb ρ g Q R = (tt ρ g (fun b g1 => if b = true then ta ρ g1 Q R else tb ρ g1 Q R) R) := rfl
theorem e_nil : dNil ρ g QA R = (QA [] g) := rfl
theorem e_cons : dCons ta a ρ g QA R = (ta ρ g (fun f g1 => a ρ g1 (fun fs g2 => QA (f :: fs) g2) R) R) := rfl
theorem e_tup : dTup a ρ g Q R = (a ρ g (fun fs g1 => fs.all F.safe = true ∧ fs.length ≤ sizeLine ∧ Q (.val (.tuple (fs.map F.data))) g1) R) := rfl
theorem e_lst : dLst a ρ g Q R = (a ρ g (fun fs g1 => fs.all F.safe = true ∧ fs.length ≤ sizeLine ∧ Q (.fresh (fs.map F.data)) g1) R) := rfl
theorem e_sl : dSl ta to th ρ g Q R = (ta ρ g (fun x g1 => to ρ g1 (fun l g2 => th ρ g2 (fun h g3 => oSl x l h fun f => Q f g3) R) R) R) := rfl
theorem e_no : dNo ρ g QO R = (QO none g) := rfl
theorem e_part : dPart ta ρ g QO R = (ta ρ g (fun f g1 => onInt f.data fun i => QO (some i) g1) R) := rfl
theorem e_bi {dop : List F → (F → Prop) → Prop} : dBi dop a ρ g Q R = (a ρ g (fun fs g1 => dop fs fun f => Q f g1) R) := rfl
theorem e_call {np : Nat} {spec : DSpec G} : dCall np spec a ρ g Q R = (a ρ g (fun fs g1 => fs.length = np ∧ spec (fs.map F.slot) g1 (fun f g2 => (fs.all F.noBor = true ∨ f.lfree = true) ∧ Q f g2) R) R) := rfl
theorem e_lc {ti : DTI G} {tgt : DTg} {vs : List Nat} : dLc ti tgt tt ta vs ρ g Q R = (ti ρ g (fun items _ g1 => dLcL tgt tt ta (wipeD ρ vs) items [] g1 fun acc g2 => Q (.fresh acc) g2) R) := rfl
theorem e_for {ti : DTI G} {tgt : DTg} : dFor ti tgt t ρ g E = (ti ρ g (fun items sf g1 => sf = true ∧ dForL tgt t items ρ g1 E) fun ex g1 => E.rz ex ρ g1) := rfl
theorem e_rng1 : dRng1 a ρ g QI R = (a ρ g (fun fs g1 => match fs with
  | [f] => onInt f.data fun n => -(2 ^ 62) ≤ n ∧ n < 2 ^ 62 ∧ QI (rngD 0 n.toNat) true g1
  | _ => False) R) := rfl
theorem e_rng2 : dRng2 a ρ g QI R = (a ρ g (fun fs g1 => match fs with
  | [f, f'] => onInt f.data fun m => onInt f'.data fun n => (-(2 ^ 62) ≤ m ∧ m < 2 ^ 62 ∧ -(2 ^ 62) ≤ n ∧ n < 2 ^ 62) ∧ QI (rngD m (n - m).toNat) true g1
  | _ => False) R) := rfl
theorem e_yes : dYes ρ g QB R = QB true g := rfl
theorem e_nm : dName i ρ g Q R = (match ρ[i]? with
  | some (.val d) => Q (.val d) g
  | some (.own xs) => Q (.bor xs) g
  | some (.fn u) => Q (.fn u) g
  | _ => False) := rfl
theorem e_app : dAppend i ta ρ g E = (onOwn ρ i fun xs => ta ρ g (fun f g1 => f.safe = true ∧ xs.length < sizeLine ∧ E.nx (ρ.set i (.own (xs ++ [f.data]))) g1) fun ex g1 => E.rz ex ρ g1) := rfl
theorem e_seq : dSeq t u ρ g E = t ρ g { E with nx := fun ρ' g' => u ρ' g' E } := rfl
theorem e_itL {QI : List D → Bool → G → Prop} : dIterL ta ρ g QI R = (ta ρ g (fun f g1 => match f.data with
  | .list xs => QI xs f.safe g1
  | _ => False) R) := rfl
theorem e_itT {QI : List D → Bool → G → Prop} : dIterT ta ρ g QI R = (ta ρ g (fun f g1 => match f.data with
  | .tuple xs => QI xs true g1
  | _ => False) R) := rfl
theorem r_onB {b : Bool} {kk : Bool → Prop} : onBool (.bool b) kk = kk b := rfl
theorem r_onI {kk : Int → Prop} : onInt (.int n) kk = kk n := rfl
theorem r_onTB {b : Bool} {kk : Bool → Prop} : onTruth (.bool b) kk = kk b := rfl
theorem r_addI : oAdd (.val (.int n)) (.val (.int m)) k = k (.val (.int (n + m))) := rfl
theorem r_addS {z y : Str} : oAdd (.val (.str z)) (.val (.str y)) k = (z.length + y.length ≤ sizeLine ∧ k (.val (.str (z ++ y)))) := rfl
theorem r_addT : oAdd (.val (.tuple xs)) (.val (.tuple ys)) k = (xs.length + ys.length ≤ sizeLine ∧ k (.val (.tuple (xs ++ ys)))) := rfl
theorem r_addLvv : oAdd (.val (.list xs)) (.val (.list ys)) k = (xs.length + ys.length ≤ sizeLine ∧ k (.fresh (xs ++ ys))) := rfl
theorem r_addLvf : oAdd (.val (.list xs)) (.fresh ys) k = (xs.length + ys.length ≤ sizeLine ∧ k (.fresh (xs ++ ys))) := rfl
theorem r_addLvb : oAdd (.val (.list xs)) (.bor ys) k = (xs.length + ys.length ≤ sizeLine ∧ k (.fresh (xs ++ ys))) := rfl
theorem r_addLfv : oAdd (.fresh xs) (.val (.list ys)) k = (xs.length + ys.length ≤ sizeLine ∧ k (.fresh (xs ++ ys))) := rfl
theorem r_addLff : oAdd (.fresh xs) (.fresh ys) k = (xs.length + ys.length ≤ sizeLine ∧ k (.fresh (xs ++ ys))) := rfl
theorem r_addLfb : oAdd (.fresh xs) (.bor ys) k = (xs.length + ys.length ≤ sizeLine ∧ k (.fresh (xs ++ ys))) := rfl
theorem r_addLbv : oAdd (.bor xs) (.val (.list ys)) k = (xs.length + ys.length ≤ sizeLine ∧ k (.fresh (xs ++ ys))) := rfl
theorem r_addLbf : oAdd (.bor xs) (.fresh ys) k = (xs.length + ys.length ≤ sizeLine ∧ k (.fresh (xs ++ ys))) := rfl
theorem r_addLbb : oAdd (.bor xs) (.bor ys) k = (xs.length + ys.length ≤ sizeLine ∧ k (.fresh (xs ++ ys))) := rfl
theorem r_intT {f : Int → Int → Int} : oInt (fun _ _ => True) f (.val (.int n)) (.val (.int m)) k = (True ∧ k (.val (.int (f n m)))) := rfl
theorem r_intP {f : Int → Int → Int} : oInt (fun _ j => 0 < j) f (.val (.int n)) (.val (.int m)) k = (0 < m ∧ k (.val (.int (f n m)))) := rfl
theorem r_int {C : Int → Int → Prop} {f : Int → Int → Int} : oInt C f (.val (.int n)) (.val (.int m)) k = (C n m ∧ k (.val (.int (f n m)))) := rfl
theorem r_mulI : oMul (.val (.int n)) (.val (.int m)) k = (CMulW n m ∧ k (.val (.int (n * m)))) := rfl
theorem r_mulT : oMul (.val (.tuple xs)) (.val (.int m)) k = (-1000 ≤ m ∧ m ≤ 1000 ∧ xs.length ≤ 1000 ∧ (xs = [] ∨ 1 ≤ m) ∧ k (.val (.tuple (List.replicate m.toNat xs).flatten))) := rfl
theorem r_mulLv : oMul (.val (.list xs)) (.val (.int m)) k = (0 ≤ m ∧ m ≤ 16777216 ∧ xs.length * m.toNat ≤ sizeLine ∧ k (.fresh (List.replicate m.toNat xs).flatten)) := rfl
theorem r_lenv : bLen [(.val (.list xs))] k = k (.val (.int xs.length)) := rfl
theorem r_tupv : bTup [(.val (.list xs))] k = k (.val (.tuple xs)) := rfl
theorem r_lisv : bList [(.val (.list xs))] k = k (.fresh xs) := rfl
theorem r_slv {lo hi : Option Int} : oSl (.val (.list xs)) lo hi k = k (.fresh (cutL xs lo hi)) := rfl
theorem r_ixv : oIx (.val (.list xs)) (.val (.int n)) k = onSome (atI xs n) fun d => k (.val d) := rfl
theorem r_mulLf : oMul (.fresh xs) (.val (.int m)) k = (0 ≤ m ∧ m ≤ 16777216 ∧ xs.length * m.toNat ≤ sizeLine ∧ k (.fresh (List.replicate m.toNat xs).flatten)) := rfl
theorem r_lenf : bLen [(.fresh xs)] k = k (.val (.int xs.length)) := rfl
theorem r_tupf : bTup [(.fresh xs)] k = k (.val (.tuple xs)) := rfl
theorem r_lisf : bList [(.fresh xs)] k = k (.fresh xs) := rfl
theorem r_slf {lo hi : Option Int} : oSl (.fresh xs) lo hi k = k (.fresh (cutL xs lo hi)) := rfl
theorem r_ixf : oIx (.fresh xs) (.val (.int n)) k = onSome (atI xs n) fun d => k (.val d) := rfl
theorem r_mulLb : oMul (.bor xs) (.val (.int m)) k = (0 ≤ m ∧ m ≤ 16777216 ∧ xs.length * m.toNat ≤ sizeLine ∧ k (.fresh (List.replicate m.toNat xs).flatten)) := rfl
theorem r_lenb : bLen [(.bor xs)] k = k (.val (.int xs.length)) := rfl
theorem r_tupb : bTup [(.bor xs)] k = k (.val (.tuple xs)) := rfl
theorem r_lisb : bList [(.bor xs)] k = k (.fresh xs) := rfl
theorem r_slb {lo hi : Option Int} : oSl (.bor xs) lo hi k = k (.fresh (cutL xs lo hi)) := rfl
theorem r_ixb : oIx (.bor xs) (.val (.int n)) k = onSome (atI xs n) fun d => k (.val d) := rfl
theorem r_lenT : bLen [.val (.tuple xs)] k = k (.val (.int xs.length)) := rfl
theorem r_lenS {z : Str} : bLen [.val (.str z)] k = (z.length ≤ sizeLine ∧ k (.val (.int z.length))) := rfl
theorem r_tupT : bTup [.val (.tuple xs)] k = k (.val (.tuple xs)) := rfl
theorem r_lisT : bList [.val (.tuple xs)] k = k (.fresh xs) := rfl
theorem r_slT {lo hi : Option Int} : oSl (.val (.tuple xs)) lo hi k = k (.val (.tuple (cutL xs lo hi))) := rfl
theorem r_slS {lo hi : Option Int} {z : Str} : oSl (.val (.str z)) lo hi k = (z.length ≤ sizeLine ∧ k (.val (.str (cutS z lo hi)))) := rfl
theorem r_ixT : oIx (.val (.tuple xs)) (.val (.int n)) k = onSome (atI xs n) fun d => k (.val d) := rfl
theorem r_intI : bInt [.val (.int n)] k = k (.val (.int n)) := rfl
theorem r_max : bMax2 [.val (.int n), .val (.int m)] k = k (.val (.int (if m > n then m else n))) := rfl
theorem r_min : bMin2 [.val (.int n), .val (.int m)] k = k (.val (.int (if m < n then m else n))) := rfl
theorem r_rel {h : Int → Int → Bool} : oRel h (.val (.int n)) (.val (.int m)) k = k (.val (.bool (h n m))) := rfl
theorem r_isN : oIsN (.val d) (.val .none) k = (true = true ∧ PyData.none = .none ∧ k (.val (.bool (isNon d)))) := rfl
theorem r_notN : oNotN (.val d) (.val .none) k = (true = true ∧ PyData.none = .none ∧ k (.val (.bool (!isNon d)))) := rfl
theorem r_isi {T : String} : bIsi [.val d, .fn (.ty T)] k = (true = true ∧ tyNames.contains T = true ∧ k (.val (.bool (isTy d T)))) := rfl
theorem r_tgN {q : DEnv → Prop} : tgName i d ρ q = q (ρ.set i (.val d)) := rfl
theorem r_some {kk : D → Prop} : onSome (some d) kk = kk d := rfl
theorem r_stV {q : DEnv → Prop} : stF i (.val d) ρ q = q (ρ.set i (.val d)) := rfl
theorem r_stO {q : DEnv → Prop} : stF i (.fresh xs) ρ q = q (ρ.set i (.own xs)) := rfl
theorem r_stFn {v : V} {q : DEnv → Prop} : stF i (.fn v) ρ q = q (ρ.set i (.fn v)) := rfl
theorem r_all : bAll [.fresh xs] k = onSome (toBools xs) fun bs => k (.val (.bool (bs.all fun b => b))) := rfl
theorem r_any : bAny [.fresh xs] k = onSome (toBools xs) fun bs => k (.val (.bool (bs.any fun b => b))) := rfl
theorem r_sum : bSum [.fresh xs] k = onSome (toInts xs) fun ns => k (.val (.int ns.sum)) := rfl
theorem f_data0 : F.data (.val d) = d := rfl
theorem f_data1 : F.data (.fresh xs) = .list xs := rfl
theorem f_data2 : F.data (.bor xs) = .list xs := rfl
theorem f_slot0 : F.slot (.val d) = .val d := rfl
theorem f_slot1 : F.slot (.fresh xs) = .val (.list xs) := rfl
theorem f_slot2 : F.slot (.bor xs) = .val (.list xs) := rfl
theorem f_slot3 {v : V} : F.slot (.fn v) = .fn v := rfl
theorem f_safe0 : F.safe (.val d) = true := rfl
theorem f_safe1 : F.safe (.fresh xs) = true := rfl
theorem f_safe2 : F.safe (.bor xs) = false := rfl
theorem f_safe3 {v : V} : F.safe (.fn v) = false := rfl
theorem f_isD0 : F.isD (.val d) = true := rfl
theorem f_isD1 : F.isD (.fresh xs) = true := rfl
theorem f_isD2 : F.isD (.bor xs) = true := rfl
theorem f_isD3 {v : V} : F.isD (.fn v) = false := rfl
theorem f_noBor0 : F.noBor (.val d) = true := rfl
theorem f_noBor1 : F.noBor (.fresh xs) = true := rfl
theorem f_noBor2 : F.noBor (.bor xs) = false := rfl
theorem f_noBor3 {v : V} : F.noBor (.fn v) = true := rfl
theorem f_lfree0 : F.lfree (.val d) = lf d := rfl
theorem f_lfree1 : F.lfree (.fresh xs) = lfAll xs := rfl
theorem f_lfree2 : F.lfree (.bor xs) = false := rfl
theorem f_lfree3 {v : V} : F.lfree (.fn v) = false := rfl
theorem f_lfr0 : F.lfr (.val d) = lf d := rfl
theorem f_lfr1 : F.lfr (.fresh xs) = lfAll xs := rfl
theorem f_lfr2 : F.lfr (.bor xs) = false := rfl
theorem f_lfr3 {v : V} : F.lfr (.fn v) = true := rfl
theorem f_ret0 : retF (.val d) = .val d := rfl
theorem f_ret1 : retF (.fresh xs) = .fresh xs := rfl
theorem f_ret2 : retF (.bor xs) = .fresh xs := rfl
theorem f_ret3 {v : V} : retF (.fn v) = .fn v := rfl
end
/-- a draw -/
theorem drawn2 {b c : Addr} {m : Int} {g : BG} {K : F → BG → Prop} {R : Ex → BG → Prop} (hb : g.bc = some (b, c)) (hm : 0 < m) (hl : m < 2 ^ 64) (k : ∀ r, 0 ≤ r → r < m → K (.val (.int r)) g) : sp_draw [.fn (.ref b), .val (.int m)] g K R :=
  ⟨b, c, m, rfl, hb, hm, lg_9 (by omega), k⟩
section
variable {ns ms : List Int} {n m : Int} {k : F → Prop}
theorem ne_ti (h : k (.val (.bool (!decide (ns = ms))))) : oNe (.val (ti ns)) (.val (ti ms)) k := ⟨rfl, rfl, shaped_ti _, shaped_ti _, by
  show k (.val (.bool (!PyData.eqv (ti ns) (ti ms))))
  rw [eqv_ti]; exact h⟩
theorem eq_ti (h : k (.val (.bool (decide (ns = ms))))) : oEq (.val (ti ns)) (.val (ti ms)) k := ⟨rfl, rfl, shaped_ti _, shaped_ti _, by
  show k (.val (.bool (PyData.eqv (ti ns) (ti ms))))
  rw [eqv_ti]; exact h⟩
theorem eq_ff (h : k (.val (.bool (decide (ns = ms))))) : oEq (.fresh (ns.map PyData.int)) (.fresh (ms.map PyData.int)) k := ⟨rfl, rfl, shaped_li _, shaped_li _, by
  show k (.val (.bool (PyData.eqv (li ns) (li ms))))
  rw [eqv_li]; exact h⟩
theorem eq_int (h : k (.val (.bool (decide (n = m))))) : oEq (.val (.int n)) (.val (.int m)) k := ⟨rfl, rfl, shaped_int _, shaped_int _, by
  show k (.val (.bool (PyData.eqv (.int n) (.int m))))
  rw [eqv_int]; exact h⟩
theorem ne_int (h : k (.val (.bool (!decide (n = m))))) : oNe (.val (.int n)) (.val (.int m)) k := ⟨rfl, rfl, shaped_int _, shaped_int _, by
  show k (.val (.bool (!PyData.eqv (.int n) (.int m))))
  rw [eqv_int]; exact h⟩
end
end DL

set_option Elab.async false
set_option linter.all false
set_option autoImplicit false
set_option maxRecDepth 100000
set_option maxHeartbeats 4000000
namespace DL
open PySem PySem.Spec L2
theorem exm_self {K : PySem.W.Frag} {S T : Addr} {b : Bool} (h1 : PySem.W.subIn K (.ref S) (.type "BaseException") = some true) (h2 : PySem.W.isClsIn K S = true) (h3 : PySem.W.typeIn K (.ref S) = some (.type "type")) (h4 : PySem.W.subIn K (.ref T) (.ref S) = some b) :
    PySem.W.exmOne K (.ref T) (.ref S) = some b := by
  have e1 : (PySem.W.subIn K (.ref S) (.type "BaseException") == some true) = true := by rw [h1] <;> rfl
  have e2 : ((PySem.W.clsIn K S).isSome && PySem.W.typeIn K (.ref S) == some (.type "type")) = true := by
    have h2' : (PySem.W.clsIn K S).isSome = true := h2
    rw [h2', h3] <;> rfl
  show (if (PySem.W.subIn K (.ref S) (.type "BaseException") == some true) = true then (if ((PySem.W.clsIn K S).isSome && PySem.W.typeIn K (.ref S) == some (.type "type")) = true then PySem.W.subIn K (.ref T) (.ref S) else none) else none) = some b
  rw [if_pos e1, if_pos e2]
  exact h4
theorem gc_int {K : PySem.W.Frag} {mg : Str → Option Value} {x : Str} {i : Int} {t : Tok} (h : mg x = some (.int i t)) : GC K mg x (.int i) := ⟨.int i, .int i t, h, ⟨t, rfl⟩, fun _ => .int i⟩
theorem gc_str {K : PySem.W.Frag} {mg : Str → Option Value} {x i : Str} {t : Tok} (h : mg x = some (.str i t)) : GC K mg x (.str i) := ⟨.str i, .str i t, h, ⟨t, rfl⟩, fun _ => .str i⟩
/-- the law at its end -/
theorem sp_end {K : PySem.W.Frag} {H : Hp} {a : Addr} {ns : List Int} {spec : DSpec BG} (hl : ns.length ≤ 1000) (hS : SqL K H a (ns.map V.int)) (h : ∀ g : BG, g.a = a → g.bc = none → ∀ (Q : F → BG → Prop) (R : Ex → BG → Prop), (∀ g', Q (.val (.bool true)) g') → spec [.fn (.ref a)] g Q R) :
    spOf K (Wb K) 1 spec [.ref a] H (fun v _ => v = .bl true) fun _ _ _ => False := by
  have ok : ∃ tr : Bool, ScrOk K a tr H := by
    rcases hS with h | h
    · exact ⟨true, ns, hl, .inl ⟨rfl, h⟩⟩
    · exact ⟨false, ns, hl, .inr ⟨rfl, fun _ => .inr h⟩⟩
  obtain ⟨tr, ok⟩ := ok
  refine ⟨fun _ => False, [.fn (.ref a)], ⟨a, tr, none⟩, fun f _ => f = .val (.bool true), fun _ _ => False, rfl, ⟨rfl, trivial⟩, ⟨ok, fun b c e => by cases e⟩, fun _ z => z.elim, h ⟨a, tr, none⟩ rfl rfl _ _ fun _ => rfl, ?_, fun _ _ _ _ _ _ _ z => z⟩
  rintro f g' v H' _ d rfl
  exact d.bl rfl
theorem cx_no {P : Program} {w : World} {st : List Env} {H : Hp} {s s' : Shared} {e : Value} (h : L2.CX P w st H s (fun _ _ _ => False) e s') : False := by
  obtain ⟨a, B, H', cls, d, h1, h2, h3, h4, h5, h6, h7, h8⟩ := h
  exact h8
end DL

set_option Elab.async false
set_option linter.all false
set_option autoImplicit false
set_option maxRecDepth 100000
set_option maxHeartbeats 4000000
namespace K19
open PySem PySem.Spec L2 DL
/-! ### the text by places -/
def pw : Program := PySem.Challenge.pw_columnskept_k19_whole_checks_of_bytes
def top (i : Nat) : Stmt := pw.main.body.getD i (.Pass ⟨0, 0, 0, 0⟩)
abbrev s_check_of : Stmt := top 7
abbrev N_check_of : List Str := ["data", "one", "other", "byte"]
theorem sc_check_of : FnScope N_check_of ["data"] (defScope s_check_of) := ⟨rfl, rfl, rfl, by decide +kernel, rfl, by decide +kernel, by decide +kernel⟩
abbrev s_four_bytes : Stmt := top 8
abbrev N_four_bytes : List Str := ["number"]
theorem sc_four_bytes : FnScope N_four_bytes ["number"] (defScope s_four_bytes) := ⟨rfl, rfl, rfl, by decide +kernel, rfl, by decide +kernel, by decide +kernel⟩
abbrev s_of_four : Stmt := top 9
abbrev N_of_four : List Str := ["data"]
theorem sc_of_four : FnScope N_of_four ["data"] (defScope s_of_four) := ⟨rfl, rfl, rfl, by decide +kernel, rfl, by decide +kernel, by decide +kernel⟩
abbrev s_sealed : Stmt := top 10
abbrev N_sealed : List Str := ["data"]
theorem sc_sealed : FnScope N_sealed ["data"] (defScope s_sealed) := ⟨rfl, rfl, rfl, by decide +kernel, rfl, by decide +kernel, by decide +kernel⟩
abbrev s_opened : Stmt := top 11
abbrev N_opened : List Str := ["data", "inside"]
theorem sc_opened : FnScope N_opened ["data"] (defScope s_opened) := ⟨rfl, rfl, rfl, by decide +kernel, rfl, by decide +kernel, by decide +kernel⟩
abbrev s__law_box : Stmt := top 13
abbrev N__law_box : List Str := ["script"]
theorem sc__law_box : FnScope N__law_box ["script"] (defScope s__law_box) := ⟨rfl, rfl, rfl, by decide +kernel, rfl, by decide +kernel, by decide +kernel⟩
abbrev s__law_load : Stmt := top 14
abbrev N__law_load : List Str := ["box", "cells", "cell", "size", "first", "second"]
theorem sc__law_load : FnScope N__law_load ["box"] (defScope s__law_load) := ⟨rfl, rfl, rfl, by decide +kernel, rfl, by decide +kernel, by decide +kernel⟩
abbrev s__law_draw : Stmt := top 15
abbrev N__law_draw : List Str := ["box", "many", "digit"]
theorem sc__law_draw : FnScope N__law_draw ["box", "many"] (defScope s__law_draw) := ⟨rfl, rfl, rfl, by decide +kernel, rfl, by decide +kernel, by decide +kernel⟩
abbrev s__law_same : Stmt := top 16
abbrev N__law_same : List Str := ["a", "b", "k"]
theorem sc__law_same : FnScope N__law_same ["a", "b"] (defScope s__law_same) := ⟨rfl, rfl, rfl, by decide +kernel, rfl, by decide +kernel, by decide +kernel⟩
abbrev s__law_check : Stmt := top 17
abbrev N__law_check : List Str := ["data", "a", "b", "byte"]
theorem sc__law_check : FnScope N__law_check ["data"] (defScope s__law_check) := ⟨rfl, rfl, rfl, by decide +kernel, rfl, by decide +kernel, by decide +kernel⟩
abbrev s__law_four : Stmt := top 18
abbrev N__law_four : List Str := ["number"]
theorem sc__law_four : FnScope N__law_four ["number"] (defScope s__law_four) := ⟨rfl, rfl, rfl, by decide +kernel, rfl, by decide +kernel, by decide +kernel⟩
abbrev s__law_seal : Stmt := top 19
abbrev N__law_seal : List Str := ["data"]
theorem sc__law_seal : FnScope N__law_seal ["data"] (defScope s__law_seal) := ⟨rfl, rfl, rfl, by decide +kernel, rfl, by decide +kernel, by decide +kernel⟩
abbrev s__law_told : Stmt := top 20
abbrev N__law_told : List Str := ["data", "inside", "bad", "error"]
theorem sc__law_told : FnScope N__law_told ["data"] (defScope s__law_told) := ⟨rfl, rfl, rfl, by decide +kernel, rfl, by decide +kernel, by decide +kernel⟩
abbrev s_law : Stmt := top 21
abbrev N_law : List Str := ["script", "box", "turn", "lean", "data", "check", "whole", "step", "k", "byte", "hurt", "cut", "due", "number"]
theorem sc_law : FnScope N_law ["script"] (defScope s_law) := ⟨rfl, rfl, rfl, by decide +kernel, rfl, by decide +kernel, by decide +kernel⟩
abbrev cst_ROUND : D := .int 65521
abbrev cst_HALF : D := .int 65536
abbrev cst_SEAL : D := .int 4
abbrev exm_BadBytes (c_BadBytes : Addr) : List (Addr × Bool) := [(c_BadBytes, true)]
/-- what the top of the text says -/
structure GF (K : PySem.W.Frag) (mg : Str → Option Value) (c_BadBytes : Addr) : Prop where
  z_all : mg "all" = none
  z_bool : mg "bool" = none
  z_int : mg "int" = none
  z_isinstance : mg "isinstance" = none
  z_len : mg "len" = none
  z_list : mg "list" = none
  z_max : mg "max" = none
  z_range : mg "range" = none
  z_str : mg "str" = none
  z_super : mg "super" = none
  z_tuple : mg "tuple" = none
  c_ROUND : GC K mg "ROUND" cst_ROUND
  c_HALF : GC K mg "HALF" cst_HALF
  c_SEAL : GC K mg "SEAL" cst_SEAL
  m_BadBytes : mg "BadBytes" = some (.ref c_BadBytes)
  rz_BadBytes : Rz.RzTxt pw K c_BadBytes "bad bytes at " "place"
  ex_BadBytes : ExM K c_BadBytes (exm_BadBytes c_BadBytes)
  xf_BadBytes : XfC K c_BadBytes
  no_BadBytes_place : PySem.W.findIn K (.ref c_BadBytes) "place" = some none
section
variable {w : World} {K : PySem.W.Frag} {mg : Str → Option Value} {base : Heap} {G : Type} {W : Wd G}
abbrev t_check_of : DSt G := (dSeq (dAsgD (dTup (dCons (dC (.int 1)) (dCons (dC (.int 0)) dNil))) (tgTup 2 (tgCons (tgName 1) (tgCons (tgName 2) tgNil))))
  (dSeq (dFor (dIterT (dName 0)) (tgName 3) (dSeq (dSet 1 (dBin (oInt (fun _ j => 0 < j) fun i j => i % j) (dBin oAdd (dName 1) (dName 3)) (dC cst_ROUND)))
  (dSet 2 (dBin (oInt (fun _ j => 0 < j) fun i j => i % j) (dBin oAdd (dName 2) (dName 1)) (dC cst_ROUND)))))
  (dRet (dBin oAdd (dBin oMul (dName 2) (dC cst_HALF)) (dName 1)))))
theorem bd_check_of {c_BadBytes : Addr} {g0 : G} {fr : Addr → Prop} {f : Addr} {cdv : Value} {A : Around} {outer : List Env} {s : Shared} {H : Hp} {E : XK} (g : GF K mg c_BadBytes) (C : Cap 0 (cxOf (L2.CX pw w) pw w K mg base N_check_of "check_of" (defScope s_check_of) f cdv A outer s H E) (wE E)) : DSs (cxOf (L2.CX pw w) pw w K mg base N_check_of "check_of" (defScope s_check_of) f cdv A outer s H E) ⟨W, fr, g0, H, []⟩ (wE E) (defBody s_check_of) (t_check_of) :=
  (sCons (sAsg (eTup (aCons (eInt) (aCons (eInt) aNil))) (gTp rfl (gCons' (gNm 1 C.nd) (gCons' (gNm 2 C.nd) gNil'))))
  (sCons (sFor C (iTuple (eName 0)) (gNm 3 C.nd) (sCons (sSet 1 C (eMod (eAdd (eName 1) (eName 3)) (eGlob g.c_ROUND)))
  (sOne (sSet 2 C (eMod (eAdd (eName 2) (eName 1)) (eGlob g.c_ROUND))))))
  (sOne (sRet (eAdd (eMul (eName 2) (eGlob g.c_HALF)) (eName 1))))))
abbrev t_four_bytes : DSt G := (dRetTup (dCons (dBin (oInt (fun _ j => 0 < j) fun i j => i % j) (dBin (oInt CDivW fun i j => i / j) (dName 0) (dC (.int 16777216))) (dC (.int 256))) (dCons (dBin (oInt (fun _ j => 0 < j) fun i j => i % j) (dBin (oInt CDivW fun i j => i / j) (dName 0) (dC cst_HALF)) (dC (.int 256))) (dCons (dBin (oInt (fun _ j => 0 < j) fun i j => i % j) (dBin (oInt CDivW fun i j => i / j) (dName 0) (dC (.int 256))) (dC (.int 256))) (dCons (dBin (oInt (fun _ j => 0 < j) fun i j => i % j) (dName 0) (dC (.int 256))) dNil)))))
theorem bd_four_bytes {c_BadBytes : Addr} {g0 : G} {fr : Addr → Prop} {f : Addr} {cdv : Value} {A : Around} {outer : List Env} {s : Shared} {H : Hp} {E : XK} (g : GF K mg c_BadBytes) (C : Cap 0 (cxOf (L2.CX pw w) pw w K mg base N_four_bytes "four_bytes" (defScope s_four_bytes) f cdv A outer s H E) (wE E)) : DSs (cxOf (L2.CX pw w) pw w K mg base N_four_bytes "four_bytes" (defScope s_four_bytes) f cdv A outer s H E) ⟨W, fr, g0, H, []⟩ (wE E) (defBody s_four_bytes) (t_four_bytes) :=
  (sOne (sRetTup (aCons (eMod (eFdiv (eName 0) (eInt)) (eInt)) (aCons (eMod (eFdiv (eName 0) (eGlob g.c_HALF)) (eInt)) (aCons (eMod (eFdiv (eName 0) (eInt)) (eInt)) (aCons (eMod (eName 0) (eInt)) aNil))))))
abbrev t_of_four : DSt G := (dRet (dBin oAdd (dBin oAdd (dBin oAdd (dBin oMul (dBin oIx (dName 0) (dC (.int 0))) (dC (.int 16777216))) (dBin oMul (dBin oIx (dName 0) (dC (.int 1))) (dC cst_HALF))) (dBin oMul (dBin oIx (dName 0) (dC (.int 2))) (dC (.int 256)))) (dBin oIx (dName 0) (dC (.int 3)))))
theorem bd_of_four {c_BadBytes : Addr} {g0 : G} {fr : Addr → Prop} {f : Addr} {cdv : Value} {A : Around} {outer : List Env} {s : Shared} {H : Hp} {E : XK} (g : GF K mg c_BadBytes) (C : Cap 0 (cxOf (L2.CX pw w) pw w K mg base N_of_four "of_four" (defScope s_of_four) f cdv A outer s H E) (wE E)) : DSs (cxOf (L2.CX pw w) pw w K mg base N_of_four "of_four" (defScope s_of_four) f cdv A outer s H E) ⟨W, fr, g0, H, []⟩ (wE E) (defBody s_of_four) (t_of_four) :=
  (sOne (sRet (eAdd (eAdd (eAdd (eMul (eIx (eName 0) (eInt)) (eInt)) (eMul (eIx (eName 0) (eInt)) (eGlob g.c_HALF))) (eMul (eIx (eName 0) (eInt)) (eInt))) (eIx (eName 0) (eInt)))))
abbrev t_sealed (x_check_of : DSpec G) (x_four_bytes : DSpec G) : DSt G := (dRet (dBin oAdd (dName 0) (dCall 1 x_four_bytes (dCons (dCall 1 x_check_of (dCons (dName 0) dNil)) dNil))))
theorem bd_sealed {c_BadBytes : Addr} {g0 : G} {fr : Addr → Prop} {f : Addr} {cdv : Value} {A : Around} {outer : List Env} {s : Shared} {H : Hp} {E : XK} {x_check_of : DSpec G} {x_four_bytes : DSpec G} (g : GF K mg c_BadBytes) (F_check_of : DFn pw w K mg base W "check_of" 1 1 x_check_of) (F_four_bytes : DFn pw w K mg base W "four_bytes" 1 1 x_four_bytes) (C : Cap 1 (cxOf (L2.CX pw w) pw w K mg base N_sealed "sealed" (defScope s_sealed) f cdv A outer s H E) (wE E)) : DSs (cxOf (L2.CX pw w) pw w K mg base N_sealed "sealed" (defScope s_sealed) f cdv A outer s H E) ⟨W, fr, g0, H, []⟩ (wE E) (defBody s_sealed) (t_sealed x_check_of x_four_bytes) :=
  (sOne (sRet (eAdd (eName 0) (eCall F_four_bytes C (by decide) (aCons (eCall F_check_of C (by decide) (aCons (eName 0) aNil)) aNil)))))
abbrev t_opened (x_check_of : DSpec G) (x_of_four : DSpec G) (c_BadBytes : Addr) : DSt G := (dSeq (dIfS (dBool (dBin oLt (dBi bLen (dCons (dName 0) dNil)) (dC cst_SEAL))) (dRz c_BadBytes "place" (dBi bLen (dCons (dName 0) dNil))) dNext)
  (dSeq (dSet 1 (dSl (dName 0) dNo (dPart (dBin (oInt (fun _ _ => True) fun i j => i - j) (dBi bLen (dCons (dName 0) dNil)) (dC cst_SEAL)))))
  (dSeq (dIfS (dBool (dBin oNe (dCall 1 x_check_of (dCons (dName 1) dNil)) (dCall 1 x_of_four (dCons (dSl (dName 0) (dPart (dBin (oInt (fun _ _ => True) fun i j => i - j) (dBi bLen (dCons (dName 0) dNil)) (dC cst_SEAL))) dNo) dNil)))) (dRz c_BadBytes "place" (dBi bLen (dCons (dName 1) dNil))) dNext)
  (dRet (dName 1)))))
theorem bd_opened {c_BadBytes : Addr} {g0 : G} {fr : Addr → Prop} {f : Addr} {cdv : Value} {A : Around} {outer : List Env} {s : Shared} {H : Hp} {E : XK} {x_check_of : DSpec G} {x_of_four : DSpec G} (g : GF K mg c_BadBytes) (F_check_of : DFn pw w K mg base W "check_of" 1 1 x_check_of) (F_of_four : DFn pw w K mg base W "of_four" 1 1 x_of_four) (C : Cap 1 (cxOf (L2.CX pw w) pw w K mg base N_opened "opened" (defScope s_opened) f cdv A outer s H E) (wE E)) : DSs (cxOf (L2.CX pw w) pw w K mg base N_opened "opened" (defScope s_opened) f cdv A outer s H E) ⟨W, fr, g0, H, []⟩ (wE E) (defBody s_opened) (t_opened x_check_of x_of_four c_BadBytes) :=
  (sCons (sIf (pLt (eLen g.z_len (aCons (eName 0) aNil)) (eGlob g.c_SEAL)) (sOne (sRaise C g.rz_BadBytes (by decide +kernel) g.m_BadBytes g.z_super g.z_str (eLen g.z_len (aCons (eName 0) aNil)))) sNil)
  (sCons (sSet 1 C (eSlice (eName 0) oNone (oSome (eSub (eLen g.z_len (aCons (eName 0) aNil)) (eGlob g.c_SEAL)))))
  (sCons (sIf (pNe C (eCall F_check_of C (by decide) (aCons (eName 1) aNil)) (eCall F_of_four C (by decide) (aCons (eSlice (eName 0) (oSome (eSub (eLen g.z_len (aCons (eName 0) aNil)) (eGlob g.c_SEAL))) oNone) aNil))) (sOne (sRaise C g.rz_BadBytes (by decide +kernel) g.m_BadBytes g.z_super g.z_str (eLen g.z_len (aCons (eName 1) aNil)))) sNil)
  (sOne (sRet (eName 1))))))
abbrev t__law_same (x__law_same : DSpec G) : DSt G := (dSeq (dIfS (dOr (dAnd (dTruth (dBi bIsi (dCons (dName 0) (dCons (dFn (.ty "tuple")) dNil)))) (dTruth (dBi bIsi (dCons (dName 1) (dCons (dFn (.ty "tuple")) dNil))))) (dAnd (dTruth (dBi bIsi (dCons (dName 0) (dCons (dFn (.ty "list")) dNil)))) (dTruth (dBi bIsi (dCons (dName 1) (dCons (dFn (.ty "list")) dNil)))))) (dRet (dAndV (dBin oEq (dBi bLen (dCons (dName 0) dNil)) (dBi bLen (dCons (dName 1) dNil))) (dBi bAll (dCons (dLc (dRng1 (dCons (dBi bLen (dCons (dName 0) dNil)) dNil)) (tgName 2) dYes (dCall 2 x__law_same (dCons (dBin oIx (dName 0) (dName 2)) (dCons (dBin oIx (dName 1) (dName 2)) dNil))) [2]) dNil)))) dNext)
  (dSeq (dIfS (dOr (dTruth (dBi bIsi (dCons (dName 0) (dCons (dFn (.ty "bool")) dNil)))) (dTruth (dBi bIsi (dCons (dName 1) (dCons (dFn (.ty "bool")) dNil))))) (dRet (dAndV (dBi bIsi (dCons (dName 0) (dCons (dFn (.ty "bool")) dNil))) (dAndV (dBi bIsi (dCons (dName 1) (dCons (dFn (.ty "bool")) dNil))) (dBin oEq (dName 0) (dName 1))))) dNext)
  (dSeq (dIfS (dOr (dAnd (dTruth (dBi bIsi (dCons (dName 0) (dCons (dFn (.ty "int")) dNil)))) (dTruth (dBi bIsi (dCons (dName 1) (dCons (dFn (.ty "int")) dNil))))) (dAnd (dTruth (dBi bIsi (dCons (dName 0) (dCons (dFn (.ty "str")) dNil)))) (dTruth (dBi bIsi (dCons (dName 1) (dCons (dFn (.ty "str")) dNil)))))) (dRet (dBin oEq (dName 0) (dName 1))) dNext)
  (dRet (dAndV (dBin oIsN (dName 0) (dC .none)) (dBin oIsN (dName 1) (dC .none)))))))
theorem bd__law_same {c_BadBytes : Addr} {g0 : G} {fr : Addr → Prop} {f : Addr} {cdv : Value} {A : Around} {outer : List Env} {s : Shared} {H : Hp} {E : XK} {k : Nat} {x__law_same : DSpec G} (g : GF K mg c_BadBytes) (F__law_same : DFn pw w K mg base W "_law_same" k 2 x__law_same) (C : Cap k (cxOf (L2.CX pw w) pw w K mg base N__law_same "_law_same" (defScope s__law_same) f cdv A outer s H E) (wE E)) : DSs (cxOf (L2.CX pw w) pw w K mg base N__law_same "_law_same" (defScope s__law_same) f cdv A outer s H E) ⟨W, fr, g0, H, []⟩ (wE E) (defBody s__law_same) (t__law_same x__law_same) :=
  (sCons (sIf (pW (pOr (pW (pAnd (pTruth (eBiB call_isi ol_isi g.z_isinstance bb_isinstance (aCons (eName 0) (aCons (eBltn g.z_tuple bb_tuple rfl) aNil)))) (pAnd1 (pTruth (eBiB call_isi ol_isi g.z_isinstance bb_isinstance (aCons (eName 1) (aCons (eBltn g.z_tuple bb_tuple rfl) aNil))))))) (pOr1 (pW (pAnd (pTruth (eBiB call_isi ol_isi g.z_isinstance bb_isinstance (aCons (eName 0) (aCons (eBltn g.z_list bb_list rfl) aNil)))) (pAnd1 (pTruth (eBiB call_isi ol_isi g.z_isinstance bb_isinstance (aCons (eName 1) (aCons (eBltn g.z_list bb_list rfl) aNil)))))))))) (sOne (sRet (eAnd (eEq C (eLen g.z_len (aCons (eName 0) aNil)) (eLen g.z_len (aCons (eName 1) aNil))) (eOne (eBiB (cr_all rfl) ol_all g.z_all bb_all (aCons (eLc C (by exact (iRange1 g.z_range (aCons (eLen g.z_len (aCons (eName 0) aNil)) aNil))) (blkOk_by (N := N__law_same) (sc := defScope s__law_same) (own := [("k", 2)]) (by decide +kernel)) (fun _ _ _ _ _ => (gNmw 2 C.blk.nd)) (fun _ _ _ _ _ => tNil) (fun _ _ _ _ _ => (eCall F__law_same C.blk (Nat.le_refl _) (aCons (eIx (eName 0) (eName 2)) (aCons (eIx (eName 1) (eName 2)) aNil))))) aNil)))))) sNil)
  (sCons (sIf (pW (pOr (pTruth (eBiB call_isi ol_isi g.z_isinstance bb_isinstance (aCons (eName 0) (aCons (eBltn g.z_bool bb_bool rfl) aNil)))) (pOr1 (pTruth (eBiB call_isi ol_isi g.z_isinstance bb_isinstance (aCons (eName 1) (aCons (eBltn g.z_bool bb_bool rfl) aNil))))))) (sOne (sRet (eAnd (eBiB call_isi ol_isi g.z_isinstance bb_isinstance (aCons (eName 0) (aCons (eBltn g.z_bool bb_bool rfl) aNil))) (eAnd (eBiB call_isi ol_isi g.z_isinstance bb_isinstance (aCons (eName 1) (aCons (eBltn g.z_bool bb_bool rfl) aNil))) (eOne (eEq C (eName 0) (eName 1))))))) sNil)
  (sCons (sIf (pW (pOr (pW (pAnd (pTruth (eBiB call_isi ol_isi g.z_isinstance bb_isinstance (aCons (eName 0) (aCons (eBltn g.z_int bb_int rfl) aNil)))) (pAnd1 (pTruth (eBiB call_isi ol_isi g.z_isinstance bb_isinstance (aCons (eName 1) (aCons (eBltn g.z_int bb_int rfl) aNil))))))) (pOr1 (pW (pAnd (pTruth (eBiB call_isi ol_isi g.z_isinstance bb_isinstance (aCons (eName 0) (aCons (eBltn g.z_str bb_str rfl) aNil)))) (pAnd1 (pTruth (eBiB call_isi ol_isi g.z_isinstance bb_isinstance (aCons (eName 1) (aCons (eBltn g.z_str bb_str rfl) aNil)))))))))) (sOne (sRet (eEq C (eName 0) (eName 1)))) sNil)
  (sOne (sRet (eAnd (eIsN (eName 0) (eNon)) (eOne (eIsN (eName 1) (eNon)))))))))
abbrev t__law_check : DSt G := (dSeq (dAsgD (dTup (dCons (dC (.int 1)) (dCons (dC (.int 0)) dNil))) (tgTup 2 (tgCons (tgName 1) (tgCons (tgName 2) tgNil))))
  (dSeq (dFor (dIterT (dName 0)) (tgName 3) (dSeq (dSet 1 (dBin oAdd (dName 1) (dName 3)))
  (dSet 2 (dBin oAdd (dName 2) (dName 1)))))
  (dRet (dBin (oInt (fun _ _ => True) fun i j => i - j) (dBin oAdd (dBin oMul (dC (.int 65536)) (dBin (oInt (fun _ _ => True) fun i j => i - j) (dName 2) (dBin oMul (dBin (oInt CDivW fun i j => i / j) (dName 2) (dC (.int 65521))) (dC (.int 65521))))) (dName 1)) (dBin oMul (dBin (oInt CDivW fun i j => i / j) (dName 1) (dC (.int 65521))) (dC (.int 65521)))))))
theorem bd__law_check {c_BadBytes : Addr} {g0 : G} {fr : Addr → Prop} {f : Addr} {cdv : Value} {A : Around} {outer : List Env} {s : Shared} {H : Hp} {E : XK} (g : GF K mg c_BadBytes) (C : Cap 0 (cxOf (L2.CX pw w) pw w K mg base N__law_check "_law_check" (defScope s__law_check) f cdv A outer s H E) (wE E)) : DSs (cxOf (L2.CX pw w) pw w K mg base N__law_check "_law_check" (defScope s__law_check) f cdv A outer s H E) ⟨W, fr, g0, H, []⟩ (wE E) (defBody s__law_check) (t__law_check) :=
  (sCons (sAsg (eTup (aCons (eInt) (aCons (eInt) aNil))) (gTp rfl (gCons' (gNm 1 C.nd) (gCons' (gNm 2 C.nd) gNil'))))
  (sCons (sFor C (iTuple (eName 0)) (gNm 3 C.nd) (sCons (sSet 1 C (eAdd (eName 1) (eName 3)))
  (sOne (sSet 2 C (eAdd (eName 2) (eName 1))))))
  (sOne (sRet (eSub (eAdd (eMul (eInt) (eSub (eName 2) (eMul (eFdiv (eName 2) (eInt)) (eInt)))) (eName 1)) (eMul (eFdiv (eName 1) (eInt)) (eInt)))))))
abbrev t__law_four : DSt G := (dRet (dLst (dCons (dBin (oInt CDivW fun i j => i / j) (dName 0) (dC (.int 16777216))) (dCons (dBin (oInt (fun _ _ => True) fun i j => i - j) (dBin (oInt CDivW fun i j => i / j) (dName 0) (dC (.int 65536))) (dBin oMul (dBin (oInt CDivW fun i j => i / j) (dName 0) (dC (.int 16777216))) (dC (.int 256)))) (dCons (dBin (oInt (fun _ _ => True) fun i j => i - j) (dBin (oInt CDivW fun i j => i / j) (dName 0) (dC (.int 256))) (dBin oMul (dBin (oInt CDivW fun i j => i / j) (dName 0) (dC (.int 65536))) (dC (.int 256)))) (dCons (dBin (oInt (fun _ _ => True) fun i j => i - j) (dName 0) (dBin oMul (dBin (oInt CDivW fun i j => i / j) (dName 0) (dC (.int 256))) (dC (.int 256)))) dNil))))))
theorem bd__law_four {c_BadBytes : Addr} {g0 : G} {fr : Addr → Prop} {f : Addr} {cdv : Value} {A : Around} {outer : List Env} {s : Shared} {H : Hp} {E : XK} (g : GF K mg c_BadBytes) (C : Cap 0 (cxOf (L2.CX pw w) pw w K mg base N__law_four "_law_four" (defScope s__law_four) f cdv A outer s H E) (wE E)) : DSs (cxOf (L2.CX pw w) pw w K mg base N__law_four "_law_four" (defScope s__law_four) f cdv A outer s H E) ⟨W, fr, g0, H, []⟩ (wE E) (defBody s__law_four) (t__law_four) :=
  (sOne (sRet (eLst (aCons (eFdiv (eName 0) (eInt)) (aCons (eSub (eFdiv (eName 0) (eInt)) (eMul (eFdiv (eName 0) (eInt)) (eInt))) (aCons (eSub (eFdiv (eName 0) (eInt)) (eMul (eFdiv (eName 0) (eInt)) (eInt))) (aCons (eSub (eName 0) (eMul (eFdiv (eName 0) (eInt)) (eInt))) aNil)))))))
abbrev t__law_seal (x__law_check : DSpec G) (x__law_four : DSpec G) : DSt G := (dRet (dBin oAdd (dBi bList (dCons (dName 0) dNil)) (dCall 1 x__law_four (dCons (dCall 1 x__law_check (dCons (dName 0) dNil)) dNil))))
theorem bd__law_seal {c_BadBytes : Addr} {g0 : G} {fr : Addr → Prop} {f : Addr} {cdv : Value} {A : Around} {outer : List Env} {s : Shared} {H : Hp} {E : XK} {x__law_check : DSpec G} {x__law_four : DSpec G} (g : GF K mg c_BadBytes) (F__law_check : DFn pw w K mg base W "_law_check" 1 1 x__law_check) (F__law_four : DFn pw w K mg base W "_law_four" 1 1 x__law_four) (C : Cap 1 (cxOf (L2.CX pw w) pw w K mg base N__law_seal "_law_seal" (defScope s__law_seal) f cdv A outer s H E) (wE E)) : DSs (cxOf (L2.CX pw w) pw w K mg base N__law_seal "_law_seal" (defScope s__law_seal) f cdv A outer s H E) ⟨W, fr, g0, H, []⟩ (wE E) (defBody s__law_seal) (t__law_seal x__law_check x__law_four) :=
  (sOne (sRet (eAdd (eBiT call_list_of ol_list g.z_list bb_list (aCons (eName 0) aNil)) (eCall F__law_four C (by decide) (aCons (eCall F__law_check C (by decide) (aCons (eName 0) aNil)) aNil)))))
abbrev t__law_told (x_opened : DSpec G) (c_BadBytes : Addr) : DSt G := (dSeq (dAsgD (dTup (dCons (dC .none) (dCons (dC .none) dNil))) (tgTup 2 (tgCons (tgName 1) (tgCons (tgName 2) tgNil))))
  (dSeq (dTryF (exm_BadBytes c_BadBytes) c_BadBytes 3 2 "place" (dSet 1 (dCall 1 x_opened (dCons (dName 0) dNil))))
  (dRetTup (dCons (dName 1) (dCons (dName 2) dNil)))))
theorem bd__law_told {c_BadBytes : Addr} {g0 : G} {fr : Addr → Prop} {f : Addr} {cdv : Value} {A : Around} {outer : List Env} {s : Shared} {H : Hp} {E : XK} {x_opened : DSpec G} (g : GF K mg c_BadBytes) (F_opened : DFn pw w K mg base W "opened" 2 1 x_opened) (C : Cap 2 (cxOf (L2.CX pw w) pw w K mg base N__law_told "_law_told" (defScope s__law_told) f cdv A outer s H E) (wE E)) : DSs (cxOf (L2.CX pw w) pw w K mg base N__law_told "_law_told" (defScope s__law_told) f cdv A outer s H E) ⟨W, fr, g0, H, []⟩ (wE E) (defBody s__law_told) (t__law_told x_opened c_BadBytes) :=
  (sCons (sAsg (eTup (aCons (eNon) (aCons (eNon) aNil))) (gTp rfl (gCons' (gNm 1 C.nd) (gCons' (gNm 2 C.nd) gNil'))))
  (sCons (sTryF (i := 3) (j := 2) C g.ex_BadBytes g.xf_BadBytes g.no_BadBytes_place g.m_BadBytes (fun _ _ _ h1 h2 => (sOne (sSet 1 (C.tr h1 h2) (eCall F_opened (C.tr h1 h2) (by decide) (aCons (eName 0) aNil))))))
  (sOne (sRetTup (aCons (eName 1) (aCons (eName 2) aNil))))))
abbrev t_law (x_check_of : DSpec G) (x_four_bytes : DSpec G) (x_of_four : DSpec G) (x_sealed : DSpec G) (x__law_box : DSpec G) (x__law_draw : DSpec G) (x__law_same : DSpec G) (x__law_check : DSpec G) (x__law_four : DSpec G) (x__law_seal : DSpec G) (x__law_told : DSpec G) : DSt G := (dSeq (dSet 1 (dCall 1 x__law_box (dCons (dName 0) dNil)))
  (dSeq (dFor (dRng1 (dCons (dC (.int 4)) dNil)) (tgName 2) (dSeq (dSet 3 (dCall 2 x__law_draw (dCons (dName 1) (dCons (dC (.int 3)) dNil))))
  (dSeq (dSet 4 (dBi bTup (dCons (dLc (dRng1 (dCons (dCall 2 x__law_draw (dCons (dName 1) (dCons (dC (.int 15)) dNil))) dNil)) (tgName 8) dYes (dBin oIx (dTup (dCons (dCall 2 x__law_draw (dCons (dName 1) (dCons (dC (.int 256)) dNil))) (dCons (dC (.int 255)) (dCons (dCall 2 x__law_draw (dCons (dName 1) (dCons (dC (.int 2)) dNil))) dNil)))) (dName 3)) [8]) dNil)))
  (dSeq (dSet 4 (dIf (dBool (dBin oEq (dName 2) (dC (.int 0)))) (dBin oMul (dName 4) (dBin oAdd (dC (.int 1)) (dBin oMul (dC (.int 30)) (dCall 2 x__law_draw (dCons (dName 1) (dCons (dC (.int 2)) dNil)))))) (dName 4)))
  (dSeq (dPar [5, 6] (dCons (dCall 1 x__law_check (dCons (dName 4) dNil)) (dCons (dBi bTup (dCons (dCall 1 x__law_seal (dCons (dName 4) dNil)) dNil)) dNil)))
  (dSeq (dIfS (dNot (dTruth (dCall 2 x__law_same (dCons (dTup (dCons (dCall 1 x_check_of (dCons (dName 4) dNil)) (dCons (dCall 1 x_sealed (dCons (dName 4) dNil)) (dCons (dCall 1 x_four_bytes (dCons (dName 5) dNil)) (dCons (dCall 1 x_of_four (dCons (dCall 1 x__law_four (dCons (dName 5) dNil)) dNil)) dNil))))) (dCons (dTup (dCons (dName 5) (dCons (dName 6) (dCons (dBi bTup (dCons (dCall 1 x__law_four (dCons (dName 5) dNil)) dNil)) (dCons (dName 5) dNil))))) dNil))))) (dRet (dC (.bool false))) dNext)
  (dSeq (dIfS (dOr (dNot (dTruth (dCall 2 x__law_same (dCons (dCall 1 x__law_told (dCons (dName 6) dNil)) (dCons (dTup (dCons (dName 4) (dCons (dC .none) dNil))) dNil))))) (dNot (dBool (dChain oLe oLe (dC (.int 0)) (dName 5) (dC (.int 4294967295)))))) (dRet (dC (.bool false))) dNext)
  (dSeq (dFor (dRng1 (dCons (dC (.int 12)) dNil)) (tgName 7) (dSeq (dPar [8, 9] (dCons (dCall 2 x__law_draw (dCons (dName 1) (dCons (dBi bLen (dCons (dName 6) dNil)) dNil))) (dCons (dCall 2 x__law_draw (dCons (dName 1) (dCons (dC (.int 256)) dNil))) dNil)))
  (dSeq (dSet 10 (dBin oAdd (dBin oAdd (dSl (dName 6) dNo (dPart (dName 8))) (dTup (dCons (dName 9) dNil))) (dSl (dName 6) (dPart (dBin oAdd (dName 8) (dC (.int 1)))) dNo)))
  (dSeq (dIfS (dAnd (dBool (dBin oNe (dName 10) (dName 6))) (dNot (dTruth (dCall 2 x__law_same (dCons (dCall 1 x__law_told (dCons (dName 10) dNil)) (dCons (dTup (dCons (dC .none) (dCons (dBi bLen (dCons (dName 4) dNil)) dNil))) dNil)))))) (dRet (dC (.bool false))) dNext)
  (dIfS (dAnd (dBool (dBin oLt (dName 8) (dBi bLen (dCons (dName 4) dNil)))) (dAnd (dBool (dBin oNe (dName 10) (dName 6))) (dBool (dBin oEq (dCall 1 x_check_of (dCons (dSl (dName 10) dNo (dPart (dBi bLen (dCons (dName 4) dNil)))) dNil)) (dName 5))))) (dRet (dC (.bool false))) dNext)))))
  (dSeq (dFor (dRng1 (dCons (dBin (oInt (fun _ _ => True) fun i j => i - j) (dBi bLen (dCons (dName 6) dNil)) (dC (.int 1))) dNil)) (tgName 8) (dSeq (dSet 10 (dBin oAdd (dBin oAdd (dSl (dName 6) dNo (dPart (dName 8))) (dTup (dCons (dBin oIx (dName 6) (dBin oAdd (dName 8) (dC (.int 1)))) (dCons (dBin oIx (dName 6) (dName 8)) dNil)))) (dSl (dName 6) (dPart (dBin oAdd (dName 8) (dC (.int 2)))) dNo)))
  (dSeq (dIfS (dAnd (dBool (dBin oLt (dName 8) (dBin (oInt (fun _ _ => True) fun i j => i - j) (dBi bLen (dCons (dName 4) dNil)) (dC (.int 1))))) (dAnd (dBool (dBin oNe (dName 10) (dName 6))) (dBool (dBin oEq (dCall 1 x_check_of (dCons (dSl (dName 10) dNo (dPart (dBi bLen (dCons (dName 4) dNil)))) dNil)) (dName 5))))) (dRet (dC (.bool false))) dNext)
  (dIfS (dAnd (dBool (dBin oNe (dName 8) (dBin (oInt (fun _ _ => True) fun i j => i - j) (dBi bLen (dCons (dName 4) dNil)) (dC (.int 1))))) (dAnd (dBool (dBin oNe (dName 10) (dName 6))) (dBool (dBin oNe (dBin oIx (dCall 1 x__law_told (dCons (dName 10) dNil)) (dC (.int 1))) (dBi bLen (dCons (dName 4) dNil)))))) (dRet (dC (.bool false))) dNext))))
  (dSeq (dFor (dRng1 (dCons (dBi bLen (dCons (dName 6) dNil)) dNil)) (tgName 8) (dSeq (dSet 11 (dSl (dName 6) dNo (dPart (dName 8))))
  (dSeq (dSet 12 (dIf (dAnd (dBool (dBin oGt (dName 8) (dC (.int 3)))) (dBool (dBin oEq (dCall 1 x__law_four (dCons (dCall 1 x__law_check (dCons (dSl (dName 11) dNo (dPart (dBin (oInt (fun _ _ => True) fun i j => i - j) (dName 8) (dC (.int 4))))) dNil)) dNil)) (dBi bList (dCons (dSl (dName 11) (dPart (dBin (oInt (fun _ _ => True) fun i j => i - j) (dName 8) (dC (.int 4)))) dNo) dNil))))) (dTup (dCons (dSl (dName 11) dNo (dPart (dBin (oInt (fun _ _ => True) fun i j => i - j) (dName 8) (dC (.int 4))))) (dCons (dC .none) dNil))) (dTup (dCons (dC .none) (dCons (dIf (dBool (dBin oGt (dName 8) (dC (.int 3)))) (dBi bMax2 (dCons (dC (.int 0)) (dCons (dBin (oInt (fun _ _ => True) fun i j => i - j) (dName 8) (dC (.int 4))) dNil))) (dName 8)) dNil)))))
  (dIfS (dNot (dTruth (dCall 2 x__law_same (dCons (dCall 1 x__law_told (dCons (dName 11) dNil)) (dCons (dName 12) dNil))))) (dRet (dC (.bool false))) dNext))))
  (dSeq (dSet 13 (dBin oAdd (dBin oMul (dCall 2 x__law_draw (dCons (dName 1) (dCons (dC (.int 65536)) dNil))) (dC (.int 65536))) (dCall 2 x__law_draw (dCons (dName 1) (dCons (dC (.int 65536)) dNil)))))
  (dIfS (dNot (dTruth (dCall 2 x__law_same (dCons (dTup (dCons (dCall 1 x_four_bytes (dCons (dName 13) dNil)) (dCons (dCall 1 x_of_four (dCons (dCall 1 x_four_bytes (dCons (dName 13) dNil)) dNil)) dNil))) (dCons (dTup (dCons (dBi bTup (dCons (dCall 1 x__law_four (dCons (dName 13) dNil)) dNil)) (dCons (dName 13) dNil))) dNil))))) (dRet (dC (.bool false))) dNext))))))))))))
  (dRet (dAndV (dBin oEq (dCall 1 x_check_of (dCons (dTup dNil) dNil)) (dC (.int 1))) (dBin oEq (dCall 1 x_sealed (dCons (dTup (dCons (dC (.int 1)) dNil)) dNil)) (dTup (dCons (dC (.int 1)) (dCons (dC (.int 0)) (dCons (dC (.int 2)) (dCons (dC (.int 0)) (dCons (dC (.int 2)) dNil)))))))))))
theorem bd_law {c_BadBytes : Addr} {g0 : G} {fr : Addr → Prop} {f : Addr} {cdv : Value} {A : Around} {outer : List Env} {s : Shared} {H : Hp} {E : XK} {x_check_of : DSpec G} {x_four_bytes : DSpec G} {x_of_four : DSpec G} {x_sealed : DSpec G} {x__law_box : DSpec G} {x__law_draw : DSpec G} {x__law_same : DSpec G} {x__law_check : DSpec G} {x__law_four : DSpec G} {x__law_seal : DSpec G} {x__law_told : DSpec G} (g : GF K mg c_BadBytes) (F_check_of : DFn pw w K mg base W "check_of" 1 1 x_check_of) (F_four_bytes : DFn pw w K mg base W "four_bytes" 1 1 x_four_bytes) (F_of_four : DFn pw w K mg base W "of_four" 1 1 x_of_four) (F_sealed : DFn pw w K mg base W "sealed" 2 1 x_sealed) (F__law_box : DFn pw w K mg base W "_law_box" 1 1 x__law_box) (F__law_draw : DFn pw w K mg base W "_law_draw" 2 2 x__law_draw) (F__law_same : DFn pw w K mg base W "_law_same" 5 2 x__law_same) (F__law_check : DFn pw w K mg base W "_law_check" 1 1 x__law_check) (F__law_four : DFn pw w K mg base W "_law_four" 1 1 x__law_four) (F__law_seal : DFn pw w K mg base W "_law_seal" 2 1 x__law_seal) (F__law_told : DFn pw w K mg base W "_law_told" 3 1 x__law_told) (C : Cap 6 (cxOf (L2.CX pw w) pw w K mg base N_law "law" (defScope s_law) f cdv A outer s H E) (wE E)) : DSs (cxOf (L2.CX pw w) pw w K mg base N_law "law" (defScope s_law) f cdv A outer s H E) ⟨W, fr, g0, H, []⟩ (wE E) (defBody s_law) (t_law x_check_of x_four_bytes x_of_four x_sealed x__law_box x__law_draw x__law_same x__law_check x__law_four x__law_seal x__law_told) :=
  (sCons (sSet 1 C (eCall F__law_box C (by decide) (aCons (eName 0) aNil)))
  (sCons (sFor C (iRange1 g.z_range (aCons (eInt) aNil)) (gNm 2 C.nd) (sCons (sSet 3 C (eCall F__law_draw C (by decide) (aCons (eName 1) (aCons (eInt) aNil))))
  (sCons (sSet 4 C (eBiT call_tuple_of ol_tup g.z_tuple bb_tuple (aCons (eLc C (by exact (iRange1 g.z_range (aCons (eCall F__law_draw C (by decide) (aCons (eName 1) (aCons (eInt) aNil))) aNil))) (blkOk_by (N := N_law) (sc := defScope s_law) (own := [("k", 8)]) (by decide +kernel)) (fun _ _ _ _ _ => (gNmw 8 C.blk.nd)) (fun _ _ _ _ _ => tNil) (fun _ _ _ _ _ => (eIx (eTup (aCons (eCall F__law_draw C.blk (by decide) (aCons (eName 1) (aCons (eInt) aNil))) (aCons (eInt) (aCons (eCall F__law_draw C.blk (by decide) (aCons (eName 1) (aCons (eInt) aNil))) aNil)))) (eName 3)))) aNil)))
  (sCons (sSet 4 C (eIf (pEq C (eName 2) (eInt)) (eMul (eName 4) (eAdd (eInt) (eMul (eInt) (eCall F__law_draw C (by decide) (aCons (eName 1) (aCons (eInt) aNil)))))) (eName 4)))
  (sCons (sPar2 5 6 C (aCons (eCall F__law_check C (by decide) (aCons (eName 4) aNil)) (aCons (eBiT call_tuple_of ol_tup g.z_tuple bb_tuple (aCons (eCall F__law_seal C (by decide) (aCons (eName 4) aNil)) aNil)) aNil)))
  (sCons (sIf (pNot (pTruth (eCall F__law_same C (by decide) (aCons (eTup (aCons (eCall F_check_of C (by decide) (aCons (eName 4) aNil)) (aCons (eCall F_sealed C (by decide) (aCons (eName 4) aNil)) (aCons (eCall F_four_bytes C (by decide) (aCons (eName 5) aNil)) (aCons (eCall F_of_four C (by decide) (aCons (eCall F__law_four C (by decide) (aCons (eName 5) aNil)) aNil)) aNil))))) (aCons (eTup (aCons (eName 5) (aCons (eName 6) (aCons (eBiT call_tuple_of ol_tup g.z_tuple bb_tuple (aCons (eCall F__law_four C (by decide) (aCons (eName 5) aNil)) aNil)) (aCons (eName 5) aNil))))) aNil))))) (sOne (sRet (eBl))) sNil)
  (sCons (sIf (pW (pOr (pNot (pTruth (eCall F__law_same C (by decide) (aCons (eCall F__law_told C (by decide) (aCons (eName 6) aNil)) (aCons (eTup (aCons (eName 4) (aCons (eNon) aNil))) aNil))))) (pOr1 (pNot (pChain op_le op_le od_rel od_rel (eInt) (eName 5) (eInt)))))) (sOne (sRet (eBl))) sNil)
  (sCons (sFor C (iRange1 g.z_range (aCons (eInt) aNil)) (gNm 7 C.nd) (sCons (sPar2 8 9 C (aCons (eCall F__law_draw C (by decide) (aCons (eName 1) (aCons (eLen g.z_len (aCons (eName 6) aNil)) aNil))) (aCons (eCall F__law_draw C (by decide) (aCons (eName 1) (aCons (eInt) aNil))) aNil)))
  (sCons (sSet 10 C (eAdd (eAdd (eSlice (eName 6) oNone (oSome (eName 8))) (eTup (aCons (eName 9) aNil))) (eSlice (eName 6) (oSome (eAdd (eName 8) (eInt))) oNone)))
  (sCons (sIf (pW (pAnd (pNe C (eName 10) (eName 6)) (pAnd1 (pNot (pTruth (eCall F__law_same C (by decide) (aCons (eCall F__law_told C (by decide) (aCons (eName 10) aNil)) (aCons (eTup (aCons (eNon) (aCons (eLen g.z_len (aCons (eName 4) aNil)) aNil))) aNil)))))))) (sOne (sRet (eBl))) sNil)
  (sOne (sIf (pW (pAnd (pLt (eName 8) (eLen g.z_len (aCons (eName 4) aNil))) (pAnd (pNe C (eName 10) (eName 6)) (pAnd1 (pEq C (eCall F_check_of C (by decide) (aCons (eSlice (eName 10) oNone (oSome (eLen g.z_len (aCons (eName 4) aNil)))) aNil)) (eName 5)))))) (sOne (sRet (eBl))) sNil))))))
  (sCons (sFor C (iRange1 g.z_range (aCons (eSub (eLen g.z_len (aCons (eName 6) aNil)) (eInt)) aNil)) (gNm 8 C.nd) (sCons (sSet 10 C (eAdd (eAdd (eSlice (eName 6) oNone (oSome (eName 8))) (eTup (aCons (eIx (eName 6) (eAdd (eName 8) (eInt))) (aCons (eIx (eName 6) (eName 8)) aNil)))) (eSlice (eName 6) (oSome (eAdd (eName 8) (eInt))) oNone)))
  (sCons (sIf (pW (pAnd (pLt (eName 8) (eSub (eLen g.z_len (aCons (eName 4) aNil)) (eInt))) (pAnd (pNe C (eName 10) (eName 6)) (pAnd1 (pEq C (eCall F_check_of C (by decide) (aCons (eSlice (eName 10) oNone (oSome (eLen g.z_len (aCons (eName 4) aNil)))) aNil)) (eName 5)))))) (sOne (sRet (eBl))) sNil)
  (sOne (sIf (pW (pAnd (pNe C (eName 8) (eSub (eLen g.z_len (aCons (eName 4) aNil)) (eInt))) (pAnd (pNe C (eName 10) (eName 6)) (pAnd1 (pNe C (eIx (eCall F__law_told C (by decide) (aCons (eName 10) aNil)) (eInt)) (eLen g.z_len (aCons (eName 4) aNil))))))) (sOne (sRet (eBl))) sNil)))))
  (sCons (sFor C (iRange1 g.z_range (aCons (eLen g.z_len (aCons (eName 6) aNil)) aNil)) (gNm 8 C.nd) (sCons (sSet 11 C (eSlice (eName 6) oNone (oSome (eName 8))))
  (sCons (sSet 12 C (eIf (pW (pAnd (pGt (eName 8) (eInt)) (pAnd1 (pEq C (eCall F__law_four C (by decide) (aCons (eCall F__law_check C (by decide) (aCons (eSlice (eName 11) oNone (oSome (eSub (eName 8) (eInt)))) aNil)) aNil)) (eBiT call_list_of ol_list g.z_list bb_list (aCons (eSlice (eName 11) (oSome (eSub (eName 8) (eInt))) oNone) aNil)))))) (eTup (aCons (eSlice (eName 11) oNone (oSome (eSub (eName 8) (eInt)))) (aCons (eNon) aNil))) (eTup (aCons (eNon) (aCons (eIf (pGt (eName 8) (eInt)) (eBiB (call_max2 rfl) ol_max2 g.z_max bb_max (aCons (eInt) (aCons (eSub (eName 8) (eInt)) aNil))) (eName 8)) aNil)))))
  (sOne (sIf (pNot (pTruth (eCall F__law_same C (by decide) (aCons (eCall F__law_told C (by decide) (aCons (eName 11) aNil)) (aCons (eName 12) aNil))))) (sOne (sRet (eBl))) sNil)))))
  (sCons (sSet 13 C (eAdd (eMul (eCall F__law_draw C (by decide) (aCons (eName 1) (aCons (eInt) aNil))) (eInt)) (eCall F__law_draw C (by decide) (aCons (eName 1) (aCons (eInt) aNil)))))
  (sOne (sIf (pNot (pTruth (eCall F__law_same C (by decide) (aCons (eTup (aCons (eCall F_four_bytes C (by decide) (aCons (eName 13) aNil)) (aCons (eCall F_of_four C (by decide) (aCons (eCall F_four_bytes C (by decide) (aCons (eName 13) aNil)) aNil)) aNil))) (aCons (eTup (aCons (eBiT call_tuple_of ol_tup g.z_tuple bb_tuple (aCons (eCall F__law_four C (by decide) (aCons (eName 13) aNil)) aNil)) (aCons (eName 13) aNil))) aNil))))) (sOne (sRet (eBl))) sNil)))))))))))))
  (sOne (sRet (eAnd (eEq C (eCall F_check_of C (by decide) (aCons (eTup aNil) aNil)) (eInt)) (eOne (eEq C (eCall F_sealed C (by decide) (aCons (eTup (aCons (eInt) aNil)) aNil)) (eTup (aCons (eInt) (aCons (eInt) (aCons (eInt) (aCons (eInt) (aCons (eInt) aNil)))))))))))))
theorem bd__law_load {f : Addr} {cdv : Value} {A : Around} {outer : List Env} {s : Shared} {H : Hp} {E : XK} (z1 : mg "len" = none) (z2 : mg "int" = none) : PSs (cxOf (L2.CX pw w) pw w K mg base N__law_load "_law_load" (defScope s__law_load) f cdv A outer s H E) (defBody s__law_load) (tLoad K) :=
  pss_cons (ps_set (i := 1) sc__law_load.nd rfl (.inl rfl) (pe_ix ix_seq (pe_var (i := 0) rfl (.inl rfl)) pe_int (fun _ _ => rfl)))
    (pss_cons (ps_if (pt_cmp (pc_gt (pe_callB call_len rfl z1 PySem.boot_len (pa_cons (pe_var (i := 1) rfl (.inl rfl)) pa_nil)) pe_int))
      (pss_cons (ps_set (i := 2) sc__law_load.nd rfl (.inl rfl) (pe_callTy call_int1 rfl z2 bb_int (pa_cons (pe_bm PySem.F.plainAttrs_list PySem.F.slot_list_pop PySem.F.type_list_pop mt_popAt (pe_var (i := 1) rfl (.inl rfl)) (pa_cons pe_int pa_nil)) pa_nil)))
       (pss_cons (ps_set (i := 3) sc__law_load.nd rfl (.inl rfl) (pe_ifExp (pt_cmp (pc_ge (pe_var (i := 2) rfl (.inl rfl)) pe_int)) (pe_op op_mul pe_int (pe_var (i := 2) rfl (.inl rfl))) (pe_op op_sub (pe_op op_mul (pe_un un_neg pe_int) (pe_var (i := 2) rfl (.inl rfl))) pe_int)))
       (pss_cons (ps_if (pt_cmp (pc_ge (pe_var (i := 3) rfl (.inl rfl)) pe_int)) (pss_one (ps_ret (pe_var (i := 3) rfl (.inl rfl)))) pss_nil)
       (pss_one (ps_asg (pe_op op_mod (pe_callTy call_int1 rfl z2 bb_int (pa_cons (pe_op op_add (pe_op op_add (pe_op op_mul (pe_ix ix_seq (pe_var (i := 0) rfl (.inl rfl)) pe_int (fun _ _ => rfl)) pe_int) (pe_op op_mul (pe_var (i := 3) rfl (.inl rfl)) pe_int)) pe_int) pa_nil)) pe_int) (pg_sub (pe_var (i := 0) rfl (.inl rfl)) pe_int set_list)))))) pss_nil)
    (pss_cons (ps_set (i := 4) sc__law_load.nd rfl (.inl rfl) (pe_op op_mod (pe_callTy call_int1 rfl z2 bb_int (pa_cons (pe_op op_add (pe_op op_mul (pe_ix ix_seq (pe_var (i := 0) rfl (.inl rfl)) pe_int (fun _ _ => rfl)) pe_int) pe_int) pa_nil)) pe_int))
    (pss_cons (ps_set (i := 5) sc__law_load.nd rfl (.inl rfl) (pe_op op_mod (pe_callTy call_int1 rfl z2 bb_int (pa_cons (pe_op op_add (pe_op op_mul (pe_var (i := 4) rfl (.inl rfl)) pe_int) pe_int) pa_nil)) pe_int))
    (pss_cons (ps_asg (pe_op op_mod (pe_callTy call_int1 rfl z2 bb_int (pa_cons (pe_op op_add (pe_op op_mul (pe_var (i := 5) rfl (.inl rfl)) pe_int) pe_int) pa_nil)) pe_int) (pg_sub (pe_var (i := 0) rfl (.inl rfl)) pe_int set_list))
    (pss_one (ps_ret (pe_op op_add (pe_op op_add (pe_op op_mul (pe_var (i := 4) rfl (.inl rfl)) pe_int) (pe_op op_mul (pe_var (i := 5) rfl (.inl rfl)) pe_int)) (pe_ix ix_seq (pe_var (i := 0) rfl (.inl rfl)) pe_int (fun _ _ => rfl)))))))))
theorem bd__law_draw {f : Addr} {cdv : Value} {A : Around} {outer : List Env} {s : Shared} {H : Hp} {E : XK} {k j : Nat} (L : LdOk pw w K mg base j) (hj : j ≤ k) (z2 : mg "int" = none) (C : Cap k (cxOf (L2.CX pw w) pw w K mg base N__law_draw "_law_draw" (defScope s__law_draw) f cdv A outer s H E) (wE E)) : PSs (cxOf (L2.CX pw w) pw w K mg base N__law_draw "_law_draw" (defScope s__law_draw) f cdv A outer s H E) (defBody s__law_draw) (tDraw K E) := by
  obtain ⟨fl, fdl, hm, hk, hb, FO⟩ := L.ex
  exact pss_cons (ps_if (pt_cmp (pc_lt (pe_ix ix_seq (pe_var (i := 0) rfl (.inl rfl)) pe_int (fun _ _ => rfl)) (pe_var (i := 1) rfl (.inl rfl)))) (pss_one (ps_asg (pe_callS (FO.mono hj) C.hr rfl hm hk hb (fun σ => passAt C.tk σ) (pa_cons (pe_var (i := 0) rfl (.inl rfl)) pa_nil)) (pg_sub (pe_var (i := 0) rfl (.inl rfl)) pe_int set_list))) pss_nil)
    (pss_cons (ps_set (i := 2) sc__law_draw.nd rfl (.inl rfl) (pe_op op_mod (pe_callTy call_int1 rfl z2 bb_int (pa_cons (pe_ix ix_seq (pe_var (i := 0) rfl (.inl rfl)) pe_int (fun _ _ => rfl)) pa_nil)) (pe_var (i := 1) rfl (.inl rfl))))
    (pss_cons (ps_asg (pe_op op_fdivW (pe_ix ix_seq (pe_var (i := 0) rfl (.inl rfl)) pe_int (fun _ _ => rfl)) (pe_var (i := 1) rfl (.inl rfl))) (pg_sub (pe_var (i := 0) rfl (.inl rfl)) pe_int set_list))
    (pss_one (ps_ret (pe_var (i := 2) rfl (.inl rfl))))))
theorem bd__law_box {f : Addr} {cdv : Value} {A : Around} {outer : List Env} {s : Shared} {H : Hp} {E : XK} (z1 : mg "len" = none) (z3 : mg "list" = none) : PSs (cxOf (L2.CX pw w) pw w K mg base N__law_box "_law_box" (defScope s__law_box) f cdv A outer s H E) (defBody s__law_box) (tBox K) :=
  pss_one (ps_ret (pe_lst (pa_cons (pe_callTy call_list_of rfl z3 bb_list (pa_cons (pe_slice sl_list (pe_var (i := 0) rfl (.inl rfl)) po_none (po_some pe_int)) pa_nil)) (pa_cons pe_int (pa_cons (pe_op op_add pe_int (pe_callB call_len rfl z1 PySem.boot_len (pa_cons (pe_var (i := 0) rfl (.inl rfl)) pa_nil))) pa_nil)))))
end
end K19

set_option Elab.async false
set_option linter.all false
set_option autoImplicit false
set_option maxRecDepth 100000
set_option maxHeartbeats 4000000
namespace K19
open PySem PySem.Spec L2 DL
variable {G : Type}
/-! ### what the program's checks are -/
def ck : Int → Int → List Int → Int × Int
  | a, b, [] => (a, b)
  | a, b, x :: r => ck ((a + x) % 65521) ((b + (a + x) % 65521) % 65521) r
def chk (ns : List Int) : Int := (ck 1 0 ns).2 * 65536 + (ck 1 0 ns).1
def four (n : Int) : List Int := [n / 16777216 % 256, n / 65536 % 256, n / 256 % 256, n % 256]
def of4 (a b c d : Int) : Int := a * 16777216 + b * 65536 + c * 256 + d
theorem ck_bd : ∀ (ns : List Int) (a b : Int), 0 ≤ a → a < 65521 → 0 ≤ b → b < 65521 → 0 ≤ (ck a b ns).1 ∧ (ck a b ns).1 < 65521 ∧ 0 ≤ (ck a b ns).2 ∧ (ck a b ns).2 < 65521
  | [], a, b, h1, h2, h3, h4 => ⟨h1, h2, h3, h4⟩
  | x :: r, a, b, h1, h2, h3, h4 => by
    unfold ck
    exact ck_bd r _ _ (by omega) (by omega) (by omega) (by omega)
def sp_check : DSpec G := fun args g Q _ => ∃ ns : List Int, args = [.val (ti ns)] ∧ Q (.val (.int (chk ns))) g
theorem r_check_of : ∀ (args : DEnv) (g : G) (Q : F → G → Prop) (R : Ex → G → Prop), args.length = 1 → sp_check args g Q R → t_check_of (startD N_check_of.length args) g (endsOf Q R) := by
  intro args g Q R _ ⟨ns, e, q⟩
  subst e
  refine ⟨rfl, szl, rfl, rfl, rfl, rfl, ?_⟩
  refine for_ok (fun items ρ g' => ∃ (ms : List Int) (a b : Int) (x : Slot), items = ms.map PyData.int ∧ ρ = [.val (ti ns), .val (.int a), .val (.int b), x] ∧ g' = g ∧ ck 1 0 ns = ck a b ms ∧ 0 ≤ a ∧ a < 65521 ∧ 0 ≤ b ∧ b < 65521) ?_ _ _ _ ⟨ns, 1, 0, .none, rfl, rfl, rfl, rfl, by omega, by omega, by omega, by omega⟩ ?_
  · rintro x xs ρ g' E' ⟨ms, a, b, y, h1, rfl, rfl, h2, h3⟩ e1 e2 e3 k _
    cases ms with
    | nil => cases h1
    | cons m ms =>
      cases h1
      refine ⟨show (0 : Int) < 65521 by decide, ?_⟩
      refine ⟨show (0 : Int) < 65521 by decide, k _ _ ⟨ms, (a + m) % 65521, (b + (a + m) % 65521) % 65521, .val (.int m), rfl, rfl, rfl, h2, by omega, by omega, by omega, by omega⟩⟩
  · rintro ρ g' ⟨ms, a, b, y, h1, rfl, rfl, h2, h3⟩
    cases ms with
    | cons m ms => cases h1
    | nil =>
      have h2 : ck 1 0 ns = (a, b) := h2
      refine ⟨cmul (by omega) (by decide), ?_⟩
      unfold chk at q
      rw [h2] at q
      exact q
def sp_four : DSpec G := fun args g Q _ => ∃ n : Int, args = [.val (.int n)] ∧ Q (.val (ti (four n))) g
theorem r_four_bytes : ∀ (args : DEnv) (g : G) (Q : F → G → Prop) (R : Ex → G → Prop), args.length = 1 → sp_four args g Q R → t_four_bytes (startD N_four_bytes.length args) g (endsOf Q R) := by
  intro args g Q R _ ⟨n, e, q⟩
  subst e
  have d : (0 : Int) < 256 := by decide
  exact ⟨cdiv (by decide) (by decide), d, cdiv (by decide) (by decide), d, cdiv (by decide) (by decide), d, d, rfl, szl, q⟩
def sp_of4 : DSpec G := fun args g Q _ => ∃ a b c d : Int, (args = [.val (ti [a, b, c, d])] ∨ args = [.val (li [a, b, c, d])]) ∧ a.natAbs < 2 ^ 64 ∧ b.natAbs < 2 ^ 64 ∧ c.natAbs < 2 ^ 64 ∧ Q (.val (.int (of4 a b c d))) g
theorem r_of_four : ∀ (args : DEnv) (g : G) (Q : F → G → Prop) (R : Ex → G → Prop), args.length = 1 → sp_of4 args g Q R → t_of_four (startD N_of_four.length args) g (endsOf Q R) := by
  intro args g Q R _ ⟨a, b, c, d, e, h1, h2, h3, q⟩
  rcases e with e | e <;> subst e <;> exact ⟨cmul h1 (by decide), cmul h2 (by decide), cmul h3 (by decide), q⟩
def sp_sealed : DSpec G := fun args g Q _ => ∃ ns : List Int, args = [.val (ti ns)] ∧ ns.length ≤ 900 ∧ Q (.val (ti (ns ++ four (chk ns)))) g
theorem r_sealed : ∀ (args : DEnv) (g : G) (Q : F → G → Prop) (R : Ex → G → Prop), args.length = 1 → sp_sealed args g Q R → t_sealed sp_check sp_four (startD N_sealed.length args) g (endsOf Q R) := by
  intro args g Q R _ ⟨ns, e, hl, q⟩
  subst e
  refine ⟨rfl, ns, rfl, .inl rfl, rfl, chk ns, rfl, .inl rfl, Nat.le_of_lt (small1000 ?_), ?_⟩
  · show (ns.map PyData.int).length + 4 ≤ 1000
    rw [List.length_map]; omega
  · show Q (.val (.tuple (ns.map PyData.int ++ (four (chk ns)).map PyData.int))) g
    rw [← List.map_append]
    exact q
def Byt (ns : List Int) : Prop := ∀ x ∈ ns, 0 ≤ x ∧ x < 256
def of4L : List Int → Int
  | [a, b, c, d] => of4 a b c d
  | _ => 0
def opn (ns : List Int) : Except Int (List Int) := if ns.length < 4 then .error ns.length else if chk (ns.take (ns.length - 4)) = of4L (ns.drop (ns.length - 4)) then .ok (ns.take (ns.length - 4)) else .error (ns.length - 4 : Nat)
def sp_opened (c : Addr) : DSpec G := fun args g Q R => ∃ ns : List Int, args = [.val (ti ns)] ∧ ns.length ≤ 900 ∧ Byt ns ∧ (∀ xs, opn ns = .ok xs → Q (.val (ti xs)) g) ∧ ∀ p, opn ns = .error p → R ⟨.ref c, some ("place", p)⟩ g
theorem four_of {ns : List Int} (h : ns.length = 4) : ∃ a b c d, ns = [a, b, c, d] := by
  match ns, h with
  | [a, b, c, d], _ => exact ⟨a, b, c, d, rfl⟩
theorem r_opened {c : Addr} : ∀ (args : DEnv) (g : G) (Q : F → G → Prop) (R : Ex → G → Prop), args.length = 1 → sp_opened c args g Q R → t_opened sp_check sp_of4 c (startD N_opened.length args) g (endsOf Q R) := by
  intro args g Q R _ ⟨ns, e, hl, hb, q1, q2⟩
  subst e
  have el : ((ns.map PyData.int).length : Int) = ns.length := by rw [List.length_map]
  refine seq_guard (decide (((ns.map PyData.int).length : Int) < 4)) (fun R K q => q) (fun h E' _ _ _ e4 => ?_) fun h => ?_
  · have h := of_decide_eq_true h
    have e := q2 ns.length (by unfold opn; rw [if_pos (by omega)])
    refine ⟨lg_small (by rw [el]; omega), ?_⟩
    rw [e4]
    show R ⟨.ref c, some ("place", ((ns.map PyData.int).length : Int))⟩ g
    rw [el]
    exact e
  · have h := of_decide_eq_false h
    have h4 : 4 ≤ ns.length := by omega
    have ec : cutL (ns.map PyData.int) none (some (((ns.map PyData.int).length : Int) - 4)) = (ns.take (ns.length - 4)).map PyData.int := by
      rw [cutL_map, el, cutL_take _ (by omega)]
      congr 2; omega
    have ed : cutL (ns.map PyData.int) (some (((ns.map PyData.int).length : Int) - 4)) none = (ns.drop (ns.length - 4)).map PyData.int := by
      rw [cutL_map, el, cutL_drop _ (by omega)]
      congr 2; omega
    obtain ⟨a, b, cc, d, e4⟩ := four_of (ns := ns.drop (ns.length - 4)) (by rw [List.length_drop]; omega)
    have hd : ∀ x ∈ [a, b, cc, d], 0 ≤ x ∧ x < 256 := fun x hx => hb x (List.mem_of_mem_drop (by rw [e4]; exact hx))
    have ha := hd a (by simp)
    have hbb := hd b (by simp)
    have hc := hd cc (by simp)
    have hof : of4L (ns.drop (ns.length - 4)) = of4 a b cc d := by rw [e4]; rfl
    refine seq_to [.val (ti ns), .val (ti (ns.take (ns.length - 4)))] g (fun E' _ _ _ _ k => set_to (ti (ns.take (ns.length - 4))) (fun R K q => ?_) k) ?_
    · refine ⟨trivial, ?_⟩
      show K (.val (.tuple (cutL (ns.map PyData.int) none (some (((ns.map PyData.int).length : Int) - 4))))) g
      rw [ec]
      exact q
    · refine seq_guard (!decide (chk (ns.take (ns.length - 4)) = of4 a b cc d)) (fun R K q => ?_) (fun h1 E' _ _ _ e5 => ?_) fun h1 => ?_
      · refine ⟨rfl, ns.take (ns.length - 4), rfl, .inl rfl, trivial, rfl, a, b, cc, d, .inl ?_, by omega, by omega, by omega, .inl rfl, rfl, rfl, shaped_int _, shaped_int _, ?_⟩
        · show [Slot.val (.tuple (cutL (ns.map PyData.int) (some (((ns.map PyData.int).length : Int) - 4)) none))] = _
          rw [ed, e4]
        · show K (!PyData.eqv (.int _) (.int _)) g
          rw [eqv_int]
          exact q
      · have h1 : ¬ chk (ns.take (ns.length - 4)) = of4 a b cc d := by simpa using h1
        have e := q2 (ns.length - 4 : Nat) (by unfold opn; rw [if_neg (by omega), if_neg (by rw [hof]; exact h1)])
        have e2 : (((ns.take (ns.length - 4)).map PyData.int).length : Int) = ((ns.length - 4 : Nat) : Int) := by rw [List.length_map, List.length_take]; congr 1; omega
        refine ⟨lg_small (by rw [e2]; omega), ?_⟩
        rw [e5]
        show R ⟨.ref c, some ("place", (((ns.take (ns.length - 4)).map PyData.int).length : Int))⟩ g
        rw [e2]
        exact e
      · have h1 : chk (ns.take (ns.length - 4)) = of4 a b cc d := by simpa using h1
        exact q1 _ (by unfold opn; rw [if_neg (by omega), if_pos (by rw [hof]; exact h1)])
/-! ### the law's own -/
def lck : Int → Int → List Int → Int × Int
  | a, b, [] => (a, b)
  | a, b, x :: r => lck (a + x) (b + (a + x)) r
def lchk (ns : List Int) : Int := 65536 * ((lck 1 0 ns).2 - (lck 1 0 ns).2 / 65521 * 65521) + (lck 1 0 ns).1 - (lck 1 0 ns).1 / 65521 * 65521
def sp_lchk : DSpec G := fun args g Q _ => ∃ ns : List Int, args = [.val (ti ns)] ∧ ns.length ≤ 900 ∧ Byt ns ∧ Q (.val (.int (lchk ns))) g
theorem r_lchk : ∀ (args : DEnv) (g : G) (Q : F → G → Prop) (R : Ex → G → Prop), args.length = 1 → sp_lchk args g Q R → t__law_check (startD N__law_check.length args) g (endsOf Q R) := by
  intro args g Q R _ ⟨ns, e, hl, hb, q⟩
  subst e
  refine ⟨rfl, szl, rfl, rfl, rfl, rfl, ?_⟩
  refine for_ok (fun items ρ g' => ∃ (ms : List Int) (a b : Int) (x : Slot), items = ms.map PyData.int ∧ ρ = [.val (ti ns), .val (.int a), .val (.int b), x] ∧ g' = g ∧ lck 1 0 ns = lck a b ms ∧ Byt ms ∧ 0 ≤ a ∧ a + 255 * ms.length ≤ 230000 ∧ 0 ≤ b ∧ b + 230000 * ms.length ≤ 230000 * 900) ?_ _ _ _ ⟨ns, 1, 0, .none, rfl, rfl, rfl, rfl, hb, by omega, by omega, by omega, by omega⟩ ?_
  · rintro x xs ρ g' E' ⟨ms, a, b, y, h1, rfl, rfl, h2, hm, h3, h4, h5, h6⟩ e1 e2 e3 k _
    cases ms with
    | nil => cases h1
    | cons m ms =>
      cases h1
      have b0 := hm m (.head _)
      rw [List.length_cons] at h4 h6
      exact k _ _ ⟨ms, a + m, b + (a + m), .val (.int m), rfl, rfl, rfl, h2, fun z hz => hm z (.tail _ hz), by omega, by omega, by omega, by omega⟩
  · rintro ρ g' ⟨ms, a, b, y, h1, rfl, rfl, h2, hm, h3, h4, h5, h6⟩
    cases ms with
    | cons m ms => cases h1
    | nil =>
      have h2 : lck 1 0 ns = (a, b) := h2
      have h4 : a + 255 * (0 : Nat) ≤ 230000 := h4
      have h6 : b + 230000 * (0 : Nat) ≤ 230000 * 900 := h6
      unfold lchk at q
      rw [h2] at q
      have q : Q (.val (.int (65536 * (b - b / 65521 * 65521) + a - a / 65521 * 65521))) g' := q
      exact ⟨cdiv (by decide) (by decide), cmul (by dsimp only; omega) (by decide), trivial, cmul (by decide) (by dsimp only; omega), cdiv (by decide) (by decide), cmul (by dsimp only; omega) (by decide), trivial, q⟩
def lfour (n : Int) : List Int := [n / 16777216, n / 65536 - n / 16777216 * 256, n / 256 - n / 65536 * 256, n - n / 256 * 256]
def sp_lfour : DSpec G := fun args g Q _ => ∃ n : Int, args = [.val (.int n)] ∧ 0 ≤ n ∧ n < 2 ^ 60 ∧ Q (.fresh ((lfour n).map PyData.int)) g
theorem r_lfour : ∀ (args : DEnv) (g : G) (Q : F → G → Prop) (R : Ex → G → Prop), args.length = 1 → sp_lfour args g Q R → t__law_four (startD N__law_four.length args) g (endsOf Q R) := by
  intro args g Q R _ ⟨n, e, h0, h1, q⟩
  subst e
  have d : ∀ j : Int, 0 < j → j < 2 ^ 64 → CDivW n j := fun j a b => cdiv a b
  exact ⟨d _ (by decide) (by decide), d _ (by decide) (by decide), d _ (by decide) (by decide), cmul (by dsimp only; omega) (by decide), trivial, d _ (by decide) (by decide), d _ (by decide) (by decide), cmul (by dsimp only; omega) (by decide), trivial,
    d _ (by decide) (by decide), cmul (by dsimp only; omega) (by decide), trivial, rfl, szl, q⟩
theorem lchk_bd (ns : List Int) : 0 ≤ lchk ns ∧ lchk ns < 2 ^ 32 := by
  unfold lchk
  omega
def sp_lseal : DSpec G := fun args g Q _ => ∃ ns : List Int, args = [.val (ti ns)] ∧ ns.length ≤ 900 ∧ Byt ns ∧ Q (.fresh ((ns ++ lfour (lchk ns)).map PyData.int)) g
theorem r_lseal : ∀ (args : DEnv) (g : G) (Q : F → G → Prop) (R : Ex → G → Prop), args.length = 1 → sp_lseal args g Q R → t__law_seal sp_lchk sp_lfour (startD N__law_seal.length args) g (endsOf Q R) := by
  intro args g Q R _ ⟨ns, e, hl, hb, q⟩
  subst e
  have b := lchk_bd ns
  refine ⟨rfl, ns, rfl, hl, hb, .inl rfl, rfl, lchk ns, rfl, b.1, by omega, .inl rfl, Nat.le_of_lt (small1000 ?_), ?_⟩
  · show (ns.map PyData.int).length + 4 ≤ 1000
    rw [List.length_map]; omega
  · rw [List.map_append] at q
    exact q
def toldD (ns : List Int) : D := match opn ns with
  | .ok xs => .tuple [ti xs, .none]
  | .error p => .tuple [.none, .int p]
def sp_told : DSpec G := fun args g Q _ => ∃ ns : List Int, args = [.val (ti ns)] ∧ ns.length ≤ 900 ∧ Byt ns ∧ Q (.val (toldD ns)) g
theorem r_told {c : Addr} : ∀ (args : DEnv) (g : G) (Q : F → G → Prop) (R : Ex → G → Prop), args.length = 1 → sp_told args g Q R → t__law_told (sp_opened c) c (startD N__law_told.length args) g (endsOf Q R) := by
  intro args g Q R _ ⟨ns, e, hl, hb, q⟩
  subst e
  refine ⟨rfl, szl, rfl, rfl, rfl, rfl, ns, rfl, hl, hb, fun xs hx => ⟨.inl rfl, rfl, szl, ?_⟩, fun p hp => ⟨true, ?_, show 3 < 4 by decide, fun _ => ⟨p, rfl, rfl, rfl, szl, ?_⟩, fun z => by cases z⟩⟩
  · unfold toldD at q
    rw [hx] at q
    exact q
  · show List.lookup c [(c, true)] = some true
    rw [List.lookup_cons_self]
  · unfold toldD at q
    rw [hp] at q
    exact q
end K19

set_option Elab.async false
set_option linter.all false
set_option autoImplicit false
set_option maxRecDepth 100000
set_option maxHeartbeats 4000000
namespace K19
open PySem PySem.Spec L2 DL
/-! ### plain laws of checks -/
theorem ck_lck : ∀ (ns : List Int) (a b : Int), ck (a % 65521) (b % 65521) ns = ((lck a b ns).1 % 65521, (lck a b ns).2 % 65521)
  | [], a, b => rfl
  | x :: r, a, b => by
    have e1 : (a % 65521 + x) % 65521 = (a + x) % 65521 := by omega
    have e2 : (b % 65521 + (a + x) % 65521) % 65521 = (b + (a + x)) % 65521 := by omega
    unfold ck lck
    rw [e1, e2]
    exact ck_lck r _ _
theorem ck_mod (ns : List Int) : ck 1 0 ns = ((lck 1 0 ns).1 % 65521, (lck 1 0 ns).2 % 65521) := ck_lck ns 1 0
theorem chk_eq (ns : List Int) : chk ns = lchk ns := by
  unfold chk lchk
  rw [ck_mod]
  dsimp only
  omega
theorem chk_bd (ns : List Int) : 0 ≤ chk ns ∧ chk ns < 2 ^ 32 := by rw [chk_eq]; exact lchk_bd ns
theorem four_lfour {n : Int} (h0 : 0 ≤ n) (h1 : n < 2 ^ 32) : four n = lfour n := by
  unfold four lfour
  simp only [List.cons.injEq, and_true]
  omega
theorem of4_four {n : Int} (h0 : 0 ≤ n) (h1 : n < 2 ^ 32) : of4L (four n) = n := by
  show of4 _ _ _ _ = n
  unfold of4
  omega
theorem four_byt (n : Int) : Byt (four n) := by
  intro x hx
  simp only [four, List.mem_cons, List.not_mem_nil, or_false] at hx
  omega
theorem four_len (n : Int) : (four n).length = 4 := rfl
theorem four_of4 {t : List Int} (h : t.length = 4) (hb : Byt t) : four (of4L t) = t := by
  obtain ⟨a, b, c, d, rfl⟩ := four_of h
  have ha := hb a (by simp)
  have hb' := hb b (by simp)
  have hc := hb c (by simp)
  have hd := hb d (by simp)
  show four (of4 a b c d) = _
  unfold four of4
  simp only [List.cons.injEq, and_true]
  omega
theorem of4_bd {t : List Int} (h : t.length = 4) (hb : Byt t) : 0 ≤ of4L t ∧ of4L t < 2 ^ 32 := by
  obtain ⟨a, b, c, d, rfl⟩ := four_of h
  have ha := hb a (by simp)
  have hb' := hb b (by simp)
  have hc := hb c (by simp)
  have hd := hb d (by simp)
  show 0 ≤ of4 a b c d ∧ of4 a b c d < 2 ^ 32
  unfold of4
  omega
theorem opn_app {d t : List Int} (h : t.length = 4) : opn (d ++ t) = if chk d = of4L t then .ok d else .error (d.length : Nat) := by
  unfold opn
  have e : (d ++ t).length - 4 = d.length := by rw [List.length_append, h]; omega
  rw [if_neg (by rw [List.length_append, h]; omega), e, List.take_left, List.drop_left]
theorem opn_sealed (d : List Int) : opn (d ++ four (chk d)) = .ok d := by
  rw [opn_app (four_len _), of4_four (chk_bd d).1 (chk_bd d).2, if_pos rfl]
theorem opn_bad {d t : List Int} (h : t.length = 4) (n : chk d ≠ of4L t) : opn (d ++ t) = .error (d.length : Nat) := by rw [opn_app h, if_neg n]
theorem lck_app : ∀ (p s : List Int) (a b : Int), lck a b (p ++ s) = lck (lck a b p).1 (lck a b p).2 s
  | [], s, a, b => rfl
  | x :: p, s, a, b => lck_app p s _ _
theorem lck_1 : ∀ (s : List Int) (a b : Int), (lck a b s).1 = a + s.sum
  | [], a, b => by simp [lck]
  | x :: s, a, b => by unfold lck; rw [lck_1 s, List.sum_cons]; omega
theorem lck_2 : ∀ (s : List Int) (a b : Int), (lck a b s).2 = b + (lck a 0 s).2
  | [], a, b => by simp [lck]
  | x :: s, a, b => by unfold lck; rw [lck_2 s _ (b + (a + x)), lck_2 s _ (0 + (a + x))]; omega
theorem chk_parts {ns ms : List Int} (h : chk ns = chk ms) : (lck 1 0 ns).1 % 65521 = (lck 1 0 ms).1 % 65521 ∧ (lck 1 0 ns).2 % 65521 = (lck 1 0 ms).2 % 65521 := by
  unfold chk at h
  rw [ck_mod, ck_mod] at h
  dsimp only at h
  omega
theorem chk_change {p s : List Int} {x y : Int} (hx : 0 ≤ x ∧ x < 256) (hy : 0 ≤ y ∧ y < 256) (n : x ≠ y) : chk (p ++ x :: s) ≠ chk (p ++ y :: s) := fun h => by
  obtain ⟨h1, _⟩ := chk_parts h
  rw [lck_app, lck_app] at h1
  unfold lck at h1
  generalize hA : (lck 1 0 p).1 = A at h1
  generalize hB : (lck 1 0 p).2 = B at h1
  rw [lck_1, lck_1 s (A + y)] at h1
  omega
theorem chk_swap {p s : List Int} {x y : Int} (hx : 0 ≤ x ∧ x < 256) (hy : 0 ≤ y ∧ y < 256) (n : x ≠ y) : chk (p ++ x :: y :: s) ≠ chk (p ++ y :: x :: s) := fun h => by
  obtain ⟨_, h2⟩ := chk_parts h
  rw [lck_app, lck_app] at h2
  unfold lck at h2
  unfold lck at h2
  generalize hA : (lck 1 0 p).1 = A at h2
  generalize hB : (lck 1 0 p).2 = B at h2
  have e : A + x + y = A + y + x := by omega
  rw [lck_2, lck_2 s (A + y + x), e] at h2
  omega
/-! a byte of the whole changed, neighbours exchanged -/
theorem split_at {xs : List Int} {k : Nat} (h : k < xs.length) : ∃ p x s, xs = p ++ x :: s ∧ p.length = k ∧ xs.take k = p ∧ xs.drop (k + 1) = s ∧ xs[k]? = some x := by
  refine ⟨xs.take k, xs[k], xs.drop (k + 1), ?_, by rw [List.length_take]; omega, rfl, rfl, List.getElem?_eq_getElem h⟩
  rw [← List.drop_eq_getElem_cons h, List.take_append_drop]
theorem hurt_one {d t : List Int} {k : Nat} {y : Int} (hd : Byt d) (ht : Byt t) (h4 : t.length = 4) (hc : chk d = of4L t) (hy : 0 ≤ y ∧ y < 256) (hk : k < (d ++ t).length) (n : (d ++ t).take k ++ [y] ++ (d ++ t).drop (k + 1) ≠ d ++ t) :
    opn ((d ++ t).take k ++ [y] ++ (d ++ t).drop (k + 1)) = .error (d.length : Nat) ∧ (k < d.length → chk (((d ++ t).take k ++ [y] ++ (d ++ t).drop (k + 1)).take d.length) ≠ chk d) := by
  by_cases h : k < d.length
  · obtain ⟨p, x, s, e, hp, h1, h2, h3⟩ := split_at h
    have e1 : (d ++ t).take k = p := by rw [List.take_append_of_le_length (by omega), h1]
    have e2 : (d ++ t).drop (k + 1) = s ++ t := by rw [List.drop_append_of_le_length (by omega), h2]
    rw [e1, e2] at n ⊢
    have e3 : p ++ [y] ++ (s ++ t) = (p ++ y :: s) ++ t := by simp
    rw [e3] at n ⊢
    have hx : 0 ≤ x ∧ x < 256 := hd x (by rw [e]; simp)
    have nxy : x ≠ y := fun z => n (by rw [e, z])
    have nc : chk (p ++ y :: s) ≠ chk d := by rw [e]; exact (chk_change hx hy nxy).symm
    have el : (p ++ y :: s).length = d.length := by rw [e]; simp
    refine ⟨?_, fun _ => ?_⟩
    · rw [opn_bad h4 (by rw [← hc]; exact nc), el]
    · rw [← el, List.take_left]
      exact nc
  · obtain ⟨p, x, s, e, hp, h1, h2, h3⟩ := split_at (xs := t) (k := k - d.length) (by rw [List.length_append] at hk; omega)
    have e1 : (d ++ t).take k = d ++ p := by rw [List.take_append, List.take_of_length_le (by omega), h1]
    have e2 : (d ++ t).drop (k + 1) = s := by rw [List.drop_append, List.drop_of_length_le (by omega), List.nil_append, show k + 1 - d.length = k - d.length + 1 by omega, h2]
    rw [e1, e2] at n ⊢
    have e3 : d ++ p ++ [y] ++ s = d ++ (p ++ y :: s) := by simp
    rw [e3] at n ⊢
    have el : (p ++ y :: s).length = 4 := by rw [← h4, e]; simp
    have hb : Byt (p ++ y :: s) := fun z hz => by
      rcases List.mem_append.mp hz with hz | hz
      · exact ht z (by rw [e]; exact List.mem_append_left _ hz)
      · rcases List.mem_cons.mp hz with rfl | hz
        · exact hy
        · exact ht z (by rw [e]; simp [hz])
    refine ⟨opn_bad el fun z => n ?_, fun z => absurd z h⟩
    rw [hc] at z
    rw [← four_of4 el hb, ← z, four_of4 h4 ht]
theorem split_at2 {xs : List Int} {k : Nat} (h : k + 1 < xs.length) : ∃ p x y s, xs = p ++ x :: y :: s ∧ p.length = k ∧ xs.take k = p ∧ xs.drop (k + 2) = s ∧ xs[k]? = some x ∧ xs[k + 1]? = some y := by
  refine ⟨xs.take k, xs[k], xs[k + 1], xs.drop (k + 2), ?_, by rw [List.length_take]; omega, rfl, rfl, List.getElem?_eq_getElem (by omega), List.getElem?_eq_getElem h⟩
  rw [← List.drop_eq_getElem_cons h, ← List.drop_eq_getElem_cons (by omega), List.take_append_drop]
theorem hurt_two {d t : List Int} {k : Nat} {x y : Int} (hd : Byt d) (ht : Byt t) (h4 : t.length = 4) (hc : chk d = of4L t) (hk : k + 1 < (d ++ t).length) (hx : (d ++ t)[k]? = some x) (hy : (d ++ t)[k + 1]? = some y) (n : (d ++ t).take k ++ [y, x] ++ (d ++ t).drop (k + 2) ≠ d ++ t) :
    (k + 1 < d.length → chk (((d ++ t).take k ++ [y, x] ++ (d ++ t).drop (k + 2)).take d.length) ≠ chk d) ∧ (k + 1 ≠ d.length → opn ((d ++ t).take k ++ [y, x] ++ (d ++ t).drop (k + 2)) = .error (d.length : Nat)) := by
  by_cases h : k + 1 < d.length
  · obtain ⟨p, x', y', s, e, hp, h1, h2, h3, h3'⟩ := split_at2 h
    have e1 : (d ++ t).take k = p := by rw [List.take_append_of_le_length (by omega), h1]
    have e2 : (d ++ t).drop (k + 2) = s ++ t := by rw [List.drop_append_of_le_length (by omega), h2]
    rw [List.getElem?_append_left (by omega), h3] at hx
    rw [List.getElem?_append_left (by omega), h3'] at hy
    cases hx
    cases hy
    rw [e1, e2] at n ⊢
    have e3 : p ++ [y, x] ++ (s ++ t) = (p ++ y :: x :: s) ++ t := by simp
    rw [e3] at n ⊢
    have hx : 0 ≤ x ∧ x < 256 := hd x (by rw [e]; simp)
    have hy : 0 ≤ y ∧ y < 256 := hd y (by rw [e]; simp)
    have nxy : x ≠ y := fun z => n (by rw [e, z])
    have nc : chk (p ++ y :: x :: s) ≠ chk d := by rw [e]; exact (chk_swap hx hy nxy).symm
    have el : (p ++ y :: x :: s).length = d.length := by rw [e]; simp
    refine ⟨fun _ => ?_, fun _ => ?_⟩
    · rw [← el, List.take_left]
      exact nc
    · rw [opn_bad h4 (by rw [← hc]; exact nc), el]
  · refine ⟨fun z => absurd z h, fun z => ?_⟩
    obtain ⟨p, x', y', s, e, hp, h1, h2, h3, h3'⟩ := split_at2 (xs := t) (k := k - d.length) (by rw [List.length_append] at hk; omega)
    have e1 : (d ++ t).take k = d ++ p := by rw [List.take_append, List.take_of_length_le (by omega), h1]
    have e2 : (d ++ t).drop (k + 2) = s := by rw [List.drop_append, List.drop_of_length_le (by omega), List.nil_append, show k + 2 - d.length = k - d.length + 2 by omega, h2]
    rw [List.getElem?_append_right (by omega), h3] at hx
    rw [List.getElem?_append_right (by omega), show k + 1 - d.length = k - d.length + 1 by omega, h3'] at hy
    cases hx
    cases hy
    rw [e1, e2] at n ⊢
    have e3 : d ++ p ++ [y, x] ++ s = d ++ (p ++ y :: x :: s) := by simp
    rw [e3] at n ⊢
    have el : (p ++ y :: x :: s).length = 4 := by rw [← h4, e]; simp
    have hb : Byt (p ++ y :: x :: s) := fun z hz => ht z (by
      rw [e]
      simp only [List.mem_append, List.mem_cons] at hz ⊢
      rcases hz with hz | hz | hz | hz
      · exact .inl hz
      · exact .inr (.inr (.inl hz))
      · exact .inr (.inl hz)
      · exact .inr (.inr (.inr hz)))
    refine opn_bad el fun z => n ?_
    rw [hc] at z
    rw [← four_of4 el hb, ← z, four_of4 h4 ht]
end K19

set_option Elab.async false
set_option linter.all false
set_option autoImplicit false
set_option maxRecDepth 100000
set_option maxHeartbeats 4000000
namespace K19
open PySem PySem.Spec L2 DL
def sp_law : DSpec BG := fun args g Q _ => args = [.fn (.ref g.a)] ∧ g.bc = none ∧ ∀ g', Q (.val (.bool true)) g'
/-- the law's slots -/
abbrev Sl (s0 s1 s2 s3 s4 s5 s6 s7 s8 s9 s10 s11 s12 s13 : Slot) : DEnv := [s0, s1, s2, s3, s4, s5, s6, s7, s8, s9, s10, s11, s12, s13]
variable {cB : Addr}
abbrev tl : DSt BG := t_law sp_check sp_four sp_of4 sp_sealed sp_box sp_draw (sp_same 3) sp_lchk sp_lfour sp_lseal sp_told
theorem r_law : ∀ (args : DEnv) (g : BG) (Q : F → BG → Prop) (R : Ex → BG → Prop), args.length = 1 → sp_law args g Q R → tl (startD N_law.length args) g (endsOf Q R) := by
  intro args g Q R _ ⟨e, hbc, q⟩
  subst e
  refine seq_ok (fun ρ' g' => ∃ b c, ρ' = Sl (.fn (.ref g.a)) (.fn (.ref b)) .none .none .none .none .none .none .none .none .none .none .none .none ∧ g'.bc = some (b, c)) (fun E' _ _ _ _ k => ⟨rfl, rfl, hbc, fun b c => ⟨.inl rfl, k _ _ ⟨b, c, rfl, rfl⟩⟩⟩) ?_
  rintro ρ' g' ⟨b, c, rfl, hb⟩
  refine seq_ok (fun ρ' g'' => g'' = g') (fun E' e1 _ _ _ k => ?_) ?_
  · -- the turns
    refine ⟨by omega, by omega, rfl, for_ok (fun items ρ g'' => (∀ x ∈ items, ∃ t : Int, x = .int t) ∧ g'' = g' ∧ ∃ s2 s3 s4 s5 s6 s7 s8 s9 s10 s11 s12 s13, ρ = Sl (.fn (.ref g.a)) (.fn (.ref b)) s2 s3 s4 s5 s6 s7 s8 s9 s10 s11 s12 s13) ?_ _ _ _ ⟨fun x hx => ?_, rfl, _, _, _, _, _, _, _, _, _, _, _, _, rfl⟩ ?_⟩
    · rintro x xs ρ g'' E2 ⟨hx, rfl, s2, s3, s4, s5, s6, s7, s8, s9, s10, s11, s12, s13, rfl⟩ r1 r2 r3 nx _
      obtain ⟨t, rfl⟩ := hx x (.head _)
      have hxs : ∀ y ∈ xs, ∃ t : Int, y = .int t := fun y hy => hx y (.tail _ hy)
      refine seq_ok (fun ρ' g3 => g'' = g3 ∧ ∃ r : Int, 0 ≤ r ∧ r < 3 ∧ ρ' = Sl (.fn (.ref g.a)) (.fn (.ref b)) (.val (.int t)) (.val (.int r)) s4 s5 s6 s7 s8 s9 s10 s11 s12 s13) (fun E3 _ _ _ _ k => ev_draw hb rfl (fun K q => q) (by decide) (by decide) fun r h0 h1 => k _ _ ⟨rfl, r, h0, h1, rfl⟩) ?_
      rintro _ g3 ⟨rfl, r, h0, h1, rfl⟩
      refine seq_ok (fun ρ' g3 => g'' = g3 ∧ ∃ d : List Int, Byt d ∧ d.length ≤ 14 ∧ ρ' = Sl (.fn (.ref g.a)) (.fn (.ref b)) (.val (.int t)) (.val (.int r)) (.val (ti d)) s5 s6 s7 s8 s9 s10 s11 s12 s13) (fun E3 _ _ _ _ k => ?_) ?_
      · try dsimp only [e_set, e_ret, e_ifS, e_drop, e_par, e_asg, e_retT, e_next, e_brk, e_cnt, e_c, e_fn, e_bin, e_bool, e_truth, e_not, e_and, e_or, e_andV, e_orV, e_notV, e_neg, e_if, e_nil, e_cons, e_tup, e_lst, e_sl, e_no, e_part, e_bi, e_call, e_lc, e_for, e_rng1, e_rng2, e_yes, e_nm, e_app, e_itL, e_itT, r_onB, r_onI, r_onTB, r_addI, r_addS, r_addT, r_addLvv, r_addLvf, r_addLvb, r_addLfv, r_addLff, r_addLfb, r_addLbv, r_addLbf, r_addLbb, r_intT, r_intP, r_int, r_mulI, r_mulT, r_mulLv, r_lenv, r_tupv, r_lisv, r_slv, r_ixv, r_mulLf, r_lenf, r_tupf, r_lisf, r_slf, r_ixf, r_mulLb, r_lenb, r_tupb, r_lisb, r_slb, r_ixb, r_lenT, r_lenS, r_tupT, r_lisT, r_slT, r_slS, r_ixT, r_intI, r_max, r_min, r_rel, r_isN, r_notN, r_isi, r_tgN, r_some, r_stV, r_stO, r_stFn, r_all, r_any, r_sum, f_data0, f_data1, f_data2, f_slot0, f_slot1, f_slot2, f_slot3, f_safe0, f_safe1, f_safe2, f_safe3, f_isD0, f_isD1, f_isD2, f_isD3, f_noBor0, f_noBor1, f_noBor2, f_noBor3, f_lfree0, f_lfree1, f_lfree2, f_lfree3, f_lfr0, f_lfr1, f_lfr2, f_lfr3, f_ret0, f_ret1, f_ret2, f_ret3, stFs, on1, on2, onList, List.map, List.all, List.length_cons, List.length_nil, List.set, List.getElem?_cons_zero, List.getElem?_cons_succ, wipeD, tgTup, tgCons, tgNil, Bool.and_true]
        refine ⟨rfl, drawn2 hb (by decide) (by decide) fun n n0 n1 => ⟨.inl rfl, by omega, by omega, lc_any (I := fun _ d => ∃ i : Int, d = .int i ∧ 0 ≤ i ∧ i < 256) _ _ (fun x _ K q => ?_) (by rw [rng_len]; exact Nat.le_of_lt (small1000 (by simp only [List.length_nil]; omega))) fun ds l1 l2 => ?_⟩⟩
        · try dsimp only [e_set, e_ret, e_ifS, e_drop, e_par, e_asg, e_retT, e_next, e_brk, e_cnt, e_c, e_fn, e_bin, e_bool, e_truth, e_not, e_and, e_or, e_andV, e_orV, e_notV, e_neg, e_if, e_nil, e_cons, e_tup, e_lst, e_sl, e_no, e_part, e_bi, e_call, e_lc, e_for, e_rng1, e_rng2, e_yes, e_nm, e_app, e_itL, e_itT, r_onB, r_onI, r_onTB, r_addI, r_addS, r_addT, r_addLvv, r_addLvf, r_addLvb, r_addLfv, r_addLff, r_addLfb, r_addLbv, r_addLbf, r_addLbb, r_intT, r_intP, r_int, r_mulI, r_mulT, r_mulLv, r_lenv, r_tupv, r_lisv, r_slv, r_ixv, r_mulLf, r_lenf, r_tupf, r_lisf, r_slf, r_ixf, r_mulLb, r_lenb, r_tupb, r_lisb, r_slb, r_ixb, r_lenT, r_lenS, r_tupT, r_lisT, r_slT, r_slS, r_ixT, r_intI, r_max, r_min, r_rel, r_isN, r_notN, r_isi, r_tgN, r_some, r_stV, r_stO, r_stFn, r_all, r_any, r_sum, f_data0, f_data1, f_data2, f_slot0, f_slot1, f_slot2, f_slot3, f_safe0, f_safe1, f_safe2, f_safe3, f_isD0, f_isD1, f_isD2, f_isD3, f_noBor0, f_noBor1, f_noBor2, f_noBor3, f_lfree0, f_lfree1, f_lfree2, f_lfree3, f_lfr0, f_lfr1, f_lfr2, f_lfr3, f_ret0, f_ret1, f_ret2, f_ret3, stFs, on1, on2, onList, List.map, List.all, List.length_cons, List.length_nil, List.set, List.getElem?_cons_zero, List.getElem?_cons_succ, wipeD, tgTup, tgCons, tgNil, Bool.and_true]
          refine ⟨rfl, drawn2 hb (by decide) (by decide) fun i1 a0 a1 => ⟨.inl rfl, ?_⟩⟩
          try dsimp only [e_set, e_ret, e_ifS, e_drop, e_par, e_asg, e_retT, e_next, e_brk, e_cnt, e_c, e_fn, e_bin, e_bool, e_truth, e_not, e_and, e_or, e_andV, e_orV, e_notV, e_neg, e_if, e_nil, e_cons, e_tup, e_lst, e_sl, e_no, e_part, e_bi, e_call, e_lc, e_for, e_rng1, e_rng2, e_yes, e_nm, e_app, e_itL, e_itT, r_onB, r_onI, r_onTB, r_addI, r_addS, r_addT, r_addLvv, r_addLvf, r_addLvb, r_addLfv, r_addLff, r_addLfb, r_addLbv, r_addLbf, r_addLbb, r_intT, r_intP, r_int, r_mulI, r_mulT, r_mulLv, r_lenv, r_tupv, r_lisv, r_slv, r_ixv, r_mulLf, r_lenf, r_tupf, r_lisf, r_slf, r_ixf, r_mulLb, r_lenb, r_tupb, r_lisb, r_slb, r_ixb, r_lenT, r_lenS, r_tupT, r_lisT, r_slT, r_slS, r_ixT, r_intI, r_max, r_min, r_rel, r_isN, r_notN, r_isi, r_tgN, r_some, r_stV, r_stO, r_stFn, r_all, r_any, r_sum, f_data0, f_data1, f_data2, f_slot0, f_slot1, f_slot2, f_slot3, f_safe0, f_safe1, f_safe2, f_safe3, f_isD0, f_isD1, f_isD2, f_isD3, f_noBor0, f_noBor1, f_noBor2, f_noBor3, f_lfree0, f_lfree1, f_lfree2, f_lfree3, f_lfr0, f_lfr1, f_lfr2, f_lfr3, f_ret0, f_ret1, f_ret2, f_ret3, stFs, on1, on2, onList, List.map, List.all, List.length_cons, List.length_nil, List.set, List.getElem?_cons_zero, List.getElem?_cons_succ, wipeD, tgTup, tgCons, tgNil, Bool.and_true]
          refine ⟨rfl, drawn2 hb (by decide) (by decide) fun i2 b0 b1 => ⟨.inl rfl, ?_⟩⟩
          try dsimp only [e_set, e_ret, e_ifS, e_drop, e_par, e_asg, e_retT, e_next, e_brk, e_cnt, e_c, e_fn, e_bin, e_bool, e_truth, e_not, e_and, e_or, e_andV, e_orV, e_notV, e_neg, e_if, e_nil, e_cons, e_tup, e_lst, e_sl, e_no, e_part, e_bi, e_call, e_lc, e_for, e_rng1, e_rng2, e_yes, e_nm, e_app, e_itL, e_itT, r_onB, r_onI, r_onTB, r_addI, r_addS, r_addT, r_addLvv, r_addLvf, r_addLvb, r_addLfv, r_addLff, r_addLfb, r_addLbv, r_addLbf, r_addLbb, r_intT, r_intP, r_int, r_mulI, r_mulT, r_mulLv, r_lenv, r_tupv, r_lisv, r_slv, r_ixv, r_mulLf, r_lenf, r_tupf, r_lisf, r_slf, r_ixf, r_mulLb, r_lenb, r_tupb, r_lisb, r_slb, r_ixb, r_lenT, r_lenS, r_tupT, r_lisT, r_slT, r_slS, r_ixT, r_intI, r_max, r_min, r_rel, r_isN, r_notN, r_isi, r_tgN, r_some, r_stV, r_stO, r_stFn, r_all, r_any, r_sum, f_data0, f_data1, f_data2, f_slot0, f_slot1, f_slot2, f_slot3, f_safe0, f_safe1, f_safe2, f_safe3, f_isD0, f_isD1, f_isD2, f_isD3, f_noBor0, f_noBor1, f_noBor2, f_noBor3, f_lfree0, f_lfree1, f_lfree2, f_lfree3, f_lfr0, f_lfr1, f_lfr2, f_lfr3, f_ret0, f_ret1, f_ret2, f_ret3, stFs, on1, on2, onList, List.map, List.all, List.length_cons, List.length_nil, List.set, List.getElem?_cons_zero, List.getElem?_cons_succ, wipeD, tgTup, tgCons, tgNil, Bool.and_true]
          refine ⟨rfl, szl, ?_⟩
          have hr : r = 0 ∨ r = 1 ∨ r = 2 := by omega
          rcases hr with rfl | rfl | rfl
          · exact q _ ⟨i1, rfl, a0, a1⟩
          · exact q _ ⟨255, rfl, by decide, by decide⟩
          · exact q _ ⟨i2, rfl, b0, by omega⟩
        · obtain ⟨ms, rfl, hm⟩ := ints_of (I := fun i => 0 ≤ i ∧ i < 256) fun d hd => (l2 d hd).elim fun _ h => h.2
          rw [List.length_map, rng_len] at l1
          exact k _ _ ⟨rfl, ms, hm, by omega, rfl⟩
      rintro _ g3 ⟨rfl, d0, hd0, hl0, rfl⟩
      refine seq_ok (fun ρ' g3 => g'' = g3 ∧ ∃ d : List Int, Byt d ∧ d.length ≤ 434 ∧ ρ' = Sl (.fn (.ref g.a)) (.fn (.ref b)) (.val (.int t)) (.val (.int r)) (.val (ti d)) s5 s6 s7 s8 s9 s10 s11 s12 s13) (fun E3 _ _ _ _ k => ?_) ?_
      · try dsimp only [e_set, e_ret, e_ifS, e_drop, e_par, e_asg, e_retT, e_next, e_brk, e_cnt, e_c, e_fn, e_bin, e_bool, e_truth, e_not, e_and, e_or, e_andV, e_orV, e_notV, e_neg, e_if, e_nil, e_cons, e_tup, e_lst, e_sl, e_no, e_part, e_bi, e_call, e_lc, e_for, e_rng1, e_rng2, e_yes, e_nm, e_app, e_itL, e_itT, r_onB, r_onI, r_onTB, r_addI, r_addS, r_addT, r_addLvv, r_addLvf, r_addLvb, r_addLfv, r_addLff, r_addLfb, r_addLbv, r_addLbf, r_addLbb, r_intT, r_intP, r_int, r_mulI, r_mulT, r_mulLv, r_lenv, r_tupv, r_lisv, r_slv, r_ixv, r_mulLf, r_lenf, r_tupf, r_lisf, r_slf, r_ixf, r_mulLb, r_lenb, r_tupb, r_lisb, r_slb, r_ixb, r_lenT, r_lenS, r_tupT, r_lisT, r_slT, r_slS, r_ixT, r_intI, r_max, r_min, r_rel, r_isN, r_notN, r_isi, r_tgN, r_some, r_stV, r_stO, r_stFn, r_all, r_any, r_sum, f_data0, f_data1, f_data2, f_slot0, f_slot1, f_slot2, f_slot3, f_safe0, f_safe1, f_safe2, f_safe3, f_isD0, f_isD1, f_isD2, f_isD3, f_noBor0, f_noBor1, f_noBor2, f_noBor3, f_lfree0, f_lfree1, f_lfree2, f_lfree3, f_lfr0, f_lfr1, f_lfr2, f_lfr3, f_ret0, f_ret1, f_ret2, f_ret3, stFs, on1, on2, onList, List.map, List.all, List.length_cons, List.length_nil, List.set, List.getElem?_cons_zero, List.getElem?_cons_succ, wipeD, tgTup, tgCons, tgNil, Bool.and_true]
        refine ⟨rfl, rfl, shaped_int _, shaped_int _, ite_ok (fun _ => ?_) fun _ => k _ _ ⟨rfl, d0, hd0, by omega, rfl⟩⟩
        try dsimp only [e_set, e_ret, e_ifS, e_drop, e_par, e_asg, e_retT, e_next, e_brk, e_cnt, e_c, e_fn, e_bin, e_bool, e_truth, e_not, e_and, e_or, e_andV, e_orV, e_notV, e_neg, e_if, e_nil, e_cons, e_tup, e_lst, e_sl, e_no, e_part, e_bi, e_call, e_lc, e_for, e_rng1, e_rng2, e_yes, e_nm, e_app, e_itL, e_itT, r_onB, r_onI, r_onTB, r_addI, r_addS, r_addT, r_addLvv, r_addLvf, r_addLvb, r_addLfv, r_addLff, r_addLfb, r_addLbv, r_addLbf, r_addLbb, r_intT, r_intP, r_int, r_mulI, r_mulT, r_mulLv, r_lenv, r_tupv, r_lisv, r_slv, r_ixv, r_mulLf, r_lenf, r_tupf, r_lisf, r_slf, r_ixf, r_mulLb, r_lenb, r_tupb, r_lisb, r_slb, r_ixb, r_lenT, r_lenS, r_tupT, r_lisT, r_slT, r_slS, r_ixT, r_intI, r_max, r_min, r_rel, r_isN, r_notN, r_isi, r_tgN, r_some, r_stV, r_stO, r_stFn, r_all, r_any, r_sum, f_data0, f_data1, f_data2, f_slot0, f_slot1, f_slot2, f_slot3, f_safe0, f_safe1, f_safe2, f_safe3, f_isD0, f_isD1, f_isD2, f_isD3, f_noBor0, f_noBor1, f_noBor2, f_noBor3, f_lfree0, f_lfree1, f_lfree2, f_lfree3, f_lfr0, f_lfr1, f_lfr2, f_lfr3, f_ret0, f_ret1, f_ret2, f_ret3, stFs, on1, on2, onList, List.map, List.all, List.length_cons, List.length_nil, List.set, List.getElem?_cons_zero, List.getElem?_cons_succ, wipeD, tgTup, tgCons, tgNil, Bool.and_true]
        refine ⟨rfl, drawn2 hb (by decide) (by decide) fun j j0 j1 => ⟨.inl rfl, ?_⟩⟩
        try dsimp only [e_set, e_ret, e_ifS, e_drop, e_par, e_asg, e_retT, e_next, e_brk, e_cnt, e_c, e_fn, e_bin, e_bool, e_truth, e_not, e_and, e_or, e_andV, e_orV, e_notV, e_neg, e_if, e_nil, e_cons, e_tup, e_lst, e_sl, e_no, e_part, e_bi, e_call, e_lc, e_for, e_rng1, e_rng2, e_yes, e_nm, e_app, e_itL, e_itT, r_onB, r_onI, r_onTB, r_addI, r_addS, r_addT, r_addLvv, r_addLvf, r_addLvb, r_addLfv, r_addLff, r_addLfb, r_addLbv, r_addLbf, r_addLbb, r_intT, r_intP, r_int, r_mulI, r_mulT, r_mulLv, r_lenv, r_tupv, r_lisv, r_slv, r_ixv, r_mulLf, r_lenf, r_tupf, r_lisf, r_slf, r_ixf, r_mulLb, r_lenb, r_tupb, r_lisb, r_slb, r_ixb, r_lenT, r_lenS, r_tupT, r_lisT, r_slT, r_slS, r_ixT, r_intI, r_max, r_min, r_rel, r_isN, r_notN, r_isi, r_tgN, r_some, r_stV, r_stO, r_stFn, r_all, r_any, r_sum, f_data0, f_data1, f_data2, f_slot0, f_slot1, f_slot2, f_slot3, f_safe0, f_safe1, f_safe2, f_safe3, f_isD0, f_isD1, f_isD2, f_isD3, f_noBor0, f_noBor1, f_noBor2, f_noBor3, f_lfree0, f_lfree1, f_lfree2, f_lfree3, f_lfr0, f_lfr1, f_lfr2, f_lfr3, f_ret0, f_ret1, f_ret2, f_ret3, stFs, on1, on2, onList, List.map, List.all, List.length_cons, List.length_nil, List.set, List.getElem?_cons_zero, List.getElem?_cons_succ, wipeD, tgTup, tgCons, tgNil, Bool.and_true]
        refine ⟨cmul (by decide) (by omega), by omega, by omega, by rw [List.length_map]; omega, .inr (by omega), ?_⟩
        refine k _ _ ⟨rfl, (List.replicate (1 + 30 * j).toNat d0).flatten, fun x hx => hd0 x (flat_mem hx), ?_, by rw [flat_map]⟩
        rw [flat_len]
        have : (1 + 30 * j).toNat ≤ 31 := by omega
        calc _ ≤ 31 * d0.length := Nat.mul_le_mul_right _ this
          _ ≤ 434 := by omega
      clear hd0 hl0
      rintro _ g3 ⟨rfl, d, hd, hl, rfl⟩
      obtain ⟨W, hW⟩ : ∃ W, W = d ++ lfour (lchk d) := ⟨_, rfl⟩
      have hC := lchk_bd d
      have hf : lfour (lchk d) = four (chk d) := by rw [chk_eq, four_lfour hC.1 hC.2]
      have hW2 : W = d ++ four (chk d) := by rw [hW, hf]
      have hWl : W.length = d.length + 4 := by rw [hW2, List.length_append]; rfl
      have hWb : Byt W := fun z hz => by
        rw [hW2] at hz
        exact (List.mem_append.mp hz).elim (hd z) (four_byt _ z)
      have hWo : opn W = .ok d := by rw [hW2]; exact opn_sealed d
      have hc4 : chk d = of4L (four (chk d)) := (of4_four (chk_bd d).1 (chk_bd d).2).symm
      refine seq_to (Sl (.fn (.ref g.a)) (.fn (.ref b)) (.val (.int t)) (.val (.int r)) (.val (ti d)) (.val (.int (lchk d))) (.val (ti W)) s7 s8 s9 s10 s11 s12 s13) g'' (fun E3 _ _ _ _ k => ?_) ?_
      · try dsimp only [e_set, e_ret, e_ifS, e_drop, e_par, e_asg, e_retT, e_next, e_brk, e_cnt, e_c, e_fn, e_bin, e_bool, e_truth, e_not, e_and, e_or, e_andV, e_orV, e_notV, e_neg, e_if, e_nil, e_cons, e_tup, e_lst, e_sl, e_no, e_part, e_bi, e_call, e_lc, e_for, e_rng1, e_rng2, e_yes, e_nm, e_app, e_itL, e_itT, r_onB, r_onI, r_onTB, r_addI, r_addS, r_addT, r_addLvv, r_addLvf, r_addLvb, r_addLfv, r_addLff, r_addLfb, r_addLbv, r_addLbf, r_addLbb, r_intT, r_intP, r_int, r_mulI, r_mulT, r_mulLv, r_lenv, r_tupv, r_lisv, r_slv, r_ixv, r_mulLf, r_lenf, r_tupf, r_lisf, r_slf, r_ixf, r_mulLb, r_lenb, r_tupb, r_lisb, r_slb, r_ixb, r_lenT, r_lenS, r_tupT, r_lisT, r_slT, r_slS, r_ixT, r_intI, r_max, r_min, r_rel, r_isN, r_notN, r_isi, r_tgN, r_some, r_stV, r_stO, r_stFn, r_all, r_any, r_sum, f_data0, f_data1, f_data2, f_slot0, f_slot1, f_slot2, f_slot3, f_safe0, f_safe1, f_safe2, f_safe3, f_isD0, f_isD1, f_isD2, f_isD3, f_noBor0, f_noBor1, f_noBor2, f_noBor3, f_lfree0, f_lfree1, f_lfree2, f_lfree3, f_lfr0, f_lfr1, f_lfr2, f_lfr3, f_ret0, f_ret1, f_ret2, f_ret3, stFs, on1, on2, onList, List.map, List.all, List.length_cons, List.length_nil, List.set, List.getElem?_cons_zero, List.getElem?_cons_succ, wipeD, tgTup, tgCons, tgNil, Bool.and_true]
        refine ⟨rfl, d, rfl, by omega, hd, .inl rfl, ?_⟩
        try dsimp only [e_set, e_ret, e_ifS, e_drop, e_par, e_asg, e_retT, e_next, e_brk, e_cnt, e_c, e_fn, e_bin, e_bool, e_truth, e_not, e_and, e_or, e_andV, e_orV, e_notV, e_neg, e_if, e_nil, e_cons, e_tup, e_lst, e_sl, e_no, e_part, e_bi, e_call, e_lc, e_for, e_rng1, e_rng2, e_yes, e_nm, e_app, e_itL, e_itT, r_onB, r_onI, r_onTB, r_addI, r_addS, r_addT, r_addLvv, r_addLvf, r_addLvb, r_addLfv, r_addLff, r_addLfb, r_addLbv, r_addLbf, r_addLbb, r_intT, r_intP, r_int, r_mulI, r_mulT, r_mulLv, r_lenv, r_tupv, r_lisv, r_slv, r_ixv, r_mulLf, r_lenf, r_tupf, r_lisf, r_slf, r_ixf, r_mulLb, r_lenb, r_tupb, r_lisb, r_slb, r_ixb, r_lenT, r_lenS, r_tupT, r_lisT, r_slT, r_slS, r_ixT, r_intI, r_max, r_min, r_rel, r_isN, r_notN, r_isi, r_tgN, r_some, r_stV, r_stO, r_stFn, r_all, r_any, r_sum, f_data0, f_data1, f_data2, f_slot0, f_slot1, f_slot2, f_slot3, f_safe0, f_safe1, f_safe2, f_safe3, f_isD0, f_isD1, f_isD2, f_isD3, f_noBor0, f_noBor1, f_noBor2, f_noBor3, f_lfree0, f_lfree1, f_lfree2, f_lfree3, f_lfr0, f_lfr1, f_lfr2, f_lfr3, f_ret0, f_ret1, f_ret2, f_ret3, stFs, on1, on2, onList, List.map, List.all, List.length_cons, List.length_nil, List.set, List.getElem?_cons_zero, List.getElem?_cons_succ, wipeD, tgTup, tgCons, tgNil, Bool.and_true]
        refine ⟨rfl, d, rfl, by omega, hd, .inl rfl, ?_⟩
        try dsimp only [e_set, e_ret, e_ifS, e_drop, e_par, e_asg, e_retT, e_next, e_brk, e_cnt, e_c, e_fn, e_bin, e_bool, e_truth, e_not, e_and, e_or, e_andV, e_orV, e_notV, e_neg, e_if, e_nil, e_cons, e_tup, e_lst, e_sl, e_no, e_part, e_bi, e_call, e_lc, e_for, e_rng1, e_rng2, e_yes, e_nm, e_app, e_itL, e_itT, r_onB, r_onI, r_onTB, r_addI, r_addS, r_addT, r_addLvv, r_addLvf, r_addLvb, r_addLfv, r_addLff, r_addLfb, r_addLbv, r_addLbf, r_addLbb, r_intT, r_intP, r_int, r_mulI, r_mulT, r_mulLv, r_lenv, r_tupv, r_lisv, r_slv, r_ixv, r_mulLf, r_lenf, r_tupf, r_lisf, r_slf, r_ixf, r_mulLb, r_lenb, r_tupb, r_lisb, r_slb, r_ixb, r_lenT, r_lenS, r_tupT, r_lisT, r_slT, r_slS, r_ixT, r_intI, r_max, r_min, r_rel, r_isN, r_notN, r_isi, r_tgN, r_some, r_stV, r_stO, r_stFn, r_all, r_any, r_sum, f_data0, f_data1, f_data2, f_slot0, f_slot1, f_slot2, f_slot3, f_safe0, f_safe1, f_safe2, f_safe3, f_isD0, f_isD1, f_isD2, f_isD3, f_noBor0, f_noBor1, f_noBor2, f_noBor3, f_lfree0, f_lfree1, f_lfree2, f_lfree3, f_lfr0, f_lfr1, f_lfr2, f_lfr3, f_ret0, f_ret1, f_ret2, f_ret3, stFs, on1, on2, onList, List.map, List.all, List.length_cons, List.length_nil, List.set, List.getElem?_cons_zero, List.getElem?_cons_succ, wipeD, tgTup, tgCons, tgNil, Bool.and_true]
        rw [← hW]
        refine ⟨by rw [lf_ti]; rfl, k⟩
      refine seq_pass (fun R => ev_same (n := 3) (da := .tuple [.int (chk d), ti (d ++ four (chk d)), ti (four (lchk d)), .int (of4L (lfour (lchk d)))]) (db := .tuple [.int (lchk d), ti W, ti (lfour (lchk d)), .int (lchk d)]) (fun K q => ?_) (fun K q => ?_) ?_ ?_ (by decide)) ?_
      · try dsimp only [e_set, e_ret, e_ifS, e_drop, e_par, e_asg, e_retT, e_next, e_brk, e_cnt, e_c, e_fn, e_bin, e_bool, e_truth, e_not, e_and, e_or, e_andV, e_orV, e_notV, e_neg, e_if, e_nil, e_cons, e_tup, e_lst, e_sl, e_no, e_part, e_bi, e_call, e_lc, e_for, e_rng1, e_rng2, e_yes, e_nm, e_app, e_itL, e_itT, r_onB, r_onI, r_onTB, r_addI, r_addS, r_addT, r_addLvv, r_addLvf, r_addLvb, r_addLfv, r_addLff, r_addLfb, r_addLbv, r_addLbf, r_addLbb, r_intT, r_intP, r_int, r_mulI, r_mulT, r_mulLv, r_lenv, r_tupv, r_lisv, r_slv, r_ixv, r_mulLf, r_lenf, r_tupf, r_lisf, r_slf, r_ixf, r_mulLb, r_lenb, r_tupb, r_lisb, r_slb, r_ixb, r_lenT, r_lenS, r_tupT, r_lisT, r_slT, r_slS, r_ixT, r_intI, r_max, r_min, r_rel, r_isN, r_notN, r_isi, r_tgN, r_some, r_stV, r_stO, r_stFn, r_all, r_any, r_sum, f_data0, f_data1, f_data2, f_slot0, f_slot1, f_slot2, f_slot3, f_safe0, f_safe1, f_safe2, f_safe3, f_isD0, f_isD1, f_isD2, f_isD3, f_noBor0, f_noBor1, f_noBor2, f_noBor3, f_lfree0, f_lfree1, f_lfree2, f_lfree3, f_lfr0, f_lfr1, f_lfr2, f_lfr3, f_ret0, f_ret1, f_ret2, f_ret3, stFs, on1, on2, onList, List.map, List.all, List.length_cons, List.length_nil, List.set, List.getElem?_cons_zero, List.getElem?_cons_succ, wipeD, tgTup, tgCons, tgNil, Bool.and_true]
        refine ⟨rfl, d, rfl, .inl rfl, rfl, d, rfl, by omega, .inl rfl, rfl, lchk d, rfl, .inl rfl, rfl, lchk d, rfl, hC.1, by omega, .inl rfl, rfl, _, _, _, _, .inr rfl, by omega, by omega, by omega, .inl rfl, rfl, szl, q⟩
      · try dsimp only [e_set, e_ret, e_ifS, e_drop, e_par, e_asg, e_retT, e_next, e_brk, e_cnt, e_c, e_fn, e_bin, e_bool, e_truth, e_not, e_and, e_or, e_andV, e_orV, e_notV, e_neg, e_if, e_nil, e_cons, e_tup, e_lst, e_sl, e_no, e_part, e_bi, e_call, e_lc, e_for, e_rng1, e_rng2, e_yes, e_nm, e_app, e_itL, e_itT, r_onB, r_onI, r_onTB, r_addI, r_addS, r_addT, r_addLvv, r_addLvf, r_addLvb, r_addLfv, r_addLff, r_addLfb, r_addLbv, r_addLbf, r_addLbb, r_intT, r_intP, r_int, r_mulI, r_mulT, r_mulLv, r_lenv, r_tupv, r_lisv, r_slv, r_ixv, r_mulLf, r_lenf, r_tupf, r_lisf, r_slf, r_ixf, r_mulLb, r_lenb, r_tupb, r_lisb, r_slb, r_ixb, r_lenT, r_lenS, r_tupT, r_lisT, r_slT, r_slS, r_ixT, r_intI, r_max, r_min, r_rel, r_isN, r_notN, r_isi, r_tgN, r_some, r_stV, r_stO, r_stFn, r_all, r_any, r_sum, f_data0, f_data1, f_data2, f_slot0, f_slot1, f_slot2, f_slot3, f_safe0, f_safe1, f_safe2, f_safe3, f_isD0, f_isD1, f_isD2, f_isD3, f_noBor0, f_noBor1, f_noBor2, f_noBor3, f_lfree0, f_lfree1, f_lfree2, f_lfree3, f_lfr0, f_lfr1, f_lfr2, f_lfr3, f_ret0, f_ret1, f_ret2, f_ret3, stFs, on1, on2, onList, List.map, List.all, List.length_cons, List.length_nil, List.set, List.getElem?_cons_zero, List.getElem?_cons_succ, wipeD, tgTup, tgCons, tgNil, Bool.and_true]
        refine ⟨rfl, lchk d, rfl, hC.1, by omega, .inl rfl, rfl, szl, q⟩
      · rw [← hW2, ← four_lfour hC.1 hC.2, of4_four hC.1 hC.2, chk_eq]
      · refine gd_tup (by simp) fun x hx => ?_
        simp only [List.mem_cons, List.not_mem_nil, or_false] at hx
        rcases hx with rfl | rfl | rfl | rfl
        · exact gd_int
        · exact gd_ti (by rw [← hW2]; omega)
        · exact gd_ti (by rw [four_len]; omega)
        · exact gd_int
      refine seq_pass (fun R => ev_or_f (ev_same (n := 3) (da := toldD W) (db := .tuple [ti d, .none]) (fun K q => ?_) (fun K q => ?_) ?_ ?_ (by decide)) fun K q => ?_) ?_
      · try dsimp only [e_set, e_ret, e_ifS, e_drop, e_par, e_asg, e_retT, e_next, e_brk, e_cnt, e_c, e_fn, e_bin, e_bool, e_truth, e_not, e_and, e_or, e_andV, e_orV, e_notV, e_neg, e_if, e_nil, e_cons, e_tup, e_lst, e_sl, e_no, e_part, e_bi, e_call, e_lc, e_for, e_rng1, e_rng2, e_yes, e_nm, e_app, e_itL, e_itT, r_onB, r_onI, r_onTB, r_addI, r_addS, r_addT, r_addLvv, r_addLvf, r_addLvb, r_addLfv, r_addLff, r_addLfb, r_addLbv, r_addLbf, r_addLbb, r_intT, r_intP, r_int, r_mulI, r_mulT, r_mulLv, r_lenv, r_tupv, r_lisv, r_slv, r_ixv, r_mulLf, r_lenf, r_tupf, r_lisf, r_slf, r_ixf, r_mulLb, r_lenb, r_tupb, r_lisb, r_slb, r_ixb, r_lenT, r_lenS, r_tupT, r_lisT, r_slT, r_slS, r_ixT, r_intI, r_max, r_min, r_rel, r_isN, r_notN, r_isi, r_tgN, r_some, r_stV, r_stO, r_stFn, r_all, r_any, r_sum, f_data0, f_data1, f_data2, f_slot0, f_slot1, f_slot2, f_slot3, f_safe0, f_safe1, f_safe2, f_safe3, f_isD0, f_isD1, f_isD2, f_isD3, f_noBor0, f_noBor1, f_noBor2, f_noBor3, f_lfree0, f_lfree1, f_lfree2, f_lfree3, f_lfr0, f_lfr1, f_lfr2, f_lfr3, f_ret0, f_ret1, f_ret2, f_ret3, stFs, on1, on2, onList, List.map, List.all, List.length_cons, List.length_nil, List.set, List.getElem?_cons_zero, List.getElem?_cons_succ, wipeD, tgTup, tgCons, tgNil, Bool.and_true]
        exact ⟨rfl, W, rfl, by omega, hWb, .inl rfl, q⟩
      · try dsimp only [e_set, e_ret, e_ifS, e_drop, e_par, e_asg, e_retT, e_next, e_brk, e_cnt, e_c, e_fn, e_bin, e_bool, e_truth, e_not, e_and, e_or, e_andV, e_orV, e_notV, e_neg, e_if, e_nil, e_cons, e_tup, e_lst, e_sl, e_no, e_part, e_bi, e_call, e_lc, e_for, e_rng1, e_rng2, e_yes, e_nm, e_app, e_itL, e_itT, r_onB, r_onI, r_onTB, r_addI, r_addS, r_addT, r_addLvv, r_addLvf, r_addLvb, r_addLfv, r_addLff, r_addLfb, r_addLbv, r_addLbf, r_addLbb, r_intT, r_intP, r_int, r_mulI, r_mulT, r_mulLv, r_lenv, r_tupv, r_lisv, r_slv, r_ixv, r_mulLf, r_lenf, r_tupf, r_lisf, r_slf, r_ixf, r_mulLb, r_lenb, r_tupb, r_lisb, r_slb, r_ixb, r_lenT, r_lenS, r_tupT, r_lisT, r_slT, r_slS, r_ixT, r_intI, r_max, r_min, r_rel, r_isN, r_notN, r_isi, r_tgN, r_some, r_stV, r_stO, r_stFn, r_all, r_any, r_sum, f_data0, f_data1, f_data2, f_slot0, f_slot1, f_slot2, f_slot3, f_safe0, f_safe1, f_safe2, f_safe3, f_isD0, f_isD1, f_isD2, f_isD3, f_noBor0, f_noBor1, f_noBor2, f_noBor3, f_lfree0, f_lfree1, f_lfree2, f_lfree3, f_lfr0, f_lfr1, f_lfr2, f_lfr3, f_ret0, f_ret1, f_ret2, f_ret3, stFs, on1, on2, onList, List.map, List.all, List.length_cons, List.length_nil, List.set, List.getElem?_cons_zero, List.getElem?_cons_succ, wipeD, tgTup, tgCons, tgNil, Bool.and_true]
        exact ⟨rfl, szl, q⟩
      · unfold toldD
        rw [hWo]
      · unfold toldD
        rw [hWo]
        refine gd_tup (by simp) fun x hx => ?_
        simp only [List.mem_cons, List.not_mem_nil, or_false] at hx
        rcases hx with rfl | rfl
        · exact gd_ti (by omega)
        · exact gd_non
      · refine ite_yes (decide_eq_true hC.1) (show K (!decide (lchk d ≤ 4294967295)) g'' from ?_)
        rw [decide_eq_true (by omega)]
        exact q
      have hts : ∀ H : List Int, opn H = .error (d.length : Nat) → toldD H = .tuple [.none, .int (d.length : Nat)] := fun H h => by unfold toldD; rw [h]
      have elen : ∀ xs : List Int, ((xs.map PyData.int).length : Int) = xs.length := fun xs => by rw [List.length_map]
      have small : ∀ xs : List Int, xs.length ≤ 900 → (xs.map PyData.int).length ≤ 900 := fun xs h => by rw [List.length_map]; exact h
      have sz : ∀ n : Nat, n ≤ 2000 → n ≤ sizeLine := fun n h => by rw [sizeLine_eq]; omega
      -- one byte changed
      refine seq_ok (fun ρ' g3 => g'' = g3 ∧ ∃ s7 s8 s9 s10 s11 s12 s13, ρ' = Sl (.fn (.ref g.a)) (.fn (.ref b)) (.val (.int t)) (.val (.int r)) (.val (ti d)) (.val (.int (lchk d))) (.val (ti W)) s7 s8 s9 s10 s11 s12 s13) (fun E3 i1 i2 i3 i4 k => ?_) ?_
      · try dsimp only [e_set, e_ret, e_ifS, e_drop, e_par, e_asg, e_retT, e_next, e_brk, e_cnt, e_c, e_fn, e_bin, e_bool, e_truth, e_not, e_and, e_or, e_andV, e_orV, e_notV, e_neg, e_if, e_nil, e_cons, e_tup, e_lst, e_sl, e_no, e_part, e_bi, e_call, e_lc, e_for, e_rng1, e_rng2, e_yes, e_nm, e_app, e_itL, e_itT, r_onB, r_onI, r_onTB, r_addI, r_addS, r_addT, r_addLvv, r_addLvf, r_addLvb, r_addLfv, r_addLff, r_addLfb, r_addLbv, r_addLbf, r_addLbb, r_intT, r_intP, r_int, r_mulI, r_mulT, r_mulLv, r_lenv, r_tupv, r_lisv, r_slv, r_ixv, r_mulLf, r_lenf, r_tupf, r_lisf, r_slf, r_ixf, r_mulLb, r_lenb, r_tupb, r_lisb, r_slb, r_ixb, r_lenT, r_lenS, r_tupT, r_lisT, r_slT, r_slS, r_ixT, r_intI, r_max, r_min, r_rel, r_isN, r_notN, r_isi, r_tgN, r_some, r_stV, r_stO, r_stFn, r_all, r_any, r_sum, f_data0, f_data1, f_data2, f_slot0, f_slot1, f_slot2, f_slot3, f_safe0, f_safe1, f_safe2, f_safe3, f_isD0, f_isD1, f_isD2, f_isD3, f_noBor0, f_noBor1, f_noBor2, f_noBor3, f_lfree0, f_lfree1, f_lfree2, f_lfree3, f_lfr0, f_lfr1, f_lfr2, f_lfr3, f_ret0, f_ret1, f_ret2, f_ret3, stFs, on1, on2, onList, List.map, List.all, List.length_cons, List.length_nil, List.set, List.getElem?_cons_zero, List.getElem?_cons_succ, wipeD, tgTup, tgCons, tgNil, Bool.and_true]
        refine ⟨by decide, by decide, rfl, for_ok (fun items ρ g3 => g'' = g3 ∧ ∃ s7 s8 s9 s10 s11 s12 s13, ρ = Sl (.fn (.ref g.a)) (.fn (.ref b)) (.val (.int t)) (.val (.int r)) (.val (ti d)) (.val (.int (lchk d))) (.val (ti W)) s7 s8 s9 s10 s11 s12 s13) ?_ _ _ _ ⟨rfl, _, _, _, _, _, _, _, rfl⟩ fun ρ g3 h => k _ _ h⟩
        rintro x xs ρ g3 E4 ⟨rfl, s7, s8, s9, s10, s11, s12, s13, rfl⟩ _ _ _ nx2 _
        refine seq_ok (fun ρ' g3 => g'' = g3 ∧ ∃ (kk : Nat) (y : Int), kk < W.length ∧ 0 ≤ y ∧ y < 256 ∧ ρ' = Sl (.fn (.ref g.a)) (.fn (.ref b)) (.val (.int t)) (.val (.int r)) (.val (ti d)) (.val (.int (lchk d))) (.val (ti W)) (.val x) (.val (.int kk)) (.val (.int y)) s10 s11 s12 s13) (fun E5 _ _ _ _ k5 => ?_) ?_
        · try dsimp only [e_set, e_ret, e_ifS, e_drop, e_par, e_asg, e_retT, e_next, e_brk, e_cnt, e_c, e_fn, e_bin, e_bool, e_truth, e_not, e_and, e_or, e_andV, e_orV, e_notV, e_neg, e_if, e_nil, e_cons, e_tup, e_lst, e_sl, e_no, e_part, e_bi, e_call, e_lc, e_for, e_rng1, e_rng2, e_yes, e_nm, e_app, e_itL, e_itT, r_onB, r_onI, r_onTB, r_addI, r_addS, r_addT, r_addLvv, r_addLvf, r_addLvb, r_addLfv, r_addLff, r_addLfb, r_addLbv, r_addLbf, r_addLbb, r_intT, r_intP, r_int, r_mulI, r_mulT, r_mulLv, r_lenv, r_tupv, r_lisv, r_slv, r_ixv, r_mulLf, r_lenf, r_tupf, r_lisf, r_slf, r_ixf, r_mulLb, r_lenb, r_tupb, r_lisb, r_slb, r_ixb, r_lenT, r_lenS, r_tupT, r_lisT, r_slT, r_slS, r_ixT, r_intI, r_max, r_min, r_rel, r_isN, r_notN, r_isi, r_tgN, r_some, r_stV, r_stO, r_stFn, r_all, r_any, r_sum, f_data0, f_data1, f_data2, f_slot0, f_slot1, f_slot2, f_slot3, f_safe0, f_safe1, f_safe2, f_safe3, f_isD0, f_isD1, f_isD2, f_isD3, f_noBor0, f_noBor1, f_noBor2, f_noBor3, f_lfree0, f_lfree1, f_lfree2, f_lfree3, f_lfr0, f_lfr1, f_lfr2, f_lfr3, f_ret0, f_ret1, f_ret2, f_ret3, stFs, on1, on2, onList, List.map, List.all, List.length_cons, List.length_nil, List.set, List.getElem?_cons_zero, List.getElem?_cons_succ, wipeD, tgTup, tgCons, tgNil, Bool.and_true]
          rw [elen]
          refine ⟨rfl, drawn2 hb (by omega) (by omega) fun kk k0 k1 => ⟨.inl rfl, ?_⟩⟩
          try dsimp only [e_set, e_ret, e_ifS, e_drop, e_par, e_asg, e_retT, e_next, e_brk, e_cnt, e_c, e_fn, e_bin, e_bool, e_truth, e_not, e_and, e_or, e_andV, e_orV, e_notV, e_neg, e_if, e_nil, e_cons, e_tup, e_lst, e_sl, e_no, e_part, e_bi, e_call, e_lc, e_for, e_rng1, e_rng2, e_yes, e_nm, e_app, e_itL, e_itT, r_onB, r_onI, r_onTB, r_addI, r_addS, r_addT, r_addLvv, r_addLvf, r_addLvb, r_addLfv, r_addLff, r_addLfb, r_addLbv, r_addLbf, r_addLbb, r_intT, r_intP, r_int, r_mulI, r_mulT, r_mulLv, r_lenv, r_tupv, r_lisv, r_slv, r_ixv, r_mulLf, r_lenf, r_tupf, r_lisf, r_slf, r_ixf, r_mulLb, r_lenb, r_tupb, r_lisb, r_slb, r_ixb, r_lenT, r_lenS, r_tupT, r_lisT, r_slT, r_slS, r_ixT, r_intI, r_max, r_min, r_rel, r_isN, r_notN, r_isi, r_tgN, r_some, r_stV, r_stO, r_stFn, r_all, r_any, r_sum, f_data0, f_data1, f_data2, f_slot0, f_slot1, f_slot2, f_slot3, f_safe0, f_safe1, f_safe2, f_safe3, f_isD0, f_isD1, f_isD2, f_isD3, f_noBor0, f_noBor1, f_noBor2, f_noBor3, f_lfree0, f_lfree1, f_lfree2, f_lfree3, f_lfr0, f_lfr1, f_lfr2, f_lfr3, f_ret0, f_ret1, f_ret2, f_ret3, stFs, on1, on2, onList, List.map, List.all, List.length_cons, List.length_nil, List.set, List.getElem?_cons_zero, List.getElem?_cons_succ, wipeD, tgTup, tgCons, tgNil, Bool.and_true]
          refine ⟨rfl, drawn2 hb (by decide) (by decide) fun y y0 y1 => ⟨.inl rfl, ?_⟩⟩
          try dsimp only [e_set, e_ret, e_ifS, e_drop, e_par, e_asg, e_retT, e_next, e_brk, e_cnt, e_c, e_fn, e_bin, e_bool, e_truth, e_not, e_and, e_or, e_andV, e_orV, e_notV, e_neg, e_if, e_nil, e_cons, e_tup, e_lst, e_sl, e_no, e_part, e_bi, e_call, e_lc, e_for, e_rng1, e_rng2, e_yes, e_nm, e_app, e_itL, e_itT, r_onB, r_onI, r_onTB, r_addI, r_addS, r_addT, r_addLvv, r_addLvf, r_addLvb, r_addLfv, r_addLff, r_addLfb, r_addLbv, r_addLbf, r_addLbb, r_intT, r_intP, r_int, r_mulI, r_mulT, r_mulLv, r_lenv, r_tupv, r_lisv, r_slv, r_ixv, r_mulLf, r_lenf, r_tupf, r_lisf, r_slf, r_ixf, r_mulLb, r_lenb, r_tupb, r_lisb, r_slb, r_ixb, r_lenT, r_lenS, r_tupT, r_lisT, r_slT, r_slS, r_ixT, r_intI, r_max, r_min, r_rel, r_isN, r_notN, r_isi, r_tgN, r_some, r_stV, r_stO, r_stFn, r_all, r_any, r_sum, f_data0, f_data1, f_data2, f_slot0, f_slot1, f_slot2, f_slot3, f_safe0, f_safe1, f_safe2, f_safe3, f_isD0, f_isD1, f_isD2, f_isD3, f_noBor0, f_noBor1, f_noBor2, f_noBor3, f_lfree0, f_lfree1, f_lfree2, f_lfree3, f_lfr0, f_lfr1, f_lfr2, f_lfr3, f_ret0, f_ret1, f_ret2, f_ret3, stFs, on1, on2, onList, List.map, List.all, List.length_cons, List.length_nil, List.set, List.getElem?_cons_zero, List.getElem?_cons_succ, wipeD, tgTup, tgCons, tgNil, Bool.and_true]
          refine ⟨rfl, k5 _ _ ⟨rfl, kk.toNat, y, by omega, y0, y1, by rw [show ((kk.toNat : Nat) : Int) = kk by omega]⟩⟩
        rintro _ g3 ⟨rfl, kk, y, hk, y0, y1, rfl⟩
        obtain ⟨Ht, hHt⟩ : ∃ Ht, Ht = W.take kk ++ [y] ++ W.drop (kk + 1) := ⟨_, rfl⟩
        refine seq_to (Sl (.fn (.ref g.a)) (.fn (.ref b)) (.val (.int t)) (.val (.int r)) (.val (ti d)) (.val (.int (lchk d))) (.val (ti W)) (.val x) (.val (.int kk)) (.val (.int y)) (.val (ti Ht)) s11 s12 s13) g'' (fun E5 _ _ _ _ k5 => ?_) ?_
        · try dsimp only [e_set, e_ret, e_ifS, e_drop, e_par, e_asg, e_retT, e_next, e_brk, e_cnt, e_c, e_fn, e_bin, e_bool, e_truth, e_not, e_and, e_or, e_andV, e_orV, e_notV, e_neg, e_if, e_nil, e_cons, e_tup, e_lst, e_sl, e_no, e_part, e_bi, e_call, e_lc, e_for, e_rng1, e_rng2, e_yes, e_nm, e_app, e_itL, e_itT, r_onB, r_onI, r_onTB, r_addI, r_addS, r_addT, r_addLvv, r_addLvf, r_addLvb, r_addLfv, r_addLff, r_addLfb, r_addLbv, r_addLbf, r_addLbb, r_intT, r_intP, r_int, r_mulI, r_mulT, r_mulLv, r_lenv, r_tupv, r_lisv, r_slv, r_ixv, r_mulLf, r_lenf, r_tupf, r_lisf, r_slf, r_ixf, r_mulLb, r_lenb, r_tupb, r_lisb, r_slb, r_ixb, r_lenT, r_lenS, r_tupT, r_lisT, r_slT, r_slS, r_ixT, r_intI, r_max, r_min, r_rel, r_isN, r_notN, r_isi, r_tgN, r_some, r_stV, r_stO, r_stFn, r_all, r_any, r_sum, f_data0, f_data1, f_data2, f_slot0, f_slot1, f_slot2, f_slot3, f_safe0, f_safe1, f_safe2, f_safe3, f_isD0, f_isD1, f_isD2, f_isD3, f_noBor0, f_noBor1, f_noBor2, f_noBor3, f_lfree0, f_lfree1, f_lfree2, f_lfree3, f_lfr0, f_lfr1, f_lfr2, f_lfr3, f_ret0, f_ret1, f_ret2, f_ret3, stFs, on1, on2, onList, List.map, List.all, List.length_cons, List.length_nil, List.set, List.getElem?_cons_zero, List.getElem?_cons_succ, wipeD, tgTup, tgCons, tgNil, Bool.and_true]
          have e1 : cutL (W.map PyData.int) none (some (kk : Int)) = (W.take kk).map PyData.int := by rw [cutL_map, cutL_take _ (by omega)]; rfl
          have e2 : cutL (W.map PyData.int) (some ((kk : Int) + 1)) none = (W.drop (kk + 1)).map PyData.int := by rw [cutL_map, cutL_drop _ (by omega)]; congr 2
          rw [e1, e2]
          refine ⟨rfl, szl, sz _ ?_, sz _ ?_, ?_⟩
          · rw [List.length_map, List.length_take]; omega
          · simp only [List.length_append, List.length_map, List.length_take, List.length_drop, List.length_cons, List.length_nil]; omega
          · have e3 : (W.take kk).map PyData.int ++ [PyData.int y] ++ (W.drop (kk + 1)).map PyData.int = Ht.map PyData.int := by rw [hHt, List.map_append, List.map_append]; rfl
            rw [e3]
            exact k5
        have hHl : Ht.length = W.length := by rw [hHt]; simp only [List.length_append, List.length_take, List.length_drop, List.length_cons, List.length_nil]; omega
        have hHb : Byt Ht := fun z hz => by
          rw [hHt] at hz
          simp only [List.mem_append, List.mem_cons, List.not_mem_nil, or_false] at hz
          rcases hz with (hz | rfl) | hz
          · exact hWb z (List.mem_of_mem_take hz)
          · exact ⟨y0, y1⟩
          · exact hWb z (List.mem_of_mem_drop hz)
        have hurt : Ht ≠ W → opn Ht = .error (d.length : Nat) ∧ (kk < d.length → chk (Ht.take d.length) ≠ chk d) := fun n => by
          rw [hHt, hW2] at n ⊢
          exact hurt_one hd (four_byt _) (four_len _) hc4 ⟨y0, y1⟩ (by rw [← hW2]; exact hk) n
        refine seq_pass (fun R => ev_and_f (b1 := !decide (Ht = W)) (fun K q => ?_) fun h => ?_) ?_
        · try dsimp only [e_set, e_ret, e_ifS, e_drop, e_par, e_asg, e_retT, e_next, e_brk, e_cnt, e_c, e_fn, e_bin, e_bool, e_truth, e_not, e_and, e_or, e_andV, e_orV, e_notV, e_neg, e_if, e_nil, e_cons, e_tup, e_lst, e_sl, e_no, e_part, e_bi, e_call, e_lc, e_for, e_rng1, e_rng2, e_yes, e_nm, e_app, e_itL, e_itT, r_onB, r_onI, r_onTB, r_addI, r_addS, r_addT, r_addLvv, r_addLvf, r_addLvb, r_addLfv, r_addLff, r_addLfb, r_addLbv, r_addLbf, r_addLbb, r_intT, r_intP, r_int, r_mulI, r_mulT, r_mulLv, r_lenv, r_tupv, r_lisv, r_slv, r_ixv, r_mulLf, r_lenf, r_tupf, r_lisf, r_slf, r_ixf, r_mulLb, r_lenb, r_tupb, r_lisb, r_slb, r_ixb, r_lenT, r_lenS, r_tupT, r_lisT, r_slT, r_slS, r_ixT, r_intI, r_max, r_min, r_rel, r_isN, r_notN, r_isi, r_tgN, r_some, r_stV, r_stO, r_stFn, r_all, r_any, r_sum, f_data0, f_data1, f_data2, f_slot0, f_slot1, f_slot2, f_slot3, f_safe0, f_safe1, f_safe2, f_safe3, f_isD0, f_isD1, f_isD2, f_isD3, f_noBor0, f_noBor1, f_noBor2, f_noBor3, f_lfree0, f_lfree1, f_lfree2, f_lfree3, f_lfr0, f_lfr1, f_lfr2, f_lfr3, f_ret0, f_ret1, f_ret2, f_ret3, stFs, on1, on2, onList, List.map, List.all, List.length_cons, List.length_nil, List.set, List.getElem?_cons_zero, List.getElem?_cons_succ, wipeD, tgTup, tgCons, tgNil, Bool.and_true]
          exact ne_ti q
        · have h : Ht ≠ W := by simpa using h
          refine ev_same (n := 3) (da := toldD Ht) (db := .tuple [.none, .int (d.length : Nat)]) (fun K q => ?_) (fun K q => ?_) (hts _ (hurt h).1) ?_ (by decide)
          · try dsimp only [e_set, e_ret, e_ifS, e_drop, e_par, e_asg, e_retT, e_next, e_brk, e_cnt, e_c, e_fn, e_bin, e_bool, e_truth, e_not, e_and, e_or, e_andV, e_orV, e_notV, e_neg, e_if, e_nil, e_cons, e_tup, e_lst, e_sl, e_no, e_part, e_bi, e_call, e_lc, e_for, e_rng1, e_rng2, e_yes, e_nm, e_app, e_itL, e_itT, r_onB, r_onI, r_onTB, r_addI, r_addS, r_addT, r_addLvv, r_addLvf, r_addLvb, r_addLfv, r_addLff, r_addLfb, r_addLbv, r_addLbf, r_addLbb, r_intT, r_intP, r_int, r_mulI, r_mulT, r_mulLv, r_lenv, r_tupv, r_lisv, r_slv, r_ixv, r_mulLf, r_lenf, r_tupf, r_lisf, r_slf, r_ixf, r_mulLb, r_lenb, r_tupb, r_lisb, r_slb, r_ixb, r_lenT, r_lenS, r_tupT, r_lisT, r_slT, r_slS, r_ixT, r_intI, r_max, r_min, r_rel, r_isN, r_notN, r_isi, r_tgN, r_some, r_stV, r_stO, r_stFn, r_all, r_any, r_sum, f_data0, f_data1, f_data2, f_slot0, f_slot1, f_slot2, f_slot3, f_safe0, f_safe1, f_safe2, f_safe3, f_isD0, f_isD1, f_isD2, f_isD3, f_noBor0, f_noBor1, f_noBor2, f_noBor3, f_lfree0, f_lfree1, f_lfree2, f_lfree3, f_lfr0, f_lfr1, f_lfr2, f_lfr3, f_ret0, f_ret1, f_ret2, f_ret3, stFs, on1, on2, onList, List.map, List.all, List.length_cons, List.length_nil, List.set, List.getElem?_cons_zero, List.getElem?_cons_succ, wipeD, tgTup, tgCons, tgNil, Bool.and_true]
            exact ⟨rfl, Ht, rfl, by omega, hHb, .inl rfl, q⟩
          · try dsimp only [e_set, e_ret, e_ifS, e_drop, e_par, e_asg, e_retT, e_next, e_brk, e_cnt, e_c, e_fn, e_bin, e_bool, e_truth, e_not, e_and, e_or, e_andV, e_orV, e_notV, e_neg, e_if, e_nil, e_cons, e_tup, e_lst, e_sl, e_no, e_part, e_bi, e_call, e_lc, e_for, e_rng1, e_rng2, e_yes, e_nm, e_app, e_itL, e_itT, r_onB, r_onI, r_onTB, r_addI, r_addS, r_addT, r_addLvv, r_addLvf, r_addLvb, r_addLfv, r_addLff, r_addLfb, r_addLbv, r_addLbf, r_addLbb, r_intT, r_intP, r_int, r_mulI, r_mulT, r_mulLv, r_lenv, r_tupv, r_lisv, r_slv, r_ixv, r_mulLf, r_lenf, r_tupf, r_lisf, r_slf, r_ixf, r_mulLb, r_lenb, r_tupb, r_lisb, r_slb, r_ixb, r_lenT, r_lenS, r_tupT, r_lisT, r_slT, r_slS, r_ixT, r_intI, r_max, r_min, r_rel, r_isN, r_notN, r_isi, r_tgN, r_some, r_stV, r_stO, r_stFn, r_all, r_any, r_sum, f_data0, f_data1, f_data2, f_slot0, f_slot1, f_slot2, f_slot3, f_safe0, f_safe1, f_safe2, f_safe3, f_isD0, f_isD1, f_isD2, f_isD3, f_noBor0, f_noBor1, f_noBor2, f_noBor3, f_lfree0, f_lfree1, f_lfree2, f_lfree3, f_lfr0, f_lfr1, f_lfr2, f_lfr3, f_ret0, f_ret1, f_ret2, f_ret3, stFs, on1, on2, onList, List.map, List.all, List.length_cons, List.length_nil, List.set, List.getElem?_cons_zero, List.getElem?_cons_succ, wipeD, tgTup, tgCons, tgNil, Bool.and_true]
            rw [elen]
            exact ⟨rfl, szl, q⟩
          · rw [hts _ (hurt h).1]
            refine gd_tup (by simp) fun x hx => ?_
            simp only [List.mem_cons, List.not_mem_nil, or_false] at hx
            rcases hx with rfl | rfl
            · exact gd_non
            · exact gd_int
        refine if_not (fun R => ev_and_f (b1 := decide (kk < d.length)) (fun K q => ?_) fun h1 => ev_and_f (b1 := !decide (Ht = W)) (fun K q => ?_) fun h2 => fun K q => ?_) (nx2 _ _ ⟨rfl, _, _, _, _, _, _, _, rfl⟩)
        · try dsimp only [e_set, e_ret, e_ifS, e_drop, e_par, e_asg, e_retT, e_next, e_brk, e_cnt, e_c, e_fn, e_bin, e_bool, e_truth, e_not, e_and, e_or, e_andV, e_orV, e_notV, e_neg, e_if, e_nil, e_cons, e_tup, e_lst, e_sl, e_no, e_part, e_bi, e_call, e_lc, e_for, e_rng1, e_rng2, e_yes, e_nm, e_app, e_itL, e_itT, r_onB, r_onI, r_onTB, r_addI, r_addS, r_addT, r_addLvv, r_addLvf, r_addLvb, r_addLfv, r_addLff, r_addLfb, r_addLbv, r_addLbf, r_addLbb, r_intT, r_intP, r_int, r_mulI, r_mulT, r_mulLv, r_lenv, r_tupv, r_lisv, r_slv, r_ixv, r_mulLf, r_lenf, r_tupf, r_lisf, r_slf, r_ixf, r_mulLb, r_lenb, r_tupb, r_lisb, r_slb, r_ixb, r_lenT, r_lenS, r_tupT, r_lisT, r_slT, r_slS, r_ixT, r_intI, r_max, r_min, r_rel, r_isN, r_notN, r_isi, r_tgN, r_some, r_stV, r_stO, r_stFn, r_all, r_any, r_sum, f_data0, f_data1, f_data2, f_slot0, f_slot1, f_slot2, f_slot3, f_safe0, f_safe1, f_safe2, f_safe3, f_isD0, f_isD1, f_isD2, f_isD3, f_noBor0, f_noBor1, f_noBor2, f_noBor3, f_lfree0, f_lfree1, f_lfree2, f_lfree3, f_lfr0, f_lfr1, f_lfr2, f_lfr3, f_ret0, f_ret1, f_ret2, f_ret3, stFs, on1, on2, onList, List.map, List.all, List.length_cons, List.length_nil, List.set, List.getElem?_cons_zero, List.getElem?_cons_succ, wipeD, tgTup, tgCons, tgNil, Bool.and_true]
          rw [elen, show decide ((kk : Int) < (d.length : Int)) = decide (kk < d.length) from decide_eq_decide.mpr (by omega)]
          exact q
        · try dsimp only [e_set, e_ret, e_ifS, e_drop, e_par, e_asg, e_retT, e_next, e_brk, e_cnt, e_c, e_fn, e_bin, e_bool, e_truth, e_not, e_and, e_or, e_andV, e_orV, e_notV, e_neg, e_if, e_nil, e_cons, e_tup, e_lst, e_sl, e_no, e_part, e_bi, e_call, e_lc, e_for, e_rng1, e_rng2, e_yes, e_nm, e_app, e_itL, e_itT, r_onB, r_onI, r_onTB, r_addI, r_addS, r_addT, r_addLvv, r_addLvf, r_addLvb, r_addLfv, r_addLff, r_addLfb, r_addLbv, r_addLbf, r_addLbb, r_intT, r_intP, r_int, r_mulI, r_mulT, r_mulLv, r_lenv, r_tupv, r_lisv, r_slv, r_ixv, r_mulLf, r_lenf, r_tupf, r_lisf, r_slf, r_ixf, r_mulLb, r_lenb, r_tupb, r_lisb, r_slb, r_ixb, r_lenT, r_lenS, r_tupT, r_lisT, r_slT, r_slS, r_ixT, r_intI, r_max, r_min, r_rel, r_isN, r_notN, r_isi, r_tgN, r_some, r_stV, r_stO, r_stFn, r_all, r_any, r_sum, f_data0, f_data1, f_data2, f_slot0, f_slot1, f_slot2, f_slot3, f_safe0, f_safe1, f_safe2, f_safe3, f_isD0, f_isD1, f_isD2, f_isD3, f_noBor0, f_noBor1, f_noBor2, f_noBor3, f_lfree0, f_lfree1, f_lfree2, f_lfree3, f_lfr0, f_lfr1, f_lfr2, f_lfr3, f_ret0, f_ret1, f_ret2, f_ret3, stFs, on1, on2, onList, List.map, List.all, List.length_cons, List.length_nil, List.set, List.getElem?_cons_zero, List.getElem?_cons_succ, wipeD, tgTup, tgCons, tgNil, Bool.and_true]
          exact ne_ti q
        · have h2 : Ht ≠ W := by simpa using h2
          have ne := (hurt h2).2 (of_decide_eq_true h1)
          try dsimp only [e_set, e_ret, e_ifS, e_drop, e_par, e_asg, e_retT, e_next, e_brk, e_cnt, e_c, e_fn, e_bin, e_bool, e_truth, e_not, e_and, e_or, e_andV, e_orV, e_notV, e_neg, e_if, e_nil, e_cons, e_tup, e_lst, e_sl, e_no, e_part, e_bi, e_call, e_lc, e_for, e_rng1, e_rng2, e_yes, e_nm, e_app, e_itL, e_itT, r_onB, r_onI, r_onTB, r_addI, r_addS, r_addT, r_addLvv, r_addLvf, r_addLvb, r_addLfv, r_addLff, r_addLfb, r_addLbv, r_addLbf, r_addLbb, r_intT, r_intP, r_int, r_mulI, r_mulT, r_mulLv, r_lenv, r_tupv, r_lisv, r_slv, r_ixv, r_mulLf, r_lenf, r_tupf, r_lisf, r_slf, r_ixf, r_mulLb, r_lenb, r_tupb, r_lisb, r_slb, r_ixb, r_lenT, r_lenS, r_tupT, r_lisT, r_slT, r_slS, r_ixT, r_intI, r_max, r_min, r_rel, r_isN, r_notN, r_isi, r_tgN, r_some, r_stV, r_stO, r_stFn, r_all, r_any, r_sum, f_data0, f_data1, f_data2, f_slot0, f_slot1, f_slot2, f_slot3, f_safe0, f_safe1, f_safe2, f_safe3, f_isD0, f_isD1, f_isD2, f_isD3, f_noBor0, f_noBor1, f_noBor2, f_noBor3, f_lfree0, f_lfree1, f_lfree2, f_lfree3, f_lfr0, f_lfr1, f_lfr2, f_lfr3, f_ret0, f_ret1, f_ret2, f_ret3, stFs, on1, on2, onList, List.map, List.all, List.length_cons, List.length_nil, List.set, List.getElem?_cons_zero, List.getElem?_cons_succ, wipeD, tgTup, tgCons, tgNil, Bool.and_true]
          have e1 : cutL (Ht.map PyData.int) none (some ((d.map PyData.int).length : Int)) = (Ht.take d.length).map PyData.int := by rw [cutL_map, elen, cutL_take _ (by omega)]; rfl
          rw [e1]
          refine ⟨rfl, Ht.take d.length, rfl, .inl rfl, rfl, rfl, shaped_int _, shaped_int _, ?_⟩
          show K (PyData.eqv (.int _) (.int _)) g''
          rw [eqv_int, ← chk_eq, decide_eq_false ne]
          exact q
      rintro _ g3 ⟨rfl, s7, s8, s9, s10, s11, s12, s13, rfl⟩
      -- neighbours exchanged
      refine seq_ok (fun ρ' g3 => g'' = g3 ∧ ∃ s7 s8 s9 s10 s11 s12 s13, ρ' = Sl (.fn (.ref g.a)) (.fn (.ref b)) (.val (.int t)) (.val (.int r)) (.val (ti d)) (.val (.int (lchk d))) (.val (ti W)) s7 s8 s9 s10 s11 s12 s13) (fun E3 i1 i2 i3 i4 k => ?_) ?_
      · try dsimp only [e_set, e_ret, e_ifS, e_drop, e_par, e_asg, e_retT, e_next, e_brk, e_cnt, e_c, e_fn, e_bin, e_bool, e_truth, e_not, e_and, e_or, e_andV, e_orV, e_notV, e_neg, e_if, e_nil, e_cons, e_tup, e_lst, e_sl, e_no, e_part, e_bi, e_call, e_lc, e_for, e_rng1, e_rng2, e_yes, e_nm, e_app, e_itL, e_itT, r_onB, r_onI, r_onTB, r_addI, r_addS, r_addT, r_addLvv, r_addLvf, r_addLvb, r_addLfv, r_addLff, r_addLfb, r_addLbv, r_addLbf, r_addLbb, r_intT, r_intP, r_int, r_mulI, r_mulT, r_mulLv, r_lenv, r_tupv, r_lisv, r_slv, r_ixv, r_mulLf, r_lenf, r_tupf, r_lisf, r_slf, r_ixf, r_mulLb, r_lenb, r_tupb, r_lisb, r_slb, r_ixb, r_lenT, r_lenS, r_tupT, r_lisT, r_slT, r_slS, r_ixT, r_intI, r_max, r_min, r_rel, r_isN, r_notN, r_isi, r_tgN, r_some, r_stV, r_stO, r_stFn, r_all, r_any, r_sum, f_data0, f_data1, f_data2, f_slot0, f_slot1, f_slot2, f_slot3, f_safe0, f_safe1, f_safe2, f_safe3, f_isD0, f_isD1, f_isD2, f_isD3, f_noBor0, f_noBor1, f_noBor2, f_noBor3, f_lfree0, f_lfree1, f_lfree2, f_lfree3, f_lfr0, f_lfr1, f_lfr2, f_lfr3, f_ret0, f_ret1, f_ret2, f_ret3, stFs, on1, on2, onList, List.map, List.all, List.length_cons, List.length_nil, List.set, List.getElem?_cons_zero, List.getElem?_cons_succ, wipeD, tgTup, tgCons, tgNil, Bool.and_true]
        rw [elen]
        refine ⟨trivial, by omega, by omega, rfl, for_ok (fun items ρ g3 => g'' = g3 ∧ (∀ x ∈ items, ∃ kk : Nat, kk + 1 < W.length ∧ x = .int kk) ∧ ∃ s7 s8 s9 s10 s11 s12 s13, ρ = Sl (.fn (.ref g.a)) (.fn (.ref b)) (.val (.int t)) (.val (.int r)) (.val (ti d)) (.val (.int (lchk d))) (.val (ti W)) s7 s8 s9 s10 s11 s12 s13) ?_ _ _ _ ⟨rfl, fun x hx => ?_, _, _, _, _, _, _, _, rfl⟩ fun ρ g3 h => k _ _ ⟨h.1, h.2.2⟩⟩
        case refine_2 =>
          obtain ⟨i, hi, rfl⟩ := mem_rng hx
          exact ⟨i, by omega, by congr 1; omega⟩
        rintro x xs ρ g3 E4 ⟨rfl, hxs, s7, s8, s9, s10, s11, s12, s13, rfl⟩ _ _ _ nx2 _
        obtain ⟨kk, hk, rfl⟩ := hxs _ (.head _)
        obtain ⟨x, hx⟩ : ∃ x, W[kk]? = some x := ⟨_, List.getElem?_eq_getElem (by omega)⟩
        obtain ⟨y, hy⟩ : ∃ y, W[kk + 1]? = some y := ⟨_, List.getElem?_eq_getElem hk⟩
        obtain ⟨Ht, hHt⟩ : ∃ Ht, Ht = W.take kk ++ [y, x] ++ W.drop (kk + 2) := ⟨_, rfl⟩
        refine seq_to (Sl (.fn (.ref g.a)) (.fn (.ref b)) (.val (.int t)) (.val (.int r)) (.val (ti d)) (.val (.int (lchk d))) (.val (ti W)) s7 (.val (.int kk)) s9 (.val (ti Ht)) s11 s12 s13) g'' (fun E5 _ _ _ _ k5 => ?_) ?_
        · try dsimp only [e_set, e_ret, e_ifS, e_drop, e_par, e_asg, e_retT, e_next, e_brk, e_cnt, e_c, e_fn, e_bin, e_bool, e_truth, e_not, e_and, e_or, e_andV, e_orV, e_notV, e_neg, e_if, e_nil, e_cons, e_tup, e_lst, e_sl, e_no, e_part, e_bi, e_call, e_lc, e_for, e_rng1, e_rng2, e_yes, e_nm, e_app, e_itL, e_itT, r_onB, r_onI, r_onTB, r_addI, r_addS, r_addT, r_addLvv, r_addLvf, r_addLvb, r_addLfv, r_addLff, r_addLfb, r_addLbv, r_addLbf, r_addLbb, r_intT, r_intP, r_int, r_mulI, r_mulT, r_mulLv, r_lenv, r_tupv, r_lisv, r_slv, r_ixv, r_mulLf, r_lenf, r_tupf, r_lisf, r_slf, r_ixf, r_mulLb, r_lenb, r_tupb, r_lisb, r_slb, r_ixb, r_lenT, r_lenS, r_tupT, r_lisT, r_slT, r_slS, r_ixT, r_intI, r_max, r_min, r_rel, r_isN, r_notN, r_isi, r_tgN, r_some, r_stV, r_stO, r_stFn, r_all, r_any, r_sum, f_data0, f_data1, f_data2, f_slot0, f_slot1, f_slot2, f_slot3, f_safe0, f_safe1, f_safe2, f_safe3, f_isD0, f_isD1, f_isD2, f_isD3, f_noBor0, f_noBor1, f_noBor2, f_noBor3, f_lfree0, f_lfree1, f_lfree2, f_lfree3, f_lfr0, f_lfr1, f_lfr2, f_lfr3, f_ret0, f_ret1, f_ret2, f_ret3, stFs, on1, on2, onList, List.map, List.all, List.length_cons, List.length_nil, List.set, List.getElem?_cons_zero, List.getElem?_cons_succ, wipeD, tgTup, tgCons, tgNil, Bool.and_true]
          have e1 : cutL (W.map PyData.int) none (some (kk : Int)) = (W.take kk).map PyData.int := by rw [cutL_map, cutL_take _ (by omega)]; rfl
          have e2 : cutL (W.map PyData.int) (some ((kk : Int) + 2)) none = (W.drop (kk + 2)).map PyData.int := by rw [cutL_map, cutL_drop _ (by omega)]; congr 2
          rw [e1, e2]
          refine onSome_some (x := .int y) (atI_map (at_ok (kk + 1) (by omega) hy)) (onSome_some (x := .int x) (atI_map (at_ok kk rfl hx)) ⟨rfl, szl, sz _ ?_, sz _ ?_, ?_⟩)
          · rw [List.length_map, List.length_take]; omega
          · simp only [List.length_append, List.length_map, List.length_take, List.length_drop, List.length_cons, List.length_nil]; omega
          · have e3 : (W.take kk).map PyData.int ++ [PyData.int y, PyData.int x] ++ (W.drop (kk + 2)).map PyData.int = Ht.map PyData.int := by rw [hHt, List.map_append, List.map_append]; rfl
            show E5.nx (Sl (.fn (.ref g.a)) (.fn (.ref b)) (.val (.int t)) (.val (.int r)) (.val (ti d)) (.val (.int (lchk d))) (.val (ti W)) s7 (.val (.int kk)) s9 (.val (.tuple ((W.take kk).map PyData.int ++ [PyData.int y, PyData.int x] ++ (W.drop (kk + 2)).map PyData.int))) s11 s12 s13) g''
            rw [e3]
            exact k5
        have hHl : Ht.length = W.length := by rw [hHt]; simp only [List.length_append, List.length_take, List.length_drop, List.length_cons, List.length_nil]; omega
        have hHb : Byt Ht := fun z hz => by
          rw [hHt] at hz
          simp only [List.mem_append, List.mem_cons, List.not_mem_nil, or_false] at hz
          rcases hz with (hz | rfl | rfl) | hz
          · exact hWb z (List.mem_of_mem_take hz)
          · exact hWb _ (List.mem_of_getElem? hy)
          · exact hWb _ (List.mem_of_getElem? hx)
          · exact hWb z (List.mem_of_mem_drop hz)
        have hurt : Ht ≠ W → (kk + 1 < d.length → chk (Ht.take d.length) ≠ chk d) ∧ (kk + 1 ≠ d.length → opn Ht = .error (d.length : Nat)) := fun n => by
          rw [hHt, hW2] at n ⊢
          rw [hW2] at hk hx hy
          exact hurt_two hd (four_byt _) (four_len _) hc4 hk hx hy n
        refine seq_pass (fun R => ev_and_f (b1 := decide (kk + 1 < d.length)) (fun K q => ?_) fun h1 => ev_and_f (b1 := !decide (Ht = W)) (fun K q => ?_) fun h2 => fun K q => ?_) ?_
        · try dsimp only [e_set, e_ret, e_ifS, e_drop, e_par, e_asg, e_retT, e_next, e_brk, e_cnt, e_c, e_fn, e_bin, e_bool, e_truth, e_not, e_and, e_or, e_andV, e_orV, e_notV, e_neg, e_if, e_nil, e_cons, e_tup, e_lst, e_sl, e_no, e_part, e_bi, e_call, e_lc, e_for, e_rng1, e_rng2, e_yes, e_nm, e_app, e_itL, e_itT, r_onB, r_onI, r_onTB, r_addI, r_addS, r_addT, r_addLvv, r_addLvf, r_addLvb, r_addLfv, r_addLff, r_addLfb, r_addLbv, r_addLbf, r_addLbb, r_intT, r_intP, r_int, r_mulI, r_mulT, r_mulLv, r_lenv, r_tupv, r_lisv, r_slv, r_ixv, r_mulLf, r_lenf, r_tupf, r_lisf, r_slf, r_ixf, r_mulLb, r_lenb, r_tupb, r_lisb, r_slb, r_ixb, r_lenT, r_lenS, r_tupT, r_lisT, r_slT, r_slS, r_ixT, r_intI, r_max, r_min, r_rel, r_isN, r_notN, r_isi, r_tgN, r_some, r_stV, r_stO, r_stFn, r_all, r_any, r_sum, f_data0, f_data1, f_data2, f_slot0, f_slot1, f_slot2, f_slot3, f_safe0, f_safe1, f_safe2, f_safe3, f_isD0, f_isD1, f_isD2, f_isD3, f_noBor0, f_noBor1, f_noBor2, f_noBor3, f_lfree0, f_lfree1, f_lfree2, f_lfree3, f_lfr0, f_lfr1, f_lfr2, f_lfr3, f_ret0, f_ret1, f_ret2, f_ret3, stFs, on1, on2, onList, List.map, List.all, List.length_cons, List.length_nil, List.set, List.getElem?_cons_zero, List.getElem?_cons_succ, wipeD, tgTup, tgCons, tgNil, Bool.and_true]
          rw [elen]
          refine ⟨trivial, ?_⟩
          rw [show decide ((kk : Int) < (d.length : Int) - 1) = decide (kk + 1 < d.length) from decide_eq_decide.mpr (by omega)]
          exact q
        · try dsimp only [e_set, e_ret, e_ifS, e_drop, e_par, e_asg, e_retT, e_next, e_brk, e_cnt, e_c, e_fn, e_bin, e_bool, e_truth, e_not, e_and, e_or, e_andV, e_orV, e_notV, e_neg, e_if, e_nil, e_cons, e_tup, e_lst, e_sl, e_no, e_part, e_bi, e_call, e_lc, e_for, e_rng1, e_rng2, e_yes, e_nm, e_app, e_itL, e_itT, r_onB, r_onI, r_onTB, r_addI, r_addS, r_addT, r_addLvv, r_addLvf, r_addLvb, r_addLfv, r_addLff, r_addLfb, r_addLbv, r_addLbf, r_addLbb, r_intT, r_intP, r_int, r_mulI, r_mulT, r_mulLv, r_lenv, r_tupv, r_lisv, r_slv, r_ixv, r_mulLf, r_lenf, r_tupf, r_lisf, r_slf, r_ixf, r_mulLb, r_lenb, r_tupb, r_lisb, r_slb, r_ixb, r_lenT, r_lenS, r_tupT, r_lisT, r_slT, r_slS, r_ixT, r_intI, r_max, r_min, r_rel, r_isN, r_notN, r_isi, r_tgN, r_some, r_stV, r_stO, r_stFn, r_all, r_any, r_sum, f_data0, f_data1, f_data2, f_slot0, f_slot1, f_slot2, f_slot3, f_safe0, f_safe1, f_safe2, f_safe3, f_isD0, f_isD1, f_isD2, f_isD3, f_noBor0, f_noBor1, f_noBor2, f_noBor3, f_lfree0, f_lfree1, f_lfree2, f_lfree3, f_lfr0, f_lfr1, f_lfr2, f_lfr3, f_ret0, f_ret1, f_ret2, f_ret3, stFs, on1, on2, onList, List.map, List.all, List.length_cons, List.length_nil, List.set, List.getElem?_cons_zero, List.getElem?_cons_succ, wipeD, tgTup, tgCons, tgNil, Bool.and_true]
          exact ne_ti q
        · have h2 : Ht ≠ W := by simpa using h2
          have ne := (hurt h2).1 (of_decide_eq_true h1)
          try dsimp only [e_set, e_ret, e_ifS, e_drop, e_par, e_asg, e_retT, e_next, e_brk, e_cnt, e_c, e_fn, e_bin, e_bool, e_truth, e_not, e_and, e_or, e_andV, e_orV, e_notV, e_neg, e_if, e_nil, e_cons, e_tup, e_lst, e_sl, e_no, e_part, e_bi, e_call, e_lc, e_for, e_rng1, e_rng2, e_yes, e_nm, e_app, e_itL, e_itT, r_onB, r_onI, r_onTB, r_addI, r_addS, r_addT, r_addLvv, r_addLvf, r_addLvb, r_addLfv, r_addLff, r_addLfb, r_addLbv, r_addLbf, r_addLbb, r_intT, r_intP, r_int, r_mulI, r_mulT, r_mulLv, r_lenv, r_tupv, r_lisv, r_slv, r_ixv, r_mulLf, r_lenf, r_tupf, r_lisf, r_slf, r_ixf, r_mulLb, r_lenb, r_tupb, r_lisb, r_slb, r_ixb, r_lenT, r_lenS, r_tupT, r_lisT, r_slT, r_slS, r_ixT, r_intI, r_max, r_min, r_rel, r_isN, r_notN, r_isi, r_tgN, r_some, r_stV, r_stO, r_stFn, r_all, r_any, r_sum, f_data0, f_data1, f_data2, f_slot0, f_slot1, f_slot2, f_slot3, f_safe0, f_safe1, f_safe2, f_safe3, f_isD0, f_isD1, f_isD2, f_isD3, f_noBor0, f_noBor1, f_noBor2, f_noBor3, f_lfree0, f_lfree1, f_lfree2, f_lfree3, f_lfr0, f_lfr1, f_lfr2, f_lfr3, f_ret0, f_ret1, f_ret2, f_ret3, stFs, on1, on2, onList, List.map, List.all, List.length_cons, List.length_nil, List.set, List.getElem?_cons_zero, List.getElem?_cons_succ, wipeD, tgTup, tgCons, tgNil, Bool.and_true]
          have e1 : cutL (Ht.map PyData.int) none (some ((d.map PyData.int).length : Int)) = (Ht.take d.length).map PyData.int := by rw [cutL_map, elen, cutL_take _ (by omega)]; rfl
          rw [e1]
          refine ⟨rfl, Ht.take d.length, rfl, .inl rfl, eq_int ?_⟩
          try dsimp only [e_set, e_ret, e_ifS, e_drop, e_par, e_asg, e_retT, e_next, e_brk, e_cnt, e_c, e_fn, e_bin, e_bool, e_truth, e_not, e_and, e_or, e_andV, e_orV, e_notV, e_neg, e_if, e_nil, e_cons, e_tup, e_lst, e_sl, e_no, e_part, e_bi, e_call, e_lc, e_for, e_rng1, e_rng2, e_yes, e_nm, e_app, e_itL, e_itT, r_onB, r_onI, r_onTB, r_addI, r_addS, r_addT, r_addLvv, r_addLvf, r_addLvb, r_addLfv, r_addLff, r_addLfb, r_addLbv, r_addLbf, r_addLbb, r_intT, r_intP, r_int, r_mulI, r_mulT, r_mulLv, r_lenv, r_tupv, r_lisv, r_slv, r_ixv, r_mulLf, r_lenf, r_tupf, r_lisf, r_slf, r_ixf, r_mulLb, r_lenb, r_tupb, r_lisb, r_slb, r_ixb, r_lenT, r_lenS, r_tupT, r_lisT, r_slT, r_slS, r_ixT, r_intI, r_max, r_min, r_rel, r_isN, r_notN, r_isi, r_tgN, r_some, r_stV, r_stO, r_stFn, r_all, r_any, r_sum, f_data0, f_data1, f_data2, f_slot0, f_slot1, f_slot2, f_slot3, f_safe0, f_safe1, f_safe2, f_safe3, f_isD0, f_isD1, f_isD2, f_isD3, f_noBor0, f_noBor1, f_noBor2, f_noBor3, f_lfree0, f_lfree1, f_lfree2, f_lfree3, f_lfr0, f_lfr1, f_lfr2, f_lfr3, f_ret0, f_ret1, f_ret2, f_ret3, stFs, on1, on2, onList, List.map, List.all, List.length_cons, List.length_nil, List.set, List.getElem?_cons_zero, List.getElem?_cons_succ, wipeD, tgTup, tgCons, tgNil, Bool.and_true]
          rw [← chk_eq, decide_eq_false ne]
          exact q
        refine if_not (fun R => ev_and_f (b1 := !decide (kk + 1 = d.length)) (fun K q => ?_) fun h1 => ev_and_f (b1 := !decide (Ht = W)) (fun K q => ?_) fun h2 => fun K q => ?_) (nx2 _ _ ⟨rfl, fun y hy => hxs y (.tail _ hy), _, _, _, _, _, _, _, rfl⟩)
        · try dsimp only [e_set, e_ret, e_ifS, e_drop, e_par, e_asg, e_retT, e_next, e_brk, e_cnt, e_c, e_fn, e_bin, e_bool, e_truth, e_not, e_and, e_or, e_andV, e_orV, e_notV, e_neg, e_if, e_nil, e_cons, e_tup, e_lst, e_sl, e_no, e_part, e_bi, e_call, e_lc, e_for, e_rng1, e_rng2, e_yes, e_nm, e_app, e_itL, e_itT, r_onB, r_onI, r_onTB, r_addI, r_addS, r_addT, r_addLvv, r_addLvf, r_addLvb, r_addLfv, r_addLff, r_addLfb, r_addLbv, r_addLbf, r_addLbb, r_intT, r_intP, r_int, r_mulI, r_mulT, r_mulLv, r_lenv, r_tupv, r_lisv, r_slv, r_ixv, r_mulLf, r_lenf, r_tupf, r_lisf, r_slf, r_ixf, r_mulLb, r_lenb, r_tupb, r_lisb, r_slb, r_ixb, r_lenT, r_lenS, r_tupT, r_lisT, r_slT, r_slS, r_ixT, r_intI, r_max, r_min, r_rel, r_isN, r_notN, r_isi, r_tgN, r_some, r_stV, r_stO, r_stFn, r_all, r_any, r_sum, f_data0, f_data1, f_data2, f_slot0, f_slot1, f_slot2, f_slot3, f_safe0, f_safe1, f_safe2, f_safe3, f_isD0, f_isD1, f_isD2, f_isD3, f_noBor0, f_noBor1, f_noBor2, f_noBor3, f_lfree0, f_lfree1, f_lfree2, f_lfree3, f_lfr0, f_lfr1, f_lfr2, f_lfr3, f_ret0, f_ret1, f_ret2, f_ret3, stFs, on1, on2, onList, List.map, List.all, List.length_cons, List.length_nil, List.set, List.getElem?_cons_zero, List.getElem?_cons_succ, wipeD, tgTup, tgCons, tgNil, Bool.and_true]
          rw [elen]
          refine ⟨trivial, ne_int ?_⟩
          try dsimp only [e_set, e_ret, e_ifS, e_drop, e_par, e_asg, e_retT, e_next, e_brk, e_cnt, e_c, e_fn, e_bin, e_bool, e_truth, e_not, e_and, e_or, e_andV, e_orV, e_notV, e_neg, e_if, e_nil, e_cons, e_tup, e_lst, e_sl, e_no, e_part, e_bi, e_call, e_lc, e_for, e_rng1, e_rng2, e_yes, e_nm, e_app, e_itL, e_itT, r_onB, r_onI, r_onTB, r_addI, r_addS, r_addT, r_addLvv, r_addLvf, r_addLvb, r_addLfv, r_addLff, r_addLfb, r_addLbv, r_addLbf, r_addLbb, r_intT, r_intP, r_int, r_mulI, r_mulT, r_mulLv, r_lenv, r_tupv, r_lisv, r_slv, r_ixv, r_mulLf, r_lenf, r_tupf, r_lisf, r_slf, r_ixf, r_mulLb, r_lenb, r_tupb, r_lisb, r_slb, r_ixb, r_lenT, r_lenS, r_tupT, r_lisT, r_slT, r_slS, r_ixT, r_intI, r_max, r_min, r_rel, r_isN, r_notN, r_isi, r_tgN, r_some, r_stV, r_stO, r_stFn, r_all, r_any, r_sum, f_data0, f_data1, f_data2, f_slot0, f_slot1, f_slot2, f_slot3, f_safe0, f_safe1, f_safe2, f_safe3, f_isD0, f_isD1, f_isD2, f_isD3, f_noBor0, f_noBor1, f_noBor2, f_noBor3, f_lfree0, f_lfree1, f_lfree2, f_lfree3, f_lfr0, f_lfr1, f_lfr2, f_lfr3, f_ret0, f_ret1, f_ret2, f_ret3, stFs, on1, on2, onList, List.map, List.all, List.length_cons, List.length_nil, List.set, List.getElem?_cons_zero, List.getElem?_cons_succ, wipeD, tgTup, tgCons, tgNil, Bool.and_true]
          rw [show decide ((kk : Int) = (d.length : Int) - 1) = decide (kk + 1 = d.length) from decide_eq_decide.mpr (by omega)]
          exact q
        · try dsimp only [e_set, e_ret, e_ifS, e_drop, e_par, e_asg, e_retT, e_next, e_brk, e_cnt, e_c, e_fn, e_bin, e_bool, e_truth, e_not, e_and, e_or, e_andV, e_orV, e_notV, e_neg, e_if, e_nil, e_cons, e_tup, e_lst, e_sl, e_no, e_part, e_bi, e_call, e_lc, e_for, e_rng1, e_rng2, e_yes, e_nm, e_app, e_itL, e_itT, r_onB, r_onI, r_onTB, r_addI, r_addS, r_addT, r_addLvv, r_addLvf, r_addLvb, r_addLfv, r_addLff, r_addLfb, r_addLbv, r_addLbf, r_addLbb, r_intT, r_intP, r_int, r_mulI, r_mulT, r_mulLv, r_lenv, r_tupv, r_lisv, r_slv, r_ixv, r_mulLf, r_lenf, r_tupf, r_lisf, r_slf, r_ixf, r_mulLb, r_lenb, r_tupb, r_lisb, r_slb, r_ixb, r_lenT, r_lenS, r_tupT, r_lisT, r_slT, r_slS, r_ixT, r_intI, r_max, r_min, r_rel, r_isN, r_notN, r_isi, r_tgN, r_some, r_stV, r_stO, r_stFn, r_all, r_any, r_sum, f_data0, f_data1, f_data2, f_slot0, f_slot1, f_slot2, f_slot3, f_safe0, f_safe1, f_safe2, f_safe3, f_isD0, f_isD1, f_isD2, f_isD3, f_noBor0, f_noBor1, f_noBor2, f_noBor3, f_lfree0, f_lfree1, f_lfree2, f_lfree3, f_lfr0, f_lfr1, f_lfr2, f_lfr3, f_ret0, f_ret1, f_ret2, f_ret3, stFs, on1, on2, onList, List.map, List.all, List.length_cons, List.length_nil, List.set, List.getElem?_cons_zero, List.getElem?_cons_succ, wipeD, tgTup, tgCons, tgNil, Bool.and_true]
          exact ne_ti q
        · have h2 : Ht ≠ W := by simpa using h2
          have h1 : kk + 1 ≠ d.length := by simpa using h1
          try dsimp only [e_set, e_ret, e_ifS, e_drop, e_par, e_asg, e_retT, e_next, e_brk, e_cnt, e_c, e_fn, e_bin, e_bool, e_truth, e_not, e_and, e_or, e_andV, e_orV, e_notV, e_neg, e_if, e_nil, e_cons, e_tup, e_lst, e_sl, e_no, e_part, e_bi, e_call, e_lc, e_for, e_rng1, e_rng2, e_yes, e_nm, e_app, e_itL, e_itT, r_onB, r_onI, r_onTB, r_addI, r_addS, r_addT, r_addLvv, r_addLvf, r_addLvb, r_addLfv, r_addLff, r_addLfb, r_addLbv, r_addLbf, r_addLbb, r_intT, r_intP, r_int, r_mulI, r_mulT, r_mulLv, r_lenv, r_tupv, r_lisv, r_slv, r_ixv, r_mulLf, r_lenf, r_tupf, r_lisf, r_slf, r_ixf, r_mulLb, r_lenb, r_tupb, r_lisb, r_slb, r_ixb, r_lenT, r_lenS, r_tupT, r_lisT, r_slT, r_slS, r_ixT, r_intI, r_max, r_min, r_rel, r_isN, r_notN, r_isi, r_tgN, r_some, r_stV, r_stO, r_stFn, r_all, r_any, r_sum, f_data0, f_data1, f_data2, f_slot0, f_slot1, f_slot2, f_slot3, f_safe0, f_safe1, f_safe2, f_safe3, f_isD0, f_isD1, f_isD2, f_isD3, f_noBor0, f_noBor1, f_noBor2, f_noBor3, f_lfree0, f_lfree1, f_lfree2, f_lfree3, f_lfr0, f_lfr1, f_lfr2, f_lfr3, f_ret0, f_ret1, f_ret2, f_ret3, stFs, on1, on2, onList, List.map, List.all, List.length_cons, List.length_nil, List.set, List.getElem?_cons_zero, List.getElem?_cons_succ, wipeD, tgTup, tgCons, tgNil, Bool.and_true]
          refine ⟨rfl, Ht, rfl, by omega, hHb, .inl rfl, ?_⟩
          rw [hts _ ((hurt h2).2 h1)]
          try dsimp only [e_set, e_ret, e_ifS, e_drop, e_par, e_asg, e_retT, e_next, e_brk, e_cnt, e_c, e_fn, e_bin, e_bool, e_truth, e_not, e_and, e_or, e_andV, e_orV, e_notV, e_neg, e_if, e_nil, e_cons, e_tup, e_lst, e_sl, e_no, e_part, e_bi, e_call, e_lc, e_for, e_rng1, e_rng2, e_yes, e_nm, e_app, e_itL, e_itT, r_onB, r_onI, r_onTB, r_addI, r_addS, r_addT, r_addLvv, r_addLvf, r_addLvb, r_addLfv, r_addLff, r_addLfb, r_addLbv, r_addLbf, r_addLbb, r_intT, r_intP, r_int, r_mulI, r_mulT, r_mulLv, r_lenv, r_tupv, r_lisv, r_slv, r_ixv, r_mulLf, r_lenf, r_tupf, r_lisf, r_slf, r_ixf, r_mulLb, r_lenb, r_tupb, r_lisb, r_slb, r_ixb, r_lenT, r_lenS, r_tupT, r_lisT, r_slT, r_slS, r_ixT, r_intI, r_max, r_min, r_rel, r_isN, r_notN, r_isi, r_tgN, r_some, r_stV, r_stO, r_stFn, r_all, r_any, r_sum, f_data0, f_data1, f_data2, f_slot0, f_slot1, f_slot2, f_slot3, f_safe0, f_safe1, f_safe2, f_safe3, f_isD0, f_isD1, f_isD2, f_isD3, f_noBor0, f_noBor1, f_noBor2, f_noBor3, f_lfree0, f_lfree1, f_lfree2, f_lfree3, f_lfr0, f_lfr1, f_lfr2, f_lfr3, f_ret0, f_ret1, f_ret2, f_ret3, stFs, on1, on2, onList, List.map, List.all, List.length_cons, List.length_nil, List.set, List.getElem?_cons_zero, List.getElem?_cons_succ, wipeD, tgTup, tgCons, tgNil, Bool.and_true]
          refine onSome_some rfl (ne_int ?_)
          try dsimp only [e_set, e_ret, e_ifS, e_drop, e_par, e_asg, e_retT, e_next, e_brk, e_cnt, e_c, e_fn, e_bin, e_bool, e_truth, e_not, e_and, e_or, e_andV, e_orV, e_notV, e_neg, e_if, e_nil, e_cons, e_tup, e_lst, e_sl, e_no, e_part, e_bi, e_call, e_lc, e_for, e_rng1, e_rng2, e_yes, e_nm, e_app, e_itL, e_itT, r_onB, r_onI, r_onTB, r_addI, r_addS, r_addT, r_addLvv, r_addLvf, r_addLvb, r_addLfv, r_addLff, r_addLfb, r_addLbv, r_addLbf, r_addLbb, r_intT, r_intP, r_int, r_mulI, r_mulT, r_mulLv, r_lenv, r_tupv, r_lisv, r_slv, r_ixv, r_mulLf, r_lenf, r_tupf, r_lisf, r_slf, r_ixf, r_mulLb, r_lenb, r_tupb, r_lisb, r_slb, r_ixb, r_lenT, r_lenS, r_tupT, r_lisT, r_slT, r_slS, r_ixT, r_intI, r_max, r_min, r_rel, r_isN, r_notN, r_isi, r_tgN, r_some, r_stV, r_stO, r_stFn, r_all, r_any, r_sum, f_data0, f_data1, f_data2, f_slot0, f_slot1, f_slot2, f_slot3, f_safe0, f_safe1, f_safe2, f_safe3, f_isD0, f_isD1, f_isD2, f_isD3, f_noBor0, f_noBor1, f_noBor2, f_noBor3, f_lfree0, f_lfree1, f_lfree2, f_lfree3, f_lfr0, f_lfr1, f_lfr2, f_lfr3, f_ret0, f_ret1, f_ret2, f_ret3, stFs, on1, on2, onList, List.map, List.all, List.length_cons, List.length_nil, List.set, List.getElem?_cons_zero, List.getElem?_cons_succ, wipeD, tgTup, tgCons, tgNil, Bool.and_true]
          rw [elen, decide_eq_true rfl]
          exact q
      rintro _ g3 ⟨rfl, s7, s8, s9, s10, s11, s12, s13, rfl⟩
      -- cuts
      refine seq_ok (fun ρ' g3 => g'' = g3 ∧ ∃ s7 s8 s9 s10 s11 s12 s13, ρ' = Sl (.fn (.ref g.a)) (.fn (.ref b)) (.val (.int t)) (.val (.int r)) (.val (ti d)) (.val (.int (lchk d))) (.val (ti W)) s7 s8 s9 s10 s11 s12 s13) (fun E3 i1 i2 i3 i4 k => ?_) ?_
      · try dsimp only [e_set, e_ret, e_ifS, e_drop, e_par, e_asg, e_retT, e_next, e_brk, e_cnt, e_c, e_fn, e_bin, e_bool, e_truth, e_not, e_and, e_or, e_andV, e_orV, e_notV, e_neg, e_if, e_nil, e_cons, e_tup, e_lst, e_sl, e_no, e_part, e_bi, e_call, e_lc, e_for, e_rng1, e_rng2, e_yes, e_nm, e_app, e_itL, e_itT, r_onB, r_onI, r_onTB, r_addI, r_addS, r_addT, r_addLvv, r_addLvf, r_addLvb, r_addLfv, r_addLff, r_addLfb, r_addLbv, r_addLbf, r_addLbb, r_intT, r_intP, r_int, r_mulI, r_mulT, r_mulLv, r_lenv, r_tupv, r_lisv, r_slv, r_ixv, r_mulLf, r_lenf, r_tupf, r_lisf, r_slf, r_ixf, r_mulLb, r_lenb, r_tupb, r_lisb, r_slb, r_ixb, r_lenT, r_lenS, r_tupT, r_lisT, r_slT, r_slS, r_ixT, r_intI, r_max, r_min, r_rel, r_isN, r_notN, r_isi, r_tgN, r_some, r_stV, r_stO, r_stFn, r_all, r_any, r_sum, f_data0, f_data1, f_data2, f_slot0, f_slot1, f_slot2, f_slot3, f_safe0, f_safe1, f_safe2, f_safe3, f_isD0, f_isD1, f_isD2, f_isD3, f_noBor0, f_noBor1, f_noBor2, f_noBor3, f_lfree0, f_lfree1, f_lfree2, f_lfree3, f_lfr0, f_lfr1, f_lfr2, f_lfr3, f_ret0, f_ret1, f_ret2, f_ret3, stFs, on1, on2, onList, List.map, List.all, List.length_cons, List.length_nil, List.set, List.getElem?_cons_zero, List.getElem?_cons_succ, wipeD, tgTup, tgCons, tgNil, Bool.and_true]
        rw [elen]
        refine ⟨by omega, by omega, rfl, for_ok (fun items ρ g3 => g'' = g3 ∧ (∀ x ∈ items, ∃ kk : Nat, kk < W.length ∧ x = .int kk) ∧ ∃ s7 s8 s9 s10 s11 s12 s13, ρ = Sl (.fn (.ref g.a)) (.fn (.ref b)) (.val (.int t)) (.val (.int r)) (.val (ti d)) (.val (.int (lchk d))) (.val (ti W)) s7 s8 s9 s10 s11 s12 s13) ?_ _ _ _ ⟨rfl, fun x hx => ?_, _, _, _, _, _, _, _, rfl⟩ fun ρ g3 h => k _ _ ⟨h.1, h.2.2⟩⟩
        case refine_2 =>
          obtain ⟨i, hi, rfl⟩ := mem_rng hx
          exact ⟨i, by omega, by congr 1; omega⟩
        rintro x xs ρ g3 E4 ⟨rfl, hxs, s7, s8, s9, s10, s11, s12, s13, rfl⟩ _ _ _ nx2 _
        obtain ⟨kk, hk, rfl⟩ := hxs _ (.head _)
        obtain ⟨Cu, hCu⟩ : ∃ Cu, Cu = W.take kk := ⟨_, rfl⟩
        have hCl : Cu.length = kk := by rw [hCu, List.length_take]; omega
        have hCb : Byt Cu := fun z hz => hWb z (List.mem_of_mem_take (by rw [hCu] at hz; exact hz))
        refine seq_to (Sl (.fn (.ref g.a)) (.fn (.ref b)) (.val (.int t)) (.val (.int r)) (.val (ti d)) (.val (.int (lchk d))) (.val (ti W)) s7 (.val (.int kk)) s9 s10 (.val (ti Cu)) s12 s13) g'' (fun E5 _ _ _ _ k5 => ?_) ?_
        · try dsimp only [e_set, e_ret, e_ifS, e_drop, e_par, e_asg, e_retT, e_next, e_brk, e_cnt, e_c, e_fn, e_bin, e_bool, e_truth, e_not, e_and, e_or, e_andV, e_orV, e_notV, e_neg, e_if, e_nil, e_cons, e_tup, e_lst, e_sl, e_no, e_part, e_bi, e_call, e_lc, e_for, e_rng1, e_rng2, e_yes, e_nm, e_app, e_itL, e_itT, r_onB, r_onI, r_onTB, r_addI, r_addS, r_addT, r_addLvv, r_addLvf, r_addLvb, r_addLfv, r_addLff, r_addLfb, r_addLbv, r_addLbf, r_addLbb, r_intT, r_intP, r_int, r_mulI, r_mulT, r_mulLv, r_lenv, r_tupv, r_lisv, r_slv, r_ixv, r_mulLf, r_lenf, r_tupf, r_lisf, r_slf, r_ixf, r_mulLb, r_lenb, r_tupb, r_lisb, r_slb, r_ixb, r_lenT, r_lenS, r_tupT, r_lisT, r_slT, r_slS, r_ixT, r_intI, r_max, r_min, r_rel, r_isN, r_notN, r_isi, r_tgN, r_some, r_stV, r_stO, r_stFn, r_all, r_any, r_sum, f_data0, f_data1, f_data2, f_slot0, f_slot1, f_slot2, f_slot3, f_safe0, f_safe1, f_safe2, f_safe3, f_isD0, f_isD1, f_isD2, f_isD3, f_noBor0, f_noBor1, f_noBor2, f_noBor3, f_lfree0, f_lfree1, f_lfree2, f_lfree3, f_lfr0, f_lfr1, f_lfr2, f_lfr3, f_ret0, f_ret1, f_ret2, f_ret3, stFs, on1, on2, onList, List.map, List.all, List.length_cons, List.length_nil, List.set, List.getElem?_cons_zero, List.getElem?_cons_succ, wipeD, tgTup, tgCons, tgNil, Bool.and_true]
          have e1 : cutL (W.map PyData.int) none (some (kk : Int)) = Cu.map PyData.int := by rw [cutL_map, cutL_take _ (by omega), hCu]; rfl
          rw [e1]
          exact k5
        refine seq_to (Sl (.fn (.ref g.a)) (.fn (.ref b)) (.val (.int t)) (.val (.int r)) (.val (ti d)) (.val (.int (lchk d))) (.val (ti W)) s7 (.val (.int kk)) s9 s10 (.val (ti Cu)) (.val (toldD Cu)) s13) g'' (fun E5 _ _ _ _ k5 => set_to (toldD Cu) (fun R K q => ?_) k5) ?_
        · by_cases h3 : 3 < kk
          · have e1 : cutL (Cu.map PyData.int) none (some ((kk : Int) - 4)) = (Cu.take (kk - 4)).map PyData.int := by rw [cutL_map, cutL_take _ (by omega)]; congr 2; omega
            have e2 : cutL (Cu.map PyData.int) (some ((kk : Int) - 4)) none = (Cu.drop (kk - 4)).map PyData.int := by rw [cutL_map, cutL_drop _ (by omega)]; congr 2; omega
            have hp : Cu = Cu.take (kk - 4) ++ Cu.drop (kk - 4) := (List.take_append_drop _ _).symm
            have hpl : (Cu.take (kk - 4)).length = kk - 4 := by rw [List.length_take]; omega
            have hq4 : (Cu.drop (kk - 4)).length = 4 := by rw [List.length_drop]; omega
            have hqb : Byt (Cu.drop (kk - 4)) := fun z hz => hCb z (List.mem_of_mem_drop hz)
            have hpb : Byt (Cu.take (kk - 4)) := fun z hz => hCb z (List.mem_of_mem_take hz)
            have ho : opn Cu = if chk (Cu.take (kk - 4)) = of4L (Cu.drop (kk - 4)) then .ok (Cu.take (kk - 4)) else .error ((Cu.take (kk - 4)).length : Nat) := by
              have := opn_app (d := Cu.take (kk - 4)) hq4
              rw [← hp] at this
              exact this
            have hl2 := lchk_bd (Cu.take (kk - 4))
            have hiff : lfour (lchk (Cu.take (kk - 4))) = Cu.drop (kk - 4) ↔ chk (Cu.take (kk - 4)) = of4L (Cu.drop (kk - 4)) := by
              rw [chk_eq, ← four_lfour hl2.1 hl2.2]
              constructor
              · intro z; rw [← z, of4_four hl2.1 hl2.2]
              · intro z; rw [z]; exact four_of4 hq4 hqb
            try dsimp only [e_set, e_ret, e_ifS, e_drop, e_par, e_asg, e_retT, e_next, e_brk, e_cnt, e_c, e_fn, e_bin, e_bool, e_truth, e_not, e_and, e_or, e_andV, e_orV, e_notV, e_neg, e_if, e_nil, e_cons, e_tup, e_lst, e_sl, e_no, e_part, e_bi, e_call, e_lc, e_for, e_rng1, e_rng2, e_yes, e_nm, e_app, e_itL, e_itT, r_onB, r_onI, r_onTB, r_addI, r_addS, r_addT, r_addLvv, r_addLvf, r_addLvb, r_addLfv, r_addLff, r_addLfb, r_addLbv, r_addLbf, r_addLbb, r_intT, r_intP, r_int, r_mulI, r_mulT, r_mulLv, r_lenv, r_tupv, r_lisv, r_slv, r_ixv, r_mulLf, r_lenf, r_tupf, r_lisf, r_slf, r_ixf, r_mulLb, r_lenb, r_tupb, r_lisb, r_slb, r_ixb, r_lenT, r_lenS, r_tupT, r_lisT, r_slT, r_slS, r_ixT, r_intI, r_max, r_min, r_rel, r_isN, r_notN, r_isi, r_tgN, r_some, r_stV, r_stO, r_stFn, r_all, r_any, r_sum, f_data0, f_data1, f_data2, f_slot0, f_slot1, f_slot2, f_slot3, f_safe0, f_safe1, f_safe2, f_safe3, f_isD0, f_isD1, f_isD2, f_isD3, f_noBor0, f_noBor1, f_noBor2, f_noBor3, f_lfree0, f_lfree1, f_lfree2, f_lfree3, f_lfr0, f_lfr1, f_lfr2, f_lfr3, f_ret0, f_ret1, f_ret2, f_ret3, stFs, on1, on2, onList, List.map, List.all, List.length_cons, List.length_nil, List.set, List.getElem?_cons_zero, List.getElem?_cons_succ, wipeD, tgTup, tgCons, tgNil, Bool.and_true]
            rw [e1, e2]
            refine ite_yes (decide_eq_true (by omega)) ⟨trivial, rfl, Cu.take (kk - 4), rfl, by omega, hpb, .inl rfl, rfl, lchk (Cu.take (kk - 4)), rfl, hl2.1, by omega, .inl rfl, trivial, eq_ff (ns := lfour (lchk (Cu.take (kk - 4)))) ?_⟩
            try dsimp only [e_set, e_ret, e_ifS, e_drop, e_par, e_asg, e_retT, e_next, e_brk, e_cnt, e_c, e_fn, e_bin, e_bool, e_truth, e_not, e_and, e_or, e_andV, e_orV, e_notV, e_neg, e_if, e_nil, e_cons, e_tup, e_lst, e_sl, e_no, e_part, e_bi, e_call, e_lc, e_for, e_rng1, e_rng2, e_yes, e_nm, e_app, e_itL, e_itT, r_onB, r_onI, r_onTB, r_addI, r_addS, r_addT, r_addLvv, r_addLvf, r_addLvb, r_addLfv, r_addLff, r_addLfb, r_addLbv, r_addLbf, r_addLbb, r_intT, r_intP, r_int, r_mulI, r_mulT, r_mulLv, r_lenv, r_tupv, r_lisv, r_slv, r_ixv, r_mulLf, r_lenf, r_tupf, r_lisf, r_slf, r_ixf, r_mulLb, r_lenb, r_tupb, r_lisb, r_slb, r_ixb, r_lenT, r_lenS, r_tupT, r_lisT, r_slT, r_slS, r_ixT, r_intI, r_max, r_min, r_rel, r_isN, r_notN, r_isi, r_tgN, r_some, r_stV, r_stO, r_stFn, r_all, r_any, r_sum, f_data0, f_data1, f_data2, f_slot0, f_slot1, f_slot2, f_slot3, f_safe0, f_safe1, f_safe2, f_safe3, f_isD0, f_isD1, f_isD2, f_isD3, f_noBor0, f_noBor1, f_noBor2, f_noBor3, f_lfree0, f_lfree1, f_lfree2, f_lfree3, f_lfr0, f_lfr1, f_lfr2, f_lfr3, f_ret0, f_ret1, f_ret2, f_ret3, stFs, on1, on2, onList, List.map, List.all, List.length_cons, List.length_nil, List.set, List.getElem?_cons_zero, List.getElem?_cons_succ, wipeD, tgTup, tgCons, tgNil, Bool.and_true]
            unfold toldD at q
            by_cases hh : chk (Cu.take (kk - 4)) = of4L (Cu.drop (kk - 4))
            · rw [ho, if_pos hh] at q
              exact ite_yes (decide_eq_true (hiff.mpr hh)) ⟨trivial, rfl, szl, q⟩
            · rw [ho, if_neg hh] at q
              refine ite_no (decide_eq_false fun z => hh (hiff.mp z)) (ite_yes (decide_eq_true (by omega)) ⟨trivial, ⟨rfl, szl, ?_⟩⟩)
              rw [show (if (kk : Int) - 4 > 0 then (kk : Int) - 4 else 0) = ((Cu.take (kk - 4)).length : Nat) by rw [hpl]; split <;> omega]
              exact q
          · try dsimp only [e_set, e_ret, e_ifS, e_drop, e_par, e_asg, e_retT, e_next, e_brk, e_cnt, e_c, e_fn, e_bin, e_bool, e_truth, e_not, e_and, e_or, e_andV, e_orV, e_notV, e_neg, e_if, e_nil, e_cons, e_tup, e_lst, e_sl, e_no, e_part, e_bi, e_call, e_lc, e_for, e_rng1, e_rng2, e_yes, e_nm, e_app, e_itL, e_itT, r_onB, r_onI, r_onTB, r_addI, r_addS, r_addT, r_addLvv, r_addLvf, r_addLvb, r_addLfv, r_addLff, r_addLfb, r_addLbv, r_addLbf, r_addLbb, r_intT, r_intP, r_int, r_mulI, r_mulT, r_mulLv, r_lenv, r_tupv, r_lisv, r_slv, r_ixv, r_mulLf, r_lenf, r_tupf, r_lisf, r_slf, r_ixf, r_mulLb, r_lenb, r_tupb, r_lisb, r_slb, r_ixb, r_lenT, r_lenS, r_tupT, r_lisT, r_slT, r_slS, r_ixT, r_intI, r_max, r_min, r_rel, r_isN, r_notN, r_isi, r_tgN, r_some, r_stV, r_stO, r_stFn, r_all, r_any, r_sum, f_data0, f_data1, f_data2, f_slot0, f_slot1, f_slot2, f_slot3, f_safe0, f_safe1, f_safe2, f_safe3, f_isD0, f_isD1, f_isD2, f_isD3, f_noBor0, f_noBor1, f_noBor2, f_noBor3, f_lfree0, f_lfree1, f_lfree2, f_lfree3, f_lfr0, f_lfr1, f_lfr2, f_lfr3, f_ret0, f_ret1, f_ret2, f_ret3, stFs, on1, on2, onList, List.map, List.all, List.length_cons, List.length_nil, List.set, List.getElem?_cons_zero, List.getElem?_cons_succ, wipeD, tgTup, tgCons, tgNil, Bool.and_true]
            have ho : opn Cu = .error (kk : Nat) := by unfold opn; rw [if_pos (by omega), hCl]
            unfold toldD at q
            rw [ho] at q
            exact ite_no (decide_eq_false (by omega)) (ite_no rfl (ite_no (decide_eq_false (by omega)) ⟨rfl, szl, q⟩))
        have hgd : gd 3 (toldD Cu) = true := by
          unfold toldD
          split
          · rename_i xs hxs'
            have : xs.length ≤ 900 := by
              unfold opn at hxs'
              split at hxs'
              · cases hxs'
              · split at hxs'
                · cases hxs'
                  rw [List.length_take]; omega
                · cases hxs'
            refine gd_tup (by simp) fun x hx => ?_
            simp only [List.mem_cons, List.not_mem_nil, or_false] at hx
            rcases hx with rfl | rfl
            · exact gd_ti (by omega)
            · exact gd_non
          · refine gd_tup (by simp) fun x hx => ?_
            simp only [List.mem_cons, List.not_mem_nil, or_false] at hx
            rcases hx with rfl | rfl
            · exact gd_non
            · exact gd_int
        refine if_not (fun R => ev_same (n := 3) (da := toldD Cu) (db := toldD Cu) (fun K q => ?_) (fun K q => q) rfl hgd (by decide)) (nx2 _ _ ⟨rfl, fun y hy => hxs y (.tail _ hy), _, _, _, _, _, _, _, rfl⟩)
        try dsimp only [e_set, e_ret, e_ifS, e_drop, e_par, e_asg, e_retT, e_next, e_brk, e_cnt, e_c, e_fn, e_bin, e_bool, e_truth, e_not, e_and, e_or, e_andV, e_orV, e_notV, e_neg, e_if, e_nil, e_cons, e_tup, e_lst, e_sl, e_no, e_part, e_bi, e_call, e_lc, e_for, e_rng1, e_rng2, e_yes, e_nm, e_app, e_itL, e_itT, r_onB, r_onI, r_onTB, r_addI, r_addS, r_addT, r_addLvv, r_addLvf, r_addLvb, r_addLfv, r_addLff, r_addLfb, r_addLbv, r_addLbf, r_addLbb, r_intT, r_intP, r_int, r_mulI, r_mulT, r_mulLv, r_lenv, r_tupv, r_lisv, r_slv, r_ixv, r_mulLf, r_lenf, r_tupf, r_lisf, r_slf, r_ixf, r_mulLb, r_lenb, r_tupb, r_lisb, r_slb, r_ixb, r_lenT, r_lenS, r_tupT, r_lisT, r_slT, r_slS, r_ixT, r_intI, r_max, r_min, r_rel, r_isN, r_notN, r_isi, r_tgN, r_some, r_stV, r_stO, r_stFn, r_all, r_any, r_sum, f_data0, f_data1, f_data2, f_slot0, f_slot1, f_slot2, f_slot3, f_safe0, f_safe1, f_safe2, f_safe3, f_isD0, f_isD1, f_isD2, f_isD3, f_noBor0, f_noBor1, f_noBor2, f_noBor3, f_lfree0, f_lfree1, f_lfree2, f_lfree3, f_lfr0, f_lfr1, f_lfr2, f_lfr3, f_ret0, f_ret1, f_ret2, f_ret3, stFs, on1, on2, onList, List.map, List.all, List.length_cons, List.length_nil, List.set, List.getElem?_cons_zero, List.getElem?_cons_succ, wipeD, tgTup, tgCons, tgNil, Bool.and_true]
        exact ⟨rfl, Cu, rfl, by omega, hCb, .inl rfl, q⟩
      rintro _ g3 ⟨rfl, s7, s8, s9, s10, s11, s12, s13, rfl⟩
      -- a number
      refine seq_ok (fun ρ' g3 => g'' = g3 ∧ ∃ n : Int, 0 ≤ n ∧ n < 2 ^ 32 ∧ ρ' = Sl (.fn (.ref g.a)) (.fn (.ref b)) (.val (.int t)) (.val (.int r)) (.val (ti d)) (.val (.int (lchk d))) (.val (ti W)) s7 s8 s9 s10 s11 s12 (.val (.int n))) (fun E3 i1 i2 i3 i4 k => ?_) ?_
      · try dsimp only [e_set, e_ret, e_ifS, e_drop, e_par, e_asg, e_retT, e_next, e_brk, e_cnt, e_c, e_fn, e_bin, e_bool, e_truth, e_not, e_and, e_or, e_andV, e_orV, e_notV, e_neg, e_if, e_nil, e_cons, e_tup, e_lst, e_sl, e_no, e_part, e_bi, e_call, e_lc, e_for, e_rng1, e_rng2, e_yes, e_nm, e_app, e_itL, e_itT, r_onB, r_onI, r_onTB, r_addI, r_addS, r_addT, r_addLvv, r_addLvf, r_addLvb, r_addLfv, r_addLff, r_addLfb, r_addLbv, r_addLbf, r_addLbb, r_intT, r_intP, r_int, r_mulI, r_mulT, r_mulLv, r_lenv, r_tupv, r_lisv, r_slv, r_ixv, r_mulLf, r_lenf, r_tupf, r_lisf, r_slf, r_ixf, r_mulLb, r_lenb, r_tupb, r_lisb, r_slb, r_ixb, r_lenT, r_lenS, r_tupT, r_lisT, r_slT, r_slS, r_ixT, r_intI, r_max, r_min, r_rel, r_isN, r_notN, r_isi, r_tgN, r_some, r_stV, r_stO, r_stFn, r_all, r_any, r_sum, f_data0, f_data1, f_data2, f_slot0, f_slot1, f_slot2, f_slot3, f_safe0, f_safe1, f_safe2, f_safe3, f_isD0, f_isD1, f_isD2, f_isD3, f_noBor0, f_noBor1, f_noBor2, f_noBor3, f_lfree0, f_lfree1, f_lfree2, f_lfree3, f_lfr0, f_lfr1, f_lfr2, f_lfr3, f_ret0, f_ret1, f_ret2, f_ret3, stFs, on1, on2, onList, List.map, List.all, List.length_cons, List.length_nil, List.set, List.getElem?_cons_zero, List.getElem?_cons_succ, wipeD, tgTup, tgCons, tgNil, Bool.and_true]
        refine ⟨rfl, drawn2 hb (by decide) (by decide) fun i i0 i1 => ⟨.inl rfl, ?_⟩⟩
        try dsimp only [e_set, e_ret, e_ifS, e_drop, e_par, e_asg, e_retT, e_next, e_brk, e_cnt, e_c, e_fn, e_bin, e_bool, e_truth, e_not, e_and, e_or, e_andV, e_orV, e_notV, e_neg, e_if, e_nil, e_cons, e_tup, e_lst, e_sl, e_no, e_part, e_bi, e_call, e_lc, e_for, e_rng1, e_rng2, e_yes, e_nm, e_app, e_itL, e_itT, r_onB, r_onI, r_onTB, r_addI, r_addS, r_addT, r_addLvv, r_addLvf, r_addLvb, r_addLfv, r_addLff, r_addLfb, r_addLbv, r_addLbf, r_addLbb, r_intT, r_intP, r_int, r_mulI, r_mulT, r_mulLv, r_lenv, r_tupv, r_lisv, r_slv, r_ixv, r_mulLf, r_lenf, r_tupf, r_lisf, r_slf, r_ixf, r_mulLb, r_lenb, r_tupb, r_lisb, r_slb, r_ixb, r_lenT, r_lenS, r_tupT, r_lisT, r_slT, r_slS, r_ixT, r_intI, r_max, r_min, r_rel, r_isN, r_notN, r_isi, r_tgN, r_some, r_stV, r_stO, r_stFn, r_all, r_any, r_sum, f_data0, f_data1, f_data2, f_slot0, f_slot1, f_slot2, f_slot3, f_safe0, f_safe1, f_safe2, f_safe3, f_isD0, f_isD1, f_isD2, f_isD3, f_noBor0, f_noBor1, f_noBor2, f_noBor3, f_lfree0, f_lfree1, f_lfree2, f_lfree3, f_lfr0, f_lfr1, f_lfr2, f_lfr3, f_ret0, f_ret1, f_ret2, f_ret3, stFs, on1, on2, onList, List.map, List.all, List.length_cons, List.length_nil, List.set, List.getElem?_cons_zero, List.getElem?_cons_succ, wipeD, tgTup, tgCons, tgNil, Bool.and_true]
        refine ⟨cmul (by omega) (by decide), rfl, drawn2 hb (by decide) (by decide) fun j j0 j1 => ⟨.inl rfl, ?_⟩⟩
        try dsimp only [e_set, e_ret, e_ifS, e_drop, e_par, e_asg, e_retT, e_next, e_brk, e_cnt, e_c, e_fn, e_bin, e_bool, e_truth, e_not, e_and, e_or, e_andV, e_orV, e_notV, e_neg, e_if, e_nil, e_cons, e_tup, e_lst, e_sl, e_no, e_part, e_bi, e_call, e_lc, e_for, e_rng1, e_rng2, e_yes, e_nm, e_app, e_itL, e_itT, r_onB, r_onI, r_onTB, r_addI, r_addS, r_addT, r_addLvv, r_addLvf, r_addLvb, r_addLfv, r_addLff, r_addLfb, r_addLbv, r_addLbf, r_addLbb, r_intT, r_intP, r_int, r_mulI, r_mulT, r_mulLv, r_lenv, r_tupv, r_lisv, r_slv, r_ixv, r_mulLf, r_lenf, r_tupf, r_lisf, r_slf, r_ixf, r_mulLb, r_lenb, r_tupb, r_lisb, r_slb, r_ixb, r_lenT, r_lenS, r_tupT, r_lisT, r_slT, r_slS, r_ixT, r_intI, r_max, r_min, r_rel, r_isN, r_notN, r_isi, r_tgN, r_some, r_stV, r_stO, r_stFn, r_all, r_any, r_sum, f_data0, f_data1, f_data2, f_slot0, f_slot1, f_slot2, f_slot3, f_safe0, f_safe1, f_safe2, f_safe3, f_isD0, f_isD1, f_isD2, f_isD3, f_noBor0, f_noBor1, f_noBor2, f_noBor3, f_lfree0, f_lfree1, f_lfree2, f_lfree3, f_lfr0, f_lfr1, f_lfr2, f_lfr3, f_ret0, f_ret1, f_ret2, f_ret3, stFs, on1, on2, onList, List.map, List.all, List.length_cons, List.length_nil, List.set, List.getElem?_cons_zero, List.getElem?_cons_succ, wipeD, tgTup, tgCons, tgNil, Bool.and_true]
        exact k _ _ ⟨rfl, i * 65536 + j, by omega, by omega, rfl⟩
      rintro _ g3 ⟨rfl, n, n0, n1, rfl⟩
      refine if_not (fun R => ev_same (n := 3) (da := .tuple [ti (four n), .int (of4L (four n))]) (db := .tuple [ti (lfour n), .int n]) (fun K q => ?_) (fun K q => ?_) (by rw [four_lfour n0 n1, ← four_lfour n0 n1, of4_four n0 n1]) ?_ (by decide)) (nx _ _ ⟨hxs, rfl, _, _, _, _, _, _, _, _, _, _, _, _, rfl⟩)
      · try dsimp only [e_set, e_ret, e_ifS, e_drop, e_par, e_asg, e_retT, e_next, e_brk, e_cnt, e_c, e_fn, e_bin, e_bool, e_truth, e_not, e_and, e_or, e_andV, e_orV, e_notV, e_neg, e_if, e_nil, e_cons, e_tup, e_lst, e_sl, e_no, e_part, e_bi, e_call, e_lc, e_for, e_rng1, e_rng2, e_yes, e_nm, e_app, e_itL, e_itT, r_onB, r_onI, r_onTB, r_addI, r_addS, r_addT, r_addLvv, r_addLvf, r_addLvb, r_addLfv, r_addLff, r_addLfb, r_addLbv, r_addLbf, r_addLbb, r_intT, r_intP, r_int, r_mulI, r_mulT, r_mulLv, r_lenv, r_tupv, r_lisv, r_slv, r_ixv, r_mulLf, r_lenf, r_tupf, r_lisf, r_slf, r_ixf, r_mulLb, r_lenb, r_tupb, r_lisb, r_slb, r_ixb, r_lenT, r_lenS, r_tupT, r_lisT, r_slT, r_slS, r_ixT, r_intI, r_max, r_min, r_rel, r_isN, r_notN, r_isi, r_tgN, r_some, r_stV, r_stO, r_stFn, r_all, r_any, r_sum, f_data0, f_data1, f_data2, f_slot0, f_slot1, f_slot2, f_slot3, f_safe0, f_safe1, f_safe2, f_safe3, f_isD0, f_isD1, f_isD2, f_isD3, f_noBor0, f_noBor1, f_noBor2, f_noBor3, f_lfree0, f_lfree1, f_lfree2, f_lfree3, f_lfr0, f_lfr1, f_lfr2, f_lfr3, f_ret0, f_ret1, f_ret2, f_ret3, stFs, on1, on2, onList, List.map, List.all, List.length_cons, List.length_nil, List.set, List.getElem?_cons_zero, List.getElem?_cons_succ, wipeD, tgTup, tgCons, tgNil, Bool.and_true]
        refine ⟨rfl, n, rfl, .inl rfl, rfl, n, rfl, .inl rfl, rfl, _, _, _, _, .inl rfl, by omega, by omega, by omega, .inl rfl, rfl, szl, q⟩
      · try dsimp only [e_set, e_ret, e_ifS, e_drop, e_par, e_asg, e_retT, e_next, e_brk, e_cnt, e_c, e_fn, e_bin, e_bool, e_truth, e_not, e_and, e_or, e_andV, e_orV, e_notV, e_neg, e_if, e_nil, e_cons, e_tup, e_lst, e_sl, e_no, e_part, e_bi, e_call, e_lc, e_for, e_rng1, e_rng2, e_yes, e_nm, e_app, e_itL, e_itT, r_onB, r_onI, r_onTB, r_addI, r_addS, r_addT, r_addLvv, r_addLvf, r_addLvb, r_addLfv, r_addLff, r_addLfb, r_addLbv, r_addLbf, r_addLbb, r_intT, r_intP, r_int, r_mulI, r_mulT, r_mulLv, r_lenv, r_tupv, r_lisv, r_slv, r_ixv, r_mulLf, r_lenf, r_tupf, r_lisf, r_slf, r_ixf, r_mulLb, r_lenb, r_tupb, r_lisb, r_slb, r_ixb, r_lenT, r_lenS, r_tupT, r_lisT, r_slT, r_slS, r_ixT, r_intI, r_max, r_min, r_rel, r_isN, r_notN, r_isi, r_tgN, r_some, r_stV, r_stO, r_stFn, r_all, r_any, r_sum, f_data0, f_data1, f_data2, f_slot0, f_slot1, f_slot2, f_slot3, f_safe0, f_safe1, f_safe2, f_safe3, f_isD0, f_isD1, f_isD2, f_isD3, f_noBor0, f_noBor1, f_noBor2, f_noBor3, f_lfree0, f_lfree1, f_lfree2, f_lfree3, f_lfr0, f_lfr1, f_lfr2, f_lfr3, f_ret0, f_ret1, f_ret2, f_ret3, stFs, on1, on2, onList, List.map, List.all, List.length_cons, List.length_nil, List.set, List.getElem?_cons_zero, List.getElem?_cons_succ, wipeD, tgTup, tgCons, tgNil, Bool.and_true]
        exact ⟨rfl, n, rfl, n0, by omega, .inl rfl, rfl, szl, q⟩
      · refine gd_tup (by simp) fun x hx => ?_
        simp only [List.mem_cons, List.not_mem_nil, or_false] at hx
        rcases hx with rfl | rfl
        · exact gd_ti (by rw [four_len]; omega)
        · exact gd_int
    · obtain ⟨i, _, rfl⟩ := mem_rng hx
      exact ⟨_, rfl⟩
    · rintro ρ g'' ⟨_, rfl, _⟩
      exact k _ _ rfl
  · rintro ρ g'' rfl
    try dsimp only [e_set, e_ret, e_ifS, e_drop, e_par, e_asg, e_retT, e_next, e_brk, e_cnt, e_c, e_fn, e_bin, e_bool, e_truth, e_not, e_and, e_or, e_andV, e_orV, e_notV, e_neg, e_if, e_nil, e_cons, e_tup, e_lst, e_sl, e_no, e_part, e_bi, e_call, e_lc, e_for, e_rng1, e_rng2, e_yes, e_nm, e_app, e_itL, e_itT, r_onB, r_onI, r_onTB, r_addI, r_addS, r_addT, r_addLvv, r_addLvf, r_addLvb, r_addLfv, r_addLff, r_addLfb, r_addLbv, r_addLbf, r_addLbb, r_intT, r_intP, r_int, r_mulI, r_mulT, r_mulLv, r_lenv, r_tupv, r_lisv, r_slv, r_ixv, r_mulLf, r_lenf, r_tupf, r_lisf, r_slf, r_ixf, r_mulLb, r_lenb, r_tupb, r_lisb, r_slb, r_ixb, r_lenT, r_lenS, r_tupT, r_lisT, r_slT, r_slS, r_ixT, r_intI, r_max, r_min, r_rel, r_isN, r_notN, r_isi, r_tgN, r_some, r_stV, r_stO, r_stFn, r_all, r_any, r_sum, f_data0, f_data1, f_data2, f_slot0, f_slot1, f_slot2, f_slot3, f_safe0, f_safe1, f_safe2, f_safe3, f_isD0, f_isD1, f_isD2, f_isD3, f_noBor0, f_noBor1, f_noBor2, f_noBor3, f_lfree0, f_lfree1, f_lfree2, f_lfree3, f_lfr0, f_lfr1, f_lfr2, f_lfr3, f_ret0, f_ret1, f_ret2, f_ret3, stFs, on1, on2, onList, List.map, List.all, List.length_cons, List.length_nil, List.set, List.getElem?_cons_zero, List.getElem?_cons_succ, wipeD, tgTup, tgCons, tgNil, Bool.and_true]
    refine ⟨rfl, szl, rfl, [], rfl, .inl rfl, eq_int ?_⟩
    try dsimp only [e_set, e_ret, e_ifS, e_drop, e_par, e_asg, e_retT, e_next, e_brk, e_cnt, e_c, e_fn, e_bin, e_bool, e_truth, e_not, e_and, e_or, e_andV, e_orV, e_notV, e_neg, e_if, e_nil, e_cons, e_tup, e_lst, e_sl, e_no, e_part, e_bi, e_call, e_lc, e_for, e_rng1, e_rng2, e_yes, e_nm, e_app, e_itL, e_itT, r_onB, r_onI, r_onTB, r_addI, r_addS, r_addT, r_addLvv, r_addLvf, r_addLvb, r_addLfv, r_addLff, r_addLfb, r_addLbv, r_addLbf, r_addLbb, r_intT, r_intP, r_int, r_mulI, r_mulT, r_mulLv, r_lenv, r_tupv, r_lisv, r_slv, r_ixv, r_mulLf, r_lenf, r_tupf, r_lisf, r_slf, r_ixf, r_mulLb, r_lenb, r_tupb, r_lisb, r_slb, r_ixb, r_lenT, r_lenS, r_tupT, r_lisT, r_slT, r_slS, r_ixT, r_intI, r_max, r_min, r_rel, r_isN, r_notN, r_isi, r_tgN, r_some, r_stV, r_stO, r_stFn, r_all, r_any, r_sum, f_data0, f_data1, f_data2, f_slot0, f_slot1, f_slot2, f_slot3, f_safe0, f_safe1, f_safe2, f_safe3, f_isD0, f_isD1, f_isD2, f_isD3, f_noBor0, f_noBor1, f_noBor2, f_noBor3, f_lfree0, f_lfree1, f_lfree2, f_lfree3, f_lfr0, f_lfr1, f_lfr2, f_lfr3, f_ret0, f_ret1, f_ret2, f_ret3, stFs, on1, on2, onList, List.map, List.all, List.length_cons, List.length_nil, List.set, List.getElem?_cons_zero, List.getElem?_cons_succ, wipeD, tgTup, tgCons, tgNil, Bool.and_true]
    refine ite_yes (by decide) ⟨rfl, szl, rfl, [1], rfl, by decide, .inl rfl, rfl, szl, eq_ti (ns := [1, 0, 2, 0, 2]) (ms := [1, 0, 2, 0, 2]) (q _)⟩
end K19

set_option Elab.async false
set_option linter.all false
set_option autoImplicit false
set_option maxRecDepth 100000
set_option maxHeartbeats 4000000
namespace K19
open PySem PySem.Spec L2 DL
open PySem.W PySem.Calls PyProof.Rows PySem.HandSPX
theorem all_mk {w : World} {K : PySem.W.Frag} {h : Heap} {mg : Str → Option Value} {fa c_BadBytes : Addr} (X : K.In h) (G : h.Ns mainGlobals mg) (hfa : mg "law" = some (.ref fa))
    {f_check_of : Addr} {od_check_of an_check_of : Option Addr} {sl_check_of : Array (Option Value)} {oc_check_of kV_check_of dc_check_of pm_check_of cd_check_of ct_check_of : Value}
    {f_four_bytes : Addr} {od_four_bytes an_four_bytes : Option Addr} {sl_four_bytes : Array (Option Value)} {oc_four_bytes kV_four_bytes dc_four_bytes pm_four_bytes cd_four_bytes ct_four_bytes : Value}
    {f_of_four : Addr} {od_of_four an_of_four : Option Addr} {sl_of_four : Array (Option Value)} {oc_of_four kV_of_four dc_of_four pm_of_four cd_of_four ct_of_four : Value}
    {f_sealed : Addr} {od_sealed an_sealed : Option Addr} {sl_sealed : Array (Option Value)} {oc_sealed kV_sealed dc_sealed pm_sealed cd_sealed ct_sealed : Value}
    {f_opened : Addr} {od_opened an_opened : Option Addr} {sl_opened : Array (Option Value)} {oc_opened kV_opened dc_opened pm_opened cd_opened ct_opened : Value}
    {f__law_box : Addr} {od__law_box an__law_box : Option Addr} {sl__law_box : Array (Option Value)} {oc__law_box kV__law_box dc__law_box pm__law_box cd__law_box ct__law_box : Value}
    {f__law_load : Addr} {od__law_load an__law_load : Option Addr} {sl__law_load : Array (Option Value)} {oc__law_load kV__law_load dc__law_load pm__law_load cd__law_load ct__law_load : Value}
    {f__law_draw : Addr} {od__law_draw an__law_draw : Option Addr} {sl__law_draw : Array (Option Value)} {oc__law_draw kV__law_draw dc__law_draw pm__law_draw cd__law_draw ct__law_draw : Value}
    {f__law_same : Addr} {od__law_same an__law_same : Option Addr} {sl__law_same : Array (Option Value)} {oc__law_same kV__law_same dc__law_same pm__law_same cd__law_same ct__law_same : Value}
    {f__law_check : Addr} {od__law_check an__law_check : Option Addr} {sl__law_check : Array (Option Value)} {oc__law_check kV__law_check dc__law_check pm__law_check cd__law_check ct__law_check : Value}
    {f__law_four : Addr} {od__law_four an__law_four : Option Addr} {sl__law_four : Array (Option Value)} {oc__law_four kV__law_four dc__law_four pm__law_four cd__law_four ct__law_four : Value}
    {f__law_seal : Addr} {od__law_seal an__law_seal : Option Addr} {sl__law_seal : Array (Option Value)} {oc__law_seal kV__law_seal dc__law_seal pm__law_seal cd__law_seal ct__law_seal : Value}
    {f__law_told : Addr} {od__law_told an__law_told : Option Addr} {sl__law_told : Array (Option Value)} {oc__law_told kV__law_told dc__law_told pm__law_told cd__law_told ct__law_told : Value}
    {f_law : Addr} {od_law an_law : Option Addr} {sl_law : Array (Option Value)} {oc_law kV_law dc_law pm_law cd_law ct_law : Value}
    {t_ROUND : Tok}
    {t_HALF : Tok}
    {t_SEAL : Tok}
    {nm_BadBytes qn_BadBytes : Str} {N_BadBytes : Addr} {bs_BadBytes bm_BadBytes : List Value} {sn_BadBytes : List Str} {sub_BadBytes : List Value} {ab_BadBytes : Bool} {col_BadBytes : Option Bool} {dd_BadBytes : Option Addr} {m0_BadBytes m1_BadBytes m2_BadBytes m3_BadBytes m5_BadBytes : Option Value} {fI_BadBytes cc_BadBytes cda_BadBytes : Addr} {oci_BadBytes : Value} {odi_BadBytes : Option Addr} {doc_BadBytes pmi_BadBytes : Value} {ani_BadBytes : Option Addr} {cti_BadBytes : Value} {osl_BadBytes : Array (Option Value)} {qual_BadBytes : Str} {P1_BadBytes P2_BadBytes Q1_BadBytes Q2_BadBytes Q3_BadBytes Q4_BadBytes Q5_BadBytes Q6_BadBytes Q7_BadBytes Q8_BadBytes Q9_BadBytes Q10_BadBytes Q11_BadBytes Q12_BadBytes Q13_BadBytes Q14_BadBytes : Pos} {ccl_BadBytes : Value} {cdd_BadBytes : Option Addr} {ccs_BadBytes : Array (Option Value)} {vs_BadBytes : Array Value} {file_BadBytes : Str} {tf_BadBytes : Tok} {cl_BadBytes : Value} {cld_BadBytes : Option Addr} {csl_BadBytes : Array (Option Value)}
    (aC_BadBytes : PySem.W.nsIn K mainGlobals "BadBytes" = some (some (.ref c_BadBytes)))
    (a_check_of : PySem.W.nsIn K mainGlobals "check_of" = some (some (.ref f_check_of)))
    (l_check_of : K.lookup f_check_of = some ⟨oc_check_of, od_check_of, .func (PySem.W.fnOf "check_of" "check_of" (defArgs s_check_of) (defBody s_check_of) (defScope s_check_of) .none kV_check_of dc_check_of pm_check_of an_check_of cd_check_of ct_check_of), sl_check_of⟩)
    (q_check_of : PySem.W.codeIn K cd_check_of "check_of" = true)
    (k_check_of : PySem.W.keepIn K (.ref f_check_of) = true)
    (a_four_bytes : PySem.W.nsIn K mainGlobals "four_bytes" = some (some (.ref f_four_bytes)))
    (l_four_bytes : K.lookup f_four_bytes = some ⟨oc_four_bytes, od_four_bytes, .func (PySem.W.fnOf "four_bytes" "four_bytes" (defArgs s_four_bytes) (defBody s_four_bytes) (defScope s_four_bytes) .none kV_four_bytes dc_four_bytes pm_four_bytes an_four_bytes cd_four_bytes ct_four_bytes), sl_four_bytes⟩)
    (q_four_bytes : PySem.W.codeIn K cd_four_bytes "four_bytes" = true)
    (k_four_bytes : PySem.W.keepIn K (.ref f_four_bytes) = true)
    (a_of_four : PySem.W.nsIn K mainGlobals "of_four" = some (some (.ref f_of_four)))
    (l_of_four : K.lookup f_of_four = some ⟨oc_of_four, od_of_four, .func (PySem.W.fnOf "of_four" "of_four" (defArgs s_of_four) (defBody s_of_four) (defScope s_of_four) .none kV_of_four dc_of_four pm_of_four an_of_four cd_of_four ct_of_four), sl_of_four⟩)
    (q_of_four : PySem.W.codeIn K cd_of_four "of_four" = true)
    (k_of_four : PySem.W.keepIn K (.ref f_of_four) = true)
    (a_sealed : PySem.W.nsIn K mainGlobals "sealed" = some (some (.ref f_sealed)))
    (l_sealed : K.lookup f_sealed = some ⟨oc_sealed, od_sealed, .func (PySem.W.fnOf "sealed" "sealed" (defArgs s_sealed) (defBody s_sealed) (defScope s_sealed) .none kV_sealed dc_sealed pm_sealed an_sealed cd_sealed ct_sealed), sl_sealed⟩)
    (q_sealed : PySem.W.codeIn K cd_sealed "sealed" = true)
    (k_sealed : PySem.W.keepIn K (.ref f_sealed) = true)
    (a_opened : PySem.W.nsIn K mainGlobals "opened" = some (some (.ref f_opened)))
    (l_opened : K.lookup f_opened = some ⟨oc_opened, od_opened, .func (PySem.W.fnOf "opened" "opened" (defArgs s_opened) (defBody s_opened) (defScope s_opened) .none kV_opened dc_opened pm_opened an_opened cd_opened ct_opened), sl_opened⟩)
    (q_opened : PySem.W.codeIn K cd_opened "opened" = true)
    (k_opened : PySem.W.keepIn K (.ref f_opened) = true)
    (a__law_box : PySem.W.nsIn K mainGlobals "_law_box" = some (some (.ref f__law_box)))
    (l__law_box : K.lookup f__law_box = some ⟨oc__law_box, od__law_box, .func (PySem.W.fnOf "_law_box" "_law_box" (defArgs s__law_box) (defBody s__law_box) (defScope s__law_box) .none kV__law_box dc__law_box pm__law_box an__law_box cd__law_box ct__law_box), sl__law_box⟩)
    (q__law_box : PySem.W.codeIn K cd__law_box "_law_box" = true)
    (k__law_box : PySem.W.keepIn K (.ref f__law_box) = true)
    (a__law_load : PySem.W.nsIn K mainGlobals "_law_load" = some (some (.ref f__law_load)))
    (l__law_load : K.lookup f__law_load = some ⟨oc__law_load, od__law_load, .func (PySem.W.fnOf "_law_load" "_law_load" (defArgs s__law_load) (defBody s__law_load) (defScope s__law_load) .none kV__law_load dc__law_load pm__law_load an__law_load cd__law_load ct__law_load), sl__law_load⟩)
    (q__law_load : PySem.W.codeIn K cd__law_load "_law_load" = true)
    (k__law_load : PySem.W.keepIn K (.ref f__law_load) = true)
    (a__law_draw : PySem.W.nsIn K mainGlobals "_law_draw" = some (some (.ref f__law_draw)))
    (l__law_draw : K.lookup f__law_draw = some ⟨oc__law_draw, od__law_draw, .func (PySem.W.fnOf "_law_draw" "_law_draw" (defArgs s__law_draw) (defBody s__law_draw) (defScope s__law_draw) .none kV__law_draw dc__law_draw pm__law_draw an__law_draw cd__law_draw ct__law_draw), sl__law_draw⟩)
    (q__law_draw : PySem.W.codeIn K cd__law_draw "_law_draw" = true)
    (k__law_draw : PySem.W.keepIn K (.ref f__law_draw) = true)
    (a__law_same : PySem.W.nsIn K mainGlobals "_law_same" = some (some (.ref f__law_same)))
    (l__law_same : K.lookup f__law_same = some ⟨oc__law_same, od__law_same, .func (PySem.W.fnOf "_law_same" "_law_same" (defArgs s__law_same) (defBody s__law_same) (defScope s__law_same) .none kV__law_same dc__law_same pm__law_same an__law_same cd__law_same ct__law_same), sl__law_same⟩)
    (q__law_same : PySem.W.codeIn K cd__law_same "_law_same" = true)
    (k__law_same : PySem.W.keepIn K (.ref f__law_same) = true)
    (a__law_check : PySem.W.nsIn K mainGlobals "_law_check" = some (some (.ref f__law_check)))
    (l__law_check : K.lookup f__law_check = some ⟨oc__law_check, od__law_check, .func (PySem.W.fnOf "_law_check" "_law_check" (defArgs s__law_check) (defBody s__law_check) (defScope s__law_check) .none kV__law_check dc__law_check pm__law_check an__law_check cd__law_check ct__law_check), sl__law_check⟩)
    (q__law_check : PySem.W.codeIn K cd__law_check "_law_check" = true)
    (k__law_check : PySem.W.keepIn K (.ref f__law_check) = true)
    (a__law_four : PySem.W.nsIn K mainGlobals "_law_four" = some (some (.ref f__law_four)))
    (l__law_four : K.lookup f__law_four = some ⟨oc__law_four, od__law_four, .func (PySem.W.fnOf "_law_four" "_law_four" (defArgs s__law_four) (defBody s__law_four) (defScope s__law_four) .none kV__law_four dc__law_four pm__law_four an__law_four cd__law_four ct__law_four), sl__law_four⟩)
    (q__law_four : PySem.W.codeIn K cd__law_four "_law_four" = true)
    (k__law_four : PySem.W.keepIn K (.ref f__law_four) = true)
    (a__law_seal : PySem.W.nsIn K mainGlobals "_law_seal" = some (some (.ref f__law_seal)))
    (l__law_seal : K.lookup f__law_seal = some ⟨oc__law_seal, od__law_seal, .func (PySem.W.fnOf "_law_seal" "_law_seal" (defArgs s__law_seal) (defBody s__law_seal) (defScope s__law_seal) .none kV__law_seal dc__law_seal pm__law_seal an__law_seal cd__law_seal ct__law_seal), sl__law_seal⟩)
    (q__law_seal : PySem.W.codeIn K cd__law_seal "_law_seal" = true)
    (k__law_seal : PySem.W.keepIn K (.ref f__law_seal) = true)
    (a__law_told : PySem.W.nsIn K mainGlobals "_law_told" = some (some (.ref f__law_told)))
    (l__law_told : K.lookup f__law_told = some ⟨oc__law_told, od__law_told, .func (PySem.W.fnOf "_law_told" "_law_told" (defArgs s__law_told) (defBody s__law_told) (defScope s__law_told) .none kV__law_told dc__law_told pm__law_told an__law_told cd__law_told ct__law_told), sl__law_told⟩)
    (q__law_told : PySem.W.codeIn K cd__law_told "_law_told" = true)
    (k__law_told : PySem.W.keepIn K (.ref f__law_told) = true)
    (a_law : PySem.W.nsIn K mainGlobals "law" = some (some (.ref f_law)))
    (l_law : K.lookup f_law = some ⟨oc_law, od_law, .func (PySem.W.fnOf "law" "law" (defArgs s_law) (defBody s_law) (defScope s_law) .none kV_law dc_law pm_law an_law cd_law ct_law), sl_law⟩)
    (q_law : PySem.W.codeIn K cd_law "law" = true)
    (k_law : PySem.W.keepIn K (.ref f_law) = true)
    (z_all : PySem.W.nsIn K mainGlobals "all" = some none)
    (z_bool : PySem.W.nsIn K mainGlobals "bool" = some none)
    (z_int : PySem.W.nsIn K mainGlobals "int" = some none)
    (z_isinstance : PySem.W.nsIn K mainGlobals "isinstance" = some none)
    (z_len : PySem.W.nsIn K mainGlobals "len" = some none)
    (z_list : PySem.W.nsIn K mainGlobals "list" = some none)
    (z_max : PySem.W.nsIn K mainGlobals "max" = some none)
    (z_range : PySem.W.nsIn K mainGlobals "range" = some none)
    (z_str : PySem.W.nsIn K mainGlobals "str" = some none)
    (z_super : PySem.W.nsIn K mainGlobals "super" = some none)
    (z_tuple : PySem.W.nsIn K mainGlobals "tuple" = some none)
    (b_ROUND : PySem.W.nsIn K mainGlobals "ROUND" = some (some (.int 65521 t_ROUND)))
    (b_HALF : PySem.W.nsIn K mainGlobals "HALF" = some (some (.int 65536 t_HALF)))
    (b_SEAL : PySem.W.nsIn K mainGlobals "SEAL" = some (some (.int 4 t_SEAL)))
    (x1_BadBytes : K.lookup c_BadBytes = some (excClassObj nm_BadBytes qn_BadBytes c_BadBytes N_BadBytes bs_BadBytes bm_BadBytes true sn_BadBytes sub_BadBytes ab_BadBytes col_BadBytes dd_BadBytes m0_BadBytes m1_BadBytes m2_BadBytes m3_BadBytes m5_BadBytes "ValueError.__new__"))
    (x2_BadBytes : refsVE bm_BadBytes = true)
    (x3_BadBytes : PySem.W.findIn K (.ref c_BadBytes) "__setattr__" = some (some (.builtin "object.__setattr__")))
    (x4_BadBytes : PySem.W.findIn K (.ref c_BadBytes) "place" = some none)
    (x5_BadBytes : PySem.W.findIn K (.ref c_BadBytes) "__init__" = some (some (.ref fI_BadBytes)))
    (x6_BadBytes : K.lookup fI_BadBytes = some ⟨oci_BadBytes, odi_BadBytes, .func (ksFn "__init__" qual_BadBytes (Rz.rA "place" ⟨P1_BadBytes, P2_BadBytes, Q1_BadBytes, Q2_BadBytes, Q3_BadBytes, Q4_BadBytes, Q5_BadBytes, Q6_BadBytes, Q7_BadBytes, Q8_BadBytes, Q9_BadBytes, Q10_BadBytes, Q11_BadBytes, Q12_BadBytes, Q13_BadBytes, Q14_BadBytes⟩) (Rz.rB "bad bytes at " "place" ⟨P1_BadBytes, P2_BadBytes, Q1_BadBytes, Q2_BadBytes, Q3_BadBytes, Q4_BadBytes, Q5_BadBytes, Q6_BadBytes, Q7_BadBytes, Q8_BadBytes, Q9_BadBytes, Q10_BadBytes, Q11_BadBytes, Q12_BadBytes, Q13_BadBytes, Q14_BadBytes⟩) (Rz.rS "place") .none .none doc_BadBytes pmi_BadBytes ani_BadBytes (.ref cda_BadBytes) cti_BadBytes cc_BadBytes), osl_BadBytes⟩)
    (x7_BadBytes : PySem.W.codeIn K (.ref cda_BadBytes) qual_BadBytes = true)
    (x8_BadBytes : PySem.W.typeIn K (.ref fI_BadBytes) = some (.type "function"))
    (x9_BadBytes : Rz.RzEv "bad bytes at " "place" ⟨P1_BadBytes, P2_BadBytes, Q1_BadBytes, Q2_BadBytes, Q3_BadBytes, Q4_BadBytes, Q5_BadBytes, Q6_BadBytes, Q7_BadBytes, Q8_BadBytes, Q9_BadBytes, Q10_BadBytes, Q11_BadBytes, Q12_BadBytes, Q13_BadBytes, Q14_BadBytes⟩ qual_BadBytes fI_BadBytes cda_BadBytes cc_BadBytes)
    (y1_BadBytes : K.lookup cda_BadBytes = some ⟨ccl_BadBytes, cdd_BadBytes, .fields vs_BadBytes, ccs_BadBytes⟩)
    (y2_BadBytes : vs_BadBytes[2]? = some (.str file_BadBytes tf_BadBytes))
    (y3_BadBytes : ((pw.main.file : Str) == file_BadBytes) = true)
    (y4_BadBytes : K.lookup cc_BadBytes = some ⟨cl_BadBytes, cld_BadBytes, .cell (some (.ref c_BadBytes)), csl_BadBytes⟩)
    (y5_BadBytes : (pw.main.scope.names.lookup ("super" : Str)).isSome = false)
    (y6_BadBytes : PySem.W.ks_superIn K c_BadBytes c_BadBytes "__init__" = some (some (.builtin "ValueError.__init__")))
    (y7_BadBytes : PySem.W.nsIn K cStatics "thirdparty.any" = some none)
    (y8_BadBytes : PySem.W.subIn K (.ref c_BadBytes) (.type "ValueError") = some true)
    (y9_BadBytes : PySem.W.mroIn K c_BadBytes (.ref c_BadBytes) = some true)
    (w1_BadBytes : PySem.W.subIn K (.ref c_BadBytes) (.type "BaseException") = some true)
    (w2_BadBytes : PySem.W.typeIn K (.ref c_BadBytes) = some (.type "type"))
    (w3_BadBytes : PySem.W.keepIn K (.ref c_BadBytes) = true)
    (v1_BadBytes : PySem.W.isClsIn K c_BadBytes = true)
    (v2_BadBytes_BadBytes : PySem.W.subIn K (.ref c_BadBytes) (.ref c_BadBytes) = some true)
    (v3_BadBytes : PySem.W.findIn K (.ref c_BadBytes) "__getattribute__" = some (some (.builtin "BaseException.__getattribute__")))
    (v4_BadBytes : PySem.W.findIn K (.ref c_BadBytes) "__getattr__" = some none)
    (v5_BadBytes : PySem.W.hasDictIn K c_BadBytes = true)
    : ∃ fd : FuncData, (∀ (s : Shared) (v : Value), BindsTo s fd ⟨[v], []⟩ [("script", v)]) ∧ ∀ base : Heap, K.In base → base.Ns mainGlobals mg → FnOk pw w K mg base (L2.CX pw w) 7 fa fd ["script"] (spOf K (Wb K) 1 sp_law) := by
  have e := hfa.symm.trans (PySem.W.mg_of X G a_law)
  cases e
  have g : GF K mg c_BadBytes := { z_all := PySem.W.mg_none_of X G z_all, z_bool := PySem.W.mg_none_of X G z_bool, z_int := PySem.W.mg_none_of X G z_int, z_isinstance := PySem.W.mg_none_of X G z_isinstance, z_len := PySem.W.mg_none_of X G z_len, z_list := PySem.W.mg_none_of X G z_list, z_max := PySem.W.mg_none_of X G z_max, z_range := PySem.W.mg_none_of X G z_range, z_str := PySem.W.mg_none_of X G z_str, z_super := PySem.W.mg_none_of X G z_super, z_tuple := PySem.W.mg_none_of X G z_tuple, c_ROUND := gc_int (PySem.W.mg_of X G b_ROUND), c_HALF := gc_int (PySem.W.mg_of X G b_HALF), c_SEAL := gc_int (PySem.W.mg_of X G b_SEAL), m_BadBytes := PySem.W.mg_of X G aC_BadBytes, rz_BadBytes := { cls := ⟨_, _, _, _, _, _, _, _, _, _, _, _, _, _, _, x1_BadBytes, x2_BadBytes⟩, sa := x3_BadBytes, noN := x4_BadBytes, fn := ⟨_, _, _, _, _, _, _, _, _, _, _, _, x6_BadBytes, x7_BadBytes, x5_BadBytes, x8_BadBytes, x9_BadBytes, ⟨_, _, _, _, _, _, y1_BadBytes, y2_BadBytes, y3_BadBytes⟩, ⟨_, _, _, y4_BadBytes⟩⟩, top := y5_BadBytes, sup := y6_BadBytes, opq := y7_BadBytes, isV := y8_BadBytes, mro := y9_BadBytes, exC := w1_BadBytes, tyC := w2_BadBytes, kC := w3_BadBytes }, ex_BadBytes := (ExM.cons (exm_self w1_BadBytes v1_BadBytes w2_BadBytes v2_BadBytes_BadBytes) ExM.nil), xf_BadBytes := ⟨v3_BadBytes, v4_BadBytes, w1_BadBytes, v5_BadBytes⟩, no_BadBytes_place := x4_BadBytes }
  refine ⟨PySem.W.fnOf "law" "law" (defArgs s_law) (defBody s_law) (defScope s_law) .none kV_law dc_law pm_law an_law cd_law ct_law, fun s v => .of_eq rfl, fun base _ _ => ?_⟩
  have Fu_check_of := fun_mk (st := s_check_of) l_check_of q_check_of k_check_of
  have M_check_of := PySem.W.mg_of X G a_check_of
  have B_check_of := Fu_check_of.binds (ps := ["data"]) fun _ _ _ _ _ _ us hl => match us, hl with | [_], _ => rfl
  have Fu_four_bytes := fun_mk (st := s_four_bytes) l_four_bytes q_four_bytes k_four_bytes
  have M_four_bytes := PySem.W.mg_of X G a_four_bytes
  have B_four_bytes := Fu_four_bytes.binds (ps := ["number"]) fun _ _ _ _ _ _ us hl => match us, hl with | [_], _ => rfl
  have Fu_of_four := fun_mk (st := s_of_four) l_of_four q_of_four k_of_four
  have M_of_four := PySem.W.mg_of X G a_of_four
  have B_of_four := Fu_of_four.binds (ps := ["data"]) fun _ _ _ _ _ _ us hl => match us, hl with | [_], _ => rfl
  have Fu_sealed := fun_mk (st := s_sealed) l_sealed q_sealed k_sealed
  have M_sealed := PySem.W.mg_of X G a_sealed
  have B_sealed := Fu_sealed.binds (ps := ["data"]) fun _ _ _ _ _ _ us hl => match us, hl with | [_], _ => rfl
  have Fu_opened := fun_mk (st := s_opened) l_opened q_opened k_opened
  have M_opened := PySem.W.mg_of X G a_opened
  have B_opened := Fu_opened.binds (ps := ["data"]) fun _ _ _ _ _ _ us hl => match us, hl with | [_], _ => rfl
  have Fu__law_box := fun_mk (st := s__law_box) l__law_box q__law_box k__law_box
  have M__law_box := PySem.W.mg_of X G a__law_box
  have B__law_box := Fu__law_box.binds (ps := ["script"]) fun _ _ _ _ _ _ us hl => match us, hl with | [_], _ => rfl
  have Fu__law_load := fun_mk (st := s__law_load) l__law_load q__law_load k__law_load
  have M__law_load := PySem.W.mg_of X G a__law_load
  have B__law_load := Fu__law_load.binds (ps := ["box"]) fun _ _ _ _ _ _ us hl => match us, hl with | [_], _ => rfl
  have Fu__law_draw := fun_mk (st := s__law_draw) l__law_draw q__law_draw k__law_draw
  have M__law_draw := PySem.W.mg_of X G a__law_draw
  have B__law_draw := Fu__law_draw.binds (ps := ["box", "many"]) fun _ _ _ _ _ _ us hl => match us, hl with | [_, _], _ => rfl
  have Fu__law_same := fun_mk (st := s__law_same) l__law_same q__law_same k__law_same
  have M__law_same := PySem.W.mg_of X G a__law_same
  have B__law_same := Fu__law_same.binds (ps := ["a", "b"]) fun _ _ _ _ _ _ us hl => match us, hl with | [_, _], _ => rfl
  have Fu__law_check := fun_mk (st := s__law_check) l__law_check q__law_check k__law_check
  have M__law_check := PySem.W.mg_of X G a__law_check
  have B__law_check := Fu__law_check.binds (ps := ["data"]) fun _ _ _ _ _ _ us hl => match us, hl with | [_], _ => rfl
  have Fu__law_four := fun_mk (st := s__law_four) l__law_four q__law_four k__law_four
  have M__law_four := PySem.W.mg_of X G a__law_four
  have B__law_four := Fu__law_four.binds (ps := ["number"]) fun _ _ _ _ _ _ us hl => match us, hl with | [_], _ => rfl
  have Fu__law_seal := fun_mk (st := s__law_seal) l__law_seal q__law_seal k__law_seal
  have M__law_seal := PySem.W.mg_of X G a__law_seal
  have B__law_seal := Fu__law_seal.binds (ps := ["data"]) fun _ _ _ _ _ _ us hl => match us, hl with | [_], _ => rfl
  have Fu__law_told := fun_mk (st := s__law_told) l__law_told q__law_told k__law_told
  have M__law_told := PySem.W.mg_of X G a__law_told
  have B__law_told := Fu__law_told.binds (ps := ["data"]) fun _ _ _ _ _ _ us hl => match us, hl with | [_], _ => rfl
  have Fu_law := fun_mk (st := s_law) l_law q_law k_law
  have M_law := PySem.W.mg_of X G a_law
  have B_law := Fu_law.binds (ps := ["script"]) fun _ _ _ _ _ _ us hl => match us, hl with | [_], _ => rfl
  have F_check_of : DFn pw w K mg base (Wb K) "check_of" 1 1 sp_check := dfn_of (P := pw) (w := w) (base := base) Fu_check_of sc_check_of M_check_of B_check_of rfl (fun _ _ _ _ _ _ _ _ C => bd_check_of g  C) r_check_of
  have F_four_bytes : DFn pw w K mg base (Wb K) "four_bytes" 1 1 sp_four := dfn_of (P := pw) (w := w) (base := base) Fu_four_bytes sc_four_bytes M_four_bytes B_four_bytes rfl (fun _ _ _ _ _ _ _ _ C => bd_four_bytes g  C) r_four_bytes
  have F_of_four : DFn pw w K mg base (Wb K) "of_four" 1 1 sp_of4 := dfn_of (P := pw) (w := w) (base := base) Fu_of_four sc_of_four M_of_four B_of_four rfl (fun _ _ _ _ _ _ _ _ C => bd_of_four g  C) r_of_four
  have F_sealed : DFn pw w K mg base (Wb K) "sealed" 2 1 sp_sealed := dfn_of (P := pw) (w := w) (base := base) Fu_sealed sc_sealed M_sealed B_sealed rfl (fun _ _ _ _ _ _ _ _ C => bd_sealed g F_check_of F_four_bytes C) r_sealed
  have F_opened : DFn pw w K mg base (Wb K) "opened" 2 1 (sp_opened c_BadBytes) := dfn_of (P := pw) (w := w) (base := base) Fu_opened sc_opened M_opened B_opened rfl (fun _ _ _ _ _ _ _ _ C => bd_opened g F_check_of F_of_four C) r_opened
  have F__law_box : DFn pw w K mg base (Wb K) "_law_box" 1 1 sp_box := dfn_box (P := pw) (w := w) (base := base) Fu__law_box sc__law_box M__law_box B__law_box fun _ _ _ _ _ _ => bd__law_box g.z_len g.z_list
  have F__law_load : LdOk pw w K mg base 1 := ld_of (P := pw) (w := w) (base := base) Fu__law_load sc__law_load M__law_load B__law_load fun _ _ _ _ _ _ => bd__law_load g.z_len g.z_int
  have F__law_draw : DFn pw w K mg base (Wb K) "_law_draw" 2 2 sp_draw := dfn_draw (P := pw) (w := w) (base := base) Fu__law_draw sc__law_draw M__law_draw B__law_draw fun _ _ _ _ _ _ C => bd__law_draw F__law_load (by decide) g.z_int C
  have F__law_same : DFn pw w K mg base (Wb K) "_law_same" 5 2 (sp_same 3) := dfn_same (P := pw) (w := w) (base := base) Fu__law_same sc__law_same M__law_same B__law_same (fun Fx _ _ _ _ _ _ _ _ C => bd__law_same g Fx C) 3
  have F__law_check : DFn pw w K mg base (Wb K) "_law_check" 1 1 sp_lchk := dfn_of (P := pw) (w := w) (base := base) Fu__law_check sc__law_check M__law_check B__law_check rfl (fun _ _ _ _ _ _ _ _ C => bd__law_check g  C) r_lchk
  have F__law_four : DFn pw w K mg base (Wb K) "_law_four" 1 1 sp_lfour := dfn_of (P := pw) (w := w) (base := base) Fu__law_four sc__law_four M__law_four B__law_four rfl (fun _ _ _ _ _ _ _ _ C => bd__law_four g  C) r_lfour
  have F__law_seal : DFn pw w K mg base (Wb K) "_law_seal" 2 1 sp_lseal := dfn_of (P := pw) (w := w) (base := base) Fu__law_seal sc__law_seal M__law_seal B__law_seal rfl (fun _ _ _ _ _ _ _ _ C => bd__law_seal g F__law_check F__law_four C) r_lseal
  have F__law_told : DFn pw w K mg base (Wb K) "_law_told" 3 1 sp_told := dfn_of (P := pw) (w := w) (base := base) Fu__law_told sc__law_told M__law_told B__law_told rfl (fun _ _ _ _ _ _ _ _ C => bd__law_told g F_opened C) r_told
  exact fnok_of Fu_law sc_law rfl (fun _ _ _ _ _ _ _ _ C => bd_law g F_check_of F_four_bytes F_of_four F_sealed F__law_box F__law_draw F__law_same F__law_check F__law_four F__law_seal F__law_told C) r_law
end K19
open PySem PySem.W PyProof.Rows
set_option maxRecDepth 100000 in
set_option maxHeartbeats 0 in
theorem PySem.Challenge.cw_columnskept_k19_whole_checks_of_bytes_holds : PySem.Challenge.rw_columnskept_k19_whole_checks_of_bytes.Holds := by
  w_on; o_law; k_head; (case hw => w_witness2)
  k_fill
  refine L2.walk_of (l := PySem.Challenge.rw_columnskept_k19_whole_checks_of_bytes) (n := 63) (k := 7) (x := "script") (CX := fun w => L2.CX K19.pw w) (sp := fun w => DL.spOf _ (DL.Wb _) 1 K19.sp_law) rfl (by decide) rfl ⟨rfl, by decide, by decide⟩ (fun w h Y => PySem.W.kIn_of Y) ?F (fun _ _ a ns hl _ hS => DL.sp_end (Nat.le_trans hl (by decide)) hS fun g e hb Q R q => ⟨by rw [e], hb, q⟩) fun _ _ _ _ _ z => DL.cx_no z
  case F =>
    intro w mg fa h KX G hmg
    refine' K19.all_mk KX G hmg ?aC_BadBytes ?a_check_of ?l_check_of ?q_check_of ?k_check_of ?a_four_bytes ?l_four_bytes ?q_four_bytes ?k_four_bytes ?a_of_four ?l_of_four ?q_of_four ?k_of_four ?a_sealed ?l_sealed ?q_sealed ?k_sealed ?a_opened ?l_opened ?q_opened ?k_opened ?a__law_box ?l__law_box ?q__law_box ?k__law_box ?a__law_load ?l__law_load ?q__law_load ?k__law_load ?a__law_draw ?l__law_draw ?q__law_draw ?k__law_draw ?a__law_same ?l__law_same ?q__law_same ?k__law_same ?a__law_check ?l__law_check ?q__law_check ?k__law_check ?a__law_four ?l__law_four ?q__law_four ?k__law_four ?a__law_seal ?l__law_seal ?q__law_seal ?k__law_seal ?a__law_told ?l__law_told ?q__law_told ?k__law_told ?a_law ?l_law ?q_law ?k_law ?z_all ?z_bool ?z_int ?z_isinstance ?z_len ?z_list ?z_max ?z_range ?z_str ?z_super ?z_tuple ?b_ROUND ?b_HALF ?b_SEAL ?x1_BadBytes ?x2_BadBytes ?x3_BadBytes ?x4_BadBytes ?x5_BadBytes ?x6_BadBytes ?x7_BadBytes ?x8_BadBytes ?x9_BadBytes ?y1_BadBytes ?y2_BadBytes ?y3_BadBytes ?y4_BadBytes ?y5_BadBytes ?y6_BadBytes ?y7_BadBytes ?y8_BadBytes ?y9_BadBytes ?w1_BadBytes ?w2_BadBytes ?w3_BadBytes ?v1_BadBytes ?v2_BadBytes_BadBytes ?v3_BadBytes ?v4_BadBytes ?v5_BadBytes
    (case aC_BadBytes => k_is)
    (case a_check_of => k_is)
    (case l_check_of => k_is)
    (case q_check_of => k_is)
    (case k_check_of => k_is)
    (case a_four_bytes => k_is)
    (case l_four_bytes => k_is)
    (case q_four_bytes => k_is)
    (case k_four_bytes => k_is)
    (case a_of_four => k_is)
    (case l_of_four => k_is)
    (case q_of_four => k_is)
    (case k_of_four => k_is)
    (case a_sealed => k_is)
    (case l_sealed => k_is)
    (case q_sealed => k_is)
    (case k_sealed => k_is)
    (case a_opened => k_is)
    (case l_opened => k_is)
    (case q_opened => k_is)
    (case k_opened => k_is)
    (case a__law_box => k_is)
    (case l__law_box => k_is)
    (case q__law_box => k_is)
    (case k__law_box => k_is)
    (case a__law_load => k_is)
    (case l__law_load => k_is)
    (case q__law_load => k_is)
    (case k__law_load => k_is)
    (case a__law_draw => k_is)
    (case l__law_draw => k_is)
    (case q__law_draw => k_is)
    (case k__law_draw => k_is)
    (case a__law_same => k_is)
    (case l__law_same => k_is)
    (case q__law_same => k_is)
    (case k__law_same => k_is)
    (case a__law_check => k_is)
    (case l__law_check => k_is)
    (case q__law_check => k_is)
    (case k__law_check => k_is)
    (case a__law_four => k_is)
    (case l__law_four => k_is)
    (case q__law_four => k_is)
    (case k__law_four => k_is)
    (case a__law_seal => k_is)
    (case l__law_seal => k_is)
    (case q__law_seal => k_is)
    (case k__law_seal => k_is)
    (case a__law_told => k_is)
    (case l__law_told => k_is)
    (case q__law_told => k_is)
    (case k__law_told => k_is)
    (case a_law => k_is)
    (case l_law => k_is)
    (case q_law => k_is)
    (case k_law => k_is)
    (case z_all => k_is)
    (case z_bool => k_is)
    (case z_int => k_is)
    (case z_isinstance => k_is)
    (case z_len => k_is)
    (case z_list => k_is)
    (case z_max => k_is)
    (case z_range => k_is)
    (case z_str => k_is)
    (case z_super => k_is)
    (case z_tuple => k_is)
    (case b_ROUND => k_is)
    (case b_HALF => k_is)
    (case b_SEAL => k_is)
    (case x1_BadBytes => k_is)
    (case x2_BadBytes => first | rfl | decide +kernel | k_is)
    (case x3_BadBytes => k_is)
    (case x4_BadBytes => k_is)
    (case x5_BadBytes => k_is)
    (case x6_BadBytes => k_is)
    (case x7_BadBytes => k_is)
    (case x8_BadBytes => k_is)
    (case x9_BadBytes => intro L; exact ⟨_, rfl⟩)
    (case y1_BadBytes => k_is)
    (case y2_BadBytes => rfl)
    (case y3_BadBytes => decide +kernel)
    (case y4_BadBytes => k_is)
    (case y5_BadBytes => decide +kernel)
    (case y6_BadBytes => ks_is)
    (case y7_BadBytes => k_is)
    (case y8_BadBytes => k_is)
    (case y9_BadBytes => k_is)
    (case w1_BadBytes => k_is)
    (case w2_BadBytes => k_is)
    (case w3_BadBytes => k_is)
    (case v1_BadBytes => k_is)
    (case v2_BadBytes_BadBytes => first | rfl | k_is)
    (case v3_BadBytes => k_is)
    (case v4_BadBytes => k_is)
    (case v5_BadBytes => k_is)
#print axioms PySem.Challenge.cw_columnskept_k19_whole_checks_of_bytes_holds
