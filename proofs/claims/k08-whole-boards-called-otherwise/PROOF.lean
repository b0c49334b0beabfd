import PyProof.Rows.All
import Wide.All
import OpenK.AllK
import Wide.FinOn
import HandS.ForMost
import HandS.ForExc
import HandS.TupAny
import HandS.TupMul
import HandS.IsInst
import HandS.Wide
import HandS.Flow
import HandS.Style
import HandS.Zip
import HandS.Conv
import HandS.Walk
import KE.GoesNew
import KE.GoesEnumKw
import KE.KTupSum
import HandS.TryOnly
import KE.DatumOrd
import HandS.SetFor
import PySem.Challenge.RW_marblefall_k08_whole_boards_called_other
set_option Elab.async false
set_option linter.all false
set_option maxRecDepth 100000
set_option maxHeartbeats 1000000
/-! the pure layer: values with their tuples written out, a store of the things that turn -/
namespace PL
open PySem L2

inductive PV where
  | non | bl (b : Bool) | int (i : Int) | str (x : Str) | ty (n : String) | ref (a : Addr)
  | tup (xs : List PV) | lst (xs : List PV) | dct (kvs : List (Key × PV)) | scr (ns : List Int)

inductive MO where
  | lst (xs : List PV)
  | dK (kvs : List (Key × PV)) | dT (kvs : List (List Key × PV))
  | ins (C dx : Addr) (fs : List (Str × PV))

abbrev PM := Addr → Option MO
abbrev PSt := List (Option PV)
def put (M : PM) (a : Addr) (o : MO) : PM := fun b => if b = a then some o else M b
def del (M : PM) (a : Addr) : PM := fun b => if b = a then none else M b
theorem put_same {M : PM} {a : Addr} {o : MO} : put M a o a = some o := by unfold put; rw [if_pos rfl]
theorem put_ne {M : PM} {a b : Addr} {o : MO} (h : b ≠ a) : put M a o b = M b := by unfold put; rw [if_neg h]
theorem del_ne {M : PM} {a b : Addr} (h : b ≠ a) : del M a b = M b := by unfold del; rw [if_neg h]
theorem del_same {M : PM} {a : Addr} : del M a a = none := by unfold del; rw [if_pos rfl]
theorem put_put {M : PM} {a : Addr} {o u : MO} : put (put M a o) a u = put M a u := by
  funext b; unfold put; split <;> rfl
theorem del_put {M : PM} {a : Addr} {o : MO} (h : M a = none) : del (put M a o) a = M := by
  funext b; unfold del put; split
  · rename_i e; rw [e, h]
  · rfl
theorem put_of {M : PM} {a : Addr} {o : MO} (h : M a = some o) : put M a o = M := by
  funext b; unfold put; split
  · rename_i e; rw [e, h]
  · rfl
theorem put_del {M : PM} {a : Addr} {o : MO} : put (del M a) a o = put M a o := by
  funext b
  by_cases h : b = a
  · subst h; rw [put_same, put_same]
  · rw [put_ne h, put_ne h, del_ne h]
theorem mne {M : PM} {a b : Addr} {o : MO} (h : M a = some o) (h' : M b = none) : a ≠ b := by
  intro e; subst e; rw [h] at h'; cases h'

/-- the thing at a has no attributes of its own -/
def Df (K : PySem.W.Frag) (F : Hp) (a : Addr) : Prop := (∃ o u, F a = some (.frz o u) ∧ o.dict = none) ∨ ∃ o, K.lookup a = some o ∧ o.dict = none
/-- a tuple, without attributes of its own -/
def SqD (K : PySem.W.Frag) (F : Hp) (a : Addr) (vs : List V) : Prop := SqT K F a vs ∧ Df K F a
mutual
def RV (K : PySem.W.Frag) (F : Hp) : PV → V → Prop
  | .non, v => v = .non
  | .bl b, v => v = .bl b
  | .int i, v => v = .int i
  | .str x, v => v = .str x
  | .ty n, v => v = .ty n
  | .ref a, v => v = .ref a
  | .tup xs, v => ∃ a vs, v = .ref a ∧ SqD K F a vs ∧ vs.length ≤ sizeLine ∧ RVs K F xs vs
  | .lst xs, v => ∃ a vs, v = .ref a ∧ F a = some (.lst vs) ∧ vs.length ≤ sizeLine ∧ RVs K F xs vs
  | .dct kvs, v => ∃ a vs, v = .ref a ∧ F a = some (.dK vs) ∧ RKs K F kvs vs
  | .scr ns, v => ∃ a, v = .ref a ∧ SqL K F a (ns.map V.int)
def RVs (K : PySem.W.Frag) (F : Hp) : List PV → List V → Prop
  | [], vs => vs = []
  | x :: xs, vs => ∃ v r, vs = v :: r ∧ RV K F x v ∧ RVs K F xs r
def RKs (K : PySem.W.Frag) (F : Hp) : List (Key × PV) → List (Key × V) → Prop
  | [], vs => vs = []
  | (k, x) :: xs, vs => ∃ v r, vs = (k, v) :: r ∧ RV K F x v ∧ RKs K F xs r
end

def RO (K : PySem.W.Frag) (F H : Hp) (a : Addr) : MO → Prop
  | .lst xs => ∃ vs, H a = some (.lst vs) ∧ RVs K F xs vs
  | .dK kvs => ∃ vs, H a = some (.dK vs) ∧ RKs K F kvs vs
  | .dT kvs => ∃ vs, H a = some (.dT vs) ∧ vs.map (·.1) = kvs.map (·.1) ∧ RVs K F (kvs.map (·.2)) (vs.map (·.2))
  | .ins C dx fs => ∃ vs, H a = some (.ins C dx vs) ∧ vs.map (·.1) = fs.map (·.1) ∧ RVs K F (fs.map (·.2)) (vs.map (·.2))

/-- what is fixed meanwhile: f stood still at first; g is not touched -/
structure Fix where
  f : Hp
  g : Hp
/-- sys.modules is none of what is told of -/
def SyOk (K : PySem.W.Frag) (F : Hp) : Prop := (∃ o, K.lookup sysModules = some o) ∨ ∃ o u, F sysModules = some (.frz o u)
/-- F: what stands still; H: the heap; M: what may turn -/
structure Rel (K : PySem.W.Frag) (F0 : Fix) (F H : Hp) (M : PM) : Prop where
  ex : Same F0.f F
  sm : Same F H
  ob : ∀ a o, M a = some o → F a = none ∧ RO K F H a o
  fr : ∀ a o, F0.g a = some o → F a = none ∧ M a = none ∧ H a = some o
  sy : SyOk K F0.f

def RS (K : PySem.W.Frag) (F : Hp) (σ' : PSt) (σ : L2.St) : Prop := σ'.length = σ.length ∧ ∀ (i : Nat) (x : PV), σ'[i]? = some (some x) → ∃ v, σ[i]? = some (some v) ∧ RV K F x v

section
variable {K : PySem.W.Frag} {F0 : Fix} {F F' H H' : Hp} {M M' : PM}
theorem SyOk.mono (e : Same F F') (h : SyOk K F) : SyOk K F' := by
  rcases h with h | ⟨o, u, h⟩
  · exact .inl h
  · exact .inr ⟨o, u, e _ _ h⟩
theorem df_mono {a : Addr} (e : Same F F') (h : Df K F a) : Df K F' a := by
  rcases h with ⟨o, u, h, d⟩ | h
  · exact .inl ⟨o, u, e _ _ h, d⟩
  · exact .inr h
theorem sqd_mono {a : Addr} {vs : List V} (e : Same F F') (h : SqD K F a vs) : SqD K F' a vs := by
  obtain ⟨h, d⟩ := h
  refine ⟨?_, df_mono e d⟩
  rcases h with (h | ⟨o, h⟩) | h
  · exact .inl (.inl (e _ _ h))
  · exact .inl (.inr ⟨o, e _ _ h⟩)
  · exact .inr h
theorem sqt_mono {a : Addr} {vs : List V} (e : Same F F') (h : SqD K F a vs) : SqT K F' a vs := by
  rcases h.1 with (h | ⟨o, h⟩) | h
  · exact .inl (.inl (e _ _ h))
  · exact .inl (.inr ⟨o, e _ _ h⟩)
  · exact .inr h
mutual
theorem RV.mono (e : Same F F') : ∀ {x : PV} {v : V}, RV K F x v → RV K F' x v
  | .non, _, h => h
  | .bl _, _, h => h
  | .int _, _, h => h
  | .str _, _, h => h
  | .ty _, _, h => h
  | .ref _, _, h => h
  | .tup xs, v, h => by
    unfold RV at h ⊢
    obtain ⟨a, vs, e1, h1, h2, h3⟩ := h
    exact ⟨a, vs, e1, sqd_mono e h1, h2, RVs.mono e h3⟩
  | .lst xs, v, h => by
    unfold RV at h ⊢
    obtain ⟨a, vs, e1, h1, h2, h3⟩ := h
    exact ⟨a, vs, e1, e _ _ h1, h2, RVs.mono e h3⟩
  | .dct kvs, v, h => by
    unfold RV at h ⊢
    obtain ⟨a, vs, e1, h1, h2⟩ := h
    exact ⟨a, vs, e1, e _ _ h1, RKs.mono e h2⟩
  | .scr ns, v, h => by
    unfold RV at h ⊢
    obtain ⟨a, e1, h1⟩ := h
    exact ⟨a, e1, e.seq h1⟩
theorem RVs.mono (e : Same F F') : ∀ {xs : List PV} {vs : List V}, RVs K F xs vs → RVs K F' xs vs
  | [], _, h => h
  | x :: xs, vs, h => by
    unfold RVs at h ⊢
    obtain ⟨v, r, e1, h1, h2⟩ := h
    exact ⟨v, r, e1, RV.mono e h1, RVs.mono e h2⟩
theorem RKs.mono (e : Same F F') : ∀ {xs : List (Key × PV)} {vs : List (Key × V)}, RKs K F xs vs → RKs K F' xs vs
  | [], _, h => h
  | (k, x) :: xs, vs, h => by
    unfold RKs at h ⊢
    obtain ⟨v, r, e1, h1, h2⟩ := h
    exact ⟨v, r, e1, RV.mono e h1, RKs.mono e h2⟩
end
theorem RVs.length : ∀ {xs : List PV} {vs : List V}, RVs K F xs vs → xs.length = vs.length
  | [], _, h => by unfold RVs at h; subst h; rfl
  | x :: xs, vs, h => by
    unfold RVs at h
    obtain ⟨v, r, e1, _, h2⟩ := h
    subst e1
    rw [List.length_cons, List.length_cons, RVs.length h2]
theorem RVs.get : ∀ {xs : List PV} {vs : List V} {i : Nat} {x : PV}, RVs K F xs vs → xs[i]? = some x → ∃ v, vs[i]? = some v ∧ RV K F x v
  | [], _, _, _, _, e => by simp at e
  | y :: ys, vs, 0, x, h, e => by
    unfold RVs at h
    obtain ⟨v, r, e1, h1, _⟩ := h
    subst e1
    have e2 : y = x := Option.some.inj e
    subst e2
    exact ⟨v, rfl, h1⟩
  | y :: ys, vs, i + 1, x, h, e => by
    unfold RVs at h
    obtain ⟨v, r, e1, _, h2⟩ := h
    subst e1
    exact RVs.get (i := i) h2 e
theorem RVs.getR : ∀ {xs : List PV} {vs : List V} {i : Nat} {v : V}, RVs K F xs vs → vs[i]? = some v → ∃ x, xs[i]? = some x ∧ RV K F x v
  | [], vs, _, _, h, e => by unfold RVs at h; subst h; simp at e
  | y :: ys, vs, 0, v, h, e => by
    unfold RVs at h
    obtain ⟨w, r, e1, h1, _⟩ := h
    subst e1
    have e2 : w = v := Option.some.inj e
    subst e2
    exact ⟨y, rfl, h1⟩
  | y :: ys, vs, i + 1, v, h, e => by
    unfold RVs at h
    obtain ⟨w, r, e1, _, h2⟩ := h
    subst e1
    exact RVs.getR (i := i) h2 e
theorem RVs.append : ∀ {xs ys : List PV} {us vs : List V}, RVs K F xs us → RVs K F ys vs → RVs K F (xs ++ ys) (us ++ vs)
  | [], _, _, _, h, g => by unfold RVs at h; subst h; exact g
  | x :: xs, ys, us, vs, h, g => by
    unfold RVs at h
    obtain ⟨v, r, e1, h1, h2⟩ := h
    subst e1
    show RVs K F (x :: (xs ++ ys)) (v :: (r ++ vs))
    unfold RVs
    exact ⟨v, r ++ vs, rfl, h1, RVs.append h2 g⟩
theorem RVs.nil : RVs K F [] [] := by unfold RVs; rfl
theorem RVs.cons {x : PV} {xs : List PV} {v : V} {vs : List V} (h : RV K F x v) (g : RVs K F xs vs) : RVs K F (x :: xs) (v :: vs) := by
  unfold RVs; exact ⟨v, vs, rfl, h, g⟩
theorem RVs.set {x : PV} {v : V} (h : RV K F x v) : ∀ {xs : List PV} {vs : List V} (i : Nat), RVs K F xs vs → RVs K F (xs.set i x) (vs.set i v)
  | [], _, _, g => by unfold RVs at g; subst g; exact .nil
  | y :: ys, vs, 0, g => by
    unfold RVs at g
    obtain ⟨w, r, e1, _, h2⟩ := g
    subst e1
    exact .cons h h2
  | y :: ys, vs, i + 1, g => by
    unfold RVs at g
    obtain ⟨w, r, e1, h1, h2⟩ := g
    subst e1
    exact .cons h1 (RVs.set h i h2)
theorem RVs.take : ∀ {xs : List PV} {vs : List V} (n : Nat), RVs K F xs vs → RVs K F (xs.take n) (vs.take n)
  | _, _, 0, _ => by rw [List.take_zero, List.take_zero]; exact .nil
  | [], _, _ + 1, g => by unfold RVs at g; subst g; exact .nil
  | y :: ys, vs, n + 1, g => by
    unfold RVs at g
    obtain ⟨w, r, e1, h1, h2⟩ := g
    subst e1
    exact .cons h1 (RVs.take n h2)
theorem RVs.drop : ∀ {xs : List PV} {vs : List V} (n : Nat), RVs K F xs vs → RVs K F (xs.drop n) (vs.drop n)
  | _, _, 0, g => g
  | [], _, _ + 1, g => by unfold RVs at g; subst g; exact .nil
  | y :: ys, vs, n + 1, g => by
    unfold RVs at g
    obtain ⟨w, r, e1, _, h2⟩ := g
    subst e1
    exact RVs.drop n h2
theorem RVs.reverse : ∀ {xs : List PV} {vs : List V}, RVs K F xs vs → RVs K F xs.reverse vs.reverse
  | [], _, g => by unfold RVs at g; subst g; exact .nil
  | y :: ys, vs, g => by
    unfold RVs at g
    obtain ⟨w, r, e1, h1, h2⟩ := g
    subst e1
    rw [List.reverse_cons, List.reverse_cons]
    exact (RVs.reverse h2).append (.cons h1 .nil)
theorem RVs.dropLast {xs : List PV} {vs : List V} (h : RVs K F xs vs) : RVs K F xs.dropLast vs.dropLast := by
  rw [List.dropLast_eq_take, List.dropLast_eq_take, h.length]
  exact h.take _
theorem RVs.ints : ∀ {ns : List Int} {vs : List V}, RVs K F (ns.map PV.int) vs → vs = ns.map V.int
  | [], _, h => by unfold RVs at h; exact h
  | n :: ns, vs, h => by
    rw [List.map_cons] at h
    unfold RVs at h
    obtain ⟨v, r, e1, h1, h2⟩ := h
    subst e1
    unfold RV at h1
    rw [h1, RVs.ints h2]; rfl
theorem RVs.bls : ∀ {ns : List Bool} {vs : List V}, RVs K F (ns.map PV.bl) vs → vs = ns.map V.bl
  | [], _, h => by unfold RVs at h; exact h
  | n :: ns, vs, h => by
    rw [List.map_cons] at h
    unfold RVs at h
    obtain ⟨v, r, e1, h1, h2⟩ := h
    subst e1
    unfold RV at h1
    rw [h1, RVs.bls h2]; rfl
theorem RVs.strs' : ∀ {ns : List Str} {vs : List V}, RVs K F (ns.map PV.str) vs → vs = ns.map V.str
  | [], _, h => by unfold RVs at h; exact h
  | n :: ns, vs, h => by
    rw [List.map_cons] at h
    unfold RVs at h
    obtain ⟨v, r, e1, h1, h2⟩ := h
    subst e1
    unfold RV at h1
    rw [h1, RVs.strs' h2]; rfl
theorem rv_int {i : Int} : RV K F (.int i) (.int i) := by unfold RV; rfl
theorem rv_bl {b : Bool} : RV K F (.bl b) (.bl b) := by unfold RV; rfl
theorem rv_str {x : Str} : RV K F (.str x) (.str x) := by unfold RV; rfl
theorem rv_non : RV K F .non .non := by unfold RV; rfl
theorem rv_ref {a : Addr} : RV K F (.ref a) (.ref a) := by unfold RV; rfl
theorem rv_ty {n : String} : RV K F (.ty n) (.ty n) := by unfold RV; rfl
theorem RVs.of_ints : ∀ {ns : List Int}, RVs K F (ns.map PV.int) (ns.map V.int)
  | [] => .nil
  | _ :: _ => .cons rv_int RVs.of_ints
theorem RO.mono {a : Addr} {o : MO} (e : Same F F') (h : RO K F H a o) : RO K F' H a o := by
  cases o with
  | lst xs => obtain ⟨vs, h1, h2⟩ := h; exact ⟨vs, h1, h2.mono e⟩
  | dK kvs => obtain ⟨vs, h1, h2⟩ := h; exact ⟨vs, h1, h2.mono e⟩
  | dT kvs => obtain ⟨vs, h1, h2, h3⟩ := h; exact ⟨vs, h1, h2, h3.mono e⟩
  | ins C dx fs => obtain ⟨vs, h1, h2, h3⟩ := h; exact ⟨vs, h1, h2, h3.mono e⟩
/-- what an object's word leans on is the heap at its own place alone -/
theorem RO.at {a : Addr} {o : MO} (h : RO K F H a o) (e : ∀ u, H a = some u → H' a = some u) : RO K F H' a o := by
  cases o with
  | lst xs => obtain ⟨vs, h1, h2⟩ := h; exact ⟨vs, e _ h1, h2⟩
  | dK kvs => obtain ⟨vs, h1, h2⟩ := h; exact ⟨vs, e _ h1, h2⟩
  | dT kvs => obtain ⟨vs, h1, h2, h3⟩ := h; exact ⟨vs, e _ h1, h2, h3⟩
  | ins C dx fs => obtain ⟨vs, h1, h2, h3⟩ := h; exact ⟨vs, e _ h1, h2, h3⟩
theorem same_new {p : Addr} {o : HO} (h : H p = none) : Same H (upd H p o) := fun a u e => by
  rw [upd_ne (ne_of_none e h)]; exact e
theorem none_of {α : Type} {o : Option α} (h : ∀ x, o ≠ some x) : o = none := by
  cases o with
  | none => rfl
  | some x => exact absurd rfl (h x)
theorem Rel.gM {p : Addr} {o : MO} (R : Rel K F0 F H M) (h : M p = some o) : F0.g p = none := none_of fun x e => by
  have := (R.fr p x e).2.1
  rw [h] at this; cases this
theorem Rel.gH {p : Addr} (R : Rel K F0 F H M) (h : H p = none) : F0.g p = none := none_of fun x e => by
  have := (R.fr p x e).2.2
  rw [h] at this; cases this
/-- something new that is not told of -/
theorem Rel.grow (R : Rel K F0 F H M) (e : Same H H') : Rel K F0 F H' M :=
  ⟨R.ex, R.sm.trans e, fun a o h => ⟨(R.ob a o h).1, (R.ob a o h).2.at (fun u q => e _ _ q)⟩, fun a o h => ⟨(R.fr a o h).1, (R.fr a o h).2.1, e _ _ (R.fr a o h).2.2⟩, R.sy⟩
theorem Rel.free {p : Addr} (R : Rel K F0 F H M) (h : H p = none) : F p = none := R.sm.free h
theorem Rel.newM {p : Addr} (R : Rel K F0 F H M) (h : H p = none) : M p = none := by
  cases q : M p with
  | none => rfl
  | some o =>
    have r := (R.ob p o q).2
    cases o with
    | lst xs => obtain ⟨vs, h1, _⟩ := r; rw [h] at h1; cases h1
    | dK kvs => obtain ⟨vs, h1, _⟩ := r; rw [h] at h1; cases h1
    | dT kvs => obtain ⟨vs, h1, _⟩ := r; rw [h] at h1; cases h1
    | ins C dx fs => obtain ⟨vs, h1, _⟩ := r; rw [h] at h1; cases h1
/-- a thing that stands still is laid at a new place -/
theorem Rel.lay {p : Addr} {o : HO} (R : Rel K F0 F H M) (h : H p = none) : Rel K F0 (upd F p o) (upd H p o) M := by
  have fp := R.free h
  have hm := R.newM h
  refine ⟨R.ex.trans (same_new fp), fun a u e => ?_, fun a u e => ?_, fun a u e => ?_, R.sy⟩
  · by_cases q : a = p
    · subst q; rw [upd_same] at e ⊢; exact e
    · rw [upd_ne q] at e ⊢; exact R.sm _ _ e
  · have q : a ≠ p := fun z => by subst z; rw [hm] at e; cases e
    rw [upd_ne q]
    exact ⟨(R.ob a u e).1, ((R.ob a u e).2.mono (same_new fp)).at fun w z => by rw [upd_ne q]; exact z⟩
  · have q : a ≠ p := fun z => by subst z; rw [R.gH h] at e; cases e
    rw [upd_ne q, upd_ne q]
    exact R.fr a u e
/-- a thing that may turn is laid, or turned -/
theorem Rel.turn {p : Addr} {o : HO} {m : MO} (R : Rel K F0 F H M) (fp : F p = none) (gp : F0.g p = none) (hm : RO K F (upd H p o) p m) : Rel K F0 F (upd H p o) (put M p m) := by
  refine ⟨R.ex, fun a u e => ?_, fun a u e => ?_, fun a u e => ?_, R.sy⟩
  · have q : a ≠ p := fun z => by subst z; rw [fp] at e; cases e
    rw [upd_ne q]; exact R.sm _ _ e
  · by_cases q : a = p
    · subst q
      rw [put_same] at e
      cases e
      exact ⟨fp, hm⟩
    · rw [put_ne q] at e
      exact ⟨(R.ob a u e).1, (R.ob a u e).2.at fun w z => by rw [upd_ne q]; exact z⟩
  · have q : a ≠ p := fun z => by subst z; rw [gp] at e; cases e
    rw [upd_ne q, put_ne q]
    exact R.fr a u e
/-- a list stands still from now on -/
theorem Rel.freeze {p : Addr} {vs : List V} (R : Rel K F0 F H M) (fp : F p = none) (gp : F0.g p = none) (h : H p = some (.lst vs)) : Rel K F0 (upd F p (.lst vs)) H (del M p) := by
  refine ⟨R.ex.trans (same_new fp), fun a u e => ?_, fun a u e => ?_, fun a u e => ?_, R.sy⟩
  · by_cases q : a = p
    · subst q; rw [upd_same] at e; rw [← e]; exact h
    · rw [upd_ne q] at e; exact R.sm _ _ e
  · have q : a ≠ p := fun z => by subst z; rw [del_same] at e; cases e
    rw [del_ne q] at e
    rw [upd_ne q]
    exact ⟨(R.ob a u e).1, (R.ob a u e).2.mono (same_new fp)⟩
  · have q : a ≠ p := fun z => by subst z; rw [gp] at e; cases e
    rw [upd_ne q, del_ne q]
    exact R.fr a u e
/-- fewer things told of -/
theorem Rel.fewer (R : Rel K F0 F H M) (h : ∀ a o, M' a = some o → M a = some o) : Rel K F0 F H M' := by
  refine ⟨R.ex, R.sm, fun a o e => R.ob a o (h a o e), fun a o e => ⟨(R.fr a o e).1, none_of fun x q => ?_, (R.fr a o e).2.2⟩, R.sy⟩
  have z := h a x q
  rw [(R.fr a o e).2.1] at z
  cases z
/-- a place that nobody tells of is kept as it is, meanwhile -/
theorem Rel.keep {p : Addr} {o : HO} (R : Rel K F0 F H M) (h : H p = some o) (fp : F p = none) (mp : M p = none) : Rel K ⟨F0.f, upd F0.g p o⟩ F H M :=
  ⟨R.ex, R.sm, R.ob, fun a u e => by
    by_cases q : a = p
    · subst q
      have e' : upd F0.g a o a = some u := e
      rw [upd_same] at e'
      cases e'
      exact ⟨fp, mp, h⟩
    · have e' : upd F0.g p o a = some u := e
      rw [upd_ne q] at e'
      exact R.fr a u e', R.sy⟩
theorem Rel.unkeep {G : Hp} {F1 F2 : Hp} (R : Rel K ⟨F0.f, G⟩ F1 F2 M) (h : ∀ a o, F0.g a = some o → G a = some o) : Rel K F0 F1 F2 M := ⟨R.ex, R.sm, R.ob, fun a o e => R.fr a o (h a o e), R.sy⟩
theorem RS.mono {σ' : PSt} {σ : L2.St} (e : Same F F') (h : RS K F σ' σ) : RS K F' σ' σ := ⟨h.1, fun i x q => by
  obtain ⟨v, h1, h2⟩ := h.2 i x q
  exact ⟨v, h1, h2.mono e⟩⟩
theorem RS.set {σ' : PSt} {σ : L2.St} {x : PV} {v : V} (h : RS K F σ' σ) (r : RV K F x v) (i : Nat) : RS K F (σ'.set i (some x)) (σ.set i (some v)) := by
  refine ⟨by rw [List.length_set, List.length_set]; exact h.1, fun j y q => ?_⟩
  by_cases e : i = j
  · subst e
    by_cases hl : i < σ'.length
    · rw [List.getElem?_set_self hl] at q
      cases q
      exact ⟨v, by rw [List.getElem?_set_self (by rw [← h.1]; exact hl)], r⟩
    · rw [List.getElem?_eq_none (by simpa using hl)] at q; cases q
  · rw [List.getElem?_set_ne e] at q ⊢
    exact h.2 j y q
theorem RS.setN {σ' : PSt} {σ : L2.St} (h : RS K F σ' σ) (i : Nat) : RS K F (σ'.set i none) (σ.set i none) := by
  refine ⟨by rw [List.length_set, List.length_set]; exact h.1, fun j y q => ?_⟩
  by_cases e : i = j
  · subst e
    by_cases hl : i < σ'.length
    · rw [List.getElem?_set_self hl] at q; cases q
    · rw [List.getElem?_eq_none (by simpa using hl)] at q; cases q
  · rw [List.getElem?_set_ne e] at q ⊢
    exact h.2 j y q
end
end PL

namespace PL
open PySem L2
abbrev QV := PV → PM → Prop
abbrev XQ := Value → List (Str × PV) → PM → Prop
abbrev TE' := PSt → PM → QV → Prop
abbrev TT' := PSt → PM → (Bool → PM → Prop) → Prop
abbrev TA' := PSt → PM → (List PV → PM → Prop) → Prop
structure Ends' where
  nx : PSt → PM → Prop
  rt : QV
  bk : PSt → PM → Prop := fun _ _ => False
  ct : PSt → PM → Prop := fun _ _ => False
abbrev TS' := Ends' → PSt → PM → Prop
abbrev TG' := PV → PSt → PM → (PSt → PM → Prop) → Prop
abbrev R2' := PV → PV → PM → QV → Prop

section
variable (K : PySem.W.Frag) (F0 : Fix)
def Po (F : Hp) (Q' : QV) (Q : VK) : Prop := ∀ F' H' M' x v, Same F F' → Rel K F0 F' H' M' → RV K F' x v → Q' x M' → Q v H'
def PoB (F : Hp) (Q' : Bool → PM → Prop) (Q : Bool → Hp → Prop) : Prop := ∀ F' H' M' b, Same F F' → Rel K F0 F' H' M' → Q' b M' → Q b H'
def PoA (F : Hp) (Q' : List PV → PM → Prop) (Q : List V → Hp → Prop) : Prop := ∀ F' H' M' xs vs, Same F F' → Rel K F0 F' H' M' → RVs K F' xs vs → Q' xs M' → Q vs H'
def PoS (F : Hp) (Q' : PSt → PM → Prop) (Q : L2.St → Hp → Prop) : Prop := ∀ F' H' M' σ' σ, Same F F' → Rel K F0 F' H' M' → RS K F' σ' σ → Q' σ' M' → Q σ H'
def PoM (F : Hp) (Q' : PM → Prop) (Q : Hp → Prop) : Prop := ∀ F' H' M', Same F F' → Rel K F0 F' H' M' → Q' M' → Q H'
structure PoD (F : Hp) (D' : Ends') (D : Ends) : Prop where
  nx : PoS K F0 F D'.nx D.nx
  rt : Po K F0 F D'.rt D.rt
  bk : PoS K F0 F D'.bk D.bk
  ct : PoS K F0 F D'.ct D.ct

def L (t : TE') : TE := fun σ H Q => ∃ F M σ' Q', Rel K F0 F H M ∧ RS K F σ' σ ∧ t σ' M Q' ∧ Po K F0 F Q' Q
def LT (t : TT') : TT := fun σ H Q => ∃ F M σ' Q', Rel K F0 F H M ∧ RS K F σ' σ ∧ t σ' M Q' ∧ PoB K F0 F Q' Q
def LA (t : TA') : TA := fun σ H Q => ∃ F M σ' Q', Rel K F0 F H M ∧ RS K F σ' σ ∧ t σ' M Q' ∧ PoA K F0 F Q' Q
def LS (t : TS') : TS := fun D σ H => ∃ F M σ' D', Rel K F0 F H M ∧ RS K F σ' σ ∧ t D' σ' M ∧ PoD K F0 F D' D
def LG (t : TG') : TG := fun v σ H Q => ∃ F M σ' x Q', Rel K F0 F H M ∧ RS K F σ' σ ∧ RV K F x v ∧ t x σ' M Q' ∧ PoS K F0 F Q' Q
end

def QE (X : Cx) (F0 : Fix) (e : Expr) (t : TE') : Prop := PE X e (L X.K F0 t)
def QT (X : Cx) (F0 : Fix) (e : Expr) (t : TT') : Prop := PT X e (LT X.K F0 t)
def QW (X : Cx) (F0 : Fix) (e : Expr) (t : TT') : Prop := PW X e (LT X.K F0 t)
def QA (X : Cx) (F0 : Fix) (es : List Expr) (t : TA') : Prop := PA X es (LA X.K F0 t)
def QS (X : Cx) (F0 : Fix) (s : Stmt) (t : TS') : Prop := PS X s (LS X.K F0 t)
def QSs (X : Cx) (F0 : Fix) (s : List Stmt) (t : TS') : Prop := PSs X s (LS X.K F0 t)
def QG (X : Cx) (F0 : Fix) (e : Expr) (t : TG') : Prop := PG X e (LG X.K F0 t)

section
variable {K : PySem.W.Frag} {F0 : Fix} {F F' H H' : Hp} {M M' : PM}
theorem Po.mono {Q' : QV} {Q : VK} (e : Same F F') (h : Po K F0 F Q' Q) : Po K F0 F' Q' Q := fun F1 H1 M1 x v e1 => h F1 H1 M1 x v (e.trans e1)
theorem PoB.mono {Q' : Bool → PM → Prop} {Q : Bool → Hp → Prop} (e : Same F F') (h : PoB K F0 F Q' Q) : PoB K F0 F' Q' Q := fun F1 H1 M1 b e1 => h F1 H1 M1 b (e.trans e1)
theorem PoA.mono {Q' : List PV → PM → Prop} {Q : List V → Hp → Prop} (e : Same F F') (h : PoA K F0 F Q' Q) : PoA K F0 F' Q' Q := fun F1 H1 M1 x v e1 => h F1 H1 M1 x v (e.trans e1)
theorem PoS.mono {Q' : PSt → PM → Prop} {Q : L2.St → Hp → Prop} (e : Same F F') (h : PoS K F0 F Q' Q) : PoS K F0 F' Q' Q := fun F1 H1 M1 x v e1 => h F1 H1 M1 x v (e.trans e1)
theorem PoM.mono {Q' : PM → Prop} {Q : Hp → Prop} (e : Same F F') (h : PoM K F0 F Q' Q) : PoM K F0 F' Q' Q := fun F1 H1 M1 e1 => h F1 H1 M1 (e.trans e1)
theorem PoD.mono {D' : Ends'} {D : Ends} (e : Same F F') (h : PoD K F0 F D' D) : PoD K F0 F' D' D := ⟨h.nx.mono e, h.rt.mono e, h.bk.mono e, h.ct.mono e⟩
end

section
variable {X : Cx} {F0 : Fix} {e a b : Expr} {t0 : TE} {pos : Pos}
theorem qe_of {t : TE'} (h : PE X e t0) (le : ∀ σ H Q, L X.K F0 t σ H Q → t0 σ H Q) : QE X F0 e t := ⟨fun pins s σ H Q I hw => h.run pins s σ H Q I (le _ _ _ hw)⟩
theorem qt_of {t0 : TT} {t : TT'} (h : PT X e t0) (le : ∀ σ H Q, LT X.K F0 t σ H Q → t0 σ H Q) : QT X F0 e t := ⟨fun pins s σ H Q I hw => h.run pins s σ H Q I (le _ _ _ hw)⟩
theorem qw_of {t0 : TT} {t : TT'} (h : PW X e t0) (le : ∀ σ H Q, LT X.K F0 t σ H Q → t0 σ H Q) : QW X F0 e t := ⟨fun w pins s σ H Q I hw => h.run w pins s σ H Q I (le _ _ _ hw)⟩
theorem qa_of {es : List Expr} {t0 : TA} {t : TA'} (h : PA X es t0) (le : ∀ σ H Q, LA X.K F0 t σ H Q → t0 σ H Q) : QA X F0 es t := ⟨fun p pins s σ H Q I hw => h.run p pins s σ H Q I (le _ _ _ hw)⟩
theorem qs_of {st : Stmt} {t0 : TS} {t : TS'} (h : PS X st t0) (le : ∀ D σ H, LS X.K F0 t D σ H → t0 D σ H) : QS X F0 st t := ⟨fun pins s σ H D I hw => h.run pins s σ H D I (le _ _ _ hw)⟩
theorem qss_of {st : List Stmt} {t0 : TS} {t : TS'} (h : PSs X st t0) (le : ∀ D σ H, LS X.K F0 t D σ H → t0 D σ H) : QSs X F0 st t := ⟨fun pins s σ H D I hw => h.run pins s σ H D I (le _ _ _ hw)⟩
theorem qg_of {tg : Expr} {t0 : TG} {t : TG'} (h : PG X tg t0) (le : ∀ v σ H Q, LG X.K F0 t v σ H Q → t0 v σ H Q) : QG X F0 tg t := ⟨fun pins s σ H v u Q I r hw => h.run pins s σ H v u Q I r (le _ _ _ _ hw)⟩

/-! ### names, constants -/
def pVar (i : Nat) : TE' := fun σ M Q => match σ[i]? with
  | some (some x) => Q x M
  | _ => False
def pC (x : PV) : TE' := fun _ M Q => Q x M
theorem qv (i : Nat) {x : Str} {pos : Pos} (hN : X.N[i]? = some x := by rfl) (hv : Vis X.env.scope x := by first | exact Or.inl rfl | exact Or.inr (Or.inl rfl) | exact Or.inr (Or.inr rfl)) (hd : (x == ("__debug__" : Str)) = false := by decide)
    (hcd : (x == ("__classdict__" : Str)) = false := by decide) : QE X F0 (.Name x pos) (pVar i) := by
  refine qe_of (pe_var hN hv hd hcd) fun σ H Q ⟨F, M, σ', Q', R, S, h, po⟩ => ?_
  unfold pVar at h
  split at h
  · rename_i y e
    obtain ⟨v, h1, h2⟩ := S.2 i y e
    exact ⟨v, h1, po F H M y v (Same.refl F) R h2 h⟩
  · exact h.elim
theorem q_c {x : PV} {v : V} (h : PE X e (tC v)) (r : ∀ F, RV X.K F x v) : QE X F0 e (pC x) :=
  qe_of h fun σ H Q ⟨F, M, σ', Q', R, S, h, po⟩ => po F H M x v (Same.refl F) R (r F) h
theorem q_int {i j pos} : QE X F0 (.Constant (.int i) j pos) (pC (.int i)) := q_c pe_int fun _ => rv_int
theorem q_bl {b j pos} : QE X F0 (.Constant (.bool b) j pos) (pC (.bl b)) := q_c pe_bl fun _ => rv_bl
theorem q_non {j pos} : QE X F0 (.Constant .none j pos) (pC .non) := q_c pe_non fun _ => rv_non
theorem q_str {x j pos} : QE X F0 (.Constant (.str x) j pos) (pC (.str x)) := q_c pe_str fun _ => rv_str
theorem q_glob {x : Str} {v : PV} {v0 : V} {u : Value} {pos : Pos} (hg : Gl X x) (hm : X.mg x = some u) (r : RelV v0 u) (rv : ∀ F, RV X.K F v v0) (hd : (x == ("__debug__" : Str)) = false := by decide) : QE X F0 (.Name x pos) (pC v) :=
  q_c (pe_glob hg hm r hd) rv
/-- a module's whole number -/
theorem q_gint {x : Str} {i : Int} {t : Tok} {pos : Pos} (hg : Gl X x) (hm : X.mg x = some (.int i t)) (hd : (x == ("__debug__" : Str)) = false := by decide) : QE X F0 (.Name x pos) (pC (.int i)) :=
  q_glob (v0 := .int i) hg hm ⟨t, rfl⟩ (fun _ => rv_int) hd
theorem q_gstr {x : Str} {i : Str} {t : Tok} {pos : Pos} (hg : Gl X x) (hm : X.mg x = some (.str i t)) (hd : (x == ("__debug__" : Str)) = false := by decide) : QE X F0 (.Name x pos) (pC (.str i)) :=
  q_glob (v0 := .str i) hg hm ⟨t, rfl⟩ (fun _ => rv_str) hd
/-- a built-in class's name as a value -/
theorem q_bty {x : Str} {n : String} {pos : Pos} (hg : Gl X x) (hm : X.mg x = none) (hv : bootBuiltins x = some (.type n)) (hn : x ≠ "__name__" := by decide) (hd : (x == ("__debug__" : Str)) = false := by decide) : QE X F0 (.Name x pos) (pC (.ty n)) :=
  q_c (pe_bltn (v := .ty n) hg hm hv rfl hn hd) fun _ => rv_ty

/-! ### two expressions and an operation -/
/-- what an operation asks, over values -/
def LeO (X : Cx) (F0 : Fix) (r : R2) (r' : R2') : Prop := ∀ F H M x y v w Q Q', Rel X.K F0 F H M → RV X.K F x v → RV X.K F y w → r' x y M Q' → Po X.K F0 F Q' Q → r v w H Q
def pOp (r : R2') (ta tb : TE') : TE' := fun σ M Q => ta σ M fun x M1 => tb σ M1 fun y M2 => r x y M2 Q
variable {ta tb : TE'}
theorem l_bin {r : R2} {r' : R2'} (hr : LeO X F0 r r') : ∀ σ H Q, L X.K F0 (pOp r' ta tb) σ H Q → tOp r (L X.K F0 ta) (L X.K F0 tb) σ H Q :=
  fun σ H Q ⟨F, M, σ', Q', R, S, h, po⟩ => ⟨F, M, σ', _, R, S, h, fun F1 H1 M1 x v e1 R1 rx h1 =>
    ⟨F1, M1, σ', _, R1, S.mono e1, h1, fun F2 H2 M2 y w e2 R2 ry h2 => hr F2 H2 M2 x y v w Q Q' R2 (rx.mono e2) ry h2 (po.mono (e1.trans e2))⟩⟩
theorem q_op {op : Operator} {r : R2} {r' : R2'} (ho : OpR X (binaryOp op) r) (hr : LeO X F0 r r') (ha : QE X F0 a ta) (hb : QE X F0 b tb) : QE X F0 (.BinOp a op b pos) (pOp r' ta tb) :=
  qe_of (pe_op ho ha hb) (l_bin hr)
theorem q_cmp {op : CmpOp} {r : R2} {r' : R2'} (ho : OpR X (compareOp op) r) (hr : LeO X F0 r r') (ha : QE X F0 a ta) (hb : QE X F0 b tb) (hm : behindInMarks op b = false) : QE X F0 (.Compare a [op] [b] pos) (pOp r' ta tb) :=
  qe_of (pe_cmpR ho ha hb hm) (l_bin hr)
theorem q_ix {r : R2} {r' : R2'} (ho : IxR X r) (hr : LeO X F0 r r') (ha : QE X F0 a ta) (hb : QE X F0 b tb) (hs : PlainIx b) : QE X F0 (.Subscript a b pos) (pOp r' ta tb) :=
  qe_of (pe_ix ho ha hb hs) (l_bin hr)
theorem or_op {f : Value → Value → Sem Value} {r1 r2 : R2} (h1 : OpR X f r1) (h2 : OpR X f r2) : OpR X f (fun x y H Q => r1 x y H Q ∨ r2 x y H Q) := by
  intro pins s σ H x y v u Q I rx ry h
  rcases h with h | h
  · exact h1 pins s σ H x y v u Q I rx ry h
  · exact h2 pins s σ H x y v u Q I rx ry h

/-! ### truths -/
def pTest (t : TE') : TT' := fun σ M Q => t σ M fun x M1 => match x with
  | .bl k => Q k M1
  | _ => False
theorem qt_val {t : TE'} (h : QE X F0 e t) (he : ∀ whole, isTrue e X.env whole = (do let v ← whole; standAt e.pos; holding [v] (truthy v)) := by intro _; rfl) : QT X F0 e (pTest t) :=
  qt_of (pt_val h he) fun σ H Q ⟨F, M, σ', Q', R, S, h, po⟩ => ⟨F, M, σ', _, R, S, h, fun F1 H1 M1 x v e1 R1 rx h1 => by
    cases x with
    | bl k => unfold RV at rx; exact ⟨k, rx, po F1 H1 M1 k e1 R1 h1⟩
    | _ => exact h1.elim⟩
theorem qt_cmp {op : CmpOp} {r : R2} {r' : R2'} (ho : OpR X (compareOp op) r) (hr : LeO X F0 r r') (ha : QE X F0 a ta) (hb : QE X F0 b tb) (hm : behindInMarks op b = false) : QT X F0 (.Compare a [op] [b] pos) (pTest (pOp r' ta tb)) :=
  qt_of (pt_cmpR ho ha hb hm) fun σ H Q ⟨F, M, σ', Q', R, S, h, po⟩ => l_bin hr σ H _ ⟨F, M, σ', _, R, S, h, fun F1 H1 M1 x v e1 R1 rx h1 => by
    cases x with
    | bl k => unfold RV at rx; exact ⟨k, rx, po F1 H1 M1 k e1 R1 h1⟩
    | _ => exact h1.elim⟩
def pAnd (t u : TT') : TT' := fun σ M Q => t σ M fun c M1 => if c = true then u σ M1 Q else Q false M1
def pOr (t u : TT') : TT' := fun σ M Q => t σ M fun c M1 => if c = true then Q true M1 else u σ M1 Q
def pNot (t : TT') : TT' := fun σ M Q => t σ M fun c M1 => Q (!c) M1
variable {tA tB' : TT'} {rest : List Expr}
theorem qw_and1 (ha : QT X F0 a tA) : QW X F0 (.BoolOp .And [a] pos) tA := pw_and1 ha
theorem qw_or1 (ha : QT X F0 a tA) : QW X F0 (.BoolOp .Or [a] pos) tA := pw_or1 ha
theorem qw_and (ha : QT X F0 a tA) (hb : QW X F0 (.BoolOp .And (b :: rest) pos) tB') : QW X F0 (.BoolOp .And (a :: b :: rest) pos) (pAnd tA tB') :=
  qw_of (pw_and ha hb) fun σ H Q ⟨F, M, σ', Q', R, S, h, po⟩ => ⟨F, M, σ', _, R, S, h, fun F1 H1 M1 c e1 R1 h1 => by
    cases c with
    | true => exact iteT ⟨F1, M1, σ', Q', R1, S.mono e1, by simpa using h1, po.mono e1⟩
    | false => exact iteF (po F1 H1 M1 false e1 R1 (by simpa using h1))⟩
theorem qw_or (ha : QT X F0 a tA) (hb : QW X F0 (.BoolOp .Or (b :: rest) pos) tB') : QW X F0 (.BoolOp .Or (a :: b :: rest) pos) (pOr tA tB') :=
  qw_of (pw_or ha hb) fun σ H Q ⟨F, M, σ', Q', R, S, h, po⟩ => ⟨F, M, σ', _, R, S, h, fun F1 H1 M1 c e1 R1 h1 => by
    cases c with
    | true => exact iteT (po F1 H1 M1 true e1 R1 (by simpa using h1))
    | false => exact iteF ⟨F1, M1, σ', Q', R1, S.mono e1, by simpa using h1, po.mono e1⟩⟩
theorem qt_not (ha : QT X F0 a tA) : QT X F0 (.UnaryOp .Not a pos) (pNot tA) :=
  qt_of (pt_not ha) fun σ H Q ⟨F, M, σ', Q', R, S, h, po⟩ => ⟨F, M, σ', _, R, S, h, fun F1 H1 M1 c e1 R1 h1 => po F1 H1 M1 (!c) e1 R1 h1⟩
theorem qw_pt {t : TT'} (h : QW X F0 e t) : QT X F0 e t := PW.pt h
def pAndV (ta tb : TE') : TE' := fun σ M Q => ta σ M fun x M1 => match x with
  | .bl c => if c = true then tb σ M1 Q else Q (.bl false) M1
  | _ => False
def pOrV (ta tb : TE') : TE' := fun σ M Q => ta σ M fun x M1 => match x with
  | .bl c => if c = true then Q (.bl true) M1 else tb σ M1 Q
  | _ => False
def pNotV (ta : TE') : TE' := fun σ M Q => ta σ M fun x M1 => match x with
  | .bl c => Q (.bl (!c)) M1
  | _ => False
theorem q_one {op} {t : TE'} (h : QE X F0 a t) : QE X F0 (.BoolOp op [a] pos) t := pe_one h
theorem q_and (ha : QE X F0 a ta) (hb : QE X F0 (.BoolOp .And (b :: rest) pos) tb) : QE X F0 (.BoolOp .And (a :: b :: rest) pos) (pAndV ta tb) :=
  qe_of (pe_and ha hb) fun σ H Q ⟨F, M, σ', Q', R, S, h, po⟩ => ⟨F, M, σ', _, R, S, h, fun F1 H1 M1 x v e1 R1 rx h1 => by
    cases x with
    | bl c =>
      unfold RV at rx
      refine ⟨c, rx, ?_⟩
      cases c with
      | true => exact iteT ⟨F1, M1, σ', Q', R1, S.mono e1, by simpa using h1, po.mono e1⟩
      | false => exact iteF (po F1 H1 M1 _ _ e1 R1 rv_bl (by simpa using h1))
    | _ => exact h1.elim⟩
theorem q_or (ha : QE X F0 a ta) (hb : QE X F0 (.BoolOp .Or (b :: rest) pos) tb) : QE X F0 (.BoolOp .Or (a :: b :: rest) pos) (pOrV ta tb) :=
  qe_of (pe_or ha hb) fun σ H Q ⟨F, M, σ', Q', R, S, h, po⟩ => ⟨F, M, σ', _, R, S, h, fun F1 H1 M1 x v e1 R1 rx h1 => by
    cases x with
    | bl c =>
      unfold RV at rx
      refine ⟨c, rx, ?_⟩
      cases c with
      | true => exact iteT (po F1 H1 M1 _ _ e1 R1 rv_bl (by simpa using h1))
      | false => exact iteF ⟨F1, M1, σ', Q', R1, S.mono e1, by simpa using h1, po.mono e1⟩
    | _ => exact h1.elim⟩
theorem q_not (ha : QE X F0 a ta) : QE X F0 (.UnaryOp .Not a pos) (pNotV ta) :=
  qe_of (pe_not ha) fun σ H Q ⟨F, M, σ', Q', R, S, h, po⟩ => ⟨F, M, σ', _, R, S, h, fun F1 H1 M1 x v e1 R1 rx h1 => by
    cases x with
    | bl c => unfold RV at rx; exact ⟨c, rx, po F1 H1 M1 _ _ e1 R1 rv_bl h1⟩
    | _ => exact h1.elim⟩
def pIf (t : TT') (ta tb : TE') : TE' := fun σ M Q => t σ M fun c M1 => if c = true then ta σ M1 Q else tb σ M1 Q
theorem q_ifExp {c : Expr} (hc : QT X F0 c tA) (ha : QE X F0 a ta) (hb : QE X F0 b tb) : QE X F0 (.IfExp c a b pos) (pIf tA ta tb) :=
  qe_of (pe_ifExp hc ha hb) fun σ H Q ⟨F, M, σ', Q', R, S, h, po⟩ => ⟨F, M, σ', _, R, S, h, fun F1 H1 M1 c e1 R1 h1 => by
    cases c with
    | true => exact iteT ⟨F1, M1, σ', Q', R1, S.mono e1, by simpa using h1, po.mono e1⟩
    | false => exact iteF ⟨F1, M1, σ', Q', R1, S.mono e1, by simpa using h1, po.mono e1⟩⟩
/-- a < b < c -/
def pChain (r r' : R2') (ta tb tc : TE') : TE' := fun σ M Q => ta σ M fun x M1 => tb σ M1 fun y M2 => r x y M2 fun z M3 => match z with
  | .bl k => if k = true then tc σ M3 fun w M4 => r' y w M4 Q else Q (.bl false) M3
  | _ => False
end
end PL

namespace PL
open PySem L2
section
variable {X : Cx} {F0 : Fix} {e a b c : Expr} {pos : Pos} {ta tb tc : TE'}
theorem l_chain {r r' : R2} {q q' : R2'} (hr : LeO X F0 r q) (hr' : LeO X F0 r' q') : ∀ σ H Q, L X.K F0 (pChain q q' ta tb tc) σ H Q → tChain r r' (L X.K F0 ta) (L X.K F0 tb) (L X.K F0 tc) σ H Q :=
  fun σ H Q ⟨F, M, σ', Q', R, S, h, po⟩ => ⟨F, M, σ', _, R, S, h, fun F1 H1 M1 x v e1 R1 rx h1 =>
    ⟨F1, M1, σ', _, R1, S.mono e1, h1, fun F2 H2 M2 y w e2 R2 ry h2 => hr F2 H2 M2 x y v w _ _ R2 (rx.mono e2) ry h2 fun F3 H3 M3 z u e3 R3 rz h3 => by
      cases z with
      | bl k =>
        unfold RV at rz
        refine ⟨k, rz, ?_⟩
        cases k with
        | true => exact iteT ⟨F3, M3, σ', _, R3, S.mono ((e1.trans e2).trans e3), by simpa using h3, fun F4 H4 M4 w' u' e4 R4 rw' h4 => hr' F4 H4 M4 y w' w u' Q Q' R4 (ry.mono (e3.trans e4)) rw' h4 (po.mono (((e1.trans e2).trans e3).trans e4))⟩
        | false => exact iteF (po F3 H3 M3 _ _ ((e1.trans e2).trans e3) R3 rv_bl (by simpa using h3))
      | _ => exact h3.elim⟩⟩
theorem q_chain {op op' : CmpOp} {r r' : R2} {q q' : R2'} (ho : OpR X (compareOp op) r) (ho' : OpR X (compareOp op') r') (hr : LeO X F0 r q) (hr' : LeO X F0 r' q') (ha : QE X F0 a ta) (hb : QE X F0 b tb) (hc : QE X F0 c tc)
    (hm : lastMarks [op, op'] [b, c] = false := by with_unfolding_all rfl) : QE X F0 (.Compare a [op, op'] [b, c] pos) (pChain q q' ta tb tc) := qe_of (pe_chain ho ho' ha hb hc hm) (l_chain hr hr')
theorem qt_chain {op op' : CmpOp} {r r' : R2} {q q' : R2'} (ho : OpR X (compareOp op) r) (ho' : OpR X (compareOp op') r') (hr : LeO X F0 r q) (hr' : LeO X F0 r' q') (ha : QE X F0 a ta) (hb : QE X F0 b tb) (hc : QE X F0 c tc)
    (hm : lastMarks [op, op'] [b, c] = false := by with_unfolding_all rfl) : QT X F0 (.Compare a [op, op'] [b, c] pos) (pTest (pChain q q' ta tb tc)) :=
  qt_of (pt_chain ho ho' ha hb hc hm) fun σ H Q ⟨F, M, σ', Q', R, S, h, po⟩ => l_chain hr hr' σ H _ ⟨F, M, σ', _, R, S, h, fun F1 H1 M1 x v e1 R1 rx h1 => by
    cases x with
    | bl k => unfold RV at rx; exact ⟨k, rx, po F1 H1 M1 k e1 R1 h1⟩
    | _ => exact h1.elim⟩

/-! ### arguments, displays -/
def pNil : TA' := fun _ M Q => Q [] M
def pCons (ta : TE') (tr : TA') : TA' := fun σ M Q => ta σ M fun x M1 => tr σ M1 fun xs M2 => Q (x :: xs) M2
variable {es : List Expr} {t : TA'}
theorem qa_nil : QA X F0 [] pNil := qa_of pa_nil fun σ H Q ⟨F, M, σ', Q', R, S, h, po⟩ => po F H M [] [] (Same.refl F) R .nil h
theorem qa_cons (ha : QE X F0 e ta) (hr : QA X F0 es t) (hs : starEach (e :: es) X.env = (false, eval e X.env) :: starEach es X.env := by rfl) : QA X F0 (e :: es) (pCons ta t) :=
  qa_of (pa_cons ha hr hs) fun σ H Q ⟨F, M, σ', Q', R, S, h, po⟩ => ⟨F, M, σ', _, R, S, h, fun F1 H1 M1 x v e1 R1 rx h1 =>
    ⟨F1, M1, σ', _, R1, S.mono e1, h1, fun F2 H2 M2 xs vs e2 R2 rs h2 => po F2 H2 M2 (x :: xs) (v :: vs) (e1.trans e2) R2 (.cons (rx.mono e2) rs) h2⟩⟩
def pTup (t : TA') : TE' := fun σ M Q => t σ M fun xs M1 => xs.length ≤ sizeLine ∧ Q (.tup xs) M1
/-- a list that stands still | one that may turn -/
def pLst (t : TA') : TE' := fun σ M Q => t σ M fun xs M1 => xs.length ≤ sizeLine ∧ Q (.lst xs) M1
def pLstM (t : TA') : TE' := fun σ M Q => t σ M fun xs M1 => xs.length ≤ sizeLine ∧ ∀ p, M1 p = none → Q (.ref p) (put M1 p (.lst xs))
section
variable {K : PySem.W.Frag} {F H : Hp} {M : PM}
theorem rel_tup {p : Addr} {o : Obj} {vs : List V} {xs : List PV} (R : Rel K F0 F H M) (hp : H p = none) (ho : o.dict = none) (r : RVs K F xs vs) (hz : vs.length ≤ sizeLine) :
    Rel K F0 (upd F p (.frz o (.tup vs))) (upd H p (.frz o (.tup vs))) M ∧ RV K (upd F p (.frz o (.tup vs))) (.tup xs) (.ref p) ∧ Same F (upd F p (.frz o (.tup vs))) := by
  have e : Same F (upd F p (.frz o (.tup vs))) := same_new (R.free hp)
  refine ⟨R.lay hp, ?_, e⟩
  unfold RV
  exact ⟨p, vs, rfl, ⟨.inl (.inr ⟨o, upd_same⟩), .inl ⟨o, _, upd_same, ho⟩⟩, hz, r.mono e⟩
theorem rel_lst {p : Addr} {vs : List V} {xs : List PV} (R : Rel K F0 F H M) (hp : H p = none) (r : RVs K F xs vs) (hz : vs.length ≤ sizeLine) : Rel K F0 (upd F p (.lst vs)) (upd H p (.lst vs)) M ∧ RV K (upd F p (.lst vs)) (.lst xs) (.ref p) ∧ Same F (upd F p (.lst vs)) := by
  have e : Same F (upd F p (.lst vs)) := same_new (R.free hp)
  refine ⟨R.lay hp, ?_, e⟩
  unfold RV
  exact ⟨p, vs, rfl, upd_same, hz, r.mono e⟩
theorem rel_lstM {p : Addr} {vs : List V} {xs : List PV} (R : Rel K F0 F H M) (hp : F p = none) (gp : F0.g p = none) (r : RVs K F xs vs) : Rel K F0 F (upd H p (.lst vs)) (put M p (.lst xs)) :=
  R.turn hp gp ⟨vs, upd_same, r⟩
end
/-- a new tuple is laid -/
theorem laidF {pins : List (Addr × Obj)} {σ : L2.St} {H : Hp} {s : Shared} {vs : List V} {us : List Value} {Q : VK} {k : Nat} (I : Inv X pins σ H s) (r : Vals vs us) (hz : vs.length ≤ sizeLine)
    (h : ∀ p o, H p = none → o.dict = none → Q (.ref p) (upd H p (.frz o (.tup vs)))) : EP X pins σ Q (.ref s.heap.objs.size) { s with toks := k, heap := s.heap.push { cls := .type "tuple", data := .seq us.toArray } } :=
  ⟨.ref s.heap.objs.size, _, I.laid (o := .frz { cls := .type "tuple", data := .seq us.toArray } (.tup vs)) (fun b u q => Heap.get?_push_of_some _ q) (Nat.le_refl _) ⟨Heap.get?_push_size _ rfl, hz, us, r, PyProof.Rows.IsTup.new _ _⟩, rfl, h _ _ (I.hok.fresh (Nat.le_refl _)) rfl⟩
def tTupF (t : TA) : TE := fun σ H Q => t σ H fun xs H1 => xs.length ≤ sizeLine ∧ ∀ p o, H1 p = none → o.dict = none → Q (.ref p) (upd H1 p (.frz o (.tup xs)))
theorem pe_tupF {x1} {t : TA} (h : PA X es t) : PE X (.Tuple es x1 pos) (tTupF t) :=
  ⟨fun pins s σ H Q I hq => wpAny_Tuple_spliced (thn (h.run pos pins s σ H _ I hq) fun us s1 ⟨xs, H1, I1, r, z, q⟩ => ⟨by rw [← r.length]; exact z, laidF I1 r z q⟩)⟩
theorem q_tup {x1} (h : QA X F0 es t) : QE X F0 (.Tuple es x1 pos) (pTup t) :=
  qe_of (pe_tupF h) fun σ H Q ⟨F, M, σ', Q', R, S, h, po⟩ => ⟨F, M, σ', _, R, S, h, fun F1 H1 M1 xs vs e1 R1 rs h1 => by
    have hz : vs.length ≤ sizeLine := by rw [← rs.length]; exact h1.1
    refine ⟨hz, fun p o hp ho => ?_⟩
    obtain ⟨R2, r2, e2⟩ := rel_tup R1 hp ho rs hz
    exact po _ _ _ _ _ (e1.trans e2) R2 r2 h1.2⟩
theorem q_lst (h : QA X F0 es t) : QE X F0 (.List es pos) (pLst t) :=
  qe_of (pe_lst h) fun σ H Q ⟨F, M, σ', Q', R, S, h, po⟩ => ⟨F, M, σ', _, R, S, h, fun F1 H1 M1 xs vs e1 R1 rs h1 => by
    have hz : vs.length ≤ sizeLine := by rw [← rs.length]; exact h1.1
    refine ⟨hz, fun p hp => ?_⟩
    obtain ⟨R2, r2, e2⟩ := rel_lst R1 hp rs hz
    exact po _ _ _ _ _ (e1.trans e2) R2 r2 h1.2⟩
theorem q_lstM (h : QA X F0 es t) : QE X F0 (.List es pos) (pLstM t) :=
  qe_of (pe_lst h) fun σ H Q ⟨F, M, σ', Q', R, S, h, po⟩ => ⟨F, M, σ', _, R, S, h, fun F1 H1 M1 xs vs e1 R1 rs h1 => by
    have hz : vs.length ≤ sizeLine := by rw [← rs.length]; exact h1.1
    exact ⟨hz, fun p hp => po _ _ _ _ _ e1 (rel_lstM R1 (R1.free hp) (R1.gH hp) rs) rv_ref (h1.2 p (R1.newM hp))⟩⟩
/-- a list that has been turned stands still from here on -/
def pFrz (t : TE') : TE' := fun σ M Q => t σ M fun x M1 => match x with
  | .ref p => ∃ xs, M1 p = some (.lst xs) ∧ xs.length ≤ sizeLine ∧ Q (.lst xs) (del M1 p)
  | _ => False
theorem q_frz {t : TE'} (h : QE X F0 e t) : QE X F0 e (pFrz t) :=
  qe_of h fun σ H Q ⟨F, M, σ', Q', R, S, h, po⟩ => ⟨F, M, σ', _, R, S, h, fun F1 H1 M1 x v e1 R1 rx h1 => by
    cases x with
    | ref p =>
      obtain ⟨xs, h2, hz, h3⟩ := h1
      unfold RV at rx
      subst rx
      obtain ⟨fp, vs, hp, rs⟩ := R1.ob p _ h2
      have e2 : Same F1 (upd F1 p (.lst vs)) := same_new fp
      refine po _ _ _ _ _ (e1.trans e2) (R1.freeze fp (R1.gM h2) hp) ?_ h3
      unfold RV
      exact ⟨p, vs, rfl, upd_same, by rw [← rs.length]; exact hz, rs.mono e2⟩
    | _ => exact h1.elim⟩

/-! ### statements -/
variable {st : Stmt} {rest : List Stmt}
def sNext : TS' := fun D σ M => D.nx σ M
def sSeq (t u : TS') : TS' := fun D σ M => t { D with nx := u D } σ M
theorem qss_nil : QSs X F0 [] sNext := qss_of pss_nil fun D σ H ⟨F, M, σ', D', R, S, h, po⟩ => po.nx F H M σ' σ (Same.refl F) R S h
theorem qss_cons {t u : TS'} (h1 : QS X F0 st t) (h2 : QSs X F0 rest u) : QSs X F0 (st :: rest) (sSeq t u) :=
  qss_of (pss_cons h1 h2) fun D σ H ⟨F, M, σ', D', R, S, h, po⟩ => ⟨F, M, σ', _, R, S, h, ⟨fun F1 H1 M1 σ1' σ1 e1 R1 S1 q => ⟨F1, M1, σ1', D', R1, S1, q, po.mono e1⟩, po.rt, po.bk, po.ct⟩⟩
theorem qss_one {t : TS'} (h : QS X F0 st t) : QSs X F0 [st] t := pss_one h
def sPass : TS' := sNext
theorem qs_pass : QS X F0 (.Pass pos) sNext := qs_of ps_pass fun D σ H ⟨F, M, σ', D', R, S, h, po⟩ => po.nx F H M σ' σ (Same.refl F) R S h
def sBreak : TS' := fun D σ M => D.bk σ M
def sCont : TS' := fun D σ M => D.ct σ M
theorem qs_break : QS X F0 (.Break pos) sBreak := qs_of ps_break fun D σ H ⟨F, M, σ', D', R, S, h, po⟩ => po.bk F H M σ' σ (Same.refl F) R S h
theorem qs_continue : QS X F0 (.Continue pos) sCont := qs_of ps_continue fun D σ H ⟨F, M, σ', D', R, S, h, po⟩ => po.ct F H M σ' σ (Same.refl F) R S h
def sDrop (t : TE') : TS' := fun D σ M => t σ M fun _ M1 => D.nx σ M1
theorem qs_expr {t : TE'} (he : QE X F0 e t) (hs : swapsWith e none pos.line X.env = pure false := by rfl) : QS X F0 (.Expr e pos) (sDrop t) :=
  qs_of (ps_expr he hs) fun D σ H ⟨F, M, σ', D', R, S, h, po⟩ => ⟨F, M, σ', _, R, S, h, fun F1 H1 M1 x v e1 R1 rx h1 => po.nx F1 H1 M1 σ' σ e1 R1 (S.mono e1) h1⟩
def sRet (t : TE') : TS' := fun D σ M => t σ M D.rt
theorem qs_ret {t : TE'} (he : QE X F0 e t) : QS X F0 (.Return (some e) pos) (sRet t) :=
  qs_of (ps_ret he) fun D σ H ⟨F, M, σ', D', R, S, h, po⟩ => ⟨F, M, σ', _, R, S, h, po.rt⟩
def sRetN : TS' := fun D _ M => D.rt .non M
theorem qs_retN : QS X F0 (.Return none pos) sRetN := qs_of ps_retN fun D σ H ⟨F, M, σ', D', R, S, h, po⟩ => po.rt F H M .non .non (Same.refl F) R rv_non h
def sIf (c : TT') (t u : TS') : TS' := fun D σ M => c σ M fun b M1 => if b = true then t D σ M1 else u D σ M1
theorem qs_if {c : Expr} {a b : List Stmt} {tc : TT'} {t u : TS'} (hc : QT X F0 c tc) (ha : QSs X F0 a t) (hb : QSs X F0 b u) : QS X F0 (.If c a b pos) (sIf tc t u) :=
  qs_of (ps_if hc ha hb) fun D σ H ⟨F, M, σ', D', R, S, h, po⟩ => ⟨F, M, σ', _, R, S, h, fun F1 H1 M1 b e1 R1 h1 => by
    cases b with
    | true => exact iteT ⟨F1, M1, σ', D', R1, S.mono e1, by simpa using h1, po.mono e1⟩
    | false => exact iteF ⟨F1, M1, σ', D', R1, S.mono e1, by simpa using h1, po.mono e1⟩⟩
def sNever : TS' := fun _ _ _ => False
theorem qs_never : QS X F0 st sNever := qs_of ps_never fun D σ H ⟨F, M, σ', D', R, S, h, po⟩ => h
theorem qss_never {sts : List Stmt} : QSs X F0 sts sNever := qss_of pss_never fun D σ H ⟨F, M, σ', D', R, S, h, po⟩ => h

/-! ### targets -/
def hName (i : Nat) : TG' := fun x σ M Q => Q (σ.set i (some x)) M
theorem qg_name {i : Nat} {x : Str} (hN : X.N.Nodup) (hi : X.N[i]? = some x) (hx : Loc X.env.scope x) (hf : X.fn x = true ∨ X.env.scope.names.lookup x = some .local := by first | exact .inl rfl | exact .inr rfl | assumption) : QG X F0 (.Name x pos) (hName i) :=
  qg_of (pg_name hN hi hx hf) fun v σ H Q ⟨F, M, σ', x, Q', R, S, rx, h, po⟩ => po F H M _ _ (Same.refl F) R (S.set rx i) h
abbrev TGs' := List PV → PSt → PM → (PSt → PM → Prop) → Prop
def LGs (K : PySem.W.Frag) (F0 : Fix) (t : TGs') : TGs := fun vs σ H Q => ∃ F M σ' xs Q', Rel K F0 F H M ∧ RS K F σ' σ ∧ RVs K F xs vs ∧ t xs σ' M Q' ∧ PoS K F0 F Q' Q
def QGs (X : Cx) (F0 : Fix) (es : List Expr) (t : TGs') : Prop := PGs X es (LGs X.K F0 t)
theorem qgs_of {ts : List Expr} {t0 : TGs} {t : TGs'} (h : PGs X ts t0) (le : ∀ vs σ H Q, LGs X.K F0 t vs σ H Q → t0 vs σ H Q) : QGs X F0 ts t := ⟨fun pins s σ H vs us Q I r hw => h.run pins s σ H vs us Q I r (le _ _ _ _ hw)⟩
def hNil : TGs' := fun xs σ M Q => match xs with
  | [] => Q σ M
  | _ => False
def hCons (t : TG') (u : TGs') : TGs' := fun xs σ M Q => match xs with
  | x :: r => t x σ M fun σ1 M1 => u r σ1 M1 Q
  | [] => False
theorem qgs_nil : QGs X F0 [] hNil := qgs_of pgs_nil fun vs σ H Q ⟨F, M, σ', xs, Q', R, S, rs, h, po⟩ => by
  cases xs with
  | nil => unfold RVs at rs; exact ⟨rs, po F H M _ _ (Same.refl F) R S h⟩
  | cons x r => exact h.elim
theorem qgs_cons {t : TG'} {u : TGs'} (h1 : QG X F0 e t) (h2 : QGs X F0 es u) (hs : (assignEach (e :: es) X.env).map (·.2) = assign e X.env :: (assignEach es X.env).map (·.2) := by rfl) : QGs X F0 (e :: es) (hCons t u) :=
  qgs_of (pgs_cons h1 h2 hs) fun vs σ H Q ⟨F, M, σ', xs, Q', R, S, rs, h, po⟩ => by
    cases xs with
    | nil => exact h.elim
    | cons x r =>
      unfold RVs at rs
      obtain ⟨v, vr, e1, rx, rr⟩ := rs
      exact ⟨v, vr, e1, F, M, σ', x, _, R, S, rx, h, fun F1 H1 M1 σ1' σ1 e1 R1 S1 h1 => ⟨F1, M1, σ1', r, Q', R1, S1, rr.mono e1, h1, po.mono e1⟩⟩
def hTup (n : Nat) (t : TGs') : TG' := fun x σ M Q => match x with
  | .tup xs => xs.length = n ∧ t xs σ M Q
  | _ => False
theorem qg_tup {k : Nat} {t : TGs'} {n : Nat} (hc : X.calm = true) (h : QGs X F0 es t) (hn : (assignEach es X.env).length = n := by rfl) (hst : (assignEach es X.env).findIdx? (·.1) = none := by rfl) : QG X F0 (.Tuple es k pos) (hTup n t) :=
  qg_of (pg_tup hc h hn hst) fun v σ H Q ⟨F, M, σ', x, Q', R, S, rx, h, po⟩ => by
    cases x with
    | tup xs =>
      unfold RV at rx
      obtain ⟨a, vs, e1, hs, hz, rs⟩ := rx
      exact ⟨a, vs, e1, sqt_mono R.sm hs, by rw [← rs.length]; exact h.1, F, M, σ', xs, Q', R, S, rs, h.2, po⟩
    | _ => exact h.elim
def sAsg (te : TE') (g : TG') : TS' := fun D σ M => te σ M fun x M1 => g x σ M1 D.nx
theorem qs_asg {tg e : Expr} {te : TE'} {g : TG'} (he : QE X F0 e te) (hg : QG X F0 tg g) (hs : swapsWithSole [tg] e pos.line X.env = pure false := by rfl) (hw : swappedStores [tg] e X.env = pure none := by rfl)
    (h1 : (assignEach [tg] X.env).map (·.2) = [assign tg X.env] := by rfl) : QS X F0 (.Assign [tg] e pos) (sAsg te g) :=
  qs_of (ps_asg he hg hs hw h1) fun D σ H ⟨F, M, σ', D', R, S, h, po⟩ => ⟨F, M, σ', _, R, S, h, fun F1 H1 M1 x v e1 R1 rx h1 => ⟨F1, M1, σ', x, D'.nx, R1, S.mono e1, rx, h1, po.nx.mono e1⟩⟩
theorem qs_set {i : Nat} {x : Str} {e : Expr} {te : TE'} {pos' : Pos} (hN : X.N.Nodup) (hi : X.N[i]? = some x) (hx : Loc X.env.scope x) (he : QE X F0 e te) (hs : swapsWith e (some (.Name x pos')) pos.line X.env = pure false := by rfl) (hf : X.fn x = true ∨ X.env.scope.names.lookup x = some .local := by first | exact .inl rfl | exact .inr rfl | assumption) :
    QS X F0 (.Assign [.Name x pos'] e pos) (sAsg te (hName i)) :=
  qs_of (ps_set hN hi hx he hs hf) fun D σ H ⟨F, M, σ', D', R, S, h, po⟩ => ⟨F, M, σ', _, R, S, h, fun F1 H1 M1 x v e1 R1 rx h1 => po.nx F1 H1 M1 _ _ e1 R1 ((S.mono e1).set rx i) h1⟩
def sPar (i j : Nat) (ta : TA') : TS' := fun D σ M => ta σ M fun xs M1 => match xs with
  | [v, w] => D.nx ((σ.set i (some v)).set j (some w)) M1
  | _ => False
def sPar3 (i j l : Nat) (ta : TA') : TS' := fun D σ M => ta σ M fun xs M1 => match xs with
  | [u, v, w] => D.nx (((σ.set i (some u)).set j (some v)).set l (some w)) M1
  | _ => False
end
end PL

namespace PL
open PySem L2
section
variable {X : Cx} {F0 : Fix} {e a b c : Expr} {pos : Pos} {ta tb tc : TE'} {es : List Expr} {t : TA'}
theorem rvs1 {K : PySem.W.Frag} {F : Hp} {x : PV} {vs : List V} (h : RVs K F [x] vs) : ∃ v, vs = [v] ∧ RV K F x v := by
  unfold RVs at h
  obtain ⟨v, r, e, h1, h2⟩ := h
  unfold RVs at h2
  subst h2
  exact ⟨v, e, h1⟩
theorem rvs2 {K : PySem.W.Frag} {F : Hp} {x y : PV} {vs : List V} (h : RVs K F [x, y] vs) : ∃ v w, vs = [v, w] ∧ RV K F x v ∧ RV K F y w := by
  unfold RVs at h
  obtain ⟨v, r, e, h1, h2⟩ := h
  obtain ⟨w, e2, h3⟩ := rvs1 h2
  subst e2
  exact ⟨v, w, e, h1, h3⟩
theorem rvs3 {K : PySem.W.Frag} {F : Hp} {x y z : PV} {vs : List V} (h : RVs K F [x, y, z] vs) : ∃ v w u, vs = [v, w, u] ∧ RV K F x v ∧ RV K F y w ∧ RV K F z u := by
  unfold RVs at h
  obtain ⟨v, r, e, h1, h2⟩ := h
  obtain ⟨w, u, e2, h3, h4⟩ := rvs2 h2
  subst e2
  exact ⟨v, w, u, e, h1, h3, h4⟩
theorem qs_par {i j : Nat} {x y : Str} {px py pt : Pos} {kt k2 pt2} (hc : X.calm = true) (hN : X.N.Nodup) (hi : X.N[i]? = some x) (hj : X.N[j]? = some y) (hij : i ≠ j)
    (hx : X.env.scope.names.lookup x = some .local) (hy : X.env.scope.names.lookup y = some .local) (ha : QA X F0 [a, b] t)
    (hw : swappedStores [.Tuple [.Name x px, .Name y py] kt pt] (.Tuple [a, b] k2 pt2) X.env = pure (some [x, y]))
    (hs : swapsWithSole [.Tuple [.Name x px, .Name y py] kt pt] (.Tuple [a, b] k2 pt2) pos.line X.env = pure false := by rfl) :
    QS X F0 (.Assign [.Tuple [.Name x px, .Name y py] kt pt] (.Tuple [a, b] k2 pt2) pos) (sPar i j t) :=
  qs_of (ps_par hc hN hi hj hij hx hy ha hw hs) fun D σ H ⟨F, M, σ', D', R, S, h, po⟩ => ⟨F, M, σ', _, R, S, h, fun F1 H1 M1 xs vs e1 R1 rs h1 => by
    match xs, h1, rs with
    | [u, w], h1, rs =>
      obtain ⟨v1, v2, e2, q1, q2⟩ := rvs2 rs
      exact ⟨v1, v2, e2, po.nx F1 H1 M1 _ _ e1 R1 (((S.mono e1).set q1 i).set q2 j) h1⟩⟩
theorem qs_par3 {i j l : Nat} {x y z : Str} {px py pz pt : Pos} {kt k2 pt2} (hc : X.calm = true) (hN : X.N.Nodup) (hi : X.N[i]? = some x) (hj : X.N[j]? = some y) (hl : X.N[l]? = some z) (hij : i ≠ j) (hil : i ≠ l) (hjl : j ≠ l)
    (hx : X.env.scope.names.lookup x = some .local) (hy : X.env.scope.names.lookup y = some .local) (hz : X.env.scope.names.lookup z = some .local) (ha : QA X F0 [a, b, c] t)
    (hw : swappedStores [.Tuple [.Name x px, .Name y py, .Name z pz] kt pt] (.Tuple [a, b, c] k2 pt2) X.env = pure (some [x, y, z]))
    (hs : swapsWithSole [.Tuple [.Name x px, .Name y py, .Name z pz] kt pt] (.Tuple [a, b, c] k2 pt2) pos.line X.env = pure false := by rfl) :
    QS X F0 (.Assign [.Tuple [.Name x px, .Name y py, .Name z pz] kt pt] (.Tuple [a, b, c] k2 pt2) pos) (sPar3 i j l t) :=
  qs_of (ps_par3 hc hN hi hj hl hij hil hjl hx hy hz ha hw hs) fun D σ H ⟨F, M, σ', D', R, S, h, po⟩ => ⟨F, M, σ', _, R, S, h, fun F1 H1 M1 xs vs e1 R1 rs h1 => by
    match xs, h1, rs with
    | [u, w, w3], h1, rs =>
      obtain ⟨v1, v2, v3, e2, q1, q2, q3⟩ := rvs3 rs
      exact ⟨v1, v2, v3, e2, po.nx F1 H1 M1 _ _ e1 R1 ((((S.mono e1).set q1 i).set q2 j).set q3 l) h1⟩⟩

/-! ### numbers -/
def pI (C : Int → Int → Prop) (g : Int → Int → PV) : R2' := fun x y M Q => match x, y with
  | .int i, .int j => C i j ∧ Q (g i j) M
  | _, _ => False
def pI0 (g : Int → Int → PV) : R2' := fun x y M Q => match x, y with
  | .int i, .int j => Q (g i j) M
  | _, _ => False
theorem le_I {C : Int → Int → Prop} {g : Int → Int → V} {g' : Int → Int → PV} (hg : ∀ F i j, RV X.K F (g' i j) (g i j)) : LeO X F0 (rI C g) (pI C g') := fun F H M x y v w Q Q' R rx ry h po => by
  match x, y, h, rx, ry with
  | .int i, .int j, h, rx, ry =>
    unfold RV at rx ry
    exact ⟨i, j, rx, ry, h.1, po F H M _ _ (Same.refl F) R (hg F i j) h.2⟩
theorem le_I0 {g : Int → Int → V} {g' : Int → Int → PV} (hg : ∀ F i j, RV X.K F (g' i j) (g i j)) : LeO X F0 (rI0 g) (pI0 g') := fun F H M x y v w Q Q' R rx ry h po => by
  match x, y, h, rx, ry with
  | .int i, .int j, h, rx, ry =>
    unfold RV at rx ry
    exact ⟨i, j, rx, ry, po F H M _ _ (Same.refl F) R (hg F i j) h⟩
abbrev iSub : R2' := pI0 fun i j => .int (i - j)
abbrev iMulI : R2' := pI CMul fun i j => .int (i * j)
abbrev iFdiv : R2' := pI CDiv fun i j => .int (i / j)
abbrev iMod : R2' := pI (fun _ j => 0 < j) fun i j => .int (i % j)
abbrev iPow : R2' := pI CPow fun i j => .int (i ^ j.toNat)
abbrev iLt : R2' := pI0 fun i j => .bl (decide (i < j))
abbrev iLe : R2' := pI0 fun i j => .bl (decide (i ≤ j))
abbrev iGt : R2' := pI0 fun i j => .bl (decide (j < i))
abbrev iGe : R2' := pI0 fun i j => .bl (decide (j ≤ i))
theorem q_sub (ha : QE X F0 a ta) (hb : QE X F0 b tb) : QE X F0 (.BinOp a .Sub b pos) (pOp iSub ta tb) := q_op op_sub (le_I0 fun _ _ _ => rv_int) ha hb
theorem q_fdiv (ha : QE X F0 a ta) (hb : QE X F0 b tb) : QE X F0 (.BinOp a .FloorDiv b pos) (pOp iFdiv ta tb) := q_op op_fdiv (le_I fun _ _ _ => rv_int) ha hb
theorem q_mod (ha : QE X F0 a ta) (hb : QE X F0 b tb) : QE X F0 (.BinOp a .Mod b pos) (pOp iMod ta tb) := q_op op_mod (le_I fun _ _ _ => rv_int) ha hb
theorem q_pow (ha : QE X F0 a ta) (hb : QE X F0 b tb) : QE X F0 (.BinOp a .Pow b pos) (pOp iPow ta tb) := q_op op_pow (le_I fun _ _ _ => rv_int) ha hb
theorem q_lt (ha : QE X F0 a ta) (hb : QE X F0 b tb) : QE X F0 (.Compare a [.Lt] [b] pos) (pOp iLt ta tb) := q_cmp op_lt (le_I0 fun _ _ _ => rv_bl) ha hb (nomark _)
theorem q_le (ha : QE X F0 a ta) (hb : QE X F0 b tb) : QE X F0 (.Compare a [.LtE] [b] pos) (pOp iLe ta tb) := q_cmp op_le (le_I0 fun _ _ _ => rv_bl) ha hb (nomark _)
theorem q_gt (ha : QE X F0 a ta) (hb : QE X F0 b tb) : QE X F0 (.Compare a [.Gt] [b] pos) (pOp iGt ta tb) := q_cmp op_gt (le_I0 fun _ _ _ => rv_bl) ha hb (nomark _)
theorem q_ge (ha : QE X F0 a ta) (hb : QE X F0 b tb) : QE X F0 (.Compare a [.GtE] [b] pos) (pOp iGe ta tb) := q_cmp op_ge (le_I0 fun _ _ _ => rv_bl) ha hb (nomark _)
theorem qt_lt (ha : QE X F0 a ta) (hb : QE X F0 b tb) : QT X F0 (.Compare a [.Lt] [b] pos) (pTest (pOp iLt ta tb)) := qt_cmp op_lt (le_I0 fun _ _ _ => rv_bl) ha hb (nomark _)
theorem qt_le (ha : QE X F0 a ta) (hb : QE X F0 b tb) : QT X F0 (.Compare a [.LtE] [b] pos) (pTest (pOp iLe ta tb)) := qt_cmp op_le (le_I0 fun _ _ _ => rv_bl) ha hb (nomark _)
theorem qt_gt (ha : QE X F0 a ta) (hb : QE X F0 b tb) : QT X F0 (.Compare a [.Gt] [b] pos) (pTest (pOp iGt ta tb)) := qt_cmp op_gt (le_I0 fun _ _ _ => rv_bl) ha hb (nomark _)
theorem qt_ge (ha : QE X F0 a ta) (hb : QE X F0 b tb) : QT X F0 (.Compare a [.GtE] [b] pos) (pTest (pOp iGe ta tb)) := qt_cmp op_ge (le_I0 fun _ _ _ => rv_bl) ha hb (nomark _)
theorem q_lele (ha : QE X F0 a ta) (hb : QE X F0 b tb) (hc : QE X F0 c tc) (hm : lastMarks [.LtE, .LtE] [b, c] = false := by with_unfolding_all rfl) : QE X F0 (.Compare a [.LtE, .LtE] [b, c] pos) (pChain iLe iLe ta tb tc) := q_chain op_le op_le (le_I0 fun _ _ _ => rv_bl) (le_I0 fun _ _ _ => rv_bl) ha hb hc hm
theorem qt_lele (ha : QE X F0 a ta) (hb : QE X F0 b tb) (hc : QE X F0 c tc) (hm : lastMarks [.LtE, .LtE] [b, c] = false := by with_unfolding_all rfl) : QT X F0 (.Compare a [.LtE, .LtE] [b, c] pos) (pTest (pChain iLe iLe ta tb tc)) := qt_chain op_le op_le (le_I0 fun _ _ _ => rv_bl) (le_I0 fun _ _ _ => rv_bl) ha hb hc hm
theorem q_neg (ha : QE X F0 a ta) : QE X F0 (.UnaryOp .USub a pos) (fun σ M Q => ta σ M fun x M1 => match x with | .int i => Q (.int (-i)) M1 | _ => False) :=
  qe_of (pe_un un_neg ha) fun σ H Q ⟨F, M, σ', Q', R, S, h, po⟩ => ⟨F, M, σ', _, R, S, h, fun F1 H1 M1 x v e1 R1 rx h1 => by
    cases x with
    | int i => unfold RV at rx; exact ⟨i, rx, po F1 H1 M1 _ _ e1 R1 rv_int h1⟩
    | _ => exact h1.elim⟩

/-! ### lists seen as lists of values -/
def asL (M : PM) : PV → Option (List PV)
  | .lst xs => some xs
  | .ref p => match M p with
    | some (.lst xs) => some xs
    | _ => none
  | _ => none
/-- a list or a tuple -/
def asSeq (M : PM) : PV → Option (List PV)
  | .tup xs => some xs
  | x => asL M x
section
variable {K : PySem.W.Frag} {F H : Hp} {M : PM}
theorem asL_at {x : PV} {v : V} {xs : List PV} (R : Rel K F0 F H M) (r : RV K F x v) (h : asL M x = some xs) : ∃ p vs, v = .ref p ∧ H p = some (.lst vs) ∧ RVs K F xs vs := by
  cases x with
  | lst ys =>
    have e : ys = xs := Option.some.inj h
    subst e
    unfold RV at r
    obtain ⟨p, vs, e1, h1, h2, h3⟩ := r
    exact ⟨p, vs, e1, R.sm _ _ h1, h3⟩
  | ref p =>
    simp only [asL] at h
    cases q : M p with
    | none => rw [q] at h; cases h
    | some o =>
      rw [q] at h
      cases o with
      | lst ys =>
        have e : ys = xs := Option.some.inj h
        subst e
        unfold RV at r
        obtain ⟨_, vs, h1, h2⟩ := R.ob p _ q
        exact ⟨p, vs, r, h1, h2⟩
      | _ => cases h
  | _ => cases h
theorem asSeq_at {x : PV} {v : V} {xs : List PV} (R : Rel K F0 F H M) (r : RV K F x v) (h : asSeq M x = some xs) : ∃ p vs, v = .ref p ∧ (SqL K H p vs ∨ SqT K H p vs) ∧ RVs K F xs vs := by
  cases x with
  | tup ys =>
    have e : ys = xs := Option.some.inj h
    subst e
    unfold RV at r
    obtain ⟨p, vs, e1, h1, h2, h3⟩ := r
    exact ⟨p, vs, e1, .inr (sqt_mono R.sm h1), h3⟩
  | lst ys => obtain ⟨p, vs, e1, h1, h2⟩ := asL_at R r h; exact ⟨p, vs, e1, .inl (SqL.of h1), h2⟩
  | ref q => obtain ⟨p, vs, e1, h1, h2⟩ := asL_at R r h; exact ⟨p, vs, e1, .inl (SqL.of h1), h2⟩
  | _ => cases h
end
/-- + : numbers, texts, tuples, lists (the new list stands still) -/
def pAdd : R2' := fun x y M Q => match x, y with
  | .int i, .int j => Q (.int (i + j)) M
  | .str i, .str j => i.length + j.length ≤ sizeLine ∧ Q (.str (i ++ j)) M
  | .tup i, .tup j => i.length + j.length ≤ sizeLine ∧ Q (.tup (i ++ j)) M
  | x, y => ∃ i j, asL M x = some i ∧ asL M y = some j ∧ i.length + j.length ≤ sizeLine ∧ Q (.lst (i ++ j)) M
def pAddM : R2' := fun x y M Q => ∃ i j, asL M x = some i ∧ asL M y = some j ∧ i.length + j.length ≤ sizeLine ∧ ∀ p, M p = none → Q (.ref p) (put M p (.lst (i ++ j)))
theorem le_cat {x y : PV} {F H : Hp} {M : PM} {v w : V} {Q : VK} {Q' : QV} {i j : List PV} (R : Rel X.K F0 F H M) (rx : RV X.K F x v) (ry : RV X.K F y w) (h1 : asL M x = some i) (h2 : asL M y = some j) (hz : i.length + j.length ≤ sizeLine) (h : Q' (.lst (i ++ j)) M) (po : Po X.K F0 F Q' Q) : rCat v w H Q := by
  obtain ⟨p, vs, e1, q1, r1⟩ := asL_at R rx h1
  obtain ⟨q, ws, e2, q2, r2⟩ := asL_at R ry h2
  have hz' : vs.length + ws.length ≤ sizeLine := by rw [← r1.length, ← r2.length]; exact hz
  refine ⟨p, q, vs, ws, e1, e2, q1, q2, hz', fun l hl => ?_⟩
  obtain ⟨R2, r2, e2⟩ := rel_lst R hl (r1.append r2) (by rw [List.length_append]; exact hz')
  exact po _ _ _ _ _ e2 R2 r2 h
/-- t + u, the new tuple without attributes -/
def rCatF (K : PySem.W.Frag) : R2 := fun x y H Q => ∃ a b xs ys, x = .ref a ∧ y = .ref b ∧ SqT K H a xs ∧ SqT K H b ys ∧ xs.length + ys.length ≤ sizeLine ∧
  (xs = [] → Q (.ref b) H) ∧ (xs ≠ [] → ys = [] → Q (.ref a) H) ∧ (xs ≠ [] → ys ≠ [] → ∀ p o, H p = none → o.dict = none → Q (.ref p) (upd H p (.frz o (.tup (xs ++ ys)))))
theorem op_catF : OpR X (binaryOp .Add) (rCatF X.K) := by
  intro pins s σ H x y v u Q I rx ry h
  obtain ⟨a, b, xs, ys, rfl, rfl, ha, hb, hz, q0, q1, q2⟩ := h
  cases rx
  cases ry
  obtain ⟨i1, r1, p1, _⟩ := I.tuple ha
  obtain ⟨i2, r2, p2, _⟩ := I.tuple hb
  by_cases hx : xs = []
  · subst hx
    cases r1
    exact cat_tup0 p1 p2 ⟨.ref b, H, I, rfl, q0 rfl⟩
  · exact HT.cat_tup p1 p2 (fun z => hx (r1.nil_iff.mp z)) (fun z => ⟨.ref a, H, I, rfl, q1 hx (r2.nil_iff.mp z)⟩) (fun z => laidF I (r1.append r2) (by rw [List.length_append]; exact hz) (q2 hx fun w => z (r2.nil_iff.mpr w))) (by rw [← r1.length, ← r2.length]; exact hz)
theorem le_add : LeO X F0 (fun x y H Q => rI0 (fun i j => .int (i + j)) x y H Q ∨ (∃ i j, x = .str i ∧ y = .str j ∧ i.length + j.length ≤ sizeLine ∧ Q (.str (i ++ j)) H) ∨ rCatF X.K x y H Q ∨ rCat x y H Q) pAdd := fun F H M x y v w Q Q' R rx ry h po => by
  unfold pAdd at h
  split at h
  · unfold RV at rx ry
    exact .inl ⟨_, _, rx, ry, po F H M _ _ (Same.refl F) R rv_int h⟩
  · unfold RV at rx ry
    exact .inr (.inl ⟨_, _, rx, ry, h.1, po F H M _ _ (Same.refl F) R rv_str h.2⟩)
  · rename_i i j
    unfold RV at rx ry
    obtain ⟨p, vs, e1, h1, h2, h3⟩ := rx
    obtain ⟨q, ws, e2, g1, g2, g3⟩ := ry
    have hz' : vs.length + ws.length ≤ sizeLine := by rw [← h3.length, ← g3.length]; exact h.1
    refine .inr (.inr (.inl ⟨p, q, vs, ws, e1, e2, sqt_mono R.sm h1, sqt_mono R.sm g1, hz', fun e => ?_, fun _ e => ?_, fun _ _ l o hl ho => ?_⟩))
    · subst e
      have e3 : i = [] := List.eq_nil_of_length_eq_zero h3.length
      subst e3
      refine po F H M _ _ (Same.refl F) R ?_ h.2
      unfold RV
      exact ⟨q, ws, rfl, g1, g2, g3⟩
    · subst e
      have e3 : j = [] := List.eq_nil_of_length_eq_zero g3.length
      subst e3
      refine po F H M _ _ (Same.refl F) R ?_ h.2
      unfold RV
      exact ⟨p, vs, rfl, h1, h2, by rw [List.append_nil]; exact h3⟩
    · obtain ⟨R2, r2, e2⟩ := rel_tup R hl ho (h3.append g3) (by rw [List.length_append]; exact hz')
      exact po _ _ _ _ _ e2 R2 r2 h.2
  · obtain ⟨i, j, h1, h2, hz, h⟩ := h
    exact .inr (.inr (.inr (le_cat R rx ry h1 h2 hz h po)))
theorem q_add (ha : QE X F0 a ta) (hb : QE X F0 b tb) : QE X F0 (.BinOp a .Add b pos) (pOp pAdd ta tb) := q_op (or_op op_add (or_op op_add_str (or_op op_catF op_cat))) le_add ha hb
theorem le_addM : LeO X F0 rCat pAddM := fun F H M x y v w Q Q' R rx ry h po => by
  obtain ⟨i, j, h1, h2, hz, h⟩ := h
  obtain ⟨p, vs, e1, q1, r1⟩ := asL_at R rx h1
  obtain ⟨q, ws, e2, q2, r2⟩ := asL_at R ry h2
  have hz' : vs.length + ws.length ≤ sizeLine := by rw [← r1.length, ← r2.length]; exact hz
  exact ⟨p, q, vs, ws, e1, e2, q1, q2, hz', fun l hl => po _ _ _ _ _ (Same.refl F) (rel_lstM R (R.free hl) (R.gH hl) (r1.append r2)) rv_ref (h l (R.newM hl))⟩
theorem q_addM (ha : QE X F0 a ta) (hb : QE X F0 b tb) : QE X F0 (.BinOp a .Add b pos) (pOp pAddM ta tb) := q_op op_cat le_addM ha hb

/-! ### items -/
def pIx : R2' := fun x y M Q => match x, y with
  | .str z, .int i => z.length ≤ sizeLine ∧ ∃ c, atI z.cps.toList i = some c ∧ Q (.str ⟨#[c]⟩) M
  | .scr ns, .int i => ∃ n, atI ns i = some n ∧ Q (.int n) M
  | x, .int i => ∃ xs u, asSeq M x = some xs ∧ atI xs i = some u ∧ Q u M
  | _, _ => False
theorem atI_rvs {K : PySem.W.Frag} {F : Hp} {xs : List PV} {vs : List V} {i : Int} {u : PV} (r : RVs K F xs vs) (h : atI xs i = some u) : ∃ v, atI vs i = some v ∧ RV K F u v := by
  unfold atI at h ⊢
  rw [← r.length]
  cases q : ixN xs.length i with
  | none => rw [q] at h; cases h
  | some j => rw [q] at h; exact r.get h
theorem le_ix : LeO X F0 (rIx X.K) pIx := fun F H M x y v w Q Q' R rx ry h po => by
  unfold pIx at h
  split at h
  · obtain ⟨hz, c, h1, h2⟩ := h
    unfold RV at rx ry
    exact .inr (.inr ⟨_, _, c, rx, ry, hz, h1, po F H M _ _ (Same.refl F) R rv_str h2⟩)
  · obtain ⟨n, h1, h2⟩ := h
    unfold RV at rx ry
    obtain ⟨p, e1, q1⟩ := rx
    rename_i ns i
    have g : atI (ns.map V.int) i = some (.int n) := by
      unfold atI at h1 ⊢
      rw [List.length_map]
      cases q : ixN ns.length i with
      | none => rw [q] at h1; cases h1
      | some j =>
        rw [q] at h1
        show (ns.map V.int)[j]? = _
        rw [List.getElem?_map]
        have h1 : ns[j]? = some n := h1
        rw [h1]; rfl
    exact .inl ⟨p, _, i, _, e1, ry, R.sm.seq q1, g, po F H M _ _ (Same.refl F) R rv_int h2⟩
  · obtain ⟨xs, u, h1, h2, h3⟩ := h
    obtain ⟨p, vs, e1, q1, r1⟩ := asSeq_at R rx h1
    obtain ⟨v', g1, g2⟩ := atI_rvs r1 h2
    unfold RV at ry
    rcases q1 with q1 | q1
    · exact .inl ⟨p, vs, _, v', e1, ry, q1, g1, po F H M _ _ (Same.refl F) R g2 h3⟩
    · exact .inr (.inl ⟨p, vs, _, v', e1, ry, q1, g1, po F H M _ _ (Same.refl F) R g2 h3⟩)
  · exact h.elim
theorem q_ixs (ha : QE X F0 a ta) (hb : QE X F0 b tb) (hs : PlainIx b) : QE X F0 (.Subscript a b pos) (pOp pIx ta tb) := q_ix ix_seq le_ix ha hb hs

/-! ### calls of what is built in, by values -/
def LeC (X : Cx) (F0 : Fix) (r : List V → Hp → VK → Prop) (r' : List PV → PM → QV → Prop) : Prop := ∀ F H M xs vs Q Q', Rel X.K F0 F H M → RVs X.K F xs vs → r' xs M Q' → Po X.K F0 F Q' Q → r vs H Q
def pCB (r : List PV → PM → QV → Prop) (t : TA') : TE' := fun σ M Q => t σ M fun xs M1 => r xs M1 Q
theorem l_cb {r : List V → Hp → VK → Prop} {r' : List PV → PM → QV → Prop} (hr : LeC X F0 r r') : ∀ σ H Q, L X.K F0 (pCB r' t) σ H Q → tCB r (LA X.K F0 t) σ H Q :=
  fun σ H Q ⟨F, M, σ', Q', R, S, h, po⟩ => ⟨F, M, σ', _, R, S, h, fun F1 H1 M1 xs vs e1 R1 rs h1 => hr F1 H1 M1 xs vs Q Q' R1 rs h1 (po.mono e1)⟩
theorem q_callB {x : Str} {p : Pos} {id : String} {r : List V → Hp → VK → Prop} {r' : List PV → PM → QV → Prop} (hr : LeC X F0 r r') (hc : CallR X (.builtin id) r) (hg : Gl X x) (hm : X.mg x = none) (hv : bootBuiltins x = some (.builtin id)) (ha : QA X F0 (e :: es) t) (hn : x ≠ "__name__" := by decide) (hdb : (x == ("__debug__" : Str)) = false := by decide)
    (he : starEach (e :: es) X.env = (false, eval e X.env) :: starEach es X.env := by rfl) (hpl : (backTo pos (starEach es X.env)).any (·.1) = false := by rfl) : QE X F0 (.Call (.Name x p) (e :: es) [] pos) (pCB r' t) :=
  qe_of (pe_callB hc hg hm hv ha hn hdb he hpl) (l_cb hr)
theorem q_callTy {x : Str} {p : Pos} {T : String} {r : List V → Hp → VK → Prop} {r' : List PV → PM → QV → Prop} (hr : LeC X F0 r r') (hc : CallR X (.type T) r) (hg : Gl X x) (hm : X.mg x = none) (hv : bootBuiltins x = some (.type T)) (ha : QA X F0 (e :: es) t) (hn : x ≠ "__name__" := by decide) (hdb : (x == ("__debug__" : Str)) = false := by decide)
    (he : starEach (e :: es) X.env = (false, eval e X.env) :: starEach es X.env := by rfl) (hpl : (backTo pos (starEach es X.env)).any (·.1) = false := by rfl) : QE X F0 (.Call (.Name x p) (e :: es) [] pos) (pCB r' t) :=
  qe_of (pe_callTy hc hg hm hv ha hn hdb he hpl) (l_cb hr)
theorem or_call {f : Value} {r1 r2 : List V → Hp → VK → Prop} (h1 : CallR X f r1) (h2 : CallR X f r2) : CallR X f (fun xs H Q => r1 xs H Q ∨ r2 xs H Q) := by
  intro pins s σ H vs us Q I r h
  rcases h with h | h
  · exact h1 pins s σ H vs us Q I r h
  · exact h2 pins s σ H vs us Q I r h
/-- len -/
def pLen : List PV → PM → QV → Prop := fun xs M Q => match xs with
  | [.str z] => z.length ≤ sizeLine ∧ Q (.int z.length) M
  | [.scr ns] => Q (.int ns.length) M
  | [x] => ∃ ys, asSeq M x = some ys ∧ Q (.int ys.length) M
  | _ => False
theorem le_len : LeC X F0 (fun xs H Q => (∃ p ys, xs = [.ref p] ∧ (SqL X.K H p ys ∨ SqT X.K H p ys) ∧ Q (.int ys.length) H) ∨ ∃ z, xs = [.str z] ∧ z.length ≤ sizeLine ∧ Q (.int z.length) H) pLen := fun F H M xs vs Q Q' R rs h po => by
  unfold pLen at h
  split at h
  · obtain ⟨v, e, r⟩ := rvs1 rs
    unfold RV at r
    subst r
    exact .inr ⟨_, e, h.1, po F H M _ _ (Same.refl F) R rv_int h.2⟩
  · obtain ⟨v, e, r⟩ := rvs1 rs
    unfold RV at r
    obtain ⟨p, e1, q1⟩ := r
    subst e1
    refine .inl ⟨p, _, e, .inl (R.sm.seq q1), ?_⟩
    rw [List.length_map]
    exact po F H M _ _ (Same.refl F) R rv_int h
  · obtain ⟨v, e, r⟩ := rvs1 rs
    obtain ⟨ys, h1, h2⟩ := h
    obtain ⟨p, vs', e1, q1, r1⟩ := asSeq_at R r h1
    subst e1
    refine .inl ⟨p, vs', e, q1, ?_⟩
    rw [← r1.length]
    exact po F H M _ _ (Same.refl F) R rv_int h2
  · exact h.elim
theorem q_len {p : Pos} (hg : Gl X "len") (hm : X.mg "len" = none) (ha : QE X F0 a ta) (he : starEach [a] X.env = (false, eval a X.env) :: starEach [] X.env := by rfl) (hpl : (backTo pos (starEach [] X.env)).any (·.1) = false := by rfl) : QE X F0 (.Call (.Name "len" p) [a] [] pos) (pCB pLen (pCons ta pNil)) :=
  q_callB le_len (or_call call_len_seq call_len_str) hg hm PySem.boot_len (qa_cons ha qa_nil he) (by decide) (by decide) he hpl
/-- max(i, j), min(i, j) -/
def pMax2 : List PV → PM → QV → Prop := fun xs M Q => match xs with
  | [.int i, .int j] => Q (.int (if j > i then j else i)) M
  | _ => False
def pMin2 : List PV → PM → QV → Prop := fun xs M Q => match xs with
  | [.int i, .int j] => Q (.int (if j < i then j else i)) M
  | _ => False
theorem le_max2 : LeC X F0 (fun xs H Q => ∃ i j, xs = [.int i, .int j] ∧ Q (.int (if j > i then j else i)) H) pMax2 := fun F H M xs vs Q Q' R rs h po => by
  unfold pMax2 at h
  split at h
  · obtain ⟨v, w, e, r1, r2⟩ := rvs2 rs
    unfold RV at r1 r2
    subst r1 r2
    exact ⟨_, _, e, po F H M _ _ (Same.refl F) R rv_int h⟩
  · exact h.elim
theorem le_min2 : LeC X F0 (fun xs H Q => ∃ i j, xs = [.int i, .int j] ∧ Q (.int (if j < i then j else i)) H) pMin2 := fun F H M xs vs Q Q' R rs h po => by
  unfold pMin2 at h
  split at h
  · obtain ⟨v, w, e, r1, r2⟩ := rvs2 rs
    unfold RV at r1 r2
    subst r1 r2
    exact ⟨_, _, e, po F H M _ _ (Same.refl F) R rv_int h⟩
  · exact h.elim
theorem q_max2 {p : Pos} (hc : X.calm = true) (hg : Gl X "max") (hm : X.mg "max" = none) (ha : QA X F0 [a, b] t) (he : starEach [a, b] X.env = (false, eval a X.env) :: starEach [b] X.env := by rfl) (hpl : (backTo pos (starEach [b] X.env)).any (·.1) = false := by rfl) : QE X F0 (.Call (.Name "max" p) [a, b] [] pos) (pCB pMax2 t) :=
  q_callB le_max2 (call_max2 hc) hg hm (by decide +kernel) ha (by decide) (by decide) he hpl
theorem q_min2 {p : Pos} (hc : X.calm = true) (hg : Gl X "min") (hm : X.mg "min" = none) (ha : QA X F0 [a, b] t) (he : starEach [a, b] X.env = (false, eval a X.env) :: starEach [b] X.env := by rfl) (hpl : (backTo pos (starEach [b] X.env)).any (·.1) = false := by rfl) : QE X F0 (.Call (.Name "min" p) [a, b] [] pos) (pCB pMin2 t) :=
  q_callB le_min2 (call_min2 hc) hg hm (by decide +kernel) ha (by decide) (by decide) he hpl
/-- list(x): a list that stands still | one that may turn; tuple(x) -/
def pList : List PV → PM → QV → Prop := fun xs M Q => match xs with
  | [x] => ∃ ys, asSeq M x = some ys ∧ ys.length ≤ sizeLine ∧ Q (.lst ys) M
  | _ => False
def pListM : List PV → PM → QV → Prop := fun xs M Q => match xs with
  | [x] => ∃ ys, asSeq M x = some ys ∧ ∀ p, M p = none → Q (.ref p) (put M p (.lst ys))
  | _ => False
def pTuple : List PV → PM → QV → Prop := fun xs M Q => match xs with
  | [x] => ∃ ys, asSeq M x = some ys ∧ ys.length ≤ sizeLine ∧ Q (.tup ys) M
  | _ => False
theorem le_list : LeC X F0 (fun xs H Q => ∃ p ys, xs = [.ref p] ∧ (SqL X.K H p ys ∨ SqT X.K H p ys) ∧ ∀ l, H l = none → Q (.ref l) (upd H l (.lst ys))) pList := fun F H M xs vs Q Q' R rs h po => by
  unfold pList at h
  split at h
  · obtain ⟨v, e, r⟩ := rvs1 rs
    obtain ⟨ys, h1, hz, h2⟩ := h
    obtain ⟨p, vs', e1, q1, r1⟩ := asSeq_at R r h1
    subst e1
    refine ⟨p, vs', e, q1, fun l hl => ?_⟩
    obtain ⟨R2, r2, e2⟩ := rel_lst R hl r1 (by rw [← r1.length]; exact hz)
    exact po _ _ _ _ _ e2 R2 r2 h2
  · exact h.elim
theorem le_listM : LeC X F0 (fun xs H Q => ∃ p ys, xs = [.ref p] ∧ (SqL X.K H p ys ∨ SqT X.K H p ys) ∧ ∀ l, H l = none → Q (.ref l) (upd H l (.lst ys))) pListM := fun F H M xs vs Q Q' R rs h po => by
  unfold pListM at h
  split at h
  · obtain ⟨v, e, r⟩ := rvs1 rs
    obtain ⟨ys, h1, h2⟩ := h
    obtain ⟨p, vs', e1, q1, r1⟩ := asSeq_at R r h1
    subst e1
    exact ⟨p, vs', e, q1, fun l hl => po _ _ _ _ _ (Same.refl F) (rel_lstM R (R.free hl) (R.gH hl) r1) rv_ref (h2 l (R.newM hl))⟩
  · exact h.elim
theorem call_tupleF : CallR X (.type "tuple") (fun xs H Q => ∃ p ys, xs = [.ref p] ∧ ((SqL X.K H p ys ∧ ∀ l o, H l = none → o.dict = none → Q (.ref l) (upd H l (.frz o (.tup ys)))) ∨ (SqT X.K H p ys ∧ Q (.ref p) H))) := by
  intro pins s σ H xs us Q I r h
  obtain ⟨p, ys, rfl, h⟩ := h
  obtain ⟨u, rfl, ru⟩ := vals1 r
  cases ru
  rcases h with ⟨hs, q⟩ | ⟨hs, q⟩
  · obtain ⟨its, rv, pl, hz⟩ := I.list hs
    exact call_tuple_list pl.isList (fun h' hk => laidF (k := s.toks) (I.kept (t' := s.toks) hk) rv hz q) (by rw [List.size_toArray, ← rv.length]; exact hz)
  · obtain ⟨its, rv, pl, hz⟩ := I.tuple hs
    exact call_tuple_same (items := its.toArray) pl ⟨.ref p, H, I, rfl, q⟩
theorem le_tuple : LeC X F0 (fun xs H Q => ∃ p ys, xs = [.ref p] ∧ ((SqL X.K H p ys ∧ ∀ l o, H l = none → o.dict = none → Q (.ref l) (upd H l (.frz o (.tup ys)))) ∨ (SqT X.K H p ys ∧ Q (.ref p) H))) pTuple := fun F H M xs vs Q Q' R rs h po => by
  unfold pTuple at h
  split at h
  · obtain ⟨v, e, r⟩ := rvs1 rs
    obtain ⟨ys, h1, hz, h2⟩ := h
    rename_i x
    have fin : ∀ ys', asL M x = some ys' → ys' = ys → ∃ p ys, vs = [V.ref p] ∧ ((SqL X.K H p ys ∧ ∀ l o, H l = none → o.dict = none → Q (.ref l) (upd H l (.frz o (.tup ys)))) ∨ (SqT X.K H p ys ∧ Q (.ref p) H)) := fun ys' g1 g2 => by
      subst g2
      obtain ⟨p, vs', e1, q1, r1⟩ := asL_at R r g1
      subst e1
      refine ⟨p, vs', e, .inl ⟨SqL.of q1, fun l o hl ho => ?_⟩⟩
      obtain ⟨R2, r2, e2⟩ := rel_tup R hl ho r1 (by rw [← r1.length]; exact hz)
      exact po _ _ _ _ _ e2 R2 r2 h2
    cases x with
    | tup zs =>
      have e3 : zs = ys := Option.some.inj h1
      subst e3
      have r' := r
      unfold RV at r'
      obtain ⟨p, vs', e1, q1, q2, q3⟩ := r'
      subst e1
      exact ⟨p, vs', e, .inr ⟨sqt_mono R.sm q1, po F H M _ _ (Same.refl F) R r h2⟩⟩
    | lst zs => exact fin ys h1 rfl
    | ref q => exact fin ys h1 rfl
    | _ => cases h1
  · exact h.elim
theorem q_list {p : Pos} (hg : Gl X "list") (hm : X.mg "list" = none) (ha : QE X F0 a ta) (he : starEach [a] X.env = (false, eval a X.env) :: starEach [] X.env := by rfl) (hpl : (backTo pos (starEach [] X.env)).any (·.1) = false := by rfl) : QE X F0 (.Call (.Name "list" p) [a] [] pos) (pCB pList (pCons ta pNil)) :=
  q_callTy le_list call_list_of hg hm (by decide +kernel) (qa_cons ha qa_nil he) (by decide) (by decide) he hpl
theorem q_listM {p : Pos} (hg : Gl X "list") (hm : X.mg "list" = none) (ha : QE X F0 a ta) (he : starEach [a] X.env = (false, eval a X.env) :: starEach [] X.env := by rfl) (hpl : (backTo pos (starEach [] X.env)).any (·.1) = false := by rfl) : QE X F0 (.Call (.Name "list" p) [a] [] pos) (pCB pListM (pCons ta pNil)) :=
  q_callTy le_listM call_list_of hg hm (by decide +kernel) (qa_cons ha qa_nil he) (by decide) (by decide) he hpl
theorem q_tuple {p : Pos} (hg : Gl X "tuple") (hm : X.mg "tuple" = none) (ha : QE X F0 a ta) (he : starEach [a] X.env = (false, eval a X.env) :: starEach [] X.env := by rfl) (hpl : (backTo pos (starEach [] X.env)).any (·.1) = false := by rfl) : QE X F0 (.Call (.Name "tuple" p) [a] [] pos) (pCB pTuple (pCons ta pNil)) :=
  q_callTy le_tuple call_tupleF hg hm (by decide +kernel) (qa_cons ha qa_nil he) (by decide) (by decide) he hpl
end
end PL

namespace PL
open PySem L2
/-! ### data: what == and repr see -/
mutual
def PV.dat : PV → PyData
  | .non => .none
  | .bl b => .bool b
  | .int i => .int i
  | .str x => .str x
  | .tup xs => .tuple (PV.dats xs)
  | .lst xs => .list (PV.dats xs)
  | .dct kvs => .dict (PV.datk kvs)
  | .scr ns => .list (ns.map PyData.int)
  | _ => .none
def PV.dats : List PV → List PyData
  | [] => []
  | x :: xs => x.dat :: PV.dats xs
def PV.datk : List (Key × PV) → List (PyData × PyData)
  | [] => []
  | (k, x) :: r => ((match k with | .inl i => .int i | .inr s => .str s), x.dat) :: PV.datk r
end
mutual
/-- no dict, nothing that turns, texts of plain signs -/
def PV.isD : PV → Bool
  | .non | .bl _ | .int _ => true
  | .str x => PyData.canLay0 (.str x)
  | .tup xs => PV.areD xs
  | .lst xs => PV.areD xs
  | _ => false
def PV.areD : List PV → Bool
  | [] => true
  | x :: xs => x.isD && PV.areD xs
end
section
variable {K : PySem.W.Frag} {F H : Hp} {M : PM}
mutual
theorem dp_of (e : Same F H) : ∀ {x : PV} {v : V}, RV K F x v → x.isD = true → Dp K H v x.dat
  | .non, v, r, _ => by unfold RV at r; subst r; exact .non
  | .bl b, v, r, _ => by unfold RV at r; subst r; exact .bl b
  | .int i, v, r, _ => by unfold RV at r; subst r; exact .int i
  | .str x, v, r, _ => by unfold RV at r; subst r; exact .str x
  | .tup xs, v, r, h => by
    unfold RV at r
    obtain ⟨a, vs, e1, h1, _, h3⟩ := r
    subst e1
    exact .tup (sqt_mono e h1) (dps_of e h3 (by simpa [PV.isD] using h))
  | .lst xs, v, r, h => by
    unfold RV at r
    obtain ⟨a, vs, e1, h1, _, h3⟩ := r
    subst e1
    exact .lst (SqL.of (e _ _ h1)) (dps_of e h3 (by simpa [PV.isD] using h))
  | .dct kvs, v, r, h => by simp [PV.isD] at h
  | .scr ns, v, r, h => by simp [PV.isD] at h
  | .ref a, v, r, h => by simp [PV.isD] at h
  | .ty n, v, r, h => by simp [PV.isD] at h
theorem dps_of (e : Same F H) : ∀ {xs : List PV} {vs : List V}, RVs K F xs vs → PV.areD xs = true → DpAll K H vs (PV.dats xs)
  | [], vs, r, _ => by unfold RVs at r; subst r; exact .nil
  | x :: xs, vs, r, h => by
    unfold RVs at r
    obtain ⟨v, r', e1, h1, h2⟩ := r
    subst e1
    have h' : x.isD = true ∧ PV.areD xs = true := by simpa [PV.areD] using h
    exact .cons (dp_of e h1 h'.1) (dps_of e h2 h'.2)
end
mutual
theorem canLay_isD : ∀ {x : PV}, x.isD = true → x.dat.canLay0 = true
  | .non, _ => rfl
  | .bl _, _ => rfl
  | .int _, _ => rfl
  | .str x, h => by
    show PyData.canLay0 (.str x) = true
    simpa [PV.isD] using h
  | .tup xs, h => by
    show PyData.canLay0 (.tuple (PV.dats xs)) = true
    unfold PyData.canLay0
    exact canLays_areD (by simpa [PV.isD] using h)
  | .lst xs, h => by
    show PyData.canLay0 (.list (PV.dats xs)) = true
    unfold PyData.canLay0
    exact canLays_areD (by simpa [PV.isD] using h)
  | .dct kvs, h => by simp [PV.isD] at h
  | .scr ns, h => by simp [PV.isD] at h
  | .ref a, h => by simp [PV.isD] at h
  | .ty n, h => by simp [PV.isD] at h
theorem canLays_areD : ∀ {xs : List PV}, PV.areD xs = true → PyData.canLayAll0 (PV.dats xs) = true
  | [], _ => rfl
  | x :: xs, h => by
    have h' : x.isD = true ∧ PV.areD xs = true := by simpa [PV.areD] using h
    show PyData.canLayAll0 (x.dat :: PV.dats xs) = true
    unfold PyData.canLayAll0
    rw [canLay_isD h'.1, canLays_areD h'.2]; rfl
end
end
/-- x == y -/
def eqP (x y : PV) : Bool := PyData.eqv x.dat y.dat
def okP (x : PV) : Prop := x.isD = true ∧ x.dat.depth ≤ 64
section
variable {X : Cx} {F0 : Fix} {e a b c : Expr} {pos : Pos} {ta tb tc : TE'} {es : List Expr} {t : TA'}
/-- t == () for whatever t holds -/
def rEqNil (K : PySem.W.Frag) : R2 := fun x y H Q => ∃ p q xs, x = .ref p ∧ y = .ref q ∧ SqT K H p xs ∧ SqT K H q [] ∧ Q (.bl xs.isEmpty) H
theorem op_eqNil (hu : X.A.units < cLine) : OpR X (compareOp .Eq) (rEqNil X.K) := by
  intro pins s σ H x y v u Q I rx ry h
  obtain ⟨p, q, xs, rfl, rfl, hp, hq, k⟩ := h
  cases rx
  cases ry
  obtain ⟨its, r1, t1, _⟩ := I.tuple hp
  obtain ⟨its2, r2, t2, _⟩ := I.tuple hq
  cases r2
  refine SeqAt.eq_tupleAt (e := fun _ => true) t1 t2 hu (fun j j1 j2 => absurd j2 (Nat.not_lt_zero _)) ?_
  refine ⟨.bl xs.isEmpty, H, I, ?_, k⟩
  cases r1 with
  | nil => rfl
  | cons _ _ => rfl
def pEq : R2' := fun x y M Q => match x, y with
  | .tup xs, .tup [] => Q (.bl xs.isEmpty) M
  | .str x, .str y => Q (.bl (decide (x = y))) M
  | x, y => okP x ∧ okP y ∧ Q (.bl (eqP x y)) M
def pNe : R2' := fun x y M Q => match x, y with
  | .str x, .str y => Q (.bl (!decide (x = y))) M
  | x, y => okP x ∧ okP y ∧ Q (.bl (!eqP x y)) M
theorem shaped_of {x : PV} (h : okP x) : SeqAt.shaped x.dat = true := by
  unfold SeqAt.shaped
  rw [canLay_isD h.1, decide_eq_true h.2]; rfl
theorem vstr_eq {x y : Str} : decide (V.str x = V.str y) = decide (x = y) := by
  rw [Bool.eq_iff_iff]; simp
theorem le_eq : LeO X F0 (fun x y H Q => (rEqD X.K x y H Q ∨ rEqNil X.K x y H Q) ∨ rEq x y H Q) pEq := fun F H M x y v w Q Q' R rx ry h po => by
  unfold pEq at h
  split at h
  · unfold RV at rx ry
    obtain ⟨p, vs, e1, h1, h2, h3⟩ := rx
    obtain ⟨q, ws, e2, g1, g2, g3⟩ := ry
    unfold RVs at g3
    subst g3
    refine .inl (.inr ⟨p, q, vs, e1, e2, sqt_mono R.sm h1, sqt_mono R.sm g1, ?_⟩)
    refine po F H M _ _ (Same.refl F) R ?_ h
    rename_i xs
    cases xs with
    | nil => unfold RVs at h3; subst h3; exact rv_bl
    | cons x r => unfold RVs at h3; obtain ⟨v, r, e3, _⟩ := h3; subst e3; exact rv_bl
  · unfold RV at rx ry
    subst rx ry
    exact .inr ⟨rfl, po F H M _ _ (Same.refl F) R (by rw [vstr_eq]; exact rv_bl) h⟩
  · obtain ⟨h1, h2, h3⟩ := h
    exact .inl (.inl ⟨_, _, dp_of R.sm rx h1.1, dp_of R.sm ry h2.1, shaped_of h1, shaped_of h2, po F H M _ _ (Same.refl F) R rv_bl h3⟩)
theorem le_ne : LeO X F0 (fun x y H Q => rNeD X.K x y H Q ∨ rNe x y H Q) pNe := fun F H M x y v w Q Q' R rx ry h po => by
  unfold pNe at h
  split at h
  · unfold RV at rx ry
    subst rx ry
    exact .inr ⟨rfl, po F H M _ _ (Same.refl F) R (by rw [vstr_eq]; exact rv_bl) h⟩
  · obtain ⟨h1, h2, h3⟩ := h
    exact .inl ⟨_, _, dp_of R.sm rx h1.1, dp_of R.sm ry h2.1, shaped_of h1, shaped_of h2, po F H M _ _ (Same.refl F) R rv_bl h3⟩
theorem q_eq {k : Nat} (hr : Room k X.A) (ha : QE X F0 a ta) (hb : QE X F0 b tb) : QE X F0 (.Compare a [.Eq] [b] pos) (pOp pEq ta tb) := q_cmp (or_op (or_op (op_eqD hr.units) (op_eqNil hr.units0)) op_eq) le_eq ha hb (nomark _)
theorem q_ne {k : Nat} (hr : Room k X.A) (ha : QE X F0 a ta) (hb : QE X F0 b tb) : QE X F0 (.Compare a [.NotEq] [b] pos) (pOp pNe ta tb) := q_cmp (or_op (op_neD hr.units) op_ne) le_ne ha hb (nomark _)
theorem qt_eq {k : Nat} (hr : Room k X.A) (ha : QE X F0 a ta) (hb : QE X F0 b tb) : QT X F0 (.Compare a [.Eq] [b] pos) (pTest (pOp pEq ta tb)) := qt_cmp (or_op (or_op (op_eqD hr.units) (op_eqNil hr.units0)) op_eq) le_eq ha hb (nomark _)
theorem qt_ne {k : Nat} (hr : Room k X.A) (ha : QE X F0 a ta) (hb : QE X F0 b tb) : QT X F0 (.Compare a [.NotEq] [b] pos) (pTest (pOp pNe ta tb)) := qt_cmp (or_op (op_neD hr.units) op_ne) le_ne ha hb (nomark _)
/-- is None, is not None -/
def isN : PV → Bool
  | .non => true
  | _ => false
def pIsN : R2' := fun x y M Q => match y with
  | .non => Q (.bl (isN x)) M
  | _ => False
def pNotN : R2' := fun x y M Q => match y with
  | .non => Q (.bl (!isN x)) M
  | _ => False
theorem isN_rv {K : PySem.W.Frag} {F : Hp} {x : PV} {v : V} (r : RV K F x v) : decide (v = .non) = isN x := by
  cases x with
  | non => unfold RV at r; subst r; rfl
  | bl b => unfold RV at r; subst r; rfl
  | int i => unfold RV at r; subst r; rfl
  | str s => unfold RV at r; subst r; rfl
  | ty n => unfold RV at r; subst r; rfl
  | ref p => unfold RV at r; subst r; rfl
  | tup xs => unfold RV at r; obtain ⟨p, vs, e, _⟩ := r; subst e; rfl
  | lst xs => unfold RV at r; obtain ⟨p, vs, e, _⟩ := r; subst e; rfl
  | dct xs => unfold RV at r; obtain ⟨p, vs, e, _⟩ := r; subst e; rfl
  | scr xs => unfold RV at r; obtain ⟨p, e, _⟩ := r; subst e; rfl
theorem le_isN : LeO X F0 (fun x y H Q => y = .non ∧ Q (.bl (decide (x = .non))) H) pIsN := fun F H M x y v w Q Q' R rx ry h po => by
  unfold pIsN at h
  split at h
  · unfold RV at ry
    refine ⟨ry, ?_⟩
    rw [isN_rv rx]
    exact po F H M _ _ (Same.refl F) R rv_bl h
  · exact h.elim
theorem le_notN : LeO X F0 (fun x y H Q => y = .non ∧ Q (.bl (!decide (x = .non))) H) pNotN := fun F H M x y v w Q Q' R rx ry h po => by
  unfold pNotN at h
  split at h
  · unfold RV at ry
    refine ⟨ry, ?_⟩
    rw [isN_rv rx]
    exact po F H M _ _ (Same.refl F) R rv_bl h
  · exact h.elim
theorem q_isN (ha : QE X F0 a ta) (hb : QE X F0 b tb) : QE X F0 (.Compare a [.Is] [b] pos) (pOp pIsN ta tb) := q_cmp op_isN le_isN ha hb (nomark _)
theorem q_notN (ha : QE X F0 a ta) (hb : QE X F0 b tb) : QE X F0 (.Compare a [.IsNot] [b] pos) (pOp pNotN ta tb) := q_cmp op_notN le_notN ha hb (nomark _)
theorem qt_isN (ha : QE X F0 a ta) (hb : QE X F0 b tb) : QT X F0 (.Compare a [.Is] [b] pos) (pTest (pOp pIsN ta tb)) := qt_cmp op_isN le_isN ha hb (nomark _)
theorem qt_notN (ha : QE X F0 a ta) (hb : QE X F0 b tb) : QT X F0 (.Compare a [.IsNot] [b] pos) (pTest (pOp pNotN ta tb)) := qt_cmp op_notN le_notN ha hb (nomark _)

/-! ### isinstance -/
def kindP (M : PM) : PV → Option String
  | .non => some "NoneType"
  | .bl _ => some "bool"
  | .int _ => some "int"
  | .str _ => some "str"
  | .tup _ => some "tuple"
  | .lst _ => some "list"
  | .dct _ => some "dict"
  | .ref p => match M p with
    | some (.lst _) => some "list"
    | some (.dK _) => some "dict"
    | some (.dT _) => some "dict"
    | _ => none
  | _ => none
theorem tyX_of {K : PySem.W.Frag} {F H : Hp} {M : PM} {x : PV} {v : V} {T : String} (R : Rel K F0 F H M) (r : RV K F x v) (h : kindP M x = some T) : TyX K H v (.type T) := by
  cases x with
  | non => unfold RV at r; subst r; cases h; exact .base .non
  | bl b => unfold RV at r; subst r; cases h; exact .base (.bl b)
  | int i => unfold RV at r; subst r; cases h; exact .base (.int i)
  | str s => unfold RV at r; subst r; cases h; exact .base (.str s)
  | ty n => cases h
  | scr n => cases h
  | tup xs =>
    unfold RV at r
    obtain ⟨p, vs, e, h1, _⟩ := r
    subst e
    cases h
    rcases sqt_mono R.sm h1 with (q | ⟨o, q⟩) | ⟨o, its, n, q, c, _⟩
    · exact .base (.tup q)
    · exact .fTuple q
    · exact .kTuple q c
  | lst xs =>
    unfold RV at r
    obtain ⟨p, vs, e, h1, _⟩ := r
    subst e
    cases h
    exact .base (.lst (R.sm _ _ h1))
  | dct xs =>
    unfold RV at r
    obtain ⟨p, vs, e, h1, _⟩ := r
    subst e
    cases h
    exact .base (.dK (R.sm _ _ h1))
  | ref p =>
    unfold RV at r
    subst r
    simp only [kindP] at h
    cases q : M p with
    | none => rw [q] at h; cases h
    | some o =>
      rw [q] at h
      have hob := (R.ob p o q).2
      cases o with
      | lst xs => obtain ⟨vs, h1, _⟩ := hob; cases h; exact .base (.lst h1)
      | dK xs => obtain ⟨vs, h1, _⟩ := hob; cases h; exact .base (.dK h1)
      | dT xs => obtain ⟨vs, h1, _⟩ := hob; cases h; exact .base (.dT h1)
      | ins C dx fs => cases h
def isi (T : String) (M : PM) (x : PV) : Option Bool := match kindP M x with
  | some S => kitB S T
  | none => none
def pIsi : List PV → PM → QV → Prop := fun xs M Q => match xs with
  | [x, .ty T] => match isi T M x with
    | some b => Q (.bl b) M
    | none => False
  | _ => False
theorem le_isi : LeC X F0 (rIsi X.K) pIsi := fun F H M xs vs Q Q' R rs h po => by
  unfold pIsi at h
  split at h
  · obtain ⟨v, w, e, r1, r2⟩ := rvs2 rs
    unfold RV at r2
    subst r2
    unfold isi at h
    cases h1 : kindP M _ with
    | none => rw [h1] at h; exact h.elim
    | some S =>
      rw [h1] at h
      simp only at h
      cases h2 : kitB S _ with
      | none => rw [h2] at h; exact h.elim
      | some b =>
        rw [h2] at h
        exact ⟨v, _, _, _, b, e, .ty _, tyX_of R r1 h1, kit_ty h2, po F H M _ _ (Same.refl F) R rv_bl h⟩
  · exact h.elim
theorem q_isi {p : Pos} (hg : Gl X "isinstance") (hm : X.mg "isinstance" = none) (ha : QA X F0 [a, b] t) (he : starEach [a, b] X.env = (false, eval a X.env) :: starEach [b] X.env := by rfl) (hpl : (backTo pos (starEach [b] X.env)).any (·.1) = false := by rfl) : QE X F0 (.Call (.Name "isinstance" p) [a, b] [] pos) (pCB pIsi t) :=
  q_callB le_isi call_isi hg hm (by decide +kernel) ha (by decide) (by decide) he hpl

/-! ### slices -/
abbrev TO' := PSt → PM → (Option Int → PM → Prop) → Prop
def LO (K : PySem.W.Frag) (F0 : Fix) (t : TO') : TO := fun σ H Q => ∃ F M σ' Q', Rel K F0 F H M ∧ RS K F σ' σ ∧ t σ' M Q' ∧ ∀ F' H' M' o, Same F F' → Rel K F0 F' H' M' → Q' o M' → Q o H'
def QO (X : Cx) (F0 : Fix) (e : Option Expr) (t : TO') : Prop := PO X e (LO X.K F0 t)
def oNone : TO' := fun _ M Q => Q none M
def oSome (t : TE') : TO' := fun σ M Q => t σ M fun x M1 => match x with
  | .int i => Q (some i) M1
  | _ => False
theorem qo_none : QO X F0 none oNone := ⟨fun pins s σ H Q I ⟨F, M, σ', Q', R, S, h, po⟩ => po_none.run pins s σ H Q I (po F H M none (Same.refl F) R h)⟩
theorem qo_some {t : TE'} (h : QE X F0 e t) : QO X F0 (some e) (oSome t) := ⟨fun pins s σ H Q I ⟨F, M, σ', Q', R, S, h', po⟩ => (po_some h).run pins s σ H Q I ⟨F, M, σ', _, R, S, h', fun F1 H1 M1 x v e1 R1 rx h1 => by
    cases x with
    | int i => unfold RV at rx; exact ⟨i, rx, po F1 H1 M1 (some i) e1 R1 h1⟩
    | _ => exact h1.elim⟩⟩
def cutP {α : Type} (xs : List α) (lo hi : Option Int) : List α := (xs.drop (HT.sIx xs.length 0 lo)).take (HT.sIx xs.length xs.length hi - HT.sIx xs.length 0 lo)
theorem cutP_length {α : Type} (xs : List α) (lo hi : Option Int) : (cutP xs lo hi).length ≤ xs.length := by
  unfold cutP
  rw [List.length_take, List.length_drop]
  omega
def pCut (M : PM) (x : PV) (lo hi : Option Int) (Q : QV) : Prop := match x with
  | .tup xs => Q (.tup (cutP xs lo hi)) M
  | .str z => z.length ≤ sizeLine ∧ Q (.str (cutS z lo hi)) M
  | x => ∃ xs, asL M x = some xs ∧ xs.length ≤ sizeLine ∧ Q (.lst (cutP xs lo hi)) M
def pSl (te : TE') (tl th : TO') : TE' := fun σ M Q => te σ M fun x M1 => tl σ M1 fun lo M2 => th σ M2 fun hi M3 => pCut M3 x lo hi Q
theorem RVs.cut {K : PySem.W.Frag} {F : Hp} {xs : List PV} {vs : List V} (r : RVs K F xs vs) (lo hi : Option Int) : RVs K F (cutP xs lo hi) (cutV vs lo hi) := by
  unfold cutP cutV
  rw [← r.length]
  exact (r.drop _).take _
/-- t[lo:hi], the new tuple without attributes -/
def rSlF (K : PySem.W.Frag) : V → Option Int → Option Int → Hp → VK → Prop := fun x lo hi H Q => ∃ a xs, x = .ref a ∧ SqT K H a xs ∧
  (HT.sIx xs.length 0 lo = 0 ∧ HT.sIx xs.length xs.length hi = xs.length → Q (.ref a) H) ∧ (¬ (HT.sIx xs.length 0 lo = 0 ∧ HT.sIx xs.length xs.length hi = xs.length) → ∀ p o, H p = none → o.dict = none → Q (.ref p) (upd H p (.frz o (.tup (cutV xs lo hi)))))
theorem sl_tupF : SlR X (rSlF X.K) := by
  intro pins s σ H x v vl vu lo hi sl Q I rx hs pl pu h
  obtain ⟨a, xs, rfl, hx, q1, q2⟩ := h
  cases rx
  obtain ⟨its, r, ht, hz⟩ := I.tuple hx
  have hn : its.toArray.size = xs.length := by rw [List.size_toArray]; exact r.length.symm
  refine ⟨"tuple", _, PyProof.Rows.slot_tuple_getitem.lookup, ht.typeIs, ?_⟩
  by_cases hw : HT.sIx xs.length 0 lo = 0 ∧ HT.sIx xs.length xs.length hi = xs.length
  · exact getItem_tuple_whole ht hs pl pu (by rw [hn]; exact hw) ⟨.ref a, H, I, rfl, q1 hw⟩
  · refine HT.getItem_tuple_cut ht hs pl pu (by rw [hn]; exact hw) ?_ (by rw [hn]; exact hz)
    rw [hn]
    exact laidF (k := s.toks) I ((r.drop (HT.sIx xs.length 0 lo)).take (HT.sIx xs.length xs.length hi - HT.sIx xs.length 0 lo)) (Nat.le_trans (cutV_length xs lo hi) hz) (q2 hw)
theorem q_slice {lo hi : Option Expr} {tl th : TO'} {p2 : Pos} (he : QE X F0 e ta) (hl : QO X F0 lo tl) (hu : QO X F0 hi th) : QE X F0 (.Subscript e (.Slice lo hi none p2) pos) (pSl ta tl th) :=
  qe_of (pe_slice (sl_tupF.or (sl_list.or sl_str)) he hl hu) fun σ H Q ⟨F, M, σ', Q', R, S, h, po⟩ => ⟨F, M, σ', _, R, S, h, fun F1 H1 M1 x v e1 R1 rx h1 =>
    ⟨F1, M1, σ', _, R1, S.mono e1, h1, fun F2 H2 M2 l e2 R2 h2 => ⟨F2, M2, σ', _, R2, S.mono (e1.trans e2), h2, fun F3 H3 M3 u e3 R3 h3 => by
      have rx := rx.mono (e2.trans e3)
      have po := po.mono ((e1.trans e2).trans e3)
      cases x with
      | tup xs =>
        have rx' := rx
        unfold RV at rx'
        obtain ⟨p, vs, e4, q1, q2, q3⟩ := rx'
        refine .inl ⟨p, vs, e4, sqt_mono R3.sm q1, fun w => ?_, fun _ p' o hp ho => ?_⟩
        · have hc : cutP xs l u = xs := by
            unfold cutP
            rw [q3.length, w.1, w.2, Nat.sub_zero, List.drop_zero, ← q3.length, List.take_length]
          have h3 : Q' (.tup (cutP xs l u)) M3 := h3
          rw [hc] at h3
          subst e4
          exact po F3 H3 M3 _ _ (Same.refl F3) R3 rx h3
        · obtain ⟨R4, r4, e5⟩ := rel_tup R3 hp ho (q3.cut l u) (Nat.le_trans (cutV_length _ _ _) q2)
          exact po _ _ _ _ _ e5 R4 r4 h3
      | str z => unfold RV at rx; exact .inr (.inr ⟨z, rx, h3.1, po F3 H3 M3 _ _ (Same.refl F3) R3 rv_str h3.2⟩)
      | lst xs =>
        obtain ⟨ys, h4, hz, h5⟩ := h3
        obtain ⟨p, vs, e4, q1, q3⟩ := asL_at R3 rx h4
        refine .inr (.inl ⟨p, vs, e4, SqL.of q1, fun p' hp => ?_⟩)
        obtain ⟨R4, r4, e5⟩ := rel_lst R3 hp (q3.cut l u) (Nat.le_trans (cutV_length _ _ _) (by rw [← q3.length]; exact hz))
        exact po _ _ _ _ _ e5 R4 r4 h5
      | ref q =>
        obtain ⟨ys, h4, hz, h5⟩ := h3
        obtain ⟨p, vs, e4, q1, q3⟩ := asL_at R3 rx h4
        refine .inr (.inl ⟨p, vs, e4, SqL.of q1, fun p' hp => ?_⟩)
        obtain ⟨R4, r4, e5⟩ := rel_lst R3 hp (q3.cut l u) (Nat.le_trans (cutV_length _ _ _) (by rw [← q3.length]; exact hz))
        exact po _ _ _ _ _ e5 R4 r4 h5
      | _ => obtain ⟨ys, h4, _⟩ := h3; cases h4⟩⟩⟩

/-! ### all, any, sum -/
def asB : List PV → Option (List Bool)
  | [] => some []
  | .bl b :: r => (asB r).map (b :: ·)
  | _ => none
def asI : List PV → Option (List Int)
  | [] => some []
  | .int b :: r => (asI r).map (b :: ·)
  | _ => none
theorem asB_eq : ∀ {xs : List PV} {bs : List Bool}, asB xs = some bs → xs = bs.map PV.bl
  | [], bs, h => by cases h; rfl
  | .bl b :: r, bs, h => by
    simp only [asB] at h
    cases q : asB r with
    | none => rw [q] at h; cases h
    | some cs => rw [q] at h; cases h; rw [asB_eq q]; rfl
theorem asI_eq : ∀ {xs : List PV} {bs : List Int}, asI xs = some bs → xs = bs.map PV.int
  | [], bs, h => by cases h; rfl
  | .int b :: r, bs, h => by
    simp only [asI] at h
    cases q : asI r with
    | none => rw [q] at h; cases h
    | some cs => rw [q] at h; cases h; rw [asI_eq q]; rfl
theorem asB_map (bs : List Bool) : asB (bs.map PV.bl) = some bs := by
  induction bs with
  | nil => rfl
  | cons b r ih => simp only [List.map_cons, asB, ih]; rfl
theorem asI_map (bs : List Int) : asI (bs.map PV.int) = some bs := by
  induction bs with
  | nil => rfl
  | cons b r ih => simp only [List.map_cons, asI, ih]; rfl
def pAll : List PV → PM → QV → Prop := fun xs M Q => match xs with
  | [x] => ∃ ys bs, asL M x = some ys ∧ asB ys = some bs ∧ Q (.bl (bs.all id)) M
  | _ => False
def pAny : List PV → PM → QV → Prop := fun xs M Q => match xs with
  | [x] => ∃ ys bs, asL M x = some ys ∧ asB ys = some bs ∧ Q (.bl (bs.any id)) M
  | _ => False
theorem le_all : LeC X F0 (rAll X.K) pAll := fun F H M xs vs Q Q' R rs h po => by
  unfold pAll at h
  split at h
  · obtain ⟨v, e, r⟩ := rvs1 rs
    obtain ⟨ys, bs, h1, h2, h3⟩ := h
    obtain ⟨p, vs', e1, q1, r1⟩ := asL_at R r h1
    rw [asB_eq h2] at r1
    rw [r1.bls] at q1
    subst e1
    exact ⟨p, bs, e, SqL.of q1, po F H M _ _ (Same.refl F) R rv_bl h3⟩
  · exact h.elim
theorem le_any : LeC X F0 (rAny X.K) pAny := fun F H M xs vs Q Q' R rs h po => by
  unfold pAny at h
  split at h
  · obtain ⟨v, e, r⟩ := rvs1 rs
    obtain ⟨ys, bs, h1, h2, h3⟩ := h
    obtain ⟨p, vs', e1, q1, r1⟩ := asL_at R r h1
    rw [asB_eq h2] at r1
    rw [r1.bls] at q1
    subst e1
    exact ⟨p, bs, e, SqL.of q1, po F H M _ _ (Same.refl F) R rv_bl h3⟩
  · exact h.elim
theorem q_all {p : Pos} (hc : X.calm = true) (hg : Gl X "all") (hm : X.mg "all" = none) (ha : QE X F0 a ta) (he : starEach [a] X.env = (false, eval a X.env) :: starEach [] X.env := by rfl) (hpl : (backTo pos (starEach [] X.env)).any (·.1) = false := by rfl) : QE X F0 (.Call (.Name "all" p) [a] [] pos) (pCB pAll (pCons ta pNil)) :=
  q_callB le_all (cr_all hc) hg hm (by decide +kernel) (qa_cons ha qa_nil he) (by decide) (by decide) he hpl
theorem q_any {p : Pos} (hc : X.calm = true) (hg : Gl X "any") (hm : X.mg "any" = none) (ha : QE X F0 a ta) (he : starEach [a] X.env = (false, eval a X.env) :: starEach [] X.env := by rfl) (hpl : (backTo pos (starEach [] X.env)).any (·.1) = false := by rfl) : QE X F0 (.Call (.Name "any" p) [a] [] pos) (pCB pAny (pCons ta pNil)) :=
  q_callB le_any (cr_any hc) hg hm (by decide +kernel) (qa_cons ha qa_nil he) (by decide) (by decide) he hpl

/-! ### methods of lists -/
def isL (x : PV) (M : PM) : Prop := ∃ xs, asL M x = some xs
def LeM (X : Cx) (F0 : Fix) (r : V → List V → Hp → VK → Prop) (r' : PV → List PV → PM → QV → Prop) : Prop := ∀ F H M x v xs vs Q Q', Rel X.K F0 F H M → RV X.K F x v → RVs X.K F xs vs → r' x xs M Q' → Po X.K F0 F Q' Q → r v vs H Q
def pBM (ty : PV → PM → Prop) (r : PV → List PV → PM → QV → Prop) (to : TE') (t : TA') : TE' := fun σ M Q => to σ M fun x M1 => ty x M1 ∧ t σ M1 fun xs M2 => r x xs M2 Q
def pBM0 (ty : PV → PM → Prop) (r : PV → List PV → PM → QV → Prop) (to : TE') : TE' := fun σ M Q => to σ M fun x M1 => ty x M1 ∧ r x [] M1 Q
def LeTy (X : Cx) (F0 : Fix) (T : String) (ty : PV → PM → Prop) : Prop := ∀ F H M x v, Rel X.K F0 F H M → RV X.K F x v → ty x M → tyV X.K T v H
theorem l_bm {T : String} {ty : PV → PM → Prop} {r : V → List V → Hp → VK → Prop} {r' : PV → List PV → PM → QV → Prop} {to : TE'} (ht : LeTy X F0 T ty) (hr : LeM X F0 r r') : ∀ σ H Q, L X.K F0 (pBM ty r' to t) σ H Q → tBM X.K T r (L X.K F0 to) (LA X.K F0 t) σ H Q :=
  fun σ H Q ⟨F, M, σ', Q', R, S, h, po⟩ => ⟨F, M, σ', _, R, S, h, fun F1 H1 M1 x v e1 R1 rx h1 =>
    ⟨ht F1 H1 M1 x v R1 rx h1.1, F1, M1, σ', _, R1, S.mono e1, h1.2, fun F2 H2 M2 xs vs e2 R2 rs h2 => hr F2 H2 M2 x v xs vs Q Q' R2 (rx.mono e2) rs h2 (po.mono (e1.trans e2))⟩⟩
theorem l_bm0 {T : String} {ty : PV → PM → Prop} {r : V → List V → Hp → VK → Prop} {r' : PV → List PV → PM → QV → Prop} {to : TE'} (ht : LeTy X F0 T ty) (hr : LeM X F0 r r') : ∀ σ H Q, L X.K F0 (pBM0 ty r' to) σ H Q → tBM0 X.K T r (L X.K F0 to) σ H Q :=
  fun σ H Q ⟨F, M, σ', Q', R, S, h, po⟩ => ⟨F, M, σ', _, R, S, h, fun F1 H1 M1 x v e1 R1 rx h1 =>
    ⟨ht F1 H1 M1 x v R1 rx h1.1, hr F1 H1 M1 x v [] [] Q Q' R1 rx .nil h1.2 (po.mono e1)⟩⟩
theorem ty_list : LeTy X F0 "list" isL := fun F H M x v R rx ⟨xs, h⟩ => by
  obtain ⟨p, vs, e, h1, _⟩ := asL_at R rx h
  subst e
  exact .inl ⟨rfl, vs, SqL.of h1⟩
theorem q_bm {T id : String} {name : Str} {o : Expr} {to : TE'} {apos cpos : Pos} {ty : PV → PM → Prop} {r : V → List V → Hp → VK → Prop} {r' : PV → List PV → PM → QV → Prop} (ht : LeTy X F0 T ty) (hr : LeM X F0 r r')
    (pa : PlainAttrs T) (slot : Slot T name id) (hty : typeOf (.builtin id) = pure (.type "method_descriptor")) (hm : MtR X id r) (ho : QE X F0 o to) (ha : QA X F0 (e :: es) t)
    (hbase : attributeBase o name X.env (eval o X.env) = eval o X.env := by rfl)
    (hfew : ((backTo cpos (starEach (e :: es) X.env)).all (fun x => !x.1) && (backToKw cpos (keywordEach [] X.env)).all (fun x => x.1.isSome)
      && decide ((e :: es).length + ([] : List Keyword).length + (if ([] : List Keyword).isEmpty then 0 else 1) < 30)) = true := by rfl)
    (hline : (apos.endLine == cpos.line) = true := by rfl) (hs : starEach (e :: es) X.env = (false, eval e X.env) :: starEach es X.env := by rfl) (hplain : (backTo cpos (starEach es X.env)).any (·.1) = false := by rfl) :
    QE X F0 (.Call (.Attribute o name apos) (e :: es) [] cpos) (pBM ty r' to t) := qe_of (pe_bm pa slot hty hm ho ha hbase hfew hline hs hplain) (l_bm ht hr)
theorem q_bm0 {T id : String} {name : Str} {o : Expr} {to : TE'} {apos cpos : Pos} {ty : PV → PM → Prop} {r : V → List V → Hp → VK → Prop} {r' : PV → List PV → PM → QV → Prop} (ht : LeTy X F0 T ty) (hr : LeM X F0 r r')
    (pa : PlainAttrs T) (slot : Slot T name id) (hty : typeOf (.builtin id) = pure (.type "method_descriptor")) (hm : MtR X id r) (ho : QE X F0 o to)
    (hbase : attributeBase o name X.env (eval o X.env) = eval o X.env := by rfl) (hline : (apos.endLine == cpos.line) = true := by rfl) :
    QE X F0 (.Call (.Attribute o name apos) [] [] cpos) (pBM0 ty r' to) := qe_of (pe_bm0 pa slot hty hm ho hbase hline) (l_bm0 ht hr)
def pAppend : PV → List PV → PM → QV → Prop := fun x ys M Q => match x, ys with
  | .ref p, [y] => ∃ xs, M p = some (.lst xs) ∧ xs.length < sizeLine ∧ Q .non (put M p (.lst (xs ++ [y])))
  | _, _ => False
theorem le_append : LeM X F0 rAppend pAppend := fun F H M x v xs vs Q Q' R rx rs h po => by
  unfold pAppend at h
  split at h
  · obtain ⟨zs, h1, hz, h2⟩ := h
    obtain ⟨w, e, rw'⟩ := rvs1 rs
    unfold RV at rx
    obtain ⟨fp, us, q1, q2⟩ := R.ob _ _ h1
    exact ⟨_, us, w, rx, e, q1, by rw [← q2.length]; exact hz, po _ _ _ _ _ (Same.refl F) (rel_lstM R fp (R.gM h1) (q2.append (.cons rw' .nil))) rv_non h2⟩
  · exact h.elim
theorem q_append {o : Expr} {to : TE'} {apos cpos : Pos} (ho : QE X F0 o to) (ha : QE X F0 a ta)
    (hbase : attributeBase o "append" X.env (eval o X.env) = eval o X.env := by rfl)
    (hfew : ((backTo cpos (starEach [a] X.env)).all (fun x => !x.1) && (backToKw cpos (keywordEach [] X.env)).all (fun x => x.1.isSome)
      && decide (([a] : List Expr).length + ([] : List Keyword).length + (if ([] : List Keyword).isEmpty then 0 else 1) < 30)) = true := by rfl)
    (hline : (apos.endLine == cpos.line) = true := by rfl) (hs : starEach [a] X.env = (false, eval a X.env) :: starEach [] X.env := by rfl) (hplain : (backTo cpos (starEach [] X.env)).any (·.1) = false := by rfl) :
    QE X F0 (.Call (.Attribute o "append" apos) [a] [] cpos) (pBM isL pAppend to (pCons ta pNil)) :=
  q_bm ty_list le_append PySem.F.plainAttrs_list PySem.F.slot_list_append PySem.F.type_list_append mt_append ho (qa_cons ha qa_nil hs) hbase hfew hline hs hplain

/-! ### o[i] = e, o[i] op= e of a list; x op= e -/
def setLP (o i x : PV) (M : PM) (Q' : PM → Prop) : Prop := match o, i with
  | .ref p, .int k => ∃ xs j, M p = some (.lst xs) ∧ ixN xs.length k = some j ∧ Q' (put M p (.lst (xs.set j x)))
  | _, _ => False
theorem le_setL {F H : Hp} {M : PM} {o i x : PV} {ov iv v : V} {Q : Hp → Prop} {Q' : PM → Prop} (R : Rel X.K F0 F H M) (ro : RV X.K F o ov) (ri : RV X.K F i iv) (rv : RV X.K F x v)
    (h : setLP o i x M Q') (po : PoM X.K F0 F Q' Q) : rSetL ov iv v H Q := by
  unfold setLP at h
  split at h
  · obtain ⟨xs, j, h1, h2, h3⟩ := h
    unfold RV at ro ri
    obtain ⟨fp, us, q1, q2⟩ := R.ob _ _ h1
    exact ⟨_, us, _, j, ro, ri, q1, by rw [← q2.length]; exact h2, po _ _ _ (Same.refl F) (rel_lstM R fp (R.gM h1) (q2.set rv j)) h3⟩
  · exact h.elim
def hSub (to ti : TE') : TG' := fun v σ M Q => to σ M fun o M1 => ti σ M1 fun i M2 => setLP o i v M2 fun M3 => Q σ M3
theorem qg_sub {o i : Expr} {to ti : TE'} (ho : QE X F0 o to) (hi : QE X F0 i ti)
    (ha : ∀ v, assign (.Subscript o i pos) X.env v = (do
      let ov ← holding [v] (eval o X.env)
      let iv ← holding [v, ov] (eval i X.env)
      standAt pos
      holding [v, ov, iv] (setItem ov iv v)
      release [v, ov, iv] []) := by intro _; rfl) : QG X F0 (.Subscript o i pos) (hSub to ti) :=
  qg_of (pg_sub ho hi set_list ha) fun v σ H Q ⟨F, M, σ', x, Q', R, S, rx, h, po⟩ => ⟨F, M, σ', _, R, S, h, fun F1 H1 M1 o ov e1 R1 ro h1 =>
    ⟨F1, M1, σ', _, R1, S.mono e1, h1, fun F2 H2 M2 i iv e2 R2 ri h2 => le_setL (Q' := fun M3 => Q' σ' M3) R2 (ro.mono e2) ri (rx.mono (e1.trans e2)) h2 fun F3 H3 M3 e3 R3 h3 => po F3 H3 M3 σ' σ ((e1.trans e2).trans e3) R3 (S.mono ((e1.trans e2).trans e3)) h3⟩⟩
def sAug (i : Nat) (te : TE') (g : Int → Int → Int) : TS' := fun D σ M => match σ[i]? with
  | some (some x) => te σ M fun y M1 => match x, y with
    | .int u, .int w => D.nx (σ.set i (some (.int (g u w)))) M1
    | _, _ => False
  | _ => False
theorem qs_aug {i : Nat} {x : Str} {te : TE'} {op : Operator} {g : Int → Int → Int} {pos' : Pos} (hN : X.N.Nodup) (hi : X.N[i]? = some x) (hx : Loc X.env.scope x) (he : QE X F0 e te) (ho : PIp X op (ipI g)) (hf : X.fn x = true ∨ X.env.scope.names.lookup x = some .local := by first | exact .inl rfl | exact .inr rfl | assumption) :
    QS X F0 (.AugAssign (.Name x pos') op e pos) (sAug i te g) :=
  qs_of (ps_aug hN hi hx he ho hf) fun D σ H ⟨F, M, σ', D', R, S, h, po⟩ => by
    unfold sAug at h
    split at h
    · rename_i y e0
      obtain ⟨v, h1, h2⟩ := S.2 i y e0
      refine ⟨v, h1, F, M, σ', _, R, S, h, fun F1 H1 M1 z w e1 R1 rz q => ?_⟩
      split at q
      · unfold RV at h2 rz
        exact ⟨_, _, h2, rz, po.nx F1 H1 M1 _ _ e1 R1 ((S.mono e1).set rv_int i) q⟩
      · exact q.elim
    · exact h.elim
/-- xs[i] op= e, a list of ints that turns -/
def sAugL (to ti te : TE') (g : Int → Int → Int) : TS' := fun D σ M => to σ M fun o M1 => ti σ M1 fun i M2 => match o, i with
  | .ref p, .int k => ∃ xs u, M2 p = some (.lst xs) ∧ 0 ≤ k ∧ xs[k.toNat]? = some (.int u) ∧ te σ M2 fun y M3 => match y with
    | .int w => setLP (.ref p) (.int k) (.int (g u w)) M3 fun M4 => D.nx σ M4
    | _ => False
  | _, _ => False
def rGetL : V → V → Hp → VK → Prop := fun o i H Q => ∃ p xs k v, o = .ref p ∧ i = .int k ∧ H p = some (.lst xs) ∧ 0 ≤ k ∧ xs[k.toNat]? = some v ∧ Q v H
theorem get_list : PGet X rGetL := by
  intro pins s σ H o i ov iv Q I ro ri h
  obtain ⟨p, xs, k, v, rfl, rfl, hp, h0, hv, q⟩ := h
  cases ro
  obtain ⟨t, rfl⟩ := ri
  obtain ⟨its, r, pl, hz⟩ := I.list (X := X) (SqL.of hp)
  obtain ⟨w, ew, rw'⟩ := r.get hv
  have hn := line63
  have hl := r.length
  have hb : k.toNat < xs.length := (List.getElem?_eq_some_iff.mp hv).1
  exact wpAny_getItem_list pl.isList h0 (by omega) (by simpa using ew) ⟨v, H, I, rw', q⟩
theorem qs_augL {o i e : Expr} {to ti te : TE'} {op : Operator} {g : Int → Int → Int} {tpos : Pos} (ho : QE X F0 o to) (hi : QE X F0 i ti) (he : QE X F0 e te) (hp : PIp X op (ipI g))
    (ha : ∀ ov iv new, augStore i ov iv new = (do holding [new, ov, iv] (setItem ov iv new); release [new, ov, iv] []; pure .next) := by intros; rfl) : QS X F0 (.AugAssign (.Subscript o i tpos) op e pos) (sAugL to ti te g) :=
  qs_of (ps_augS ho hi get_list he hp set_list ha) fun D σ H ⟨F, M, σ', D', R, S, h, po⟩ => ⟨F, M, σ', _, R, S, h, fun F1 H1 M1 o ov e1 R1 ro h1 =>
    ⟨F1, M1, σ', _, R1, S.mono e1, h1, fun F2 H2 M2 i iv e2 R2 ri h2 => by
      split at h2
      · obtain ⟨xs, u, q1, q2, q3, q4⟩ := h2
        have ro' := ro
        have ri' := ri
        unfold RV at ro' ri'
        obtain ⟨fp, us, q5, q6⟩ := R2.ob _ _ q1
        obtain ⟨w, q7, q8⟩ := q6.get q3
        unfold RV at q8
        subst q8
        refine ⟨_, us, _, _, ro', ri', q5, q2, q7, F2, M2, σ', _, R2, S.mono (e1.trans e2), q4, fun F3 H3 M3 y yv e3 R3 ry h3 => ?_⟩
        split at h3
        · unfold RV at ry
          refine ⟨_, _, rfl, ry, le_setL (Q' := fun M4 => D'.nx σ' M4) R3 (ro.mono (e2.trans e3)) (ri.mono e3) rv_int h3 fun F4 H4 M4 e4 R4 h4 => ?_⟩
          exact po.nx F4 H4 M4 σ' σ (((e1.trans e2).trans e3).trans e4) R4 (S.mono (((e1.trans e2).trans e3).trans e4)) h4
        · exact h3.elim
      · exact h2.elim⟩⟩
end
end PL

namespace PL
open PySem L2
abbrev TI' := PSt → PM → (List PV → PM → Prop) → Prop
/-- the iterator J walks xs, as long as F stands -/
def ItOk (K : PySem.W.Frag) (F0 : Fix) (F : Hp) (J : It) (xs : List PV) : Prop :=
  ∃ Y, Walk J xs.length (fun H => Same F H) Y ∧ ∀ G i H v H' F1 M, Y i H v H' → i < xs.length → Same F F1 → Rel K ⟨F0.f, G⟩ F1 H M → ∃ F2 x, xs[i]? = some x ∧ Same F1 F2 ∧ Rel K ⟨F0.f, G⟩ F2 H' M ∧ RV K F2 x v
def LI (K : PySem.W.Frag) (F0 : Fix) (ti : TI') : TI := fun σ H R => ∃ F M σ' R', Rel K F0 F H M ∧ RS K F σ' σ ∧ ti σ' M R' ∧ ∀ F' H' M' xs J, Same F F' → Rel K F0 F' H' M' → ItOk K F0 F' J xs → R' xs M' → R J H'
def QI (X : Cx) (F0 : Fix) (tg iter : Expr) (ti : TI') : Prop := PI X tg iter (LI X.K F0 ti)
section
variable {X : Cx} {F0 : Fix} {e a b c tg : Expr} {pos : Pos} {ta tb tc : TE'} {es : List Expr} {t : TA'}
theorem qi_of {w0 : TI} {ti : TI'} (h : PI X tg e w0) (le : ∀ σ H R, LI X.K F0 ti σ H R → w0 σ H R) : QI X F0 tg e ti := ⟨fun pins s σ H R I hw => h.run pins s σ H R I (le _ _ _ hw)⟩

/-! ### a tuple, a list that stands still, the script -/
def asIt : PV → Option (List PV)
  | .tup xs => some xs
  | .lst xs => some xs
  | .scr ns => some (ns.map PV.int)
  | _ => none
def iSeq (te : TE') : TI' := fun σ M R => te σ M fun x M1 => ∃ xs, asIt x = some xs ∧ R xs M1
theorem walk_at {J : It} {n : Nat} {G : Hp → Prop} {vs : List V} {xs : List PV} {K : PySem.W.Frag} {F : Hp} (w : Walk J vs.length G (YAt vs)) (hG : ∀ H, Same F H → G H) (r : RVs K F xs vs) : ItOk K F0 F J xs := by
  refine ⟨YAt vs, ?_, fun G i H v H' F1 M y hi e R => ?_⟩
  · rw [r.length]
    exact w.mono hG fun i H x H' _ _ y => y
  · obtain ⟨e1, y⟩ := y
    subst e1
    obtain ⟨x, h1, h2⟩ := r.getR y
    exact ⟨F1, x, h1, Same.refl F1, R, h2.mono e⟩
theorem iterL {pins : List (Addr × Obj)} {σ : L2.St} {H : Hp} {s : Shared} {p : Addr} {vs : List V} {R : It → Hp → Prop} {E : Value → Shared → Prop} (I : Inv X pins σ H s) (h : SqL X.K H p vs) (q : R (Itl X.K p) H) : wpAny (model X.prog X.w) X.A (pyIter (.ref p)) (PIE X pins σ tg R) E s := by
  obtain ⟨its, rv, pl, hz⟩ := I.list h
  have fr := I.hok.fresh (Nat.le_refl s.heap.objs.size)
  refine wpAny_pyIter_list pl.isList ⟨_, [s.heap.objs.size], _, _, H, rfl, I.kept (t' := s.toks) (fun b o e => Heap.get?_push_of_some _ e), turn_list p _, ⟨_, Heap.get?_push_size _ rfl, rfl, rfl⟩, ?_, q⟩
  intro b hb
  rw [List.mem_singleton.mp hb]
  exact I.fpOk (Nat.le_refl _) fr
theorem iterT {pins : List (Addr × Obj)} {σ : L2.St} {H : Hp} {s : Shared} {p : Addr} {vs : List V} {R : It → Hp → Prop} {E : Value → Shared → Prop} (I : Inv X pins σ H s) (h : SqT X.K H p vs) (q : R (Itt X.K p) H) : wpAny (model X.prog X.w) X.A (pyIter (.ref p)) (PIE X pins σ tg R) E s := by
  obtain ⟨its, rv, pl, hz⟩ := I.tuple h
  have fr := I.hok.fresh (Nat.le_refl s.heap.objs.size)
  refine wpAny_pyIter_tuple (show s.heap.IsTuple p its.toArray from pl) ⟨_, [s.heap.objs.size], _, _, H, rfl, I.kept (t' := s.toks) (fun b o e => Heap.get?_push_of_some _ e), turn_tuple p _, ⟨_, Heap.get?_push_size _ rfl, rfl, rfl⟩, ?_, q⟩
  intro b hb
  rw [List.mem_singleton.mp hb]
  exact I.fpOk (Nat.le_refl _) fr
theorem qi_seq (he : QE X F0 e ta) : QI X F0 tg e (iSeq ta) := by
  refine ⟨fun pins s σ H R I ⟨F, M, σ', R', Rl, S, h, po⟩ => ?_⟩
  refine thn (PE.run he pins s σ H (fun v H1 => (∃ p vs, v = .ref p ∧ SqL X.K H1 p vs ∧ R (Itl X.K p) H1) ∨ (∃ p vs, v = .ref p ∧ SqT X.K H1 p vs ∧ R (Itt X.K p) H1)) I ⟨F, M, σ', _, Rl, S, h, fun F1 H1 M1 x v e1 R1 rx h1 => ?_⟩) fun u s1 ⟨v, H1, I1, r1, q1⟩ => ?_
  · obtain ⟨ys, ey, h1⟩ := h1
    cases x with
    | tup xs =>
      cases ey
      unfold RV at rx
      obtain ⟨p, vs, e2, g1, g2, g3⟩ := rx
      refine .inr ⟨p, vs, e2, sqt_mono R1.sm g1, po F1 H1 M1 _ _ e1 R1 (walk_at (n := 0) (walk_tup (K := X.K) (a := p) (xs := vs)) (fun H' z => sqt_mono z g1) g3) h1⟩
    | lst xs =>
      cases ey
      unfold RV at rx
      obtain ⟨p, vs, e2, g1, g2, g3⟩ := rx
      refine .inl ⟨p, vs, e2, SqL.of (R1.sm _ _ g1), po F1 H1 M1 _ _ e1 R1 (walk_at (n := 0) (walk_list (K := X.K) (a := p) (xs := vs)) (fun H' z => SqL.of (z _ _ g1)) g3) h1⟩
    | scr ns =>
      cases ey
      unfold RV at rx
      obtain ⟨p, e2, g1⟩ := rx
      refine .inl ⟨p, _, e2, R1.sm.seq g1, po F1 H1 M1 _ _ e1 R1 (walk_at (n := 0) (walk_list (K := X.K) (a := p) (xs := ns.map V.int)) (fun H' z => z.seq g1) RVs.of_ints) h1⟩
    | _ => cases ey
  · rcases q1 with ⟨p, vs, e2, g1, g2⟩ | ⟨p, vs, e2, g1, g2⟩
    · subst e2
      cases r1
      exact iterL I1 g1 g2
    · subst e2
      cases r1
      exact iterT I1 g1 g2

/-! ### ranges -/
def rgP (lo : Int) (n : Nat) : List PV := (List.range n).map fun i => PV.int (lo + (i : Nat))
theorem rgP_length (lo : Int) (n : Nat) : (rgP lo n).length = n := by unfold rgP; rw [List.length_map, List.length_range]
theorem rgP_get {lo : Int} {n i : Nat} (h : i < n) : (rgP lo n)[i]? = some (.int (lo + (i : Nat))) := by
  unfold rgP
  rw [List.getElem?_map, List.getElem?_range h]; rfl
theorem walk_rg {K : PySem.W.Frag} {F : Hp} (lo : Int) (n : Nat) : ItOk K F0 F (Itr lo n) (rgP lo n) := by
  refine ⟨YFn fun i => .int (lo + i), ?_, fun G i H v H' F1 M y hi e R => ?_⟩
  · rw [rgP_length]
    exact walk_range.mono (fun _ _ => trivial) fun i H x H' _ _ y => y
  · obtain ⟨e1, y⟩ := y
    subst e1 y
    rw [rgP_length] at hi
    exact ⟨F1, _, rgP_get hi, Same.refl F1, R, rv_int⟩
def iRange1 (t : TA') : TI' := fun σ M R => t σ M fun xs M1 => match xs with
  | [.int j] => -(2 ^ 62) ≤ j ∧ j < 2 ^ 62 ∧ R (rgP 0 j.toNat) M1
  | _ => False
def iRange2 (t : TA') : TI' := fun σ M R => t σ M fun xs M1 => match xs with
  | [.int i, .int j] => (-(2 ^ 62) ≤ i ∧ i < 2 ^ 62 ∧ -(2 ^ 62) ≤ j ∧ j < 2 ^ 62) ∧ R (rgP i (j - i).toNat) M1
  | _ => False
theorem qi_range1 {p : Pos} (hg : Gl X "range") (hm : X.mg "range" = none) (ha : QA X F0 [a] t) (hs : starEach [a] X.env = [(false, eval a X.env)] := by rfl) : QI X F0 tg (.Call (.Name "range" p) [a] [] pos) (iRange1 t) :=
  qi_of (pi_range1 hg hm ha hs) fun σ H R ⟨F, M, σ', R', Rl, S, h, po⟩ => ⟨F, M, σ', _, Rl, S, h, fun F1 H1 M1 xs vs e1 R1 rs h1 => by
    split at h1
    · obtain ⟨v, e2, r⟩ := rvs1 rs
      unfold RV at r
      subst r
      exact ⟨_, e2, h1.1, h1.2.1, po F1 H1 M1 _ _ e1 R1 (walk_rg 0 _) h1.2.2⟩
    · exact h1.elim⟩
theorem qi_range2 {p : Pos} (hg : Gl X "range") (hm : X.mg "range" = none) (ha : QA X F0 [a, b] t) (hs : starEach [a, b] X.env = [(false, eval a X.env), (false, eval b X.env)] := by rfl) (hs2 : starEach [b] X.env = [(false, eval b X.env)] := by rfl) : QI X F0 tg (.Call (.Name "range" p) [a, b] [] pos) (iRange2 t) :=
  qi_of (pi_range2 hg hm ha hs hs2) fun σ H R ⟨F, M, σ', R', Rl, S, h, po⟩ => ⟨F, M, σ', _, Rl, S, h, fun F1 H1 M1 xs vs e1 R1 rs h1 => by
    split at h1
    · obtain ⟨v, w, e2, r, r'⟩ := rvs2 rs
      unfold RV at r r'
      subst r r'
      exact ⟨_, _, e2, h1.1, po F1 H1 M1 _ _ e1 R1 (walk_rg _ _) h1.2⟩
    · exact h1.elim⟩

/-! ### for -/
def forRun (g : TG') (tb : TS') (D : Ends') : List PV → PSt → PM → Prop
  | [], σ, M => D.nx σ M
  | x :: xs, σ, M => g x σ M fun σ1 M1 => tb { nx := forRun g tb D xs, rt := D.rt, bk := D.nx, ct := forRun g tb D xs } σ1 M1
def sFor (ti : TI') (g : TG') (tb : TS') : TS' := fun D σ M => ti σ M fun xs M1 => forRun g tb D xs σ M1
theorem qs_for {iter : Expr} {body : List Stmt} {ti : TI'} {g : TG'} {tb : TS'} (hp : PassesOwn (model X.prog X.w) X.A X.env X.xe) (hc : X.calm = true) (hi : QI X F0 tg iter ti) (hg : QG X F0 tg g) (hb : QSs X F0 body tb)
    (hs : ∀ x, foldedSetIterable iter X.env x = pure x := by intro _; rfl) : QS X F0 (.For tg iter body [] pos) (sFor ti g tb) :=
  qs_of (ps_for hp hc hi hg hb hs) fun D σ H ⟨F, M, σ', D', R, S, h, po⟩ => ⟨F, M, σ', _, R, S, h, fun F1 H1 M1 xs J e1 R1 ⟨Y, w, hy⟩ h1 => by
    refine for_it w (fun i σ2 H2 => ∃ F2 M2 σ2', Same F1 F2 ∧ Rel X.K F0 F2 H2 M2 ∧ RS X.K F2 σ2' σ2 ∧ forRun g tb D' (xs.drop i) σ2' M2) ⟨F1, M1, σ', Same.refl F1, R1, S.mono e1, h1⟩ (fun i σ2 H2 _ ⟨F2, M2, σ2', e2, R2, _⟩ => e2.trans R2.sm) ?_ ?_
    · rintro i v σ2 H2 H3 hi ⟨F2, M2, σ2', e2, R2, S2, h2⟩ y
      obtain ⟨F3, x, gx, e3, R3, rx⟩ := hy F0.g i H2 v H3 F2 M2 y hi e2 R2
      have hd : xs.drop i = x :: xs.drop (i + 1) := by
        rw [List.drop_eq_getElem_cons hi]
        have := List.getElem?_eq_getElem hi
        rw [gx] at this
        rw [← Option.some.inj this]
      rw [hd] at h2
      refine ⟨F3, M2, σ2', x, _, R3, S2.mono e3, rx, h2, fun F4 H4 M4 σ4' σ4 e4 R4 S4 h4 => ⟨F4, M4, σ4', _, R4, S4, h4, ?_⟩⟩
      have e14 : Same F1 F4 := (e2.trans e3).trans e4
      refine ⟨fun F5 H5 M5 σ5' σ5 e5 R5 S5 h5 => ⟨F5, M5, σ5', e14.trans e5, R5, S5, h5⟩, po.rt.mono (e1.trans e14), po.nx.mono (e1.trans e14), fun F5 H5 M5 σ5' σ5 e5 R5 S5 h5 => ⟨F5, M5, σ5', e14.trans e5, R5, S5, h5⟩⟩
    · rintro σ2 H2 ⟨F2, M2, σ2', e2, R2, S2, h2⟩
      rw [List.drop_length] at h2
      exact po.nx F2 H2 M2 σ2' σ2 (e1.trans e2) R2 S2 h2⟩
/-- a word between the turns -/
theorem for_by {g : TG'} {tb : TS'} {D : Ends'} {xs : List PV} {σ : PSt} {M : PM} (Pv : Nat → PSt → PM → Prop) (h0 : Pv 0 σ M)
    (hs : ∀ i x σ M, xs[i]? = some x → Pv i σ M → ∀ N : PSt → PM → Prop, (∀ σ' M', Pv (i + 1) σ' M' → N σ' M') → g x σ M fun σ1 M1 => tb { nx := N, rt := D.rt, bk := D.nx, ct := N } σ1 M1) (hd : ∀ σ M, Pv xs.length σ M → D.nx σ M) : forRun g tb D xs σ M := by
  have key : ∀ (n i : Nat) σ M, i + n = xs.length → Pv i σ M → forRun g tb D (xs.drop i) σ M := by
    intro n
    induction n with
    | zero =>
      intro i σ M e p
      have e : i = xs.length := by omega
      subst e
      rw [List.drop_length]
      exact hd σ M p
    | succ n ih =>
      intro i σ M e p
      have hi : i < xs.length := by omega
      rw [List.drop_eq_getElem_cons hi]
      exact hs i _ σ M (List.getElem?_eq_getElem hi) p _ fun σ' M' p' => ih (i + 1) σ' M' (by omega) p'
  have := key xs.length 0 σ M (by omega) h0
  rwa [List.drop_zero] at this

/-! ### while -/
def sWhile (c : TT') (tb : TS') : TS' := fun D σ M => ∃ W : Nat → PSt → PM → Prop, (∃ m, W m σ M) ∧ ∀ m σ M, W m σ M →
  c σ M fun b M1 => if b = true then ∃ N : PSt → PM → Prop, (∀ σ' M', N σ' M' → ∃ m', m' < m ∧ W m' σ' M') ∧ tb { nx := N, rt := D.rt, ct := N, bk := D.nx } σ M1 else D.nx σ M1
theorem qs_while {c : Expr} {body : List Stmt} {tc : TT'} {tb : TS'} (hp : PassesOwn (model X.prog X.w) X.A X.env X.xe) (hc : QT X F0 c tc) (hb : QSs X F0 body tb) : QS X F0 (.While c body [] pos) (sWhile tc tb) :=
  qs_of (ps_while hp hc hb) fun D σ H ⟨F, M, σ', D', R, S, ⟨W, ⟨m0, w0⟩, turn⟩, po⟩ => by
    refine ⟨fun m σ1 H1 => ∃ F1 M1 σ1', Same F F1 ∧ Rel X.K F0 F1 H1 M1 ∧ RS X.K F1 σ1' σ1 ∧ W m σ1' M1, ⟨m0, F, M, σ', Same.refl F, R, S, w0⟩, ?_⟩
    rintro m σ1 H1 ⟨F1, M1, σ1', e1, R1, S1, w1⟩
    refine ⟨F1, M1, σ1', _, R1, S1, turn m σ1' M1 w1, fun F2 H2 M2 b e2 R2 h2 => ?_⟩
    cases b with
    | true =>
      obtain ⟨N, hN, h3⟩ : ∃ N : PSt → PM → Prop, (∀ σ' M', N σ' M' → ∃ m', m' < m ∧ W m' σ' M') ∧ tb { nx := N, rt := D'.rt, ct := N, bk := D'.nx } σ1' M2 := by simpa using h2
      have e12 := e1.trans e2
      refine iteT ⟨fun σ3 H3 => ∃ F3 M3 σ3', Same F2 F3 ∧ Rel X.K F0 F3 H3 M3 ∧ RS X.K F3 σ3' σ3 ∧ N σ3' M3, fun σ3 H3 ⟨F3, M3, σ3', e3, R3, S3, n3⟩ => ?_, F2, M2, σ1', _, R2, S1.mono e2, h3, ⟨fun F4 H4 M4 σ4' σ4 e4 R4 S4 h4 => ⟨F4, M4, σ4', e4, R4, S4, h4⟩, po.rt.mono e12, po.nx.mono e12, fun F4 H4 M4 σ4' σ4 e4 R4 S4 h4 => ⟨F4, M4, σ4', e4, R4, S4, h4⟩⟩⟩
      obtain ⟨m', hm, w3⟩ := hN σ3' M3 n3
      exact ⟨m', hm, F3, M3, σ3', e12.trans e3, R3, S3, w3⟩
    | false => exact iteF (po.nx F2 H2 M2 σ1' σ1 (e1.trans e2) R2 (S1.mono e2) (by simpa using h2))

/-! ### comprehensions -/
/-- a target of names -/
inductive Tg where
  | nm (i : Nat) | tp (ts : List Tg)
mutual
def Tg.gT (K : PySem.W.Frag) : Tg → TG
  | .nm i => gName i
  | .tp ts => gTup K ts.length (Tg.gTs K ts)
def Tg.gTs (K : PySem.W.Frag) : List Tg → TGs
  | [] => gNil
  | t :: ts => gCons (t.gT K) (Tg.gTs K ts)
end
mutual
def Tg.hT : Tg → TG'
  | .nm i => hName i
  | .tp ts => hTup ts.length (Tg.hTs ts)
def Tg.hTs : List Tg → TGs'
  | [] => hNil
  | t :: ts => hCons t.hT (Tg.hTs ts)
end
mutual
def Tg.inS (vs : List Nat) : Tg → Bool
  | .nm i => vs.contains i
  | .tp ts => Tg.insS vs ts
def Tg.insS (vs : List Nat) : List Tg → Bool
  | [] => true
  | t :: ts => t.inS vs && Tg.insS vs ts
end
theorem wipe_set {σ : L2.St} {o : Option V} {i : Nat} : ∀ {vs : List Nat}, i ∈ vs → wipe (σ.set i o) vs = wipe σ vs
  | [], h => by cases h
  | v :: vs, h => by
    unfold wipe
    by_cases e : i = v
    · subst e
      have key : ∀ (ws : List Nat) (σ : L2.St), (wipe (σ.set i o) ws).set i none = (wipe σ ws).set i none := by
        intro ws
        induction ws with
        | nil => intro σ; unfold wipe; rw [List.set_set]
        | cons w ws ih =>
          intro σ
          unfold wipe
          by_cases e2 : w = i
          · subst e2; rw [List.set_set, List.set_set]; exact ih σ
          · rw [List.set_comm _ _ e2, List.set_comm _ _ e2, ih σ]
      exact key vs σ
    · have h' : i ∈ vs := by
        rcases List.mem_cons.mp h with h | h
        · exact absurd h e
        · exact h
      rw [wipe_set h']
mutual
theorem tg_le {K : PySem.W.Frag} {F0 : Fix} {vs : List Nat} : ∀ (t : Tg), t.inS vs = true → ∀ {F H : Hp} {M : PM} {σ' : PSt} {σ : L2.St} {x : PV} {v : V} {Q' : PSt → PM → Prop} {Q : L2.St → Hp → Prop}, Rel K F0 F H M → RS K F σ' σ → RV K F x v → t.hT x σ' M Q' →
    (∀ σ1' σ1, RS K F σ1' σ1 → wipe σ1 vs = wipe σ vs → Q' σ1' M → Q σ1 H) → t.gT K v σ H Q
  | .nm i, hi, F, H, M, σ', σ, x, v, Q', Q, R, S, rx, h, po => by
    unfold Tg.gT
    unfold Tg.hT at h
    unfold Tg.inS at hi
    exact po _ _ (S.set rx i) (wipe_set (by simpa using hi)) h
  | .tp ts, hi, F, H, M, σ', σ, x, v, Q', Q, R, S, rx, h, po => by
    unfold Tg.gT
    unfold Tg.hT at h
    unfold Tg.inS at hi
    cases x with
    | tup xs =>
      unfold RV at rx
      obtain ⟨p, ws, e1, g1, g2, g3⟩ := rx
      exact ⟨p, ws, e1, sqt_mono R.sm g1, by rw [← g3.length]; exact h.1, tgs_le ts hi R S g3 h.2 po⟩
    | _ => exact h.elim
theorem tgs_le {K : PySem.W.Frag} {F0 : Fix} {vs : List Nat} : ∀ (ts : List Tg), Tg.insS vs ts = true → ∀ {F H : Hp} {M : PM} {σ' : PSt} {σ : L2.St} {xs : List PV} {ws : List V} {Q' : PSt → PM → Prop} {Q : L2.St → Hp → Prop}, Rel K F0 F H M → RS K F σ' σ → RVs K F xs ws → Tg.hTs ts xs σ' M Q' →
    (∀ σ1' σ1, RS K F σ1' σ1 → wipe σ1 vs = wipe σ vs → Q' σ1' M → Q σ1 H) → Tg.gTs K ts ws σ H Q
  | [], hi, F, H, M, σ', σ, xs, ws, Q', Q, R, S, rx, h, po => by
    unfold Tg.gTs
    unfold Tg.hTs at h
    cases xs with
    | nil => unfold RVs at rx; exact ⟨rx, po _ _ S rfl h⟩
    | cons x r => exact h.elim
  | t :: ts, hi, F, H, M, σ', σ, xs, ws, Q', Q, R, S, rx, h, po => by
    unfold Tg.gTs
    unfold Tg.hTs at h
    have hi : t.inS vs = true ∧ Tg.insS vs ts = true := by simpa [Tg.insS] using hi
    cases xs with
    | nil => exact h.elim
    | cons x r =>
      unfold RVs at rx
      obtain ⟨v, wr, e1, rx, rr⟩ := rx
      exact ⟨v, wr, e1, tg_le t hi.1 R S rx h fun σ1' σ1 S1 e2 h1 => tgs_le ts hi.2 R S1 rr h1 fun σ2' σ2 S2 e3 h2 => po σ2' σ2 S2 (e3.trans e2) h2⟩
end
def wipeP (σ : PSt) : List Nat → PSt
  | [] => σ
  | v :: vs => (wipeP σ vs).set v none
theorem RS.wipe {K : PySem.W.Frag} {F : Hp} {σ' : PSt} {σ : L2.St} (h : RS K F σ' σ) : ∀ vs, RS K F (wipeP σ' vs) (L2.wipe σ vs)
  | [] => h
  | v :: vs => by
    unfold wipeP L2.wipe
    exact (RS.wipe h vs).setN v
def QTs (X : Cx) (F0 : Fix) (ifs : List Expr) (t : TT') : Prop := PTs X ifs (LT X.K F0 t)
def pYes : TT' := fun _ M Q => Q true M
theorem qts_nil : QTs X F0 [] pYes := ⟨fun pins s σ H Q I ⟨F, M, σ', Q', R, S, h, po⟩ => pts_nil.run pins s σ H Q I (po F H M true (Same.refl F) R h)⟩
theorem qts_one {c : Expr} {t : TT'} (h : QT X F0 c t) : QTs X F0 [c] t := pts_one h
def lcRun (tg : Tg) (tt : TT') (te : TE') (σ : PSt) (Qd : List PV → PM → Prop) : List PV → List PV → PM → Prop
  | [], acc, M => Qd acc M
  | x :: xs, acc, M => tg.hT x σ M fun σ1 M1 => tt σ1 M1 fun b M2 => if b = true then te σ1 M2 fun y M3 => lcRun tg tt te σ Qd xs (acc ++ [y]) M3 else lcRun tg tt te σ Qd xs acc M2
theorem lc_by {tg : Tg} {tt : TT'} {te : TE'} {σ : PSt} {Qd : List PV → PM → Prop} {xs : List PV} {M : PM} (Pv : Nat → List PV → PM → Prop) (h0 : Pv 0 [] M)
    (hs : ∀ i x acc M, xs[i]? = some x → Pv i acc M → ∀ N : List PV → PM → Prop, (∀ acc' M', Pv (i + 1) acc' M' → N acc' M') → tg.hT x σ M fun σ1 M1 => tt σ1 M1 fun b M2 => if b = true then te σ1 M2 fun y M3 => N (acc ++ [y]) M3 else N acc M2)
    (hd : ∀ acc M, Pv xs.length acc M → Qd acc M) : lcRun tg tt te σ Qd xs [] M := by
  have key : ∀ (n i : Nat) acc M, i + n = xs.length → Pv i acc M → lcRun tg tt te σ Qd (xs.drop i) acc M := by
    intro n
    induction n with
    | zero =>
      intro i acc M e p
      have e : i = xs.length := by omega
      subst e
      rw [List.drop_length]
      exact hd acc M p
    | succ n ih =>
      intro i acc M e p
      have hi : i < xs.length := by omega
      rw [List.drop_eq_getElem_cons hi]
      exact hs i _ acc M (List.getElem?_eq_getElem hi) p (fun acc' M' => lcRun tg tt te σ Qd (xs.drop (i + 1)) acc' M') fun acc' M' p' => ih (i + 1) acc' M' (by omega) p'
  have := key xs.length 0 [] M (by omega) h0
  rwa [List.drop_zero] at this
/-- the new list stands still | may turn -/
def pLc (ti : TI') (tg : Tg) (tt : TT') (te : TE') (vs : List Nat) : TE' := fun σ M Q => ti σ M fun xs M1 => xs.length ≤ sizeLine ∧ lcRun tg tt te (wipeP σ vs) (fun ys M2 => Q (.lst ys) M2) xs [] M1
def pLcM (ti : TI') (tg : Tg) (tt : TT') (te : TE') (vs : List Nat) : TE' := fun σ M Q => ti σ M fun xs M1 => xs.length ≤ sizeLine ∧ lcRun tg tt te (wipeP σ vs) (fun ys M2 => ∀ p, M2 p = none → Q (.ref p) (put M2 p (.lst ys))) xs [] M1
end
section
variable {X : Cx} {F0 : Fix}
/-- the frame's part: what nobody tells of stays -/
theorem Rel.drop1 {K : PySem.W.Frag} {F H : Hp} {M : PM} {p : Addr} {o : HO} (R : Rel K ⟨F0.f, upd F0.g p o⟩ F H M) (gp : F0.g p = none) : Rel K F0 F H M ∧ H p = some o ∧ F p = none ∧ M p = none := by
  refine ⟨R.unkeep fun a u e => ?_, ?_⟩
  · have q : a ≠ p := fun z => by subst z; rw [gp] at e; cases e
    rw [upd_ne q]; exact e
  · obtain ⟨h1, h2, h3⟩ := R.fr p o upd_same
    exact ⟨h3, h1, h2⟩
theorem l_lc {ti : TI'} {tg : Tg} {tt : TT'} {te : TE'} {vs : List Nat} {Qd : PSt → PM → List PV → PM → QV → Prop} {LTt : Fix → TT} {LTe : Fix → TE} (hin : tg.inS vs = true)
    (htt : ∀ B, LTt B = LT X.K B tt) (hte : ∀ B, LTe B = L X.K B te) {tt0 : TT} {te0 : TE} (ht0 : ∀ B σ H Q, LT X.K B tt σ H Q → tt0 σ H Q) (he0 : ∀ B σ H Q, L X.K B te σ H Q → te0 σ H Q)
    {K2 : (PV → PM → Prop) → List PV → PM → Prop}
    (fin : ∀ F H M (Q : VK) Q' ys vs' p, Rel X.K F0 F H M → F p = none → F0.g p = none → M p = none → H p = some (.lst vs') → vs'.length ≤ sizeLine → RVs X.K F ys vs' → K2 Q' ys M → Po X.K F0 F Q' Q → Q (.ref p) H) :
    ∀ σ H Q, L X.K F0 (fun σ M Q => ti σ M fun xs M1 => xs.length ≤ sizeLine ∧ lcRun tg tt te (wipeP σ vs) (fun ys M2 => K2 Q ys M2) xs [] M1) σ H Q → tLc (LI X.K F0 ti) (tg.gT X.K) tt0 te0 vs σ H Q :=
  fun σ H Q ⟨F, M, σ', Q', R, S, h, po⟩ => ⟨F, M, σ', _, R, S, h, fun F1 H1 M1 xs J e1 R1 ⟨Y, w, hy⟩ ⟨hz, h1⟩ D hD => by
    have gD := R1.gH hD
    refine lc_it w (fun i H2 => ∃ F2 M2 acc accV, Same F1 F2 ∧ Rel X.K F0 F2 H2 M2 ∧ F2 D = none ∧ M2 D = none ∧ H2 D = some (.lst accV) ∧ RVs X.K F2 acc accV ∧ accV.length ≤ i ∧ i ≤ xs.length ∧ lcRun tg tt te (wipeP σ' vs) (fun ys M2 => K2 Q' ys M2) (xs.drop i) acc M2)
      ⟨F1, M1, [], [], Same.refl F1, R1.grow (same_new hD), R1.free hD, R1.newM hD, upd_same, .nil, Nat.le_refl _, Nat.zero_le _, h1⟩ (fun i H2 _ ⟨F2, M2, acc, accV, e2, R2, _⟩ => e2.trans R2.sm) ?_ ?_
    · rintro i v H2 H3 hi ⟨F2, M2, acc, accV, e2, R2, fD, mD, hD2, rA, hl, _, h2⟩ y
      have R2k := R2.keep hD2 fD mD
      obtain ⟨F3, x, gx, e3, R3, rx⟩ := hy _ i H2 v H3 F2 M2 y hi e2 R2k
      have hd : xs.drop i = x :: xs.drop (i + 1) := by
        rw [List.drop_eq_getElem_cons hi]
        have := List.getElem?_eq_getElem hi
        rw [gx] at this
        rw [← Option.some.inj this]
      rw [hd] at h2
      have SW : RS X.K F3 (wipeP σ' vs) (L2.wipe σ vs) := (S.mono (((e1.trans e2).trans e3))).wipe vs
      refine tg_le tg hin R3 SW rx h2 fun σ4' σ4 S4 ew h4 => ⟨?_, ?_⟩
      · have ww : ∀ (ws : List Nat), (∀ j ∈ ws, j ∈ vs) → L2.wipe (L2.wipe σ vs) ws = L2.wipe σ vs := by
          intro ws
          induction ws with
          | nil => intro _; rfl
          | cons j ws ih =>
            intro hj
            show (L2.wipe (L2.wipe σ vs) ws).set j none = _
            rw [ih fun k hk => hj k (List.mem_cons_of_mem _ hk)]
            have hjv : j ∈ vs := hj j List.mem_cons_self
            have e5 : L2.wipe (σ.set j none) vs = L2.wipe σ vs := wipe_set hjv
            have key : ∀ (us : List Nat) (τ : L2.St), j ∈ us → (L2.wipe τ us).set j none = L2.wipe τ us := by
              intro us
              induction us with
              | nil => intro τ h; cases h
              | cons u us ih2 =>
                intro τ h
                unfold L2.wipe
                by_cases e6 : u = j
                · subst e6; rw [List.set_set]
                · rw [List.set_comm _ _ e6]
                  rcases List.mem_cons.mp h with h | h
                  · exact absurd h.symm e6
                  · rw [ih2 τ h]
            exact key vs σ hjv
        rw [ew, ww vs fun _ h => h]
      · refine ht0 _ σ4 H3 _ ⟨F3, M2, σ4', _, R3, S4, h4, fun F5 H5 M5 b e5 R5 h5 => ?_⟩
        cases b with
        | true =>
          refine iteT (he0 _ σ4 H5 _ ⟨F5, M5, σ4', _, R5, S4.mono e5, by simpa using h5, fun F6 H6 M6 y yv e6 R6 ry h6 => ?_⟩)
          obtain ⟨R6', h7, f7, m7⟩ := R6.drop1 gD
          refine ⟨accV, h7, by omega, F6, M6, acc ++ [y], accV ++ [yv], ((e2.trans e3).trans e5).trans e6, ?_, f7, m7, upd_same, (rA.mono ((e3.trans e5).trans e6)).append (.cons ry .nil), by rw [List.length_append, List.length_singleton]; omega, hi, h6⟩
          refine ⟨R6'.ex, fun a u e => ?_, fun a u e => ?_, fun a u e => ?_, R6'.sy⟩
          · have q : a ≠ D := fun z => by subst z; rw [f7] at e; cases e
            rw [upd_ne q]; exact R6'.sm _ _ e
          · have q : a ≠ D := fun z => by subst z; rw [m7] at e; cases e
            exact ⟨(R6'.ob a u e).1, (R6'.ob a u e).2.at fun w z => by rw [upd_ne q]; exact z⟩
          · have q : a ≠ D := fun z => by subst z; rw [gD] at e; cases e
            rw [upd_ne q]; exact R6'.fr a u e
        | false =>
          obtain ⟨R5', h7, f7, m7⟩ := R5.drop1 gD
          exact iteF ⟨F5, M5, acc, accV, (e2.trans e3).trans e5, R5', f7, m7, h7, rA.mono (e3.trans e5), by omega, hi, by simpa using h5⟩
    · rintro H2 ⟨F2, M2, acc, accV, e2, R2, fD, mD, hD2, rA, hl, _, h2⟩
      rw [List.drop_length] at h2
      exact fin F2 H2 M2 Q Q' acc accV D R2 fD gD mD hD2 (Nat.le_trans hl hz) rA h2 (po.mono (e1.trans e2))⟩
variable {elt tge iter : Expr} {ifs : List Expr} {scope : Scope} {own : List (Str × Nat)} {pos : Pos} {ti : TI'} {tg : Tg} {tt : TT'} {te : TE'}
theorem fin_lst (F H : Hp) (M : PM) (Q : VK) (Q' : QV) (ys : List PV) (vs' : List V) (p : Addr) (R : Rel X.K F0 F H M) (fp : F p = none) (gp : F0.g p = none) (mp : M p = none) (hp : H p = some (.lst vs')) (hz : vs'.length ≤ sizeLine) (r : RVs X.K F ys vs') (h : Q' (.lst ys) M) (po : Po X.K F0 F Q' Q) : Q (.ref p) H := by
  have e2 : Same F (upd F p (.lst vs')) := same_new fp
  have R2 := R.freeze fp gp hp
  have e3 : del M p = M := by
    funext b
    unfold del
    split
    · rename_i e; rw [e, mp]
    · rfl
  rw [e3] at R2
  refine po _ _ _ _ _ e2 R2 ?_ h
  unfold RV
  exact ⟨p, vs', rfl, upd_same, hz, r.mono e2⟩
theorem fin_lstM (F H : Hp) (M : PM) (Q : VK) (Q' : QV) (ys : List PV) (vs' : List V) (p : Addr) (R : Rel X.K F0 F H M) (fp : F p = none) (gp : F0.g p = none) (mp : M p = none) (hp : H p = some (.lst vs')) (hz : vs'.length ≤ sizeLine) (r : RVs X.K F ys vs') (h : ∀ q, M q = none → Q' (.ref q) (put M q (.lst ys))) (po : Po X.K F0 F Q' Q) : Q (.ref p) H := by
  have e : upd H p (.lst vs') = H := by
    funext b
    unfold upd
    split
    · rename_i e; rw [e, hp]
    · rfl
  have R2 : Rel X.K F0 F (upd H p (.lst vs')) (put M p (.lst ys)) := R.turn fp gp ⟨vs', upd_same, r⟩
  rw [e] at R2
  exact po _ _ _ _ _ (Same.refl F) R2 rv_ref (h p mp)
theorem q_lc (hc : X.calm = true) (hN : X.N.Nodup) (hi : QI X F0 tge iter ti) (ok : BlkOk X.N X.env.scope scope own)
    (hg : ∀ (s : Shared) (H : Hp) (C : Addr) (cl : List (Str × Addr)) (fp : List Addr), PG (X.blk s H scope (compEnvC scope cl C X.env) fp) tge (tg.gT X.K))
    (ht : ∀ (B : Fix) (s : Shared) (H : Hp) (C : Addr) (cl : List (Str × Addr)) (fp : List Addr), QTs (X.blk s H scope (compEnvC scope cl C X.env) fp) B ifs tt)
    (he : ∀ (B : Fix) (s : Shared) (H : Hp) (C : Addr) (cl : List (Str × Addr)) (fp : List Addr), QE (X.blk s H scope (compEnvC scope cl C X.env) fp) B elt te)
    (hin : tg.inS (own.map (·.2)) = true := by rfl) (hs : ∀ x, foldedSetIterable iter X.env x = pure x := by intro _; rfl) :
    QE X F0 (.ListComp elt [⟨tge, iter, ifs, 0⟩] scope pos) (pLc ti tg tt te (own.map (·.2))) :=
  qe_of (pe_lc (tt := fun σ H Q => ∃ B, LT X.K B tt σ H Q) (te := fun σ H Q => ∃ B, L X.K B te σ H Q) hc hN hi ok hg (fun s H C cl fp => ⟨fun pins s' σ H' Q I ⟨B, h⟩ => PTs.run (ht B s H C cl fp) pins s' σ H' Q I h⟩) (fun s H C cl fp => ⟨fun pins s' σ H' Q I ⟨B, h⟩ => PE.run (he B s H C cl fp) pins s' σ H' Q I h⟩) hs)
    (l_lc (Qd := fun _ _ _ _ _ => True) (LTt := fun B => LT X.K B tt) (LTe := fun B => L X.K B te) hin (fun _ => rfl) (fun _ => rfl) (fun B σ H Q h => ⟨B, h⟩) (fun B σ H Q h => ⟨B, h⟩) (K2 := fun Q ys M => Q (.lst ys) M) fin_lst)
theorem q_lcM (hc : X.calm = true) (hN : X.N.Nodup) (hi : QI X F0 tge iter ti) (ok : BlkOk X.N X.env.scope scope own)
    (hg : ∀ (s : Shared) (H : Hp) (C : Addr) (cl : List (Str × Addr)) (fp : List Addr), PG (X.blk s H scope (compEnvC scope cl C X.env) fp) tge (tg.gT X.K))
    (ht : ∀ (B : Fix) (s : Shared) (H : Hp) (C : Addr) (cl : List (Str × Addr)) (fp : List Addr), QTs (X.blk s H scope (compEnvC scope cl C X.env) fp) B ifs tt)
    (he : ∀ (B : Fix) (s : Shared) (H : Hp) (C : Addr) (cl : List (Str × Addr)) (fp : List Addr), QE (X.blk s H scope (compEnvC scope cl C X.env) fp) B elt te)
    (hin : tg.inS (own.map (·.2)) = true := by rfl) (hs : ∀ x, foldedSetIterable iter X.env x = pure x := by intro _; rfl) :
    QE X F0 (.ListComp elt [⟨tge, iter, ifs, 0⟩] scope pos) (pLcM ti tg tt te (own.map (·.2))) :=
  qe_of (pe_lc (tt := fun σ H Q => ∃ B, LT X.K B tt σ H Q) (te := fun σ H Q => ∃ B, L X.K B te σ H Q) hc hN hi ok hg (fun s H C cl fp => ⟨fun pins s' σ H' Q I ⟨B, h⟩ => PTs.run (ht B s H C cl fp) pins s' σ H' Q I h⟩) (fun s H C cl fp => ⟨fun pins s' σ H' Q I ⟨B, h⟩ => PE.run (he B s H C cl fp) pins s' σ H' Q I h⟩) hs)
    (l_lc (Qd := fun _ _ _ _ _ => True) (LTt := fun B => LT X.K B tt) (LTe := fun B => L X.K B te) hin (fun _ => rfl) (fun _ => rfl) (fun B σ H Q h => ⟨B, h⟩) (fun B σ H Q h => ⟨B, h⟩) (K2 := fun Q ys M => ∀ p, M p = none → Q (.ref p) (put M p (.lst ys))) fin_lstM)
end
end PL

namespace PL
open PySem PySem.Spec PyProof.Rows L2
abbrev Sp' := List PV → PM → QV → XQ → Prop
/-- an exception's fields -/
def Xd (K : PySem.W.Frag) (F H : Hp) (fs : List (Str × PV)) : Option Addr → Prop
  | none => fs = []
  | some d => ∃ vs, H d = some (.xd vs) ∧ vs.map (·.1) = fs.map (·.1) ∧ RVs K F (fs.map (·.2)) (vs.map (·.2))
def PoX (K : PySem.W.Frag) (B : Fix) (F : Hp) (E' : XQ) (E : XK) : Prop := ∀ F' H' M' c fs od, Same F F' → Rel K B F' H' M' → Xd K F' H' fs od → E' c fs M' → E c od H'
theorem PoX.mono {K : PySem.W.Frag} {B : Fix} {F F' : Hp} {E' : XQ} {E : XK} (e : Same F F') (h : PoX K B F E' E) : PoX K B F' E' E := fun F1 H1 M1 c fs od e1 => h F1 H1 M1 c fs od (e.trans e1)
def LSp (K : PySem.W.Frag) (sp : Sp') : Sp := fun vs H Q E => ∃ B F M xs Q' E', Rel K B F H M ∧ RVs K F xs vs ∧ sp xs M Q' E' ∧ Po K B F Q' Q ∧ PoX K B F E' E
/-- a def keeps its promise, wherever no repr is under way -/
structure FnP (P : Program) (w : World) (K : PySem.W.Frag) (mg : Str → Option Value) (base : Heap) (CX : CXT) (k : Nat) (f : Addr) (fd : FuncData) (ps : List Str) (sp : Sp') : Prop where
  len : ∀ xs M Q E, sp xs M Q E → xs.length = ps.length
  run : ∀ (A : Around) (outer : List Env) (s : Shared) (H : Hp) (args : Args) (us : List Value) (vs : List V) (Q : VK) (E : XK), A.guards = some [] → Room k A → Env0 P w K mg base A outer s H → BindsTo s fd args (ps.zip us) → Vals vs us → LSp K sp vs H Q E →
    codeAny (model P w) A (.call (.ref f) args) (CR CX outer P w H s Q E) s
section
variable {P : Program} {w : World} {K : PySem.W.Frag} {mg : Str → Option Value} {base : Heap} {CX : CXT}
theorem FnP.mono {j k : Nat} {f : Addr} {fd : FuncData} {ps : List Str} {sp : Sp'} (F : FnP P w K mg base CX j f fd ps sp) (h : j ≤ k) : FnP P w K mg base CX k f fd ps sp :=
  ⟨F.len, fun A outer s H args us vs Q E hg hr => F.run A outer s H args us vs Q E hg (hr.mono h)⟩
theorem FnP.imp {k : Nat} {f : Addr} {fd : FuncData} {ps : List Str} {sp sp' : Sp'} (F : FnP P w K mg base CX k f fd ps sp) (h : ∀ xs M Q E, sp' xs M Q E → sp xs M Q E) : FnP P w K mg base CX k f fd ps sp' :=
  ⟨fun xs M Q E q => F.len xs M Q E (h _ _ _ _ q), fun A outer s H args us vs Q E hg hr he hb hv ⟨B, F1, M, xs, Q', E', h1, h2, h3, h4, h5⟩ => F.run A outer s H args us vs Q E hg hr he hb hv ⟨B, F1, M, xs, Q', E', h1, h2, h _ _ _ _ h3, h4, h5⟩⟩
def startP (N : List Str) (xs : List PV) : PSt := xs.map some ++ List.replicate (N.length - xs.length) none
theorem rs_start {F : Hp} {N : List Str} {xs : List PV} {vs : List V} (r : RVs K F xs vs) : RS K F (startP N xs) (L2.start N vs) := by
  have hl := r.length
  refine ⟨by unfold startP L2.start; rw [List.length_append, List.length_append, List.length_map, List.length_map, List.length_replicate, List.length_replicate, hl], fun i x h => ?_⟩
  unfold startP at h
  unfold L2.start
  by_cases hi : i < xs.length
  · rw [List.getElem?_append_left (by simpa using hi), List.getElem?_map] at h
    cases q : xs[i]? with
    | none => rw [q] at h; cases h
    | some y =>
      rw [q] at h
      have e : y = x := Option.some.inj (Option.some.inj h)
      subst e
      obtain ⟨v, g1, g2⟩ := r.get q
      refine ⟨v, ?_, g2⟩
      rw [List.getElem?_append_left (by rw [List.length_map, ← hl]; exact hi), List.getElem?_map, g1]; rfl
  · rw [List.getElem?_append_right (by simpa using hi), List.getElem?_replicate] at h
    split at h <;> cases h
/-- what a def asks at its end: the told store may be forgotten in part -/
def Fewer (Q : QV) : QV := fun x M => ∃ M', (∀ a o, M' a = some o → M a = some o) ∧ Q x M'
theorem Fewer.of {Q : QV} {x : PV} {M : PM} (h : Q x M) : Fewer Q x M := ⟨M, fun _ _ e => e, h⟩
theorem fnp_of {k : Nat} {x qual : Str} {st : Stmt} {f : Addr} {fd : FuncData} {N ps : List Str} {sp : Sp'} (D : Fun K x qual st f fd) (S : FnScope N ps (defScope st)) (len : ∀ xs M Q E, sp xs M Q E → xs.length = ps.length)
    (body : ∀ (cdv : Value) (A : Around) (outer : List Env) (s : Shared) (H : Hp) (E : XK) (B : Fix), A.guards = some [] → Room k (A.deeper (envOfC qual (defScope st) s.heap.objs.size f cdv)) →
      ∀ (E' : XQ), PoX K B B.f E' E → ∃ t : TS', QSs (cxOf CX P w K mg base N qual (defScope st) f cdv A outer s H E) B (defBody st) t ∧ ∀ xs M Q', sp xs M Q' E' → t { nx := fun _ M' => Fewer Q' .non M', rt := Fewer Q' } (startP N xs) M) :
    FnP P w K mg base CX (k + 1) f fd ps sp := by
  obtain ⟨oc, od, kV, doc, pm, an, cdv, ct, osl, rfl, lk, hcd⟩ := D.ex
  refine ⟨len, fun A outer s H args us vs Q E hg hr e0 hb r ⟨B, F, M, xs, Q', E', R, rs, hsp, po, px⟩ => ?_⟩
  have hl : vs.length = ps.length := rs.length.symm.trans (len _ _ _ _ hsp)
  have inK : K.In s.heap := e0.mod.kin.keeps fun b o e => (e0.bs b o e).1
  refine codeAny_call_function hr.depth (inK _ _ lk) rfl S.co S.gen rfl (PySem.W.codeRec_of inK hcd) (hb _ _ _ _ (wpAny_newFunctionEnv_cells S.kind (fun y hy => ?_) fun env he s1 hx => ?_))
  · rcases S.par y.1 (List.of_mem_zip hy).1 with q | q
    · exact .inl q
    · exact .inr ⟨q, PySem.W.cellsFrom_some _ _ _ (.inl q)⟩
  · subst he
    have lim : s.heap.NoLimit := e0.mod.nolimit.keeps fun b o e => (e0.bs b o e).1
    refine ⟨lim.keeps hx.toInCall.keep, codeAny_func ?_⟩
    obtain ⟨t, ht, hq⟩ := body cdv A outer s H E ⟨F, B.g⟩ hg (hr.deeper _) E' (fun F1 H1 M1 c fs od e1 R1 => px F1 H1 M1 c fs od e1 ⟨R.ex.trans e1, R1.sm, R1.ob, R1.fr, R.sy⟩)
    have I := inv_start (CX := CX) (E := E) S hr.hd e0 hl r hx
    have po' : Po K ⟨F, B.g⟩ F (Fewer Q') Q := fun F1 H1 M1 y v e1 R1 ry ⟨M2, h1, h2⟩ => po F1 H1 M2 y v e1 (Rel.fewer ⟨R.ex.trans e1, R1.sm, R1.ob, R1.fr, R.sy⟩ h1) ry h2
    have R0 : Rel K ⟨F, B.g⟩ F H M := ⟨Same.refl F, R.sm, R.ob, R.fr, R.sy.mono R.ex⟩
    refine wpAny_mono (PSs.run ht [] s1 (L2.start N vs) H { nx := fun _ H' => Q .non H', rt := Q } I ⟨F, M, startP N xs, _, R0, rs_start rs, hq xs M Q' hsp, ⟨fun F1 H1 M1 σ' σ e1 R1 S1 h1 => po' F1 H1 M1 .non .non e1 R1 rv_non h1, po', fun _ _ _ _ _ _ _ _ z => z, fun _ _ _ _ _ _ _ _ z => z⟩⟩) (fun fl s' hs => ?_) fun e s' hs => hs
    cases fl with
    | ret u =>
      obtain ⟨v, σ', H', J, rv, q⟩ := hs
      exact ⟨v, H', J.os, J.bare, J.base, J.hok, rv, q⟩
    | next =>
      obtain ⟨σ', H', J, q⟩ := hs
      exact ⟨.non, H', J.os, J.bare, J.base, J.hok, rfl, q⟩
    | brk => obtain ⟨_, _, _, q⟩ := hs; exact q.elim
    | cont => obtain ⟨_, _, _, q⟩ := hs; exact q.elim
end

/-! ### a call -/
section
variable {X : Cx} {F0 : Fix} {e a b : Expr} {pos : Pos} {es : List Expr} {t : TA'} {CX : CXT} {k : Nat} {f : Addr} {fd : FuncData} {ps : List Str} {sp : Sp'} {dxs : List PV} {dvs : List V} {ds : List Value} {E' : XQ} {E : XK} {x : Str} {p : Pos}
def pCall (sp : Sp') (dxs : List PV) (E' : XQ) (t : TA') : TE' := fun σ M Q => t σ M fun xs M1 => sp (xs ++ dxs) M1 Q E'
abbrev X0 : XQ := fun _ _ _ => False
theorem run_p {pins : List (Addr × Obj)} {σ : L2.St} {H : Hp} {s : Shared} {Q : VK} {us : List Value} {vs : List V} (D : FnP X.prog X.w X.K X.mg X.base CX k f fd ps sp) (hG : X.A.guards = some []) (hr : Room k X.A) (hb : Binds X.K fd ps ds) (hd : Vals dvs ds) (hx : Passes CX X E)
    (I : Inv X pins σ H s) (r : Vals vs us) (h : LSp X.K sp (vs ++ dvs) H Q E) : wpAny (model X.prog X.w) X.A (call (.ref f) us) (EP X pins σ Q) X.xe s := by
  have r2 : Vals (vs ++ dvs) (us ++ ds) := r.append hd
  have hl : (us ++ ds).length = ps.length := by
    obtain ⟨B, F, M, xs, Q', E', _, rs, hs, _⟩ := h
    rw [← r2.length, ← rs.length]; exact D.len _ _ _ _ hs
  refine wpAny_call (codeAny_mono (D.run X.A X.stack s H ⟨us, []⟩ _ _ Q E hG hr I.env0 (hb s us I.kIn hl) r2 h) fun res s' hq => ?_)
  match res, hq with
  | .error er, hq => exact hx pins σ H s er s' I hq
  | .ok (.ret u), hq => exact I.after hq
  | .ok .next, hq => exact hq.elim
  | .ok .brk, hq => exact hq.elim
  | .ok .cont, hq => exact hq.elim
theorem q_call (D : FnP X.prog X.w X.K X.mg X.base CX k f fd ps sp) (hG : X.A.guards = some []) (hr : Room k X.A) (hg : Gl X x) (hm : X.mg x = some (.ref f)) (hk : PySem.W.keepIn X.K (.ref f) = true) (hb : Binds X.K fd ps ds) (hd : Vals dvs ds) (hdr : ∀ F, RVs X.K F dxs dvs) (hx : Passes CX X E)
    (hE : ∀ F, PoX X.K F0 F E' E) (ha : QA X F0 (e :: es) t) (hdb : (x == ("__debug__" : Str)) = false := by decide) (he : starEach (e :: es) X.env = (false, eval e X.env) :: starEach es X.env := by rfl) (hpl : (backTo pos (starEach es X.env)).any (·.1) = false := by rfl) :
    QE X F0 (.Call (.Name x p) (e :: es) [] pos) (pCall sp dxs E' t) := by
  refine ⟨fun pins s σ H Q I ⟨F, M, σ', Q', R, S, h, po⟩ => ?_⟩
  refine wpAny_Call_Name_kw (ld_glob I hg hm (PySem.W.callWith_K (h₀ := X.base) I.ok.mod.kin hk (thn (PA.run ha pos pins s σ H (fun vs H1 => LSp X.K sp (vs ++ dvs) H1 Q E) I ⟨F, M, σ', _, R, S, h, fun F1 H1 M1 xs vs e1 R1 rs h1 => ?_⟩) fun us s1 ⟨vs, H1, I1, r1, q1⟩ => ⟨I1.kIn, run_p D hG hr hb hd hx I1 r1 q1⟩) he hpl) hdb)
  exact ⟨F0, F1, M1, xs ++ dxs, Q', E', R1, rs.append (hdr F1), h1, po.mono e1, hE F1⟩
theorem pox0 {K : PySem.W.Frag} {B : Fix} {F : Hp} : PoX K B F X0 E0 := fun _ _ _ _ _ _ _ _ _ h => h.elim
/-- a call that raises nothing, all arguments given -/
theorem q_call1 (D : FnP X.prog X.w X.K X.mg X.base CX0 k f fd ps sp) (hG : X.A.guards = some []) (hr : Room k X.A) (hg : Gl X x) (hm : X.mg x = some (.ref f)) (hk : PySem.W.keepIn X.K (.ref f) = true) (hb : Binds X.K fd ps [])
    (ha : QA X F0 (e :: es) t) (hdb : (x == ("__debug__" : Str)) = false := by decide) (he : starEach (e :: es) X.env = (false, eval e X.env) :: starEach es X.env := by rfl) (hpl : (backTo pos (starEach es X.env)).any (·.1) = false := by rfl) :
    QE X F0 (.Call (.Name x p) (e :: es) [] pos) (pCall sp [] X0 t) := q_call D hG hr hg hm hk hb .nil (fun _ => .nil) pass0 (fun _ => pox0) ha hdb he hpl
theorem q_call0 (D : FnP X.prog X.w X.K X.mg X.base CX0 k f fd ps sp) (hG : X.A.guards = some []) (hr : Room k X.A) (hg : Gl X x) (hm : X.mg x = some (.ref f)) (hk : PySem.W.keepIn X.K (.ref f) = true) (hb : Binds X.K fd ps [])
    (hdb : (x == ("__debug__" : Str)) = false := by decide) : QE X F0 (.Call (.Name x p) [] [] pos) (pCall sp [] X0 pNil) := by
  refine ⟨fun pins s σ H Q I ⟨F, M, σ', Q', R, S, h, po⟩ => ?_⟩
  refine wpAny_Call_Name_kw (ld_glob I hg hm (PySem.W.callWith_K0 I.kIn hk (run_p (us := []) (vs := []) D hG hr hb .nil pass0 I .nil ?_)) hdb)
  exact ⟨F0, F, M, [], Q', X0, R, .nil, h, po, pox0⟩

/-! ### y = [..] -/
variable {elt tge iter : Expr} {ifs : List Expr} {scope : Scope} {own : List (Str × Nat)} {spos py : Pos} {ti : TI'} {tg : Tg} {tt : TT'} {te : TE'} {i : Nat} {y : Str}
theorem qs_setLc (hc : X.calm = true) (hN : X.N.Nodup) (hy : X.N[i]? = some y) (hyl : X.env.scope.names.lookup y = some .local) (hsw : swapsWith (.ListComp elt [⟨tge, iter, ifs, 0⟩] scope pos) (some (.Name y py)) spos.line X.env = pure true) (hi : QI X F0 tge iter ti) (ok : BlkOk X.N X.env.scope scope own)
    (hg : ∀ (s : Shared) (H : Hp) (C : Addr) (cl : List (Str × Addr)) (fp : List Addr), PG (X.blk s H scope (compEnvC scope cl C X.env) fp) tge (tg.gT X.K))
    (ht : ∀ (B : Fix) (s : Shared) (H : Hp) (C : Addr) (cl : List (Str × Addr)) (fp : List Addr), QTs (X.blk s H scope (compEnvC scope cl C X.env) fp) B ifs tt)
    (he : ∀ (B : Fix) (s : Shared) (H : Hp) (C : Addr) (cl : List (Str × Addr)) (fp : List Addr), QE (X.blk s H scope (compEnvC scope cl C X.env) fp) B elt te)
    (hin : tg.inS (own.map (·.2)) = true := by rfl) (hs : ∀ x, foldedSetIterable iter X.env x = pure x := by intro _; rfl) :
    QS X F0 (.Assign [.Name y py] (.ListComp elt [⟨tge, iter, ifs, 0⟩] scope pos) spos) (sAsg (pLc ti tg tt te (own.map (·.2))) (hName i)) :=
  qs_of (ps_setLc (tt := fun σ H Q => ∃ B, LT X.K B tt σ H Q) (te := fun σ H Q => ∃ B, L X.K B te σ H Q) hc hN hy hyl hsw hi ok hg (fun s H C cl fp => ⟨fun pins s' σ H' Q I ⟨B, h⟩ => PTs.run (ht B s H C cl fp) pins s' σ H' Q I h⟩) (fun s H C cl fp => ⟨fun pins s' σ H' Q I ⟨B, h⟩ => PE.run (he B s H C cl fp) pins s' σ H' Q I h⟩) hs)
    fun D σ H ⟨F, M, σ', D', R, S, h, po⟩ => l_lc (Qd := fun _ _ _ _ _ => True) (LTt := fun B => LT X.K B tt) (LTe := fun B => L X.K B te) hin (fun _ => rfl) (fun _ => rfl) (fun B σ H Q h => ⟨B, h⟩) (fun B σ H Q h => ⟨B, h⟩) (K2 := fun Q ys M => Q (.lst ys) M) fin_lst σ H _
      ⟨F, M, σ', fun x M1 => D'.nx (σ'.set i (some x)) M1, R, S, h, fun F1 H1 M1 x v e1 R1 rx h1 => po.nx F1 H1 M1 _ _ e1 R1 ((S.mono e1).set rx i) h1⟩
theorem qs_setLcM (hc : X.calm = true) (hN : X.N.Nodup) (hy : X.N[i]? = some y) (hyl : X.env.scope.names.lookup y = some .local) (hsw : swapsWith (.ListComp elt [⟨tge, iter, ifs, 0⟩] scope pos) (some (.Name y py)) spos.line X.env = pure true) (hi : QI X F0 tge iter ti) (ok : BlkOk X.N X.env.scope scope own)
    (hg : ∀ (s : Shared) (H : Hp) (C : Addr) (cl : List (Str × Addr)) (fp : List Addr), PG (X.blk s H scope (compEnvC scope cl C X.env) fp) tge (tg.gT X.K))
    (ht : ∀ (B : Fix) (s : Shared) (H : Hp) (C : Addr) (cl : List (Str × Addr)) (fp : List Addr), QTs (X.blk s H scope (compEnvC scope cl C X.env) fp) B ifs tt)
    (he : ∀ (B : Fix) (s : Shared) (H : Hp) (C : Addr) (cl : List (Str × Addr)) (fp : List Addr), QE (X.blk s H scope (compEnvC scope cl C X.env) fp) B elt te)
    (hin : tg.inS (own.map (·.2)) = true := by rfl) (hs : ∀ x, foldedSetIterable iter X.env x = pure x := by intro _; rfl) :
    QS X F0 (.Assign [.Name y py] (.ListComp elt [⟨tge, iter, ifs, 0⟩] scope pos) spos) (sAsg (pLcM ti tg tt te (own.map (·.2))) (hName i)) :=
  qs_of (ps_setLc (tt := fun σ H Q => ∃ B, LT X.K B tt σ H Q) (te := fun σ H Q => ∃ B, L X.K B te σ H Q) hc hN hy hyl hsw hi ok hg (fun s H C cl fp => ⟨fun pins s' σ H' Q I ⟨B, h⟩ => PTs.run (ht B s H C cl fp) pins s' σ H' Q I h⟩) (fun s H C cl fp => ⟨fun pins s' σ H' Q I ⟨B, h⟩ => PE.run (he B s H C cl fp) pins s' σ H' Q I h⟩) hs)
    fun D σ H ⟨F, M, σ', D', R, S, h, po⟩ => l_lc (Qd := fun _ _ _ _ _ => True) (LTt := fun B => LT X.K B tt) (LTe := fun B => L X.K B te) hin (fun _ => rfl) (fun _ => rfl) (fun B σ H Q h => ⟨B, h⟩) (fun B σ H Q h => ⟨B, h⟩) (K2 := fun Q ys M => ∀ p, M p = none → Q (.ref p) (put M p (.lst ys))) fin_lstM σ H _
      ⟨F, M, σ', fun x M1 => D'.nx (σ'.set i (some x)) M1, R, S, h, fun F1 H1 M1 x v e1 R1 rx h1 => po.nx F1 H1 M1 _ _ e1 R1 ((S.mono e1).set rx i) h1⟩
end
end PL

namespace PL
open PySem PySem.Spec PyProof.Rows L2
/-! ### the law's end -/
section
variable {P : Program} {w : World} {K : PySem.W.Frag} {mg mb : Str → Option Value} {CX : CXT} {k : Nat} {fa a : Addr} {fd : FuncData} {x : Str} {sp : Sp'} {s₁ : Shared} {vs : List Value} {ns : List Int}
theorem end_core (H : Hp) (KX : K.In s₁.heap) (hns : s₁.heap.Ns mainGlobals mg) (hb : s₁.heap.Ns builtinsNs mb) (hbb : ∀ x : Str, x ≠ "__name__" → mb x = bootBuiltins x) (hlim : s₁.heap.NoLimit) (hg : s₁.gens = #[]) (hr : Room k callerA)
    (F : ∀ base : Heap, K.In base → base.Ns mainGlobals mg → FnP P w K mg base CX k fa fd [x] sp) (hbind : ∀ (s : Shared) (u : Value), BindsTo s fd ⟨[u], []⟩ [(x, u)])
    (hsp : ∀ Q E, (∀ M, Q (.bl true) M) → sp [.scr ns] (fun _ => none) Q E) (hCX : ∀ H e s', CX [] H s₁ (fun _ _ _ => False) e s' → False)
    (h1 : ∀ b, H b = none ∨ ∃ o u, H b = some (.frz o u)) (h2 : ∀ b, H b ≠ none → K.lookup b = none) (h3 : ∀ b o es ep, b ≠ sysModules → s₁.heap.get? b = some o → o.data = .dict es ep → H b = none) (hS : SqL K H a (ns.map V.int)) (hy : SyOk K H) (hok : HOk P w H s₁.heap) :
    codeAny (model P w) callerA (.call (.ref fa) ⟨[.ref a], []⟩) (fun r s' => r = .ok (.ret (.bool true)) ∧ OldK s₁.heap s'.heap ∧ s'.os = s₁.os ∧ AllBare s'.gens) s₁ := by
  have toB : ∀ {b : Addr} {m : Str → Option Value}, b ≠ sysModules → s₁.heap.Ns b m → (hidT s₁.heap H).Ns b m := fun {b m} hb ⟨o, es, ep, e, d, r⟩ => ⟨o, es, ep, hidT_get e (h3 b o es ep hb e d), d, r⟩
  have KB : K.In (hidT s₁.heap H) := fun b o e => hidT_get (KX b o e) (none_of fun u q => by
    have := h2 b (by rw [q]; exact fun z => nomatch z)
    rw [e] at this; cases this)
  have G3 : (hidT s₁.heap H).Ns mainGlobals mg := toB (by decide) hns
  have hM : Mod K mg (hidT s₁.heap H) := ⟨KB, G3, ⟨mb, toB (by decide) hb, hbb⟩, by
    obtain ⟨mc, g1, g2⟩ := hlim
    exact ⟨mc, toB (by decide) g1, g2⟩⟩
  have e0 : Env0 P w K mg (hidT s₁.heap H) callerA [] s₁ H := ⟨rfl, hM, fun b o e => of_hidT e, Nat.le_of_eq (hidT_size _ _), trivial, fun b hb => absurd (show b ∈ ([] : List Addr) from hb) (by simp), hok, .of_eq hg⟩
  have arg : LSp K sp [.ref a] H (fun v _ => v = .bl true) (fun _ _ _ => False) := by
    refine ⟨⟨H, fun _ => none⟩, H, fun _ => none, [.scr ns], fun x _ => x = .bl true, fun _ _ _ => False, ⟨Same.refl H, Same.refl H, (fun _ _ z => by cases z), (fun _ _ z => by cases z), hy⟩, .cons ?_ .nil, hsp _ _ fun _ => rfl, fun F' H' M' y v _ _ ry e => ?_, fun _ _ _ _ _ _ _ _ _ z => z⟩
    · unfold RV; exact ⟨a, rfl, hS⟩
    · subst e; unfold RV at ry; exact ry
  refine codeAny_mono ((F _ KB G3).run callerA [] s₁ H ⟨[.ref a], []⟩ [.ref a] [.ref a] _ _ rfl hr e0 (hbind s₁ (.ref a)) (.cons rfl .nil) arg) fun r s' h => ?_
  match r, h with
  | .error e, h => exact (hCX H e s' h).elim
  | .ok .next, h => exact h.elim
  | .ok .brk, h => exact h.elim
  | .ok .cont, h => exact h.elim
  | .ok (.ret u), ⟨v, H', os, bare, un, hok', rv, q⟩ =>
    have q : v = .bl true := q
    subst q
    have rv : u = Value.bool true := rv
    subst rv
    refine ⟨rfl, OldK.of_keep fun b o e => ?_, os, bare⟩
    rcases h1 b with z | ⟨ob, u, z⟩
    · exact un.keep b o e z (by intro y; exact absurd (show b ∈ ([] : List Addr) from y) (by simp)) (by simp)
    · have g1 := (hok b _ z).1
      have g2 := (hok' b _ (un.frzs b ob u z)).1
      rw [e] at g1
      rw [Option.some.inj g1]
      exact g2
theorem end_call (KX : K.In s₁.heap) (hns : s₁.heap.Ns mainGlobals mg) (hb : s₁.heap.Ns builtinsNs mb) (hbb : ∀ x : Str, x ≠ "__name__" → mb x = bootBuiltins x) (hlim : s₁.heap.NoLimit) (hsy : ∃ o, s₁.heap.get? sysModules = some o) (hg : s₁.gens = #[]) (hr : Room k callerA)
    (ha : s₁.heap.get? a = some { cls := .type "list", data := .seq vs.toArray }) (hi : IntsAre vs ns) (hl : ns.length ≤ sizeLine)
    (F : ∀ base : Heap, K.In base → base.Ns mainGlobals mg → FnP P w K mg base CX k fa fd [x] sp) (hbind : ∀ (s : Shared) (u : Value), BindsTo s fd ⟨[u], []⟩ [(x, u)])
    (hsp : ∀ Q E, (∀ M, Q (.bl true) M) → sp [.scr ns] (fun _ => none) Q E) (hCX : ∀ H e s', CX [] H s₁ (fun _ _ _ => False) e s' → False) :
    codeAny (model P w) callerA (.call (.ref fa) ⟨[.ref a], []⟩) (fun r s' => r = .ok (.ret (.bool true)) ∧ OldK s₁.heap s'.heap ∧ s'.os = s₁.os ∧ AllBare s'.gens) s₁ := by
  have rv := vals_ints hi
  obtain ⟨o1, ho1⟩ := hsy
  -- what is locked: the script (unless it is the module's own), sys.modules (likewise)
  let H : Hp := fun b => if b = a then (match K.lookup a with | none => some (.frz { cls := .type "list", data := .seq vs.toArray } (.lst (ns.map V.int))) | some _ => none)
    else if b = sysModules then (match K.lookup sysModules with | none => some (.frz o1 (.ext fun _ => True)) | some _ => none) else none
  have HA : H a = (match K.lookup a with | none => some (.frz { cls := .type "list", data := .seq vs.toArray } (.lst (ns.map V.int))) | some _ => none) := if_pos rfl
  have HS : sysModules ≠ a → H sysModules = (match K.lookup sysModules with | none => some (.frz o1 (.ext fun _ => True)) | some _ => none) := fun n => (if_neg n).trans (if_pos rfl)
  have HN : ∀ b, b ≠ a → b ≠ sysModules → H b = none := fun b n1 n2 => (if_neg n1).trans (if_neg n2)
  have cases3 : ∀ b, (b = a ∧ K.lookup a = none ∧ H b = some (.frz { cls := .type "list", data := .seq vs.toArray } (.lst (ns.map V.int)))) ∨ (b ≠ a ∧ b = sysModules ∧ K.lookup sysModules = none ∧ H b = some (.frz o1 (.ext fun _ => True))) ∨ H b = none := by
    intro b
    by_cases e : b = a
    · subst e
      cases q : K.lookup b with
      | none => rw [q] at HA; exact .inl ⟨rfl, rfl, HA⟩
      | some o => rw [q] at HA; exact .inr (.inr HA)
    · by_cases e2 : b = sysModules
      · subst e2
        cases q : K.lookup sysModules with
        | none => have := HS e; rw [q] at this; exact .inr (.inl ⟨e, rfl, rfl, this⟩)
        | some o => have := HS e; rw [q] at this; exact .inr (.inr this)
      · exact .inr (.inr (HN b e e2))
  refine end_core H KX hns hb hbb hlim hg hr F hbind hsp hCX ?_ ?_ ?_ ?_ ?_ ?_
  · intro b
    rcases cases3 b with ⟨_, _, z⟩ | ⟨_, _, _, z⟩ | z
    · exact .inr ⟨_, _, z⟩
    · exact .inr ⟨_, _, z⟩
    · exact .inl z
  · intro b hb
    rcases cases3 b with ⟨e, z, _⟩ | ⟨_, e, z, _⟩ | z
    · rw [e]; exact z
    · rw [e]; exact z
    · exact absurd z hb
  · intro b o es ep nb e d
    rcases cases3 b with ⟨e1, _, _⟩ | ⟨_, e1, _, _⟩ | z
    · subst e1
      rw [ha] at e
      cases e
      cases d
    · exact absurd e1 nb
    · exact z
  · cases q : K.lookup a with
    | none => rw [q] at HA; exact .inl (.inr ⟨_, HA⟩)
    | some o =>
      have e := KX a o q
      rw [ha] at e
      have e : _ = o := Option.some.inj e
      refine .inr ⟨o, vs.toArray, _, q, by rw [← e], by rw [← e], by rw [← e], by rw [List.size_toArray, hi.length]; exact hl, by simpa using rv⟩
  · by_cases e : sysModules = a
    · rw [← e] at HA
      cases q : K.lookup sysModules with
      | none => rw [q] at HA; exact .inr ⟨_, _, HA⟩
      | some o => exact .inl ⟨o, q⟩
    · have := HS e
      cases q : K.lookup sysModules with
      | none => rw [q] at this; exact .inr ⟨_, _, this⟩
      | some o => exact .inl ⟨o, q⟩
  · intro b u z
    rcases cases3 b with ⟨e1, _, z1⟩ | ⟨_, e1, _, z1⟩ | z1
    · subst e1
      rw [z1] at z
      cases z
      exact ⟨ha, by rw [List.length_map]; exact hl, vs, _, rv, ha⟩
    · subst e1
      rw [z1] at z
      cases z
      exact ⟨ho1, trivial, ⟨o1, ho1⟩, fun _ _ _ _ => trivial⟩
    · rw [z1] at z; cases z
end
theorem walk_p {l : PySem.W.OpenLaw} {n k : Nat} {q : Program} {loose : List Str} {XP : (Str → Option Value) → Heap → Prop} {YP : World → Heap → Prop} {d : DefRec} {K : Params → PySem.W.Frag} {CX : World → CXT} {sp : Sp'} {x : Str}
    (himp : importsNone q = true) (hn : l.most = some n) (hn2 : n ≤ sizeLine) (hdf : d.params.defaults = []) (hr : Room k callerA) (hY : ∀ (w : World) (h : Heap), YP w h → (K w.params).In h)
    (F : ∀ (w : World) (mg : Str → Option Value) (fa : Addr) (h : Heap), (K w.params).In h → h.Ns mainGlobals mg → mg d.name = some (.ref fa) →
      ∃ fd : FuncData, (∀ (s : Shared) (u : Value), BindsTo s fd ⟨[u], []⟩ [(x, u)]) ∧ ∀ base : Heap, (K w.params).In base → base.Ns mainGlobals mg → FnP l.prog w (K w.params) mg base (CX w) k fa fd [x] sp)
    (hsp : ∀ (ns : List Int) Q E, ns.length ≤ n → (∀ M, Q (.bl true) M) → sp [.scr ns] (fun _ => none) Q E)
    (hCX : ∀ (w : World) (H : Hp) (s : Shared) (e : Value) (s' : Shared), CX w [] H s (fun _ _ _ => False) e s' → False) :
    PySem.W.WalkO q loose XP YP l.row.toRowW d [] (fun f vs => PySem.call f vs) := by
  refine Att.attach_call hn hdf fun w s₀ s₁ mg mb fa o pm cd doc a vs ns G Y ho hd hcd hmg hobj hints hlen hg => ?_
  obtain ⟨fd, hb, hF⟩ := F w mg fa _ (hY w _ Y) G.T.g hmg
  obtain ⟨mm, ⟨o1, es, ep, e1, _⟩, _⟩ := (G.T.seer himp).mods
  exact end_call (hY w _ Y) G.T.g G.T.b G.T.builtins G.T.nolimit ⟨o1, e1⟩ hg hr hobj hints (Nat.le_trans hlen hn2) hF hb (fun Q E h => hsp ns Q E hlen h) fun H e s' => hCX w H s₁ e s'

/-! ### repr -/
mutual
/-- what repr shows, with the room that it takes -/
def PV.isR : PV → Bool
  | .non | .bl _ | .str _ => true
  | .int i => decide (i.natAbs.log2 < 1920)
  | .tup xs => PV.areR xs
  | .lst xs => PV.areR xs
  | .dct kvs => PV.arkR kvs
  | _ => false
def PV.areR : List PV → Bool
  | [] => true
  | x :: xs => x.isR && PV.areR xs
def PV.arkR : List (Key × PV) → Bool
  | [] => true
  | (k, x) :: r => (match k with | .inl i => decide (i.natAbs.log2 < 1920) | .inr _ => true) && x.isR && PV.arkR r
end
section
variable {X : Cx} {F0 : Fix} {pins : List (Addr × Obj)} {σ : L2.St} {F H : Hp} {s : Shared} {M : PM}
theorem ne_sys {p : Addr} {vs : List V} (I : Inv X pins σ H s) (R : Rel X.K F0 F H M) (h : F p = some (.lst vs)) : p ≠ sysModules := fun e => by
  subst e
  rcases R.sy with ⟨o, q⟩ | ⟨o, u, q⟩
  · have := (I.bs _ _ (I.mod.kin _ _ q)).2
    rw [R.sm _ _ h] at this; cases this
  · rw [R.ex _ _ q] at h; cases h
def keyD : Key → PyData
  | .inl i => .int i
  | .inr s => .str s
theorem reads_pairs {P : Program} {w : World} {h : Heap} : ∀ {es : List DictEntry} {vs : List (Key × Value)}, Pairs (mixKind P w) es vs → ReadsAll h (es.map (·.key)) (vs.map fun p => keyD p.1) []
  | _, _, .nil => .nil
  | _, _, .cons (kv := kv) hk _ t => by
    have t' := reads_pairs (h := h) t
    rcases keyIs_shape hk with ⟨i, tk, e1, e2⟩ | ⟨x, tk, e1, e2⟩
    · simp only [List.map_cons]
      rw [e1, e2]
      exact .cons (as := []) (.int i tk) t'
    · simp only [List.map_cons]
      rw [e1, e2]
      exact .cons (as := []) (.str x tk) t'
theorem vals_pairs {P : Program} {w : World} : ∀ {es : List DictEntry} {vs : List (Key × Value)}, Pairs (mixKind P w) es vs → es.map (·.val) = vs.map (·.2)
  | _, _, .nil => rfl
  | _, _, .cons _ hv t => by simp only [List.map_cons, hv, vals_pairs t]
theorem datk_eq : ∀ (kvs : List (Key × PV)), (PV.datk kvs).map (·.1) = kvs.map (fun p => keyD p.1) ∧ (PV.datk kvs).map (·.2) = PV.dats (kvs.map (·.2))
  | [] => ⟨rfl, rfl⟩
  | (k, x) :: r => by
    obtain ⟨h1, h2⟩ := datk_eq r
    cases k with
    | inl i => simp only [PV.datk, List.map_cons, h1, h2, PV.dats]; exact ⟨rfl, trivial⟩
    | inr i => simp only [PV.datk, List.map_cons, h1, h2, PV.dats]; exact ⟨rfl, trivial⟩
mutual
theorem rd_of (I : Inv X pins σ H s) (R : Rel X.K F0 F H M) : ∀ {x : PV} {v : V} {u : Value}, RV X.K F x v → RelV v u → x.isR = true → ∃ as, Reads s.heap u x.dat as ∧ sysModules ∉ as
  | .non, v, u, r, q, _ => by unfold RV at r; subst r; cases q; exact ⟨[], .none, by simp⟩
  | .bl b, v, u, r, q, _ => by unfold RV at r; subst r; cases q; exact ⟨[], .bool b, by simp⟩
  | .int i, v, u, r, q, _ => by unfold RV at r; subst r; obtain ⟨t, rfl⟩ := q; exact ⟨[], .int i t, by simp⟩
  | .str x, v, u, r, q, _ => by unfold RV at r; subst r; obtain ⟨t, rfl⟩ := q; exact ⟨[], .str x t, by simp⟩
  | .tup xs, v, u, r, q, h => by
    unfold RV at r
    obtain ⟨a, vs, e1, h1, _, h3⟩ := r
    subst e1
    cases q
    obtain ⟨its, rv, ⟨o, g1, g2, n, g3⟩, _⟩ := I.tuple (sqt_mono R.sm h1)
    obtain ⟨as, h4, h5⟩ := rds_of I R h3 rv (by simpa [PV.isR] using h)
    exact ⟨as, .tuple g1 g2 g3 (by simpa using h4), h5⟩
  | .lst xs, v, u, r, q, h => by
    unfold RV at r
    obtain ⟨a, vs, e1, h1, _, h3⟩ := r
    subst e1
    cases q
    obtain ⟨its, rv, ⟨o, n, g1, g2, _, g3⟩, _⟩ := I.list (X := X) (SqL.of (R.sm _ _ h1))
    obtain ⟨as, h4, h5⟩ := rds_of I R h3 rv (by simpa [PV.isR] using h)
    refine ⟨a :: as, .list g1 g2 g3 (by simpa using h4), fun z => ?_⟩
    rcases List.mem_cons.mp z with z | z
    · exact ne_sys I R h1 z.symm
    · exact h5 z
  | .dct kvs, v, u, r, q, h => by
    unfold RV at r
    obtain ⟨a, ws, e1, h1, h3⟩ := r
    subst e1
    cases q
    obtain ⟨_, hs, us, kv, o, es, ep, g1, g2, g3, _, g5, _⟩ := I.hok a _ (R.sm _ _ h1)
    obtain ⟨bs, h4, h5, h6⟩ := rdk_of I R h3 kv (by simpa [PV.isR] using h)
    obtain ⟨d1, d2⟩ := datk_eq kvs
    refine ⟨a :: [] ++ bs, ?_, fun z => ?_⟩
    · refine .dict g1 g2.1 g3 ?_ ?_
      · rw [d1, ← h6]; exact reads_pairs g5
      · rw [d2, vals_pairs g5]; exact h4
    · rcases List.mem_cons.mp z with z | z
      · rw [z] at hs; simp at hs
      · exact h5 z
  | .scr ns, v, u, r, q, h => by simp [PV.isR] at h
  | .ref a, v, u, r, q, h => by simp [PV.isR] at h
  | .ty n, v, u, r, q, h => by simp [PV.isR] at h
theorem rds_of (I : Inv X pins σ H s) (R : Rel X.K F0 F H M) : ∀ {xs : List PV} {vs : List V} {us : List Value}, RVs X.K F xs vs → Vals vs us → PV.areR xs = true → ∃ as, ReadsAll s.heap us (PV.dats xs) as ∧ sysModules ∉ as
  | [], vs, us, r, q, _ => by unfold RVs at r; subst r; cases q; exact ⟨[], .nil, by simp⟩
  | x :: xs, vs, us, r, q, h => by
    unfold RVs at r
    obtain ⟨v, vr, e1, h1, h2⟩ := r
    subst e1
    have h' : x.isR = true ∧ PV.areR xs = true := by simpa [PV.areR] using h
    cases q with
    | cons q1 q2 =>
      obtain ⟨as, g1, g2⟩ := rd_of I R h1 q1 h'.1
      obtain ⟨bs, g3, g4⟩ := rds_of I R h2 q2 h'.2
      refine ⟨as ++ bs, .cons g1 g3, fun z => ?_⟩
      rcases List.mem_append.mp z with z | z
      · exact g2 z
      · exact g4 z
theorem rdk_of (I : Inv X pins σ H s) (R : Rel X.K F0 F H M) : ∀ {xs : List (Key × PV)} {vs : List (Key × V)} {us : List (Key × Value)}, RKs X.K F xs vs → KV vs us → PV.arkR xs = true → ∃ as, ReadsAll s.heap (us.map (·.2)) (PV.dats (xs.map (·.2))) as ∧ sysModules ∉ as ∧ us.map (fun p => keyD p.1) = xs.map (fun p => keyD p.1)
  | [], vs, us, r, q, _ => by unfold RKs at r; subst r; cases q; exact ⟨[], .nil, by simp, rfl⟩
  | (k, x) :: xs, vs, us, r, q, h => by
    unfold RKs at r
    obtain ⟨v, vr, e1, h1, h2⟩ := r
    subst e1
    have h' : x.isR = true ∧ PV.arkR xs = true := by
      unfold PV.arkR at h
      simp only [Bool.and_eq_true] at h
      exact ⟨h.1.2, h.2⟩
    cases q with
    | cons q1 q2 =>
      obtain ⟨as, g1, g2⟩ := rd_of I R h1 q1.2 h'.1
      obtain ⟨bs, g3, g4, g5⟩ := rdk_of I R h2 q2 h'.2
      refine ⟨as ++ bs, .cons g1 g3, fun z => ?_, ?_⟩
      · rcases List.mem_append.mp z with z | z
        · exact g2 z
        · exact g4 z
      · simp only [List.map_cons, g5, ← q1.1]
end
mutual
theorem showable_isR : ∀ {x : PV}, x.isR = true → x.dat.showable = true
  | .non, _ => rfl
  | .bl _, _ => rfl
  | .int i, h => by
    show PyData.showable (.int i) = true
    unfold PyData.showable
    simpa [PV.isR] using h
  | .str _, _ => rfl
  | .tup xs, h => by
    show PyData.showable (.tuple (PV.dats xs)) = true
    unfold PyData.showable
    exact showables_areR (by simpa [PV.isR] using h)
  | .lst xs, h => by
    show PyData.showable (.list (PV.dats xs)) = true
    unfold PyData.showable
    exact showables_areR (by simpa [PV.isR] using h)
  | .dct kvs, h => by
    show PyData.showable (.dict (PV.datk kvs)) = true
    unfold PyData.showable
    exact showablek_arkR (by simpa [PV.isR] using h)
  | .scr ns, h => by simp [PV.isR] at h
  | .ref a, h => by simp [PV.isR] at h
  | .ty n, h => by simp [PV.isR] at h
theorem showables_areR : ∀ {xs : List PV}, PV.areR xs = true → PyData.showableAll (PV.dats xs) = true
  | [], _ => rfl
  | x :: xs, h => by
    have h' : x.isR = true ∧ PV.areR xs = true := by simpa [PV.areR] using h
    show PyData.showableAll (x.dat :: PV.dats xs) = true
    unfold PyData.showableAll
    rw [showable_isR h'.1, showables_areR h'.2]; rfl
theorem showablek_arkR : ∀ {xs : List (Key × PV)}, PV.arkR xs = true → PyData.showableKv (PV.datk xs) = true
  | [], _ => rfl
  | (k, x) :: xs, h => by
    unfold PV.arkR at h
    simp only [Bool.and_eq_true] at h
    obtain ⟨⟨h1, h2⟩, h3⟩ := h
    cases k with
    | inl i =>
      show PyData.showableKv ((.int i, x.dat) :: PV.datk xs) = true
      unfold PyData.showableKv
      rw [showable_isR h2, showablek_arkR h3]
      unfold PyData.showable
      simp only at h1
      rw [h1]; rfl
    | inr i =>
      show PyData.showableKv ((.str i, x.dat) :: PV.datk xs) = true
      unfold PyData.showableKv
      rw [showable_isR h2, showablek_arkR h3]; rfl
end
theorem repr_any {Pg : Program} {w : World} {A : Around} {E : Value → Shared → Prop} {s : Shared} {u : Value} {d : PyData} {as : List Addr} {Q : Value → Shared → Prop} (r : Reads s.heap u d as) (sh : d.showable = true) (hsy : sysModules ∉ as) (hG : A.guards = some []) (hu : A.units + (d.depth + 1) < cLine) (hz : d.shown.length ≤ sizeLine)
    (h0 : Q (.str d.shown s.toks) { s with toks := s.toks + 1 }) (h : ∀ h' t tk, (∀ b o, s.heap.get? b = some o → h'.get? b = some o) → Q (.str d.shown t) { s with heap := h', toks := tk }) : wpAny (model Pg w) A (call (.builtin "repr") [u]) Q E s := by
  cases r with
  | none => exact PySem.P.repr_of_none h0
  | bool b => exact PySem.P.repr_of_bool h0
  | int i t => exact PySem.P.repr_of_int (by unfold PyData.showable at sh; exact of_decide_eq_true sh) h0
  | str z t => exact PySem.P.repr_of_str h0 hz
  | list g1 g2 g3 g4 => exact repr_of_reads' (.list g1 g2 g3 g4) sh (fun _ => hsy) hG hu (fun _ _ e => e) (fun h' t tk hk => h h' t tk hk) hz
  | tuple g1 g2 g3 g4 => exact repr_of_reads' (.tuple g1 g2 g3 g4) sh (fun _ => hsy) hG hu (fun _ _ e => e) (fun h' t tk hk => h h' t tk hk) hz
  | dict g1 g2 g3 g4 g5 => exact repr_of_reads' (.dict g1 g2 g3 g4 g5) sh (fun _ => hsy) hG hu (fun _ _ e => e) (fun h' t tk hk => h h' t tk hk) hz
/-- repr(x) -/
def pRepr : List PV → PM → QV → Prop := fun xs M Q => match xs with
  | [x] => x.isR = true ∧ x.dat.depth ≤ 64 ∧ x.dat.shown.length ≤ sizeLine ∧ Q (.str x.dat.shown) M
  | _ => False
theorem q_repr {k : Nat} {e : Expr} {te : TE'} {p pos : Pos} (hG : X.A.guards = some []) (hr : Room k X.A) (hg : Gl X "repr") (hm : X.mg "repr" = none) (he : QE X F0 e te) (hs : starEach [e] X.env = (false, eval e X.env) :: starEach [] X.env := by rfl) (hpl : (backTo pos (starEach [] X.env)).any (·.1) = false := by rfl) : QE X F0 (.Call (.Name "repr" p) [e] [] pos) (pCB pRepr (pCons te pNil)) := by
  refine ⟨fun pins s σ H Q I ⟨F, M, σ', Q', R, S, h, po⟩ => ?_⟩
  have ha : QA X F0 [e] (pCons te pNil) := qa_cons he qa_nil hs
  refine wpAny_Call_Name_kw (ld_blt I hg hm (show bootBuiltins "repr" = some (.builtin "repr") by decide +kernel) ?_ (by decide) (by decide))
  refine PyProof.Rows.callWith_builtin1 (thn (PA.run ha pos pins s σ H (fun vs H1 => ∃ F1 M1 x v, vs = [v] ∧ Rel X.K F0 F1 H1 M1 ∧ RV X.K F1 x v ∧ x.isR = true ∧ x.dat.depth ≤ 64 ∧ x.dat.shown.length ≤ sizeLine ∧ Q (.str x.dat.shown) H1) I ⟨F, M, σ', _, R, S, h, fun F1 H1 M1 xs vs e1 R1 rs h1 => ?_⟩) fun us s1 ⟨vs, H1, I1, r1, q1⟩ => ?_) hs hpl
  · unfold pRepr at h1
    split at h1
    · obtain ⟨v, e2, rx⟩ := rvs1 rs
      exact ⟨F1, M1, _, v, e2, R1, rx, h1.1, h1.2.1, h1.2.2.1, po F1 H1 M1 _ _ e1 R1 rv_str h1.2.2.2⟩
    · exact h1.elim
  · obtain ⟨F1, M1, x, v, e2, R1, rx, i1, i2, i3, q⟩ := q1
    subst e2
    obtain ⟨u, e3, ru⟩ := Vals.one r1
    subst e3
    obtain ⟨as, hrd, hsy⟩ := rd_of I1 R1 rx ru i1
    have fin : ∀ h' t tk, (∀ b o, s1.heap.get? b = some o → h'.get? b = some o) → EP X pins σ Q (.str x.dat.shown t) { s1 with heap := h', toks := tk } := fun h' t tk hk => ⟨.str x.dat.shown, H1, I1.kept (t' := tk) hk, ⟨t, rfl⟩, q⟩
    have fin0 : EP X pins σ Q (.str x.dat.shown s1.toks) { s1 with toks := s1.toks + 1 } := fin s1.heap _ _ fun _ _ e => e
    have un := hr.un
    have sh := showable_isR i1
    exact repr_any hrd sh hsy hG (by omega) i3 fin0 fin
end
end PL

namespace PL
open PySem PySem.Spec PyProof.Rows L2
/-! ### t[::-1] of a tuple -/
theorem pick_back (xs : Array Value) : ((List.range xs.size).filterMap fun (m : Nat) => xs[(((xs.size : Int) - 1) + (m : Int) * (-1)).toNat]?).toArray = xs.toList.reverse.toArray := by
  congr 1
  obtain ⟨l⟩ := xs
  simp only [List.size_toArray, List.getElem?_toArray]
  have gen : ∀ (k : Nat), k ≤ l.length → (List.range k).filterMap (fun (m : Nat) => l[(((l.length : Int) - 1) + (m : Int) * (-1)).toNat]?) = l.reverse.take k := by
    intro k
    induction k with
    | zero => intro _; simp
    | succ k ih =>
      intro hk
      rw [List.range_succ, List.filterMap_append, ih (by omega), List.take_add_one]
      congr 1
      have h1 : (((l.length : Int) - 1) + (k : Int) * (-1)).toNat = l.length - 1 - k := by omega
      have h3 : l.length - 1 - k < l.length := by omega
      rw [List.getElem?_reverse (by omega)]
      simp only [List.filterMap_cons, List.filterMap_nil, h1]
      rw [List.getElem?_eq_getElem h3]; rfl
  have := gen l.length (Nat.le_refl _)
  rw [this, ← List.length_reverse (as := l), List.take_length]
theorem getItem_tuple_back {prog : Program} {w : World} {A : Around} {E : Value → Shared → Prop} {s : Shared} {t sl : Addr} {items : Array Value} {vs : Value} {Q : Value → Shared → Prop} (ht : IsTup s.heap t items) (hs : s.heap.IsSliceOf sl .none .none vs) (ps : IsPart vs (some (-1)))
    (h : Q (.ref s.heap.objs.size) { s with heap := s.heap.push { cls := .type "tuple", data := .seq items.toList.reverse.toArray } }) (hsz : items.size ≤ sizeLine) : wpAny (model prog w) A (getItem (.ref t) (.ref sl)) Q E s := by
  have htake : sizeOk (.seq items.toList.reverse.toArray) := by
    show items.toList.reverse.toArray.size ≤ sizeLine
    simpa using hsz
  obtain ⟨os, hos, hcs, hds⟩ := id hs
  have hTs : s.TypeIs (.ref sl) "slice" := ⟨os, hos, hcs⟩
  obtain ⟨tk, rfl⟩ : ∃ tk, vs = .int (-1) tk := by cases ps; exact ⟨_, rfl⟩
  unfold getItem
  try with_reducible refine wpAny_holding ?_
  first | refine wpAny_bind (wpAny_pure ?_) | skip
  refine wpAny_bind (wpAny_sequenceKey ht.typeIs (by decide) ?_)
  refine wpAny_bind (wpAny_callSpecial?_slot (name := Str.ofString "__getitem__") ht.typeIs PyProof.Rows.slot_tuple_getitem (wpAny_call_entry PyProof.Rows.slot_tuple_getitem ht.typeIs entry_tuple_getitem ?_ (args_tuple_getitem _ _)))
  show wpAny _ _ (Builtin.Tuple.tupleItemsOf (.ref t) >>= _) _ _ s
  refine wpAny_bind (tupleItemsOf_ ht (wpAny_bind (wpAny_typeOf hTs ?_)))
  rw [if_pos (by decide)]
  have sa : ∀ (Q1 : Int × Int × Nat → Shared → Prop) (E1 : Value → Shared → Prop), Q1 ((items.size : Int) - 1, -1, items.size) s → wpAny (model prog w) A.in1 (Builtin.Slice.sliceApplied (.ref sl) (pure (items.size : Int))) Q1 E1 s := fun Q1 E1 hq => by
    unfold Builtin.Slice.sliceApplied Builtin.Slice.sliceFields
    refine wpAny_bind (wpAny_bind (wpAny_field hos hds (x := .none) rfl (wpAny_bind (wpAny_field hos hds (x := .none) rfl (wpAny_bind (wpAny_field hos hds (x := .int (-1) tk) rfl (wpAny_pure ?_)))))))
    refine wpAny_bind (slicePart_int ?_)
    show wpAny _ _ (if ((-1 : Int) == 0) = true then _ else _) _ _ s
    rw [if_neg (by decide)]
    refine wpAny_bind (slicePart_none (wpAny_bind (slicePart_none (wpAny_bind (wpAny_pure ?_)))))
    show wpAny _ _ (pure (((items.size : Int) - 1), (-1 : Int), Builtin.Slice.slicePlaces ((items.size : Int) - 1) (-1) (-1))) _ _ s
    have e : Builtin.Slice.slicePlaces ((items.size : Int) - 1) (-1) (-1) = items.size := by
      unfold Builtin.Slice.slicePlaces
      rw [if_neg (by decide)]
      by_cases h0 : (items.size : Int) - 1 > -1
      · rw [if_pos h0]
        have h1 : ((items.size : Int) - 1 - -1 - 1) / (- -1) + 1 = items.size := by
          rw [show (- -1 : Int) = 1 from rfl, Int.ediv_one]; omega
        rw [h1]; simp
      · rw [if_neg h0]; omega
    rw [e]
    exact wpAny_pure hq
  refine wpAny_bind (sa _ _ ?_)
  have hno : ¬ (((items.size : Int) - 1 == 0 && (-1 : Int) == 1 && items.size == items.size) = true) := by simp
  show wpAny _ _ (if ((items.size : Int) - 1 == 0 && (-1 : Int) == 1 && items.size == items.size) = true then _ else _) _ _ s
  rw [if_neg hno, pick_back]
  first
    | exact wpAny_bind (m := Builtin.Tuple.tupleExact _) (wpAny_newObj_type (wpAny_pure ⟨_, rfl, wpAny_pure h⟩) htake)
    | exact wpAny_bind (m := Builtin.Tuple.tupleExact _) (wpAny_newObj_type (wpAny_bind (wpAny_pure (wpAny_pure ⟨_, rfl, wpAny_pure h⟩))) htake)
    | exact wpAny_bind (wpAny_bind (m := Builtin.Tuple.tupleExact _) (wpAny_newObj_type (wpAny_pure (wpAny_pure ⟨_, rfl, wpAny_pure h⟩)) htake))
    | exact wpAny_bind (wpAny_bind (m := Builtin.Tuple.tupleExact _) (wpAny_newObj_type (wpAny_pure ⟨_, rfl, wpAny_pure h⟩) htake))
section
variable {X : Cx} {F0 : Fix} {e a b : Expr} {pos : Pos} {ta tb te : TE'}
def pRev (te : TE') : TE' := fun σ M Q => te σ M fun x M1 => match x with
  | .tup xs => Q (.tup xs.reverse) M1
  | _ => False
theorem q_rev {k : Nat} {p1 p2 p3 : Pos} (he : QE X F0 e te) : QE X F0 (.Subscript e (.Slice none none (some (.UnaryOp .USub (.Constant (.int 1) k p1) p2)) p3) pos) (pRev te) := by
  refine ⟨fun pins s σ H Q I ⟨F, M, σ', Q', R, S, h, po⟩ => ?_⟩
  refine Subscript_ (thn (PE.run he pins s σ H (fun v H1 => ∃ F1 M1 p xs vs, v = .ref p ∧ Rel X.K F0 F1 H1 M1 ∧ Same F F1 ∧ SqT X.K H1 p vs ∧ vs.length ≤ sizeLine ∧ RVs X.K F1 xs vs ∧ Q' (.tup xs.reverse) M1) I ⟨F, M, σ', _, R, S, h, fun F1 H1 M1 x v e1 R1 rx h1 => ?_⟩) fun v s1 ⟨x, H1, I1, r1, q1⟩ => ?_)
  · cases x with
    | tup xs =>
      unfold RV at rx
      obtain ⟨p, vs, e2, g1, g2, g3⟩ := rx
      exact ⟨F1, M1, p, xs, vs, e2, R1, e1, sqt_mono R1.sm g1, g2, g3, h1⟩
    | _ => exact h1.elim
  · obtain ⟨F1, M1, p, xs, vs, e2, R1, e1, g1, g2, g3, q'⟩ := q1
    subst e2
    cases r1
    have hst : PO X (some (.UnaryOp .USub (.Constant (.int 1) k p1) p2)) (tPart (tUn (rU fun i => .int (-i)) (tC (.int 1)))) := po_some (pe_un un_neg pe_int)
    refine wpAny_Slice ?_
    rw [evalPart_none]
    refine wpAny_pure (wpAny_pure ?_)
    refine thn (hst.run pins s1 σ H1 (fun o H4 => o = some (-1) ∧ H4 = H1) I1 ⟨1, rfl, -1, rfl, rfl, rfl⟩) fun u s4 ⟨o, H4, I4, ps, eo, e4⟩ => ?_
    subst eo e4
    have I5 : Inv X pins σ H4 { s4 with heap := s4.heap.push { cls := .type "slice", data := .fields #[.none, .none, u] } } := I4.kept (t' := s4.toks) fun b ob q => Heap.get?_push_of_some _ q
    obtain ⟨its, r, ht, hz⟩ := I5.tuple g1
    refine tail_any (ops := [.ref p, .ref s4.heap.objs.size]) ht.typeIs (PyProof.Rows.slot_tuple_getitem.lookup) ?_ (by with_unfolding_all rfl)
    refine getItem_tuple_back ht (Heap.IsSliceOf.new _ .none .none u) ps ?_ (by rw [List.size_toArray, ← r.length]; exact hz)
    refine laidF (k := s4.toks) I5 r.reverse (by rw [List.length_reverse]; exact hz) fun q o hq ho => ?_
    obtain ⟨R2, r2, e5⟩ := rel_tup R1 hq ho g3.reverse (by rw [List.length_reverse]; exact g2)
    exact po _ _ _ _ _ (e1.trans e5) R2 r2 q'

/-! ### * -/
theorem tmul_same (l : Addr) (items : Array Value) (n : Nat) (dd : Option Addr) (sl : Array (Option Value)) (x : Int) (u : Tok) (c0 : (decide (x < -(2 ^ 63)) || decide (x ≥ 2 ^ 63)) = false) (c1 : (items.isEmpty || x == 1) = true) :
    Meets (Builtin.«tuple.__mul__» ⟨[.ref l, .int x u], []⟩) (fun _ R s => s.heap.get? l = some { cls := .type "tuple", dict := dd, data := .seq items n, slots := sl } ∧ R (.ok (.ret (Value.ref l))) s) := by
  refine .of_wp fun prog w A R s h => ?_
  obtain ⟨hp, g, d, tk, os⟩ := s
  obtain ⟨hl, h⟩ := h
  have f1 := AutoSeq1.idx_int
  wp_walk using wpAny_loadPart' hl
  repeat (first
    | (refine wpAny_ite_false (decide_eq_false (by rw [c0]; exact Bool.false_ne_true)) ?_; wp_walk using wpAny_loadPart' hl)
    | (refine wpAny_ite_true (decide_eq_true c1) ?_; wp_walk using wpAny_loadPart' hl))
  exact ⟨_, rfl, h⟩
theorem tmul_none (l : Addr) (items : Array Value) (n : Nat) (dd : Option Addr) (sl : Array (Option Value)) (x : Int) (u : Tok) (c0 : (decide (x < -(2 ^ 63)) || decide (x ≥ 2 ^ 63)) = false) (c1 : (items.isEmpty || x == 1) = false) (c2 : (decide (x ≤ 0) || items.isEmpty) = true) :
    Meets (Builtin.«tuple.__mul__» ⟨[.ref l, .int x u], []⟩) (fun _ R s => s.heap.get? l = some { cls := .type "tuple", dict := dd, data := .seq items n, slots := sl } ∧ R (.ok (.ret (Value.ref s.heap.objs.size))) { s with heap := s.heap.push { cls := .type "tuple", data := .seq #[] } }) := by
  refine .of_wp fun prog w A R s h => ?_
  obtain ⟨hp, g, d, tk, os⟩ := s
  obtain ⟨hl, h⟩ := h
  have f1 := AutoSeq1.idx_int
  wp_walk using wpAny_loadPart' hl
  repeat (first
    | (refine wpAny_ite_false (decide_eq_false (by rw [c0]; exact Bool.false_ne_true)) ?_; wp_walk using wpAny_loadPart' hl)
    | (refine wpAny_ite_false (decide_eq_false (by rw [c1]; exact Bool.false_ne_true)) ?_; wp_walk using wpAny_loadPart' hl)
    | (refine wpAny_ite_true (decide_eq_true c2) ?_; wp_walk using wpAny_loadPart' hl))
  exact ⟨_, rfl, h⟩
def rRepF (K : PySem.W.Frag) : R2 := fun x y H Q => ∃ l k xs, x = .ref l ∧ y = .int k ∧ SqT K H l xs ∧ 0 ≤ k ∧ k ≤ 1000 ∧ xs.length ≤ 1000 ∧ (xs = [] ∨ k = 1 → Q (.ref l) H) ∧
  (¬ (xs = [] ∨ k = 1) → ∀ p o, H p = none → o.dict = none → Q (.ref p) (upd H p (.frz o (.tup (List.replicate k.toNat xs).flatten))))
theorem op_repF : OpR X (binaryOp .Mult) (rRepF X.K) := by
  intro pins s σ H x y v u Q I rx ry h
  obtain ⟨l, k, xs, rfl, rfl, hT, h1, h2, hz, q1, q2⟩ := h
  cases rx
  obtain ⟨t, rfl⟩ := ry
  obtain ⟨its, r, ⟨⟨cls, dd, data, sl⟩, ho, hc, n, hd⟩, hs⟩ := I.tuple hT
  simp only at hc hd
  subst hc hd
  have hle : its.length = xs.length := r.length.symm
  have c0 : (decide (k < -(2 ^ 63)) || decide (k ≥ 2 ^ 63)) = false := by rw [decide_eq_false (by omega), decide_eq_false (by omega)]; rfl
  have go : ∀ {S : PySem.Spec}, Meets (Builtin.«tuple.__mul__» ⟨[.ref l, .int k t], []⟩) S → S X.A (wants (EP X pins σ Q) X.xe) s → wpAny (model X.prog X.w) X.A (binaryOp .Mult (.ref l) (.int k t)) (EP X pins σ Q) X.xe s := fun g hS =>
    wpAny_binaryOp_repeat_ref (T := "tuple") (U := "int") (by decide) ⟨_, ho, rfl⟩ (fun s' => typeIs_int s' k t) noFill_tuple_mul F.fills_int_mul F.slot_int_rmul repeat_tuple F.slot_int_index.lookup (call_meets F.slot_int_rmul (typeIs_int s k t) F.entry_int_rmul (F.args_int_rmul_2 _ _)
      (int_rmul_tuple k t l its.toArray n dd sl) ⟨ho, rfl, ⟨_, ho, rfl⟩, call_meets F.slot_tuple_mul ⟨_, ho, rfl⟩ F.entry_tuple_mul (F.args_tuple_mul_2 _ _) g hS⟩)
  by_cases hs1 : xs = [] ∨ k = 1
  · refine go (tmul_same l its.toArray n dd sl k t c0 ?_) ⟨ho, .ref l, H, I, rfl, q1 hs1⟩
    rcases hs1 with e | e
    · subst e
      rw [List.eq_nil_of_length_eq_zero hle]; rfl
    · subst e
      simp
  · have hn : its ≠ [] := fun e => hs1 (.inl (List.eq_nil_of_length_eq_zero (by rw [← hle, e]; rfl)))
    have hi : its.toArray.isEmpty = false := by
      cases its with
      | nil => exact absurd rfl hn
      | cons _ _ => rfl
    have c1 : (its.toArray.isEmpty || k == 1) = false := by
      rw [hi, Bool.false_or]
      exact beq_eq_false_iff_ne.mpr fun e => hs1 (.inr e)
    by_cases h0 : k ≤ 0
    · have e0 : k = 0 := by omega
      subst e0
      refine go (tmul_none l its.toArray n dd sl 0 t c0 c1 (by simp)) ⟨ho, ?_⟩
      exact laidF (k := s.toks) I (us := []) .nil (Nat.zero_le _) (q2 hs1)
    · have hb : k.toNat * xs.length ≤ 1000 * 1000 := Nat.mul_le_mul (by omega) hz
      have hm : ((its.toArray.size : Nat) : Int) * k ≤ 1000000 := by
        rw [List.size_toArray, hle]
        have a1 : ((xs.length : Nat) : Int) * k ≤ 1000 * k := Int.mul_le_mul_of_nonneg_right (by omega) (by omega)
        omega
      have c2 : (decide (k ≤ 0) || its.toArray.isEmpty) = false := by rw [hi, Bool.or_false]; exact decide_eq_false h0
      have c4 : Builtin.Tuple.tupleTooMany (((its.toArray.size : Nat) : Int) * k) = false := by
        unfold Builtin.Tuple.tupleTooMany
        rw [sizeLine_eq]
        exact decide_eq_false (by omega)
      refine go (tuple_mulW l its.toArray n dd sl k t c0 c1 c2 (by omega) c4 ?_) ⟨ho, ?_⟩
      · rw [size_rep, List.size_toArray, PyProof.Rows.lm_len_rep_flat, hle, sizeLine_eq]; omega
      · rw [size_rep]
        exact laidF (k := s.toks) I (r.rep k.toNat) (by rw [PyProof.Rows.lm_len_rep_flat, sizeLine_eq]; omega) (q2 hs1)
def repP (k : Nat) (xs : List PV) : List PV := (List.replicate k xs).flatten
def pMul : R2' := fun x y M Q => match x, y with
  | .int i, .int j => CMul i j ∧ Q (.int (i * j)) M
  | .tup xs, .int k => 0 ≤ k ∧ k ≤ 1000 ∧ xs.length ≤ 1000 ∧ Q (.tup (repP k.toNat xs)) M
  | x, .int k => ∃ xs, asL M x = some xs ∧ 0 ≤ k ∧ k < 2 ^ 63 ∧ xs.length * k.toNat ≤ sizeLine ∧ Q (.lst (repP k.toNat xs)) M
  | _, _ => False
theorem RVs.rep {K : PySem.W.Frag} {F : Hp} {xs : List PV} {vs : List V} (r : RVs K F xs vs) : ∀ k, RVs K F (repP k xs) (List.replicate k vs).flatten
  | 0 => .nil
  | k + 1 => by
    unfold repP
    rw [List.replicate_succ, List.replicate_succ, List.flatten_cons, List.flatten_cons]
    exact r.append (RVs.rep r k)
theorem le_mul : LeO X F0 (fun x y H Q => rI CMul (fun i j => .int (i * j)) x y H Q ∨ rRepF X.K x y H Q ∨ rRep x y H Q) pMul := fun F H M x y v w Q Q' R rx ry h po => by
  unfold pMul at h
  split at h
  · unfold RV at rx ry
    exact .inl ⟨_, _, rx, ry, h.1, po F H M _ _ (Same.refl F) R rv_int h.2⟩
  · have rx' := rx
    unfold RV at rx ry
    obtain ⟨p, vs, e1, h1, h2, h3⟩ := rx
    obtain ⟨g2, g3, g4, g5⟩ := h
    rename_i xs k
    have hl := h3.length
    refine .inr (.inl ⟨p, k, vs, e1, ry, sqt_mono R.sm h1, g2, g3, by omega, fun hs => ?_, fun _ l o hl' ho => ?_⟩)
    · have e2 : repP k.toNat xs = xs := by
        rcases hs with e | e
        · have e3 : xs = [] := List.eq_nil_of_length_eq_zero (by rw [hl, e]; rfl)
          subst e3
          unfold repP
          exact List.eq_nil_of_length_eq_zero (by rw [PyProof.Rows.lm_len_rep_flat]; simp)
        · subst e
          show (List.replicate 1 xs).flatten = xs
          simp
      rw [e2] at g5
      subst e1
      exact po F H M _ _ (Same.refl F) R rx' g5
    · obtain ⟨R2, r2, e2⟩ := rel_tup R hl' ho (h3.rep k.toNat) (by
        rw [PyProof.Rows.lm_len_rep_flat, sizeLine_eq]
        have a1 : k.toNat * vs.length ≤ 1000 * 1000 := Nat.mul_le_mul (by omega) (by omega)
        omega)
      exact po _ _ _ _ _ e2 R2 r2 g5
  · obtain ⟨xs, g1, g2, g3, g4, g5⟩ := h
    obtain ⟨p, vs, e1, q1, r1⟩ := asL_at R rx g1
    unfold RV at ry
    have hl := r1.length
    refine .inr (.inr ⟨p, _, vs, e1, ry, q1, by omega, g3, by rw [← hl]; exact g4, fun l hl' => ?_⟩)
    obtain ⟨R2, r2, e2⟩ := rel_lst R hl' (r1.rep _) (by rw [PyProof.Rows.lm_len_rep_flat, Nat.mul_comm, ← hl]; exact g4)
    exact po _ _ _ _ _ e2 R2 r2 g5
  · exact h.elim
theorem q_mul (ha : QE X F0 a ta) (hb : QE X F0 b tb) : QE X F0 (.BinOp a .Mult b pos) (pOp pMul ta tb) := q_op (or_op op_mul (or_op op_repF op_rep)) le_mul ha hb

/-! ### dicts written -/
theorem q_dnew : QE X F0 (.Dict [] [] pos) (pC (.dct [])) :=
  qe_of pe_dnewK fun σ H Q ⟨F, M, σ', Q', R, S, h, po⟩ p hp => by
    have e : Same F (upd F p (.dK [])) := same_new (R.free hp)
    refine po _ _ _ _ _ e (R.lay hp) ?_ h
    unfold RV
    exact ⟨p, [], rfl, upd_same, by unfold RKs; rfl⟩
def pDisp1 (tk tv : TE') : TE' := fun σ M Q => tk σ M fun k M1 => tv σ M1 fun v M2 => match k with
  | .int i => Q (.dct [(.inl i, v)]) M2
  | .str x => Q (.dct [(.inr x, v)]) M2
  | _ => False
theorem q_disp1 {tk tv : TE'} (ha : ∀ B, QE X B a tk) (hb : ∀ B, QE X B b tv) : QE X F0 (.Dict [some a] [b] pos) (pDisp1 tk tv) :=
  qe_of (pe_disp (pps_cons (tk := fun σ H Q => ∃ B, L X.K B tk σ H Q) (tv := fun σ H Q => ∃ B, L X.K B tv σ H Q) ⟨fun pins s σ H Q I ⟨B, h⟩ => PE.run (ha B) pins s σ H Q I h⟩ ⟨fun pins s σ H Q I ⟨B, h⟩ => PE.run (hb B) pins s σ H Q I h⟩ pps_nil) rfl rfl (fun z => by cases z) (by show 1 ≤ 15; decide)) fun σ H Q ⟨F, M, σ', Q', R, S, h, po⟩ p hp => by
    have gp := R.gH hp
    have R1 : Rel X.K ⟨F0.f, upd F0.g p (.dK [])⟩ F (upd H p (.dK [])) M := (R.grow (same_new hp)).keep upd_same (R.free hp) (R.newM hp)
    refine ⟨_, F, M, σ', _, R1, S, h, fun F1 H1 M1 k kv e1 R2 rk h1 => ⟨_, F1, M1, σ', _, R2, S.mono e1, h1, fun F2 H2 M2 v vv e2 R3 rv h2 => ?_⟩⟩
    obtain ⟨R4, h7, f7, m7⟩ := R3.drop1 gp
    refine ⟨h7, ?_⟩
    have fin : ∀ kk : Key, kv = kV kk → Q' (.dct [(kk, v)]) M2 → ∃ kvs : List (Key × V), [(kv, vv)] = kvs.map (fun kv => (kV kv.1, kv.2)) ∧ kvs.length ≤ 15 ∧ Q (.ref p) (upd H2 p (.dK (mergeK [] kvs))) := fun kk ek hq => by
      refine ⟨[(kk, vv)], by rw [ek]; rfl, by show 1 ≤ 15; decide, ?_⟩
      have e3 : Same F2 (upd F2 p (.dK [(kk, vv)])) := same_new f7
      have em : mergeK [] [(kk, vv)] = [(kk, vv)] := rfl
      rw [em]
      have R5 : Rel X.K F0 (upd F2 p (.dK [(kk, vv)])) (upd H2 p (.dK [(kk, vv)])) M2 := by
        refine ⟨R4.ex.trans e3, fun a u e => ?_, fun a u e => ?_, fun a u e => ?_, R4.sy⟩
        · by_cases q : a = p
          · subst q; rw [upd_same] at e ⊢; exact e
          · rw [upd_ne q] at e ⊢; exact R4.sm _ _ e
        · have q : a ≠ p := fun z => by subst z; rw [m7] at e; cases e
          rw [upd_ne q]
          exact ⟨(R4.ob a u e).1, ((R4.ob a u e).2.mono e3).at fun w z => by rw [upd_ne q]; exact z⟩
        · have q : a ≠ p := fun z => by subst z; rw [gp] at e; cases e
          rw [upd_ne q, upd_ne q]
          exact R4.fr a u e
      refine po _ _ _ _ _ ((e1.trans e2).trans e3) R5 ?_ hq
      unfold RV
      refine ⟨p, [(kk, vv)], rfl, upd_same, ?_⟩
      unfold RKs
      exact ⟨vv, [], rfl, rv.mono e3, by unfold RKs; rfl⟩
    cases k with
    | int i => unfold RV at rk; exact fin (.inl i) rk h2
    | str x => unfold RV at rk; exact fin (.inr x) rk h2
    | _ => exact h2.elim
end
end PL

namespace PL
open PySem PySem.Spec PyProof.Rows L2
theorem qss_nox {X : Cx} {F0 : Fix} {sts : List Stmt} {t : TS'} (h : QSs X.nox F0 sts t) : QSs X F0 sts t := PSs.nox h
def sp0 (f : PM → QV → XQ → Prop) : Sp' := fun xs M Q E => xs = [] ∧ f M Q E
def sp1 (f : PV → PM → QV → XQ → Prop) : Sp' := fun xs M Q E => ∃ a, xs = [a] ∧ f a M Q E
def sp2 (f : PV → PV → PM → QV → XQ → Prop) : Sp' := fun xs M Q E => ∃ a b, xs = [a, b] ∧ f a b M Q E
def sp3 (f : PV → PV → PV → PM → QV → XQ → Prop) : Sp' := fun xs M Q E => ∃ a b c, xs = [a, b, c] ∧ f a b c M Q E
def sp4 (f : PV → PV → PV → PV → PM → QV → XQ → Prop) : Sp' := fun xs M Q E => ∃ a b c d, xs = [a, b, c, d] ∧ f a b c d M Q E
section
variable {xs : List PV} {M : PM} {Q : QV} {E : XQ}
theorem sp0_len {f : PM → QV → XQ → Prop} (h : sp0 f xs M Q E) : xs.length = 0 := by obtain ⟨rfl, _⟩ := h; rfl
theorem sp1_len {f : PV → PM → QV → XQ → Prop} (h : sp1 f xs M Q E) : xs.length = 1 := by obtain ⟨_, rfl, _⟩ := h; rfl
theorem sp2_len {f : PV → PV → PM → QV → XQ → Prop} (h : sp2 f xs M Q E) : xs.length = 2 := by obtain ⟨_, _, rfl, _⟩ := h; rfl
theorem sp3_len {f : PV → PV → PV → PM → QV → XQ → Prop} (h : sp3 f xs M Q E) : xs.length = 3 := by obtain ⟨_, _, _, rfl, _⟩ := h; rfl
theorem sp4_len {f : PV → PV → PV → PV → PM → QV → XQ → Prop} (h : sp4 f xs M Q E) : xs.length = 4 := by obtain ⟨_, _, _, _, rfl, _⟩ := h; rfl
@[simp] theorem sp0_app {f : PM → QV → XQ → Prop} : sp0 f [] M Q E = f M Q E := by simp [sp0]
@[simp] theorem sp1_app {f : PV → PM → QV → XQ → Prop} {a : PV} : sp1 f [a] M Q E = f a M Q E := by simp [sp1]
@[simp] theorem sp2_app {f : PV → PV → PM → QV → XQ → Prop} {a b : PV} : sp2 f [a, b] M Q E = f a b M Q E := by
  simp only [sp2, List.cons.injEq, and_true, eq_iff_iff]
  exact ⟨fun ⟨a', b', ⟨h1, h2⟩, h⟩ => by subst h1 h2; exact h, fun h => ⟨a, b, ⟨rfl, rfl⟩, h⟩⟩
@[simp] theorem sp3_app {f : PV → PV → PV → PM → QV → XQ → Prop} {a b c : PV} : sp3 f [a, b, c] M Q E = f a b c M Q E := by
  simp only [sp3, List.cons.injEq, and_true, eq_iff_iff]
  exact ⟨fun ⟨a', b', c', ⟨h1, h2, h3⟩, h⟩ => by subst h1 h2 h3; exact h, fun h => ⟨a, b, c, ⟨rfl, rfl, rfl⟩, h⟩⟩
@[simp] theorem sp4_app {f : PV → PV → PV → PV → PM → QV → XQ → Prop} {a b c d : PV} : sp4 f [a, b, c, d] M Q E = f a b c d M Q E := by
  simp only [sp4, List.cons.injEq, and_true, eq_iff_iff]
  exact ⟨fun ⟨a', b', c', d', ⟨h1, h2, h3, h4⟩, h⟩ => by subst h1 h2 h3 h4; exact h, fun h => ⟨a, b, c, d, ⟨rfl, rfl, rfl, rfl⟩, h⟩⟩
end
/-! ### kinds -/
def isIntB : PV → Bool
  | .int _ => true
  | .bl _ => true
  | _ => false
def isBlB : PV → Bool
  | .bl _ => true
  | _ => false
def isTupB : PV → Bool
  | .tup _ => true
  | _ => false
def isStrB : PV → Bool
  | .str _ => true
  | _ => false
def isWholeB : PV → Bool
  | .int _ => true
  | _ => false
theorem isi_int {M : PM} {x : PV} (h : x.isR = true) : isi "int" M x = some (isIntB x) := by
  cases x <;> first | (simp [PV.isR] at h; done) | (show kitB _ "int" = some true; decide +kernel) | (show kitB _ "int" = some false; decide +kernel)
theorem isi_bool {M : PM} {x : PV} (h : x.isR = true) : isi "bool" M x = some (isBlB x) := by
  cases x <;> first | (simp [PV.isR] at h; done) | (show kitB _ "bool" = some true; decide +kernel) | (show kitB _ "bool" = some false; decide +kernel)
theorem isi_tuple {M : PM} {x : PV} (h : x.isR = true) : isi "tuple" M x = some (isTupB x) := by
  cases x <;> first | (simp [PV.isR] at h; done) | (show kitB _ "tuple" = some true; decide +kernel) | (show kitB _ "tuple" = some false; decide +kernel)
theorem isi_str {M : PM} {x : PV} (h : x.isR = true) : isi "str" M x = some (isStrB x) := by
  cases x <;> first | (simp [PV.isR] at h; done) | (show kitB _ "str" = some true; decide +kernel) | (show kitB _ "str" = some false; decide +kernel)
theorem isR_tup {xs : List PV} : (PV.tup xs).isR = PV.areR xs := by simp [PV.isR]
theorem isR_lst {xs : List PV} : (PV.lst xs).isR = PV.areR xs := by simp [PV.isR]
theorem areR_iff : ∀ {xs : List PV}, PV.areR xs = true ↔ ∀ x ∈ xs, x.isR = true
  | [] => by simp [PV.areR]
  | x :: xs => by
    unfold PV.areR
    rw [Bool.and_eq_true, areR_iff]
    simp
theorem areR_get {xs : List PV} {i : Nat} {x : PV} (h : PV.areR xs = true) (e : xs[i]? = some x) : x.isR = true := areR_iff.mp h x (List.mem_of_getElem? e)
theorem atI_zero {α : Type} {x : α} {xs : List α} : atI (x :: xs) 0 = some x := by
  unfold atI ixN
  rw [if_pos (by decide), if_pos (by simp only [List.length_cons]; omega)]; rfl
theorem atI_one {α : Type} {x y : α} {xs : List α} : atI (x :: y :: xs) 1 = some y := by
  unfold atI ixN
  rw [if_pos (by decide), if_pos (by simp only [List.length_cons]; omega)]; rfl
theorem atI_natCast {α : Type} {xs : List α} {i : Int} {j : Nat} {x : α} (e : i = (j : Int)) (h : xs[j]? = some x) : atI xs i = some x := by
  subst e
  have hj := (List.getElem?_eq_some_iff.mp h).1
  unfold atI ixN
  rw [if_pos (by omega), if_pos (by omega)]
  simpa using h
/-- a comprehension whose turns read nothing that turns: the list of the values -/
theorem lc_pure {tg : Tg} {te : TE'} {σ : PSt} {Qd : List PV → PM → Prop} {M : PM} (f : PV → PV) : ∀ (xs acc : List PV), (∀ x ∈ xs, ∀ N : PV → PM → Prop, N (f x) M → tg.hT x σ M fun σ1 M1 => te σ1 M1 N) → Qd (acc ++ xs.map f) M → lcRun tg pYes te σ Qd xs acc M
  | [], acc, _, h => by simpa [lcRun] using h
  | x :: xs, acc, hs, h => by
    unfold lcRun
    have h1 := hs x (by simp) (fun y M1 => lcRun tg pYes te σ Qd xs (acc ++ [y]) M1) (lc_pure f xs _ (fun x hx => hs x (List.mem_cons_of_mem _ hx)) (by rw [List.append_assoc]; exact h))
    simpa [pYes] using h1
/-! ### readings, where the kinds are known -/
section
variable {σ : PSt} {M : PM} {Q : QV} {x y : PV} {i j : Int} {s u : Str} {xs ys : List PV} {p : Addr} {ns : List Int}
theorem ex_eq {α : Type} {a : α} {p : α → Prop} : (∃ b, some a = some b ∧ p b) = p a := by
  apply propext
  exact ⟨fun ⟨b, e, h⟩ => by cases e; exact h, fun h => ⟨a, rfl, h⟩⟩
theorem okP_int : okP (.int i) := ⟨rfl, by simp [PV.dat, PyData.depth]⟩
theorem eqP_int : eqP (.int i) (.int j) = decide (i = j) := by
  show (i == j) = decide (i = j)
  by_cases h : i = j
  · subst h; simp
  · simp [h]
theorem r_add_int : pAdd (.int i) (.int j) M Q = Q (.int (i + j)) M := rfl
theorem r_add_tup : pAdd (.tup xs) (.tup ys) M Q = (xs.length + ys.length ≤ sizeLine ∧ Q (.tup (xs ++ ys)) M) := rfl
theorem r_add_str : pAdd (.str s) (.str u) M Q = (s.length + u.length ≤ sizeLine ∧ Q (.str (s ++ u)) M) := rfl
theorem r_add_lst : pAdd (.lst xs) (.lst ys) M Q = (xs.length + ys.length ≤ sizeLine ∧ Q (.lst (xs ++ ys)) M) := by
  apply propext
  constructor
  · rintro ⟨a, b, h1, h2, h3, h4⟩
    cases h1; cases h2
    exact ⟨h3, h4⟩
  · rintro ⟨h3, h4⟩
    exact ⟨xs, ys, rfl, rfl, h3, h4⟩
theorem r_sub : iSub (.int i) (.int j) M Q = Q (.int (i - j)) M := rfl
theorem r_lt : iLt (.int i) (.int j) M Q = Q (.bl (decide (i < j))) M := rfl
theorem r_le : iLe (.int i) (.int j) M Q = Q (.bl (decide (i ≤ j))) M := rfl
theorem r_gt : iGt (.int i) (.int j) M Q = Q (.bl (decide (j < i))) M := rfl
theorem r_ge : iGe (.int i) (.int j) M Q = Q (.bl (decide (j ≤ i))) M := rfl
theorem r_mod : iMod (.int i) (.int j) M Q = (0 < j ∧ Q (.int (i % j)) M) := rfl
theorem r_fdiv : iFdiv (.int i) (.int j) M Q = (CDiv i j ∧ Q (.int (i / j)) M) := rfl
theorem r_pow : iPow (.int i) (.int j) M Q = (CPow i j ∧ Q (.int (i ^ j.toNat)) M) := rfl
theorem r_mul_int : pMul (.int i) (.int j) M Q = (CMul i j ∧ Q (.int (i * j)) M) := rfl
theorem r_mul_tup : pMul (.tup xs) (.int j) M Q = (0 ≤ j ∧ j ≤ 1000 ∧ xs.length ≤ 1000 ∧ Q (.tup (repP j.toNat xs)) M) := rfl
theorem r_eq_int : pEq (.int i) (.int j) M Q = Q (.bl (decide (i = j))) M := by
  show (okP (.int i) ∧ okP (.int j) ∧ Q (.bl (eqP (.int i) (.int j))) M) = _
  rw [eqP_int]
  exact propext ⟨fun h => h.2.2, fun h => ⟨okP_int, okP_int, h⟩⟩
theorem r_ne_int : pNe (.int i) (.int j) M Q = Q (.bl (!decide (i = j))) M := by
  show (okP (.int i) ∧ okP (.int j) ∧ Q (.bl (!eqP (.int i) (.int j))) M) = _
  rw [eqP_int]
  exact propext ⟨fun h => h.2.2, fun h => ⟨okP_int, okP_int, h⟩⟩
theorem r_eq_str : pEq (.str s) (.str u) M Q = Q (.bl (decide (s = u))) M := rfl
theorem r_ne_str : pNe (.str s) (.str u) M Q = Q (.bl (!decide (s = u))) M := rfl
theorem r_eq_nil : pEq (.tup xs) (.tup []) M Q = Q (.bl xs.isEmpty) M := rfl
theorem r_len_tup : pLen [.tup xs] M Q = Q (.int xs.length) M := ex_eq
theorem r_len_lst : pLen [.lst xs] M Q = Q (.int xs.length) M := ex_eq
theorem r_len_scr : pLen [.scr ns] M Q = Q (.int ns.length) M := rfl
theorem r_len_str : pLen [.str s] M Q = (s.length ≤ sizeLine ∧ Q (.int s.length) M) := rfl
theorem r_ix_tup : pIx (.tup xs) (.int i) M Q = ∃ u, atI xs i = some u ∧ Q u M := by
  apply propext
  exact ⟨fun ⟨a, u, h1, h2, h3⟩ => by cases h1; exact ⟨u, h2, h3⟩, fun ⟨u, h2, h3⟩ => ⟨xs, u, rfl, h2, h3⟩⟩
theorem r_ix_lst : pIx (.lst xs) (.int i) M Q = ∃ u, atI xs i = some u ∧ Q u M := by
  apply propext
  exact ⟨fun ⟨a, u, h1, h2, h3⟩ => by cases h1; exact ⟨u, h2, h3⟩, fun ⟨u, h2, h3⟩ => ⟨xs, u, rfl, h2, h3⟩⟩
theorem r_ix_scr : pIx (.scr ns) (.int i) M Q = ∃ n, atI ns i = some n ∧ Q (.int n) M := rfl
theorem r_tuple_lst : pTuple [.lst xs] M Q = (xs.length ≤ sizeLine ∧ Q (.tup xs) M) := ex_eq (α := List PV) (a := xs) (p := fun (ys : List PV) => ys.length ≤ sizeLine ∧ Q (.tup ys) M)
theorem r_tuple_tup : pTuple [.tup xs] M Q = (xs.length ≤ sizeLine ∧ Q (.tup xs) M) := ex_eq (α := List PV) (a := xs) (p := fun (ys : List PV) => ys.length ≤ sizeLine ∧ Q (.tup ys) M)
theorem r_list_tup : pList [.tup xs] M Q = (xs.length ≤ sizeLine ∧ Q (.lst xs) M) := ex_eq (α := List PV) (a := xs) (p := fun (ys : List PV) => ys.length ≤ sizeLine ∧ Q (.lst ys) M)
theorem r_list_lst : pList [.lst xs] M Q = (xs.length ≤ sizeLine ∧ Q (.lst xs) M) := ex_eq (α := List PV) (a := xs) (p := fun (ys : List PV) => ys.length ≤ sizeLine ∧ Q (.lst ys) M)
theorem r_listM_tup : pListM [.tup xs] M Q = ∀ p, M p = none → Q (.ref p) (put M p (.lst xs)) := ex_eq (p := fun ys => ∀ p, M p = none → Q (.ref p) (put M p (.lst ys)))
theorem r_max : pMax2 [.int i, .int j] M Q = Q (.int (if j > i then j else i)) M := rfl
theorem r_min : pMin2 [.int i, .int j] M Q = Q (.int (if j < i then j else i)) M := rfl
theorem r_it_tup {R : List PV → PM → Prop} : (∃ ys, asIt (.tup xs) = some ys ∧ R ys M) = R xs M := ex_eq (p := fun ys => R ys M)
theorem r_it_lst {R : List PV → PM → Prop} : (∃ ys, asIt (.lst xs) = some ys ∧ R ys M) = R xs M := ex_eq (p := fun ys => R ys M)
theorem r_it_scr {R : List PV → PM → Prop} : (∃ ys, asIt (.scr ns) = some ys ∧ R ys M) = R (ns.map PV.int) M := ex_eq (p := fun ys => R ys M)
theorem r_cut_tup {lo hi : Option Int} : pCut M (.tup xs) lo hi Q = Q (.tup (cutP xs lo hi)) M := rfl
theorem r_cut_lst {lo hi : Option Int} : pCut M (.lst xs) lo hi Q = (xs.length ≤ sizeLine ∧ Q (.lst (cutP xs lo hi)) M) := ex_eq (α := List PV) (a := xs) (p := fun (ys : List PV) => ys.length ≤ sizeLine ∧ Q (.lst (cutP ys lo hi)) M)
theorem r_all {bs : List Bool} : pAll [.lst (bs.map PV.bl)] M Q = Q (.bl (bs.all id)) M := by
  apply propext
  constructor
  · rintro ⟨ys, cs, h1, h2, h3⟩
    cases h1
    rw [asB_map] at h2
    cases h2
    exact h3
  · intro h
    exact ⟨_, bs, rfl, asB_map bs, h⟩
theorem r_any {bs : List Bool} : pAny [.lst (bs.map PV.bl)] M Q = Q (.bl (bs.any id)) M := by
  apply propext
  constructor
  · rintro ⟨ys, cs, h1, h2, h3⟩
    cases h1
    rw [asB_map] at h2
    cases h2
    exact h3
  · intro h
    exact ⟨_, bs, rfl, asB_map bs, h⟩
end
end PL

namespace PL
open PySem PySem.Spec PyProof.Rows L2
/-! ### the room that a thing's text takes -/
mutual
def PV.wt : PV → Nat
  | .non | .bl _ => 8
  | .int i => i.natAbs.log2 + 4
  | .str x => (reprText x).length + 4
  | .tup xs => 5 + PV.wts xs
  | .lst xs => 5 + PV.wts xs
  | .dct kvs => 5 + PV.wtk kvs
  | _ => 0
def PV.wts : List PV → Nat
  | [] => 0
  | x :: xs => (x.wt + 2) + PV.wts xs
def PV.wtk : List (Key × PV) → Nat
  | [] => 0
  | (k, x) :: r => (match k with | .inl i => i.natAbs.log2 + 4 | .inr s => (reprText s).length) + (x.wt + 4) + PV.wtk r
end
theorem int_shown (i : Int) : (PyData.shown (.int i)).length ≤ i.natAbs.log2 + 3 := by
  have h := int_text_length_le (a := i) (k := i.natAbs.log2 + 1) (by omega) (by omega)
  have e : (PyData.shown (.int i)).length = (toString i).length := by
    simp only [PyData.shown]
    exact PySem.ofString_length _
  omega
mutual
theorem shown_wt : ∀ x : PV, x.isR = true → x.dat.shown.length ≤ x.wt
  | .non, _ => by show 4 ≤ 8; decide
  | .bl b, _ => by cases b <;> (show _ ≤ 8; decide)
  | .int i, _ => by
    have := int_shown i
    simp only [PV.dat, PV.wt]; omega
  | .str x, _ => by
    simp only [PV.dat, PV.wt, PyData.shown]; omega
  | .tup xs, h => by
    have h1 := shown_wts xs (by simpa [PV.isR] using h)
    have h2 := tupleText_len_le (PyData.shownAll (PV.dats xs))
    have h3 := PyData.shownAll_length (PV.dats xs)
    simp only [PV.dat, PV.wt, PyData.shown]
    omega
  | .lst xs, h => by
    have h1 := shown_wts xs (by simpa [PV.isR] using h)
    have h2 := listText_len_le (PyData.shownAll (PV.dats xs))
    have h3 := PyData.shownAll_length (PV.dats xs)
    simp only [PV.dat, PV.wt, PyData.shown]
    omega
  | .dct kvs, h => by
    have h1 := shown_wtk kvs (by simpa [PV.isR] using h)
    have h2 := dictText_len_le (PyData.shownKv (PV.datk kvs))
    have h3 := PyData.shownKv_length (PV.datk kvs)
    simp only [PV.dat, PV.wt, PyData.shown]
    omega
  | .scr ns, h => by simp [PV.isR] at h
  | .ref a, h => by simp [PV.isR] at h
  | .ty n, h => by simp [PV.isR] at h
theorem shown_wts : ∀ xs : List PV, PV.areR xs = true → ((PyData.shownAll (PV.dats xs)).map (·.length)).sum + 2 * (PV.dats xs).length ≤ PV.wts xs
  | [], _ => by simp [PV.dats, PyData.shownAll]
  | x :: xs, h => by
    have h' : x.isR = true ∧ PV.areR xs = true := by simpa [PV.areR] using h
    have h1 := shown_wt x h'.1
    have h2 := shown_wts xs h'.2
    simp only [PV.dats, PyData.shownAll, List.map_cons, List.sum_cons, List.length_cons, PV.wts]
    omega
theorem shown_wtk : ∀ xs : List (Key × PV), PV.arkR xs = true → ((PyData.shownKv (PV.datk xs)).map (·.length)).sum + 2 * (PV.datk xs).length ≤ PV.wtk xs
  | [], _ => by simp [PV.datk, PyData.shownKv]
  | (k, x) :: xs, h => by
    have h' : x.isR = true ∧ PV.arkR xs = true := by
      unfold PV.arkR at h
      simp only [Bool.and_eq_true] at h
      exact ⟨h.1.2, h.2⟩
    have h1 := shown_wt x h'.1
    have h2 := shown_wtk xs h'.2
    cases k with
    | inl i =>
      have h3 := int_shown i
      simp only [PV.datk, PyData.shownKv, List.map_cons, List.sum_cons, List.length_cons, PV.wtk, strLen_append, PyData.shown] at h3 ⊢
      show _ + 2 + _ + _ + _ ≤ _
      omega
    | inr s =>
      simp only [PV.datk, PyData.shownKv, List.map_cons, List.sum_cons, List.length_cons, PV.wtk, strLen_append, PyData.shown]
      show _ + 2 + _ + _ + _ ≤ _
      omega
end
theorem wts_append : ∀ xs ys : List PV, PV.wts (xs ++ ys) = PV.wts xs + PV.wts ys
  | [], ys => by simp [PV.wts]
  | x :: xs, ys => by rw [List.cons_append]; simp only [PV.wts]; rw [wts_append xs ys]; omega
theorem wts_mem : ∀ {xs : List PV} {x : PV}, x ∈ xs → x.wt + 2 ≤ PV.wts xs
  | y :: ys, x, h => by
    simp only [PV.wts]
    rcases List.mem_cons.mp h with rfl | h
    · omega
    · have := wts_mem h; omega
theorem wts_len : ∀ {xs : List PV}, 2 * xs.length ≤ PV.wts xs
  | [] => by simp
  | x :: xs => by have := @wts_len xs; simp only [PV.wts, List.length_cons]; omega
theorem areR_append {xs ys : List PV} (h1 : PV.areR xs = true) (h2 : PV.areR ys = true) : PV.areR (xs ++ ys) = true := by
  rw [areR_iff] at *
  intro x hx
  rcases List.mem_append.mp hx with h | h
  · exact h1 x h
  · exact h2 x h
def PV.dep (x : PV) : Nat := x.dat.depth
def PV.deps (xs : List PV) : Nat := PyData.depthAll (PV.dats xs)
theorem deps_cons {x : PV} {xs : List PV} : PV.deps (x :: xs) = max x.dep (PV.deps xs) := by unfold PV.deps PV.dep; simp only [PV.dats, PyData.depthAll]
theorem dep_tup {xs : List PV} : (PV.tup xs).dep = PV.deps xs + 1 := by unfold PV.deps PV.dep; simp only [PV.dat, PyData.depth]
theorem dep_lst {xs : List PV} : (PV.lst xs).dep = PV.deps xs + 1 := by unfold PV.deps PV.dep; simp only [PV.dat, PyData.depth]
theorem deps_le {n : Nat} : ∀ {xs : List PV}, PV.deps xs ≤ n ↔ ∀ x ∈ xs, x.dep ≤ n
  | [] => by simp [PV.deps, PV.dats, PyData.depthAll]
  | x :: xs => by rw [deps_cons, Nat.max_le, deps_le]; simp
/-- shown, to a depth and within a room -/
structure Sm (D W : Nat) (x : PV) : Prop where
  r : x.isR = true
  d : x.dep ≤ D
  w : x.wt ≤ W
structure Sms (D W : Nat) (xs : List PV) : Prop where
  r : PV.areR xs = true
  d : PV.deps xs ≤ D
  w : PV.wts xs ≤ W
theorem Sm.mono {D W D' W' : Nat} {x : PV} (h : Sm D W x) (h1 : D ≤ D') (h2 : W ≤ W') : Sm D' W' x := ⟨h.r, Nat.le_trans h.d h1, Nat.le_trans h.w h2⟩
theorem Sms.mono {D W D' W' : Nat} {x : List PV} (h : Sms D W x) (h1 : D ≤ D') (h2 : W ≤ W') : Sms D' W' x := ⟨h.r, Nat.le_trans h.d h1, Nat.le_trans h.w h2⟩
theorem Sms.nil {D W : Nat} : Sms D W [] := ⟨rfl, Nat.zero_le _, Nat.zero_le _⟩
theorem Sms.one {D W : Nat} {x : PV} (h : Sm D W x) : Sms D (W + 2) [x] := ⟨areR_iff.mpr (by simpa using h.r), deps_le.mpr (by simpa using h.d), by have := h.w; simp only [PV.wts]; omega⟩
theorem Sms.append {D W V : Nat} {xs ys : List PV} (h1 : Sms D W xs) (h2 : Sms D V ys) : Sms D (W + V) (xs ++ ys) :=
  ⟨areR_append h1.r h2.r, deps_le.mpr fun x hx => (List.mem_append.mp hx).elim (deps_le.mp h1.d x) (deps_le.mp h2.d x), by rw [wts_append]; exact Nat.add_le_add h1.w h2.w⟩
theorem Sms.split {D W : Nat} {xs ys : List PV} (h : Sms D W (xs ++ ys)) : Sms D W xs ∧ Sms D W ys := by
  have h1 := areR_iff.mp h.r
  have h2 := deps_le.mp h.d
  have h3 := h.w
  rw [wts_append] at h3
  exact ⟨⟨areR_iff.mpr fun x hx => h1 x (List.mem_append_left _ hx), deps_le.mpr fun x hx => h2 x (List.mem_append_left _ hx), by omega⟩,
    ⟨areR_iff.mpr fun x hx => h1 x (List.mem_append_right _ hx), deps_le.mpr fun x hx => h2 x (List.mem_append_right _ hx), by omega⟩⟩
theorem Sms.mem {D W : Nat} {xs : List PV} {x : PV} (h : Sms D W xs) (hx : x ∈ xs) : Sm D (W - 2) x := ⟨areR_iff.mp h.r x hx, deps_le.mp h.d x hx, by have := wts_mem hx; have := h.w; omega⟩
theorem Sms.len {D W : Nat} {xs : List PV} (h : Sms D W xs) : 2 * xs.length ≤ W := Nat.le_trans wts_len h.w
theorem Sm.tup {D W : Nat} {xs : List PV} (h : Sms D W xs) : Sm (D + 1) (5 + W) (.tup xs) := ⟨by rw [isR_tup]; exact h.r, by rw [dep_tup]; exact Nat.succ_le_succ h.d, by simp only [PV.wt]; exact Nat.add_le_add_left h.w 5⟩
theorem Sm.lst {D W : Nat} {xs : List PV} (h : Sms D W xs) : Sm (D + 1) (5 + W) (.lst xs) := ⟨by rw [isR_lst]; exact h.r, by rw [dep_lst]; exact Nat.succ_le_succ h.d, by simp only [PV.wt]; exact Nat.add_le_add_left h.w 5⟩
theorem Sm.of_tup {D W : Nat} {xs : List PV} (h : Sm D W (.tup xs)) : 1 ≤ D ∧ 5 ≤ W ∧ Sms (D - 1) (W - 5) xs := by
  have h1 := h.d
  have h2 := h.w
  have h3 := h.r
  rw [dep_tup] at h1
  simp only [PV.wt] at h2
  exact ⟨by omega, by omega, ⟨by rw [← isR_tup]; exact h3, by omega, by omega⟩⟩
theorem Sm.of_lst {D W : Nat} {xs : List PV} (h : Sm D W (.lst xs)) : 1 ≤ D ∧ 5 ≤ W ∧ Sms (D - 1) (W - 5) xs := by
  have h1 := h.d
  have h2 := h.w
  have h3 := h.r
  rw [dep_lst] at h1
  simp only [PV.wt] at h2
  exact ⟨by omega, by omega, ⟨by rw [← isR_lst]; exact h3, by omega, by omega⟩⟩
theorem log2_near {i d : Int} (h : d.natAbs ≤ 4) : (i + d).natAbs.log2 ≤ i.natAbs.log2 + 3 := by
  by_cases h0 : (i + d).natAbs = 0
  · rw [h0, Nat.log2_zero]; omega
  · have h1 : (i + d).natAbs ≤ i.natAbs + 4 := by omega
    have h2 : i.natAbs < 2 ^ (i.natAbs.log2 + 1) := Nat.lt_log2_self
    have h3 : (i + d).natAbs < 2 ^ (i.natAbs.log2 + 4) := by
      have e : 2 ^ (i.natAbs.log2 + 4) = 8 * 2 ^ (i.natAbs.log2 + 1) := by
        rw [show i.natAbs.log2 + 4 = (i.natAbs.log2 + 1) + 3 from rfl, Nat.pow_add]; omega
      have e2 : 1 ≤ 2 ^ (i.natAbs.log2 + 1) := Nat.one_le_two_pow
      omega
    have := (Nat.log2_lt h0).mpr h3
    omega
theorem Sm.int {D : Nat} {i : Int} {W : Nat} (h : i.natAbs.log2 + 4 ≤ W) (hW : W ≤ 1900) : Sm D W (.int i) := ⟨by simp only [PV.isR, decide_eq_true_eq]; omega, Nat.zero_le _, h⟩
theorem Sm.int_small {D : Nat} {i : Int} (h : i.natAbs < 2 ^ 40) : Sm D 44 (.int i) := Sm.int (by
  by_cases h0 : i.natAbs = 0
  · rw [h0, Nat.log2_zero]; omega
  · have := (Nat.log2_lt h0).mpr h; omega) (by decide)
theorem Sm.near {D W : Nat} {i d : Int} (h : Sm D W (.int i)) (hd : d.natAbs ≤ 4) (hW : W + 3 ≤ 1900) : Sm D (W + 3) (.int (i + d)) := by
  have h1 := h.w
  have h2 := log2_near (i := i) hd
  simp only [PV.wt] at h1
  exact Sm.int (by omega) hW
theorem Sm.bl {D W : Nat} {b : Bool} (h : 8 ≤ W) : Sm D W (.bl b) := ⟨rfl, Nat.zero_le _, h⟩
theorem Sm.non {D W : Nat} (h : 8 ≤ W) : Sm D W .non := ⟨rfl, Nat.zero_le _, h⟩
section
variable {σ : PSt} {M : PM} {Q : QV} {x y : PV}
theorem Sm.repr {D W : Nat} (h : Sm D W x) (hD : D ≤ 64) (hW : W ≤ 10000000) (q : Q (.str x.dat.shown) M) : pRepr [x] M Q :=
  ⟨h.r, Nat.le_trans h.d hD, by have := shown_wt x h.r; have := h.w; rw [sizeLine_eq]; omega, q⟩
end
/-! ### the pen -/
def PenAt (M : PM) (p : Addr) (k : Int) : Prop := ∃ a b c : Int, M p = some (.lst [.int a, .int b, .int c]) ∧ 0 ≤ a ∧ 0 ≤ b ∧ b < 1000000007 ∧ 0 ≤ c ∧ c ≤ k
def But (p : Addr) (M M' : PM) : Prop := ∀ q, q ≠ p → M' q = M q
theorem But.refl {p : Addr} {M : PM} : But p M M := fun _ _ => rfl
theorem But.trans {p : Addr} {M M' M'' : PM} (h : But p M M') (h' : But p M' M'') : But p M M'' := fun q hq => (h' q hq).trans (h q hq)
theorem But.put {p : Addr} {M : PM} {o : MO} : But p M (put M p o) := fun _ hq => put_ne hq
theorem PenAt.mono {M : PM} {p : Addr} {k k' : Int} (h : PenAt M p k) (e : k ≤ k') : PenAt M p k' := by
  obtain ⟨a, b, c, h1, h2, h3, h4, h5, h6⟩ := h
  exact ⟨a, b, c, h1, h2, h3, h4, h5, by omega⟩
theorem PenAt.eq {M M' : PM} {p : Addr} {k : Int} (h : PenAt M p k) (e : M' p = M p) : PenAt M' p k := by
  obtain ⟨a, b, c, h1, h2⟩ := h
  exact ⟨a, b, c, e.trans h1, h2⟩
theorem PenAt.ne {M : PM} {p q : Addr} {k : Int} (h : PenAt M p k) (hq : M q = none) : q ≠ p := by
  rintro rfl
  obtain ⟨a, b, c, h1, _⟩ := h
  rw [hq] at h1
  exact absurd h1 (by simp)
/-- back to the store at entry, with the pen as it is now -/
theorem pen_back {Q : QV} {x : PV} {M0 M : PM} {p : Addr} (hs : ∀ q, q ≠ p → ∀ o, M0 q = some o → M q = some o) (h : Q x (fun q => if q = p then M q else M0 q)) : Fewer Q x M :=
  ⟨_, fun a o e => by
    by_cases ha : a = p
    · simpa [ha] using e
    · rw [if_neg ha] at e; exact hs a ha o e, h⟩
theorem pen_now {M0 M : PM} {p : Addr} {k : Int} (h : PenAt M p k) : PenAt (fun q => if q = p then M q else M0 q) p k := h.eq (by simp)
theorem but_now {M0 M : PM} {p : Addr} : But p M0 (fun q => if q = p then M q else M0 q) := fun q hq => by simp [hq]
theorem fnp_never {P : Program} {w : World} {K : PySem.W.Frag} {mg : Str → Option Value} {base : Heap} {CX : CXT} {k : Nat} {f : Addr} {fd : FuncData} {ps : List Str} : FnP P w K mg base CX k f fd ps (fun _ _ _ _ => False) :=
  ⟨fun _ _ _ _ h => h.elim, fun A outer s H args us vs Q E hg hr e0 hb r ⟨B, F, M, xs, Q', E', R, rs, hsp, po, px⟩ => hsp.elim⟩
theorem for_all {g : TG'} {tb : TS'} {D : Ends'} {M : PM} (p : PV → Bool) (S : PSt → Prop) : ∀ {xs : List PV} {σ : PSt}, S σ →
    (∀ x ∈ xs, ∀ σ, S σ → ∀ N : PSt → PM → Prop, (p x = true → ∀ σ', S σ' → N σ' M) → g x σ M fun σ1 M1 => tb { nx := N, rt := D.rt, bk := D.nx, ct := N } σ1 M1) → (xs.all p = true → ∀ σ, S σ → D.nx σ M) → forRun g tb D xs σ M
  | [], σ, h0, hs, hd => hd rfl σ h0
  | x :: xs, σ, h0, hs, hd => by
    unfold forRun
    refine hs x (by simp) σ h0 _ fun hp σ' h' => for_all p S h' (fun y hy => hs y (List.mem_cons_of_mem _ hy)) fun ha => hd (by rw [List.all_cons, hp, ha]; rfl)
def smB (D W : Nat) (x : PV) : Bool := x.isR && decide (x.dep ≤ D) && decide (x.wt ≤ W)
theorem Sm.ofB {D W : Nat} {x : PV} (h : smB D W x = true) : Sm D W x := by
  unfold smB at h
  simp only [Bool.and_eq_true, decide_eq_true_eq] at h
  exact ⟨h.1.1, h.1.2, h.2⟩
theorem Sm.allB {D W : Nat} {xs : List PV} (h : xs.all (smB D W) = true) : ∀ x ∈ xs, Sm D W x := fun x hx => .ofB (List.all_eq_true.mp h x hx)
section
variable {M : PM} {Q : QV} {x y z v : PV} {i : Int} {xs : List PV} {p : Addr}
theorem asL_ref (e : M p = some (.lst xs)) : asL M (.ref p) = some xs := by simp only [asL, e]
theorem asSeq_ref (e : M p = some (.lst xs)) : asSeq M (.ref p) = some xs := asL_ref e
theorem r_ixM (e : M p = some (.lst xs)) : pIx (.ref p) (.int i) M Q = ∃ u, atI xs i = some u ∧ Q u M := by
  apply propext
  constructor
  · rintro ⟨ys, u, h1, h2, h3⟩
    rw [asSeq_ref e] at h1
    cases h1
    exact ⟨u, h2, h3⟩
  · rintro ⟨u, h2, h3⟩
    exact ⟨xs, u, asSeq_ref e, h2, h3⟩
theorem r_tupleM (e : M p = some (.lst xs)) : pTuple [.ref p] M Q = (xs.length ≤ sizeLine ∧ Q (.tup xs) M) := by
  apply propext
  constructor
  · rintro ⟨ys, h1, h2, h3⟩
    rw [asSeq_ref e] at h1
    cases h1
    exact ⟨h2, h3⟩
  · rintro ⟨h2, h3⟩
    exact ⟨xs, asSeq_ref e, h2, h3⟩
theorem r_setM {R : PM → Prop} (e : M p = some (.lst xs)) {j : Nat} (hj : j < xs.length) : setLP (.ref p) (.int (j : Nat)) v M R = R (put M p (.lst (xs.set j v))) := by
  have hi : ixN xs.length ((j : Nat) : Int) = some j := by
    unfold ixN
    rw [if_pos (by omega), if_pos (by omega)]
    simp
  apply propext
  constructor
  · rintro ⟨ys, k, h1, h2, h3⟩
    rw [e] at h1
    cases h1
    rw [hi] at h2
    cases h2
    exact h3
  · intro h
    exact ⟨xs, j, e, hi, h⟩
theorem at3_0 : atI [x, y, z] 0 = some x := rfl
theorem at3_1 : atI [x, y, z] 1 = some y := rfl
theorem at3_2 : atI [x, y, z] 2 = some z := rfl
end
theorem atI_mem {α : Type} {xs : List α} {i : Int} (h0 : 0 ≤ i) (h : i < (xs.length : Int)) : ∃ u, atI xs i = some u ∧ u ∈ xs := by
  have hj : i.toNat < xs.length := by omega
  exact ⟨xs[i.toNat], atI_natCast (j := i.toNat) (by omega) (List.getElem?_eq_getElem hj), List.getElem_mem hj⟩
theorem atI_lt {α : Type} {xs : List α} {i : Int} (h0 : 0 ≤ i) (h : i < (xs.length : Int)) : ∃ (hj : i.toNat < xs.length), atI xs i = some xs[i.toNat] := by
  have hj : i.toNat < xs.length := by omega
  exact ⟨hj, atI_natCast (j := i.toNat) (by omega) (List.getElem?_eq_getElem hj)⟩
theorem rgP_at {lo : Int} {n i : Nat} {x : PV} (h : (rgP lo n)[i]? = some x) : i < n ∧ x = .int (lo + (i : Nat)) := by
  have h1 : i < (rgP lo n).length := (List.getElem?_eq_some_iff.mp h).1
  rw [rgP_length] at h1
  rw [rgP_get h1] at h
  cases h
  exact ⟨h1, rfl⟩
/-- all that stood still stands, but for the pen -/
def Kp (p : Addr) (M M' : PM) : Prop := ∀ a, a ≠ p → ∀ o, M a = some o → M' a = some o
theorem Kp.refl {p : Addr} {M : PM} : Kp p M M := fun _ _ _ e => e
theorem Kp.trans {p : Addr} {M M' M'' : PM} (h : Kp p M M') (h' : Kp p M' M'') : Kp p M M'' := fun a ha o e => h' a ha o (h a ha o e)
theorem But.kp {p : Addr} {M M' : PM} (h : But p M M') : Kp p M M' := fun a ha o e => by rw [h a ha]; exact e
theorem Kp.put {p q : Addr} {M M' : PM} {o : MO} (h : Kp p M M') (hq : M q = none) : Kp p M (PL.put M' q o) := fun a ha o' e => by
  by_cases h1 : a = q
  · subst h1; rw [hq] at e; cases e
  · rw [put_ne h1]; exact h a ha o' e
theorem Kp.but {p : Addr} {M0 M M' : PM} (h : Kp p M0 M) (h' : But p M M') : Kp p M0 M' := h.trans h'.kp
theorem PenAt.put {M : PM} {p q : Addr} {k : Int} {o : MO} (h : PenAt M p k) (hq : q ≠ p) : PenAt (PL.put M q o) p k := h.eq (put_ne (Ne.symm hq))
theorem r_appM {Q : QV} {M : PM} {p : Addr} {xs : List PV} {y : PV} (e : M p = some (.lst xs)) (hz : xs.length < sizeLine) (h : Q .non (put M p (.lst (xs ++ [y])))) : isL (.ref p) M ∧ pAppend (.ref p) [y] M Q :=
  ⟨⟨xs, by simp only [asL, e]⟩, xs, e, hz, h⟩
theorem cut_to {α : Type} {xs : List α} {r : Int} (h : 0 ≤ r) : cutP xs none (some r) = xs.take r.toNat := by
  unfold cutP HT.sIx
  simp only [List.drop_zero, Nat.sub_zero]
  rw [if_neg (by omega), ← List.take_take, List.take_length]
theorem cut_from {α : Type} {xs : List α} {r : Int} (h : 0 ≤ r) : cutP xs (some r) none = xs.drop r.toNat := by
  unfold cutP HT.sIx
  simp only
  rw [if_neg (by omega)]
  by_cases h1 : r.toNat ≤ xs.length
  · rw [Nat.min_eq_left h1]
    exact List.take_of_length_le (by rw [List.length_drop]; exact Nat.le_refl _)
  · rw [Nat.min_eq_right (by omega), List.drop_length, List.drop_of_length_le (by omega)]; simp
theorem cut_mid {α : Type} {xs : List α} {r s : Int} (h : 0 ≤ r) (h' : 0 ≤ s) : ∃ n, cutP xs (some r) (some s) = (xs.drop (min r.toNat xs.length)).take n := by
  unfold cutP HT.sIx
  simp only
  rw [if_neg (by omega), if_neg (by omega)]
  exact ⟨_, rfl⟩
theorem Sms.take {D W : Nat} {xs : List PV} (h : Sms D W xs) (n : Nat) : Sms D W (xs.take n) := (Sms.split (xs := xs.take n) (ys := xs.drop n) (by rw [List.take_append_drop]; exact h)).1
theorem Sms.drop {D W : Nat} {xs : List PV} (h : Sms D W xs) (n : Nat) : Sms D W (xs.drop n) := (Sms.split (xs := xs.take n) (ys := xs.drop n) (by rw [List.take_append_drop]; exact h)).2
theorem Sms.cut {D W : Nat} {xs : List PV} (h : Sms D W xs) (lo hi : Option Int) : Sms D W (cutP xs lo hi) := (h.drop _).take _
theorem wts_reverse (xs : List PV) : PV.wts xs.reverse = PV.wts xs := by
  induction xs with
  | nil => rfl
  | cons x xs ih => rw [List.reverse_cons, wts_append, ih]; simp only [PV.wts]; omega
theorem Sms.reverse {D W : Nat} {xs : List PV} (h : Sms D W xs) : Sms D W xs.reverse :=
  ⟨areR_iff.mpr fun x hx => areR_iff.mp h.r x (List.mem_reverse.mp hx), deps_le.mpr fun x hx => deps_le.mp h.d x (List.mem_reverse.mp hx), by rw [wts_reverse]; exact h.w⟩
theorem Sms.at {D W : Nat} {xs : List PV} (h : Sms D W xs) {j : Nat} (hj : j < xs.length) : ∃ W1 w W2, Sms D W1 (xs.take j) ∧ Sm D w xs[j] ∧ Sms D W2 (xs.drop (j + 1)) ∧ W1 + (w + 2) + W2 ≤ W := by
  refine ⟨PV.wts (xs.take j), xs[j].wt, PV.wts (xs.drop (j + 1)), ⟨(h.take j).r, (h.take j).d, Nat.le_refl _⟩, ⟨areR_iff.mp h.r _ (List.getElem_mem hj), deps_le.mp h.d _ (List.getElem_mem hj), Nat.le_refl _⟩, ⟨(h.drop _).r, (h.drop _).d, Nat.le_refl _⟩, ?_⟩
  have e : xs = xs.take j ++ (xs[j] :: xs.drop (j + 1)) := by rw [← List.drop_eq_getElem_cons hj, List.take_append_drop]
  have h1 : PV.wts xs = PV.wts (xs.take j) + ((xs[j].wt + 2) + PV.wts (xs.drop (j + 1))) := by
    calc PV.wts xs = PV.wts (xs.take j ++ (xs[j] :: xs.drop (j + 1))) := by rw [← e]
      _ = _ := by rw [wts_append]; simp only [PV.wts]
  have := h.w
  omega
theorem r_repr_bl {b : Bool} {M : PM} {Q : QV} : pRepr [.bl b] M Q = Q (.str (PV.bl b).dat.shown) M := by
  apply propext
  constructor
  · exact fun h => h.2.2.2
  · exact fun h => (Sm.bl (D := 0) (W := 8) (Nat.le_refl _)).repr (by decide) (by decide) h
/-- a loop that lays one thing more at each turn -/
theorem for_app {G : TG'} {tb : TS'} {D : Ends'} {q : Addr} {M0 : PM} (g : PV → PV) (S : PSt → Prop) : ∀ {xs : List PV} {acc : List PV} {σ : PSt} {M : PM}, S σ → M q = some (.lst acc) → Kp q M0 M → acc.length + xs.length ≤ 100 →
    (∀ x ∈ xs, ∀ σ M acc, S σ → M q = some (.lst acc) → acc.length < 100 → Kp q M0 M → ∀ N : PSt → PM → Prop, (∀ σ' M', S σ' → M' q = some (.lst (acc ++ [g x])) → Kp q M0 M' → N σ' M') → G x σ M fun σ1 M1 => tb { nx := N, rt := D.rt, bk := D.nx, ct := N } σ1 M1) →
    (∀ σ M', S σ → Kp q M0 M' → M' q = some (.lst (acc ++ xs.map g)) → D.nx σ M') → forRun G tb D xs σ M
  | [], acc, σ, M, h0, h1, h2, h3, hs, hd => hd σ M h0 h2 (by simpa using h1)
  | x :: xs, acc, σ, M, h0, h1, h2, h3, hs, hd => by
    unfold forRun
    simp only [List.length_cons] at h3
    refine hs x (by simp) σ M acc h0 h1 (by omega) h2 _ fun σ' M' s' e' k' => for_app g S s' e' k' (by rw [List.length_append, List.length_singleton]; omega) (fun y hy => hs y (List.mem_cons_of_mem _ hy)) fun σ2 M2 s2 k2 e2 => hd σ2 M2 s2 k2 (by rw [e2]; simp)
theorem Kp.append {q q8 : Addr} {M0 M M' : PM} {o : MO} {u : MO} (h : Kp q M0 M) (hq : M q8 = none) (h' : Kp q8 (PL.put M q8 u) M') : Kp q M0 (PL.put M' q o) := fun a ha o' e => by
  have h1 := h a ha o' e
  have h2 : a ≠ q8 := by rintro rfl; rw [hq] at h1; cases h1
  rw [put_ne ha]
  exact h' a h2 o' (by rw [put_ne h2]; exact h1)
end PL

namespace PL
open PySem PySem.Spec PyProof.Rows L2
/-! ### sources: a tuple or a list -/
def SqK (K : PySem.W.Frag) (kd : Bool) (H : Hp) (a : Addr) (vs : List V) : Prop := match kd with
  | true => SqT K H a vs
  | false => SqL K H a vs
def IsSq (kd : Bool) (h : Heap) (a : Addr) (its : Array Value) : Prop := match kd with
  | true => h.IsTuple a its
  | false => h.IsList a its
def IsIt (kd : Bool) (h : Heap) (it a : Addr) (i : Nat) : Prop := match kd with
  | true => h.IsTupleIter it a i
  | false => h.IsListIter it a i
def itOb (kd : Bool) (a : Addr) : Obj := { cls := .type (match kd with | true => "tuple_iterator" | false => "list_iterator"), data := .fields #[.ref a, .int 0 0] }
theorem sq_begins (kd : Bool) (a : Addr) (its : Array Value) : Begins (.ref a) (itOb kd a) fun h => IsSq kd h a its := by
  cases kd
  · exact begins_list a its
  · exact begins_tuple a its
theorem sq_draws {P : Program} {w : World} {A : Around} (kd : Bool) (hh : A.handled = none) (it a : Addr) (hne : a ≠ it) (its : Array Value) : Draws P w A it [it, a] its.size (fun i v => its[i]? = some v) (fun i h => IsIt kd h it a i ∧ IsSq kd h a its) := by
  cases kd
  · exact Draws.list hh it a hne its
  · exact Draws.tuple hh it a hne its
theorem sq_inv {X : Cx} {pins : List (Addr × Obj)} {σ : L2.St} {H : Hp} {s : Shared} {kd : Bool} {a : Addr} {vs : List V} (I : Inv X pins σ H s) (h : SqK X.K kd H a vs) : ∃ its : List Value, Vals vs its ∧ IsSq kd s.heap a its.toArray := by
  cases kd
  · obtain ⟨its, r, p, _⟩ := I.list h
    exact ⟨its, r, p.isList⟩
  · obtain ⟨its, r, p, _⟩ := I.tuple h
    exact ⟨its, r, p⟩
theorem it_at {kd : Bool} {h h' : Heap} {it a : Addr} {i : Nat} (st : IsIt kd h it a i) (k : ∀ o, h.get? it = some o → h'.get? it = some o) : IsIt kd h' it a i := by
  cases kd
  · exact Heap.IsListIter.at st k
  · exact Heap.IsTupleIter.at st k
theorem it_ob {kd : Bool} {h : Heap} {it a : Addr} {i : Nat} (st : IsIt kd h it a i) : ∃ o, h.get? it = some o ∧ ∀ v, o.data ≠ .cell v := by
  cases kd
  · obtain ⟨o, e, _, d⟩ := st
    exact ⟨o, e, fun v q => by rw [d] at q; cases q⟩
  · obtain ⟨o, e, _, d⟩ := st
    exact ⟨o, e, fun v q => by rw [d] at q; cases q⟩
theorem it_new {kd : Bool} {h : Heap} {it a : Addr} (e : h.get? it = some (itOb kd a)) : IsIt kd h it a 0 := by
  cases kd
  · exact ⟨_, e, rfl, rfl⟩
  · exact ⟨_, e, rfl, rfl⟩
/-! ### rows of new tuples -/
def JR (C : Hp → Prop) (rows : List (List V)) : It :=
  ⟨fun i H => C H ∧ i < rows.length, fun i H v H' => ∃ T r o, rows[i]? = some r ∧ v = .ref T ∧ H T = none ∧ o.dict = none ∧ H' = upd H T (.frz o (.tup r)) ∧ r.length ≤ sizeLine, fun i H => C H ∧ i = rows.length⟩
theorem turn_of {P : Program} {w : World} {K : PySem.W.Frag} {tg : Expr} {z : Addr} {ch : List Addr} {C : Hp → Prop} {rows : List (List V)} {tn : Nat → Heap → Prop} (mem : z ∈ ch)
    (obj : ∀ i h, tn i h → ∀ b ∈ ch, ∃ o, h.get? b = some o ∧ ∀ v, o.data ≠ .cell v) (keep : ∀ i h h', tn i h → (∀ b ∈ ch, ∀ o, h.get? b = some o → h'.get? b = some o) → tn i h')
    (self : ∀ (A : Around) (i : Nat) (s : Shared) (Q : Value → Shared → Prop) (E : Value → Shared → Prop), tn i s.heap → Q (.ref z) s → wpAny (model P w) A (pyIter (.ref z)) Q E s)
    (G : ∀ (X : Cx) (pins : List (Addr × Obj)) (σ : L2.St) (H : Hp) (s : Shared), X.prog = P → X.w = w → X.K = K → X.A.handled = none → Inv X pins σ H s → C H → ∃ (fp wr : List Addr) (Y : Nat → Heap → Value → Heap → Prop) (St : Nat → Heap → Prop),
      GoesN P w X.A tg z fp wr rows.length Y St ∧ (∀ b ∈ wr, b ∈ ch) ∧ (∀ i, tn i s.heap → St i s.heap) ∧ (∀ i h', St i h' → tn i h') ∧
      ∀ i v h', Y i s.heap v h' → i < rows.length → ∃ T vals r, v = .ref T ∧ s.heap.objs.size ≤ T ∧ h'.get? T = some { cls := .type "tuple", data := .seq vals.toArray } ∧ rows[i]? = some r ∧ Vals r vals ∧ r.length ≤ sizeLine) :
    Turn P w K tg (JR C rows) ch z tn where
  mem := mem
  obj := obj
  keep := keep
  self := self
  item := by
    intro X hP hw hK hc i pins s σ H E I hf st hg
    obtain ⟨hC, hi⟩ := hg
    obtain ⟨fp, wr, Y, St, W, hwr, s1, s2, y⟩ := G X pins σ H s hP hw hK (I.ok.hd hc) I hC
    refine W.goes i s (fun v s2 => ∃ x H', Inv X pins σ H' s2 ∧ RelV x v ∧ (JR C rows).yld i H x H' ∧ tn (i + 1) s2.heap ∧ ∀ b ∈ ch, H' b = none) E hi (s1 i st) fun v h' tk hY st' hk htk => ?_
    obtain ⟨T, vals, r, rfl, hT, hI, hr, rv, hz⟩ := y i v h' hY hi
    subst hP hw hK
    have hl : r.length = vals.length := rv.length
    have new : ObjOk X.prog X.w (upd H T (.frz { cls := .type "tuple", data := .seq vals.toArray } (.tup r))) h' T (.frz { cls := .type "tuple", data := .seq vals.toArray } (.tup r)) := ⟨hI, hz, vals, rv, ⟨_, hI, rfl, _, rfl⟩⟩
    refine ⟨.ref T, upd H T (.frz { cls := .type "tuple", data := .seq vals.toArray } (.tup r)), I.turnedNew (t' := tk) (ch := ch) (fun b o hb e => hk b o (fun q => hb (hwr b q)) e) hf hT new, rfl, ⟨T, r, _, hr, rfl, I.hok.fresh hT, rfl, rfl, hz⟩, s2 _ _ st', fun b hb => ?_⟩
    obtain ⟨o, eo, _⟩ := obj i _ st b hb
    rw [upd_ne (Nat.ne_of_lt (Nat.lt_of_lt_of_le (Heap.lt_size eo) hT))]
    exact (hf b hb).1
  done := by
    intro X hP hw hK hc i pins s σ H E I hf st hg
    obtain ⟨hC, hi⟩ := hg
    subst hi
    obtain ⟨fp, wr, Y, St, W, hwr, s1, s2, y⟩ := G X pins σ H s hP hw hK (I.ok.hd hc) I hC
    refine W.stops s (fun s2 => Inv X pins σ H s2) E (s1 _ st) fun h' tk hk htk => ?_
    exact I.turnedL (t' := tk) (ch := ch) (fun b o hb e => hk b o (fun q => hb (hwr b q)) e) hf
/-- the walk of new tuples, in the pure layer -/
theorem itok_rows {F0 : Fix} {K : PySem.W.Frag} {F : Hp} {C : Hp → Prop} {rows : List (List V)} {xss : List (List PV)} (hC : ∀ H, Same F H → C H) (hl : xss.length = rows.length) (hr : ∀ (i : Nat) xs r, xss[i]? = some xs → rows[i]? = some r → RVs K F xs r) :
    ItOk K F0 F (JR C rows) (xss.map PV.tup) := by
  refine ⟨fun i H v H' => ∃ T r o, rows[i]? = some r ∧ v = .ref T ∧ H T = none ∧ o.dict = none ∧ H' = upd H T (.frz o (.tup r)) ∧ r.length ≤ sizeLine, ⟨?_, ?_, ?_⟩, ?_⟩
  · intro i H hi hG
    rw [List.length_map] at hi
    exact ⟨hC H hG, by omega⟩
  · intro H hG
    rw [List.length_map]
    exact ⟨hC H hG, hl⟩
  · intro i H x H' hi hG y
    exact y
  · rintro G i H v H' F1 M ⟨T, r, o, er, rfl, hT, ho, rfl, hz⟩ hi e R
    rw [List.length_map] at hi
    have hx : xss[i]? = some xss[i] := List.getElem?_eq_getElem hi
    obtain ⟨R2, rv, e2⟩ := rel_tup R hT ho ((hr i _ _ hx er).mono e) hz
    exact ⟨_, .tup xss[i], by rw [List.getElem?_map, hx]; rfl, e2, R2, rv⟩
/-! ### zip of two, of three, enumerate -/
theorem vals_at {vs : List V} {its : List Value} (r : Vals vs its) {i : Nat} {x : Value} (h : its.toArray[i]? = some x) : ∃ v, vs[i]? = some v ∧ RelV v x := by
  have hx : its[i]? = some x := by simpa using h
  have hi : i < its.length := (List.getElem?_eq_some_iff.mp hx).1
  have hv : vs[i]? = some (vs[i]'(by rw [r.length]; exact hi)) := List.getElem?_eq_getElem _
  obtain ⟨u, hu, ru⟩ := r.get hv
  rw [hx] at hu
  cases hu
  exact ⟨_, hv, ru⟩
section
variable {prog : Program} {w : World} {A : Around} {z TI TO i1 i2 i3 : Addr} {fp1 fp2 fp3 : List Addr} {n1 n2 n3 n : Nat} {P1 P2 P3 : Nat → Value → Prop} {St1 St2 St3 : Nat → Heap → Prop} {elts : List Expr} {x1 : Nat} {pos : Pos}
theorem z2_goes (S : ZipSep2 z TI TO i1 i2 fp1 fp2) (D1 : Draws prog w A.in1 i1 fp1 n1 P1 St1) (D2 : Draws prog w A.in1 i2 fp2 n2 P2 St2) :
    GoesN prog w A (.Tuple elts x1 pos) z (z :: TI :: TO :: (fp1 ++ fp2)) [z, TO, i1, i2] (min n1 n2) (fun i h₀ v h => ∃ T x y, v = .ref T ∧ h₀.objs.size ≤ T ∧ P1 i x ∧ P2 i y ∧ IsTupOf2 h T x y)
      (fun i h => IsZip h z TI TO .none ∧ IsTupOf2 h TI (.ref i1) (.ref i2) ∧ (∃ a1 a2, IsTupOf2 h TO a1 a2) ∧ St1 i h ∧ St2 i h) where
  sub := (GoesN.zip2 (elts := elts) (x1 := x1) (pos := pos) S D1 D2).sub
  frame := (GoesN.zip2 (elts := elts) (x1 := x1) (pos := pos) S D1 D2).frame
  stops := (GoesN.zip2 (elts := elts) (x1 := x1) (pos := pos) S D1 D2).stops
  self := (GoesN.zip2 (elts := elts) (x1 := x1) (pos := pos) S D1 D2).self
  goes := by
    rintro i s Q E hi ⟨h1, h2, ⟨x, y, h3⟩, h4, h5⟩ hQ
    have zlt : z < s.heap.objs.size := Heap.lt_size h1
    refine wpAny_with_toks (n := s.toks) (Nat.le_refl _) (wpAny_pyNext_zipD2_item S D1 D2 h1 h2 h3 h4 h5 (by omega) (by omega) fun a b h' tk pa pb q1 q2 q3 q4 q5 q6 q7 => ?_)
    intro htk
    refine ⟨_, rfl, wpAny_letOwnedTupleGo_zip (s := { s with heap := h', toks := tk }) q1 fun h'' q8 sb => hQ _ h'' tk ⟨s.heap.objs.size, a, b, rfl, Nat.le_refl _, pa, pb, sb.extBut _ _ (Nat.ne_of_gt zlt) q5⟩ ⟨q8, ?_, ⟨a, b, ?_⟩, ?_, ?_⟩ ?_ htk⟩
    · exact sb.extBut _ _ S.TIz (q7 _ _ S.TIz S.TITO S.TIi1 S.TIi2 h2)
    · exact sb.extBut _ _ S.TOz q2
    · exact D1.over q3 sb S.zf1
    · exact D2.over q4 sb S.zf2
    · intro c o hc e
      simp only [List.mem_cons, List.not_mem_nil, or_false, not_or] at hc
      exact sb.extBut _ _ hc.1 (q7 c o hc.1 hc.2.1 hc.2.2.1 hc.2.2.2 e)
theorem z3_goes (S : ZipSep3 z TI TO i1 i2 i3 fp1 fp2 fp3) (D1 : Draws prog w A.in1 i1 fp1 n1 P1 St1) (D2 : Draws prog w A.in1 i2 fp2 n2 P2 St2) (D3 : Draws prog w A.in1 i3 fp3 n3 P3 St3) :
    GoesN prog w A (.Tuple elts x1 pos) z (z :: TI :: TO :: (fp1 ++ fp2 ++ fp3)) [z, TO, i1, i2, i3] (min (min n1 n2) n3) (fun i h₀ v h => ∃ T x y u, v = .ref T ∧ h₀.objs.size ≤ T ∧ P1 i x ∧ P2 i y ∧ P3 i u ∧ IsTupOf3 h T x y u)
      (fun i h => IsZip h z TI TO .none ∧ IsTupOf3 h TI (.ref i1) (.ref i2) (.ref i3) ∧ (∃ a1 a2 a3, IsTupOf3 h TO a1 a2 a3) ∧ St1 i h ∧ St2 i h ∧ St3 i h) where
  sub := (GoesN.zip3 (elts := elts) (x1 := x1) (pos := pos) S D1 D2 D3).sub
  frame := (GoesN.zip3 (elts := elts) (x1 := x1) (pos := pos) S D1 D2 D3).frame
  stops := (GoesN.zip3 (elts := elts) (x1 := x1) (pos := pos) S D1 D2 D3).stops
  self := (GoesN.zip3 (elts := elts) (x1 := x1) (pos := pos) S D1 D2 D3).self
  goes := by
    rintro i s Q E hi ⟨h1, h2, ⟨x, y, u, h3⟩, h4, h5, h6⟩ hQ
    have zlt : z < s.heap.objs.size := Heap.lt_size h1
    refine wpAny_with_toks (n := s.toks) (Nat.le_refl _) (wpAny_pyNext_zipD3_item S D1 D2 D3 h1 h2 h3 h4 h5 h6 (by omega) (by omega) (by omega) fun a b c h' tk pa pb pc q1 q2 q3 q4 q4' q5 q6 q7 => ?_)
    intro htk
    refine ⟨_, rfl, wpAny_letOwnedTupleGo_zip (s := { s with heap := h', toks := tk }) q1 fun h'' q8 sb => hQ _ h'' tk ⟨s.heap.objs.size, a, b, c, rfl, Nat.le_refl _, pa, pb, pc, sb.extBut _ _ (Nat.ne_of_gt zlt) q5⟩ ⟨q8, ?_, ⟨a, b, c, ?_⟩, ?_, ?_, ?_⟩ ?_ htk⟩
    · exact sb.extBut _ _ S.TIz (q7 _ _ S.TIz S.TITO S.TIi1 S.TIi2 S.TIi3 h2)
    · exact sb.extBut _ _ S.TOz q2
    · exact D1.over q3 sb S.zf1
    · exact D2.over q4 sb S.zf2
    · exact D3.over q4' sb S.zf3
    · intro d o hc e
      simp only [List.mem_cons, List.not_mem_nil, or_false, not_or] at hc
      exact sb.extBut _ _ hc.1 (q7 d o hc.1 hc.2.1 hc.2.2.1 hc.2.2.2.1 hc.2.2.2.2 e)
theorem en_goes (D : Draws prog w A.in1 i1 fp1 n P1 St1) (hei : z ≠ i1) (hef : z ∉ fp1) (hif : i1 ∈ fp1) :
    GoesN prog w A (.Tuple elts x1 pos) z (z :: fp1) [z, i1] n (fun i h₀ v h => ∃ T t x, v = .ref T ∧ h₀.objs.size ≤ T ∧ P1 i x ∧ IsTupOf2 h T (.int (0 + (i : Int)) t) x) (fun i h => (∃ old, IsEnum h z i1 (0 + (i : Int)) old) ∧ St1 i h) where
  sub := (GoesN.enumFrom (elts := elts) (x1 := x1) (pos := pos) 0 D z hei hef hif).sub
  frame := (GoesN.enumFrom (elts := elts) (x1 := x1) (pos := pos) 0 D z hei hef hif).frame
  stops := (GoesN.enumFrom (elts := elts) (x1 := x1) (pos := pos) 0 D z hei hef hif).stops
  self := (GoesN.enumFrom (elts := elts) (x1 := x1) (pos := pos) 0 D z hei hef hif).self
  goes := by
    rintro i s Q E hi ⟨⟨old, h1⟩, h4⟩ hQ
    have zlt : z < s.heap.objs.size := Heap.lt_size h1
    refine wpAny_with_toks (n := s.toks) (Nat.le_refl _) (wpAny_pyNext_enum_itemC D h1 h4 hi hei hef fun a h' tk pa q1 q3 q5 q6 q7 => ?_)
    intro htk
    refine ⟨_, rfl, wpAny_letOwnedTupleGo_enum (s := { s with heap := h', toks := tk + 1 }) q1 fun h'' q8 sb => hQ _ h'' (tk + 1) ⟨s.heap.objs.size, tk, a, rfl, Nat.le_refl _, pa, sb.extBut _ _ (Nat.ne_of_gt zlt) q5⟩ ⟨⟨a, ?_⟩, D.over q3 sb hef⟩ ?_ htk⟩
    · rw [show (0 : Int) + ((i + 1 : Nat) : Int) = 0 + (i : Int) + 1 by omega]
      exact q8
    · intro c o hc e
      simp only [List.mem_cons, List.not_mem_nil, or_false, not_or] at hc
      exact sb.extBut _ _ hc.1 (q7 c o hc.1 hc.2 e)
end
theorem ane {a b : Nat} (h : a < b ∨ b < a) : (show Addr from a) ≠ (show Addr from b) := by
  show (a : Nat) ≠ b
  omega
theorem nm2 {a b c : Nat} (h : a < b ∨ b < a) (h' : a < c ∨ c < a) : (show Addr from a) ∉ [(show Addr from b), (show Addr from c)] := by
  intro hm
  rcases List.mem_cons.mp hm with e | e
  · exact ane h e
  · exact ane h' (List.mem_singleton.mp e)
theorem turn_z2 {P : Program} {w : World} {K : PySem.W.Frag} {elts : List Expr} {kk : Nat} {tpos : Pos} {n a b : Nat} {k1 k2 : Bool} {vs us : List V} (ha : a < n) (hb : b < n) :
    Turn P w K (.Tuple elts kk tpos) (JR (fun H => SqK K k1 H a vs ∧ SqK K k2 H b us) (List.zipWith (fun x y => [x, y]) vs us)) [n + 4, n + 2, n + 3, n, n + 1] (n + 4)
      (fun i h => IsZip h (n + 4) (n + 2) (n + 3) .none ∧ IsTupOf2 h (n + 2) (.ref n) (.ref (n + 1)) ∧ (∃ a1 a2, IsTupOf2 h (n + 3) a1 a2) ∧ IsIt k1 h n a i ∧ IsIt k2 h (n + 1) b i) := by
  refine turn_of (by simp) ?_ ?_ (fun A i s Q E st q => wpAny_pyIter_zip st.1 q) ?_
  · rintro i h ⟨h1, h2, ⟨x, y, h3⟩, h4, h5⟩ c hc
    simp only [List.mem_cons, List.not_mem_nil, or_false] at hc
    rcases hc with rfl | rfl | rfl | rfl | rfl
    · exact ⟨_, h1, fun v q => nomatch q⟩
    · exact ⟨_, h2, fun v q => nomatch q⟩
    · exact ⟨_, h3, fun v q => nomatch q⟩
    · exact it_ob h4
    · exact it_ob h5
  · rintro i h h' ⟨h1, h2, ⟨x, y, h3⟩, h4, h5⟩ k
    exact ⟨k _ (by simp) _ h1, k _ (by simp) _ h2, ⟨x, y, k _ (by simp) _ h3⟩, it_at h4 fun o e => k _ (by simp) o e, it_at h5 fun o e => k _ (by simp) o e⟩
  · intro X pins σ H s hP hw hK hh I hC
    subst hP hw hK
    obtain ⟨i1, r1, s1⟩ := sq_inv I hC.1
    obtain ⟨i2, r2, s2⟩ := sq_inv I hC.2
    have D1 := sq_draws (P := X.prog) (w := X.w) (A := X.A.in1) k1 hh n a (ane (by omega)) i1.toArray
    have D2 := sq_draws (P := X.prog) (w := X.w) (A := X.A.in1) k2 hh (n + 1) b (ane (by omega)) i2.toArray
    have S : ZipSep2 (n + 4) (n + 2) (n + 3) n (n + 1) [n, a] [n + 1, b] := by constructor <;> first | exact ane (by omega) | exact nm2 (by omega) (by omega) | simp
    have W := z2_goes (elts := elts) (x1 := kk) (pos := tpos) S D1 D2
    have e : min i1.toArray.size i2.toArray.size = (List.zipWith (fun x y => [x, y]) vs us).length := by
      rw [List.length_zipWith, r1.length, r2.length]; simp
    rw [e] at W
    refine ⟨_, _, _, _, W, by simp, fun i st => ⟨st.1, st.2.1, st.2.2.1, ⟨st.2.2.2.1, s1⟩, st.2.2.2.2, s2⟩, fun i h' st => ⟨st.1, st.2.1, st.2.2.1, st.2.2.2.1.1, st.2.2.2.2.1⟩, ?_⟩
    rintro i v h' ⟨T, x, y, rfl, hT, px, py, hI⟩ hi
    obtain ⟨vx, e1, q1⟩ := vals_at r1 px
    obtain ⟨vy, e2, q2⟩ := vals_at r2 py
    refine ⟨T, [x, y], [vx, vy], rfl, hT, hI, ?_, .cons q1 (.cons q2 .nil), by show 2 ≤ sizeLine; decide⟩
    rw [List.getElem?_zipWith, e1, e2]
theorem turn_z3 {P : Program} {w : World} {K : PySem.W.Frag} {elts : List Expr} {kk : Nat} {tpos : Pos} {n a b c : Nat} {k1 k2 k3 : Bool} {vs us ws : List V} (ha : a < n) (hb : b < n) (hc : c < n) :
    Turn P w K (.Tuple elts kk tpos) (JR (fun H => SqK K k1 H a vs ∧ SqK K k2 H b us ∧ SqK K k3 H c ws) (List.zipWith (fun x r => x :: r) vs (List.zipWith (fun x y => [x, y]) us ws))) [n + 5, n + 3, n + 4, n, n + 1, n + 2] (n + 5)
      (fun i h => IsZip h (n + 5) (n + 3) (n + 4) .none ∧ IsTupOf3 h (n + 3) (.ref n) (.ref (n + 1)) (.ref (n + 2)) ∧ (∃ a1 a2 a3, IsTupOf3 h (n + 4) a1 a2 a3) ∧ IsIt k1 h n a i ∧ IsIt k2 h (n + 1) b i ∧ IsIt k3 h (n + 2) c i) := by
  refine turn_of (by simp) ?_ ?_ (fun A i s Q E st q => wpAny_pyIter_zip st.1 q) ?_
  · rintro i h ⟨h1, h2, ⟨x, y, u, h3⟩, h4, h5, h6⟩ c hc
    simp only [List.mem_cons, List.not_mem_nil, or_false] at hc
    rcases hc with rfl | rfl | rfl | rfl | rfl | rfl
    · exact ⟨_, h1, fun v q => nomatch q⟩
    · exact ⟨_, h2, fun v q => nomatch q⟩
    · exact ⟨_, h3, fun v q => nomatch q⟩
    · exact it_ob h4
    · exact it_ob h5
    · exact it_ob h6
  · rintro i h h' ⟨h1, h2, ⟨x, y, u, h3⟩, h4, h5, h6⟩ k
    exact ⟨k _ (by simp) _ h1, k _ (by simp) _ h2, ⟨x, y, u, k _ (by simp) _ h3⟩, it_at h4 fun o e => k _ (by simp) o e, it_at h5 fun o e => k _ (by simp) o e, it_at h6 fun o e => k _ (by simp) o e⟩
  · intro X pins σ H s hP hw hK hh I hC
    subst hP hw hK
    obtain ⟨i1, r1, s1⟩ := sq_inv I hC.1
    obtain ⟨i2, r2, s2⟩ := sq_inv I hC.2.1
    obtain ⟨i3, r3, s3⟩ := sq_inv I hC.2.2
    have D1 := sq_draws (P := X.prog) (w := X.w) (A := X.A.in1) k1 hh n a (ane (by omega)) i1.toArray
    have D2 := sq_draws (P := X.prog) (w := X.w) (A := X.A.in1) k2 hh (n + 1) b (ane (by omega)) i2.toArray
    have D3 := sq_draws (P := X.prog) (w := X.w) (A := X.A.in1) k3 hh (n + 2) c (ane (by omega)) i3.toArray
    have S : ZipSep3 (n + 5) (n + 3) (n + 4) n (n + 1) (n + 2) [n, a] [n + 1, b] [n + 2, c] := by constructor <;> first | exact ane (by omega) | exact nm2 (by omega) (by omega) | simp
    have W := z3_goes (elts := elts) (x1 := kk) (pos := tpos) S D1 D2 D3
    have e : min (min i1.toArray.size i2.toArray.size) i3.toArray.size = (List.zipWith (fun x r => x :: r) vs (List.zipWith (fun x y => [x, y]) us ws)).length := by
      rw [List.length_zipWith, List.length_zipWith, r1.length, r2.length, r3.length]; simp [Nat.min_assoc]
    rw [e] at W
    refine ⟨_, _, _, _, W, by simp, fun i st => ⟨st.1, st.2.1, st.2.2.1, ⟨st.2.2.2.1, s1⟩, ⟨st.2.2.2.2.1, s2⟩, st.2.2.2.2.2, s3⟩, fun i h' st => ⟨st.1, st.2.1, st.2.2.1, st.2.2.2.1.1, st.2.2.2.2.1.1, st.2.2.2.2.2.1⟩, ?_⟩
    rintro i v h' ⟨T, x, y, u, rfl, hT, px, py, pu, hI⟩ hi
    obtain ⟨vx, e1, q1⟩ := vals_at r1 px
    obtain ⟨vy, e2, q2⟩ := vals_at r2 py
    obtain ⟨vu, e3, q3⟩ := vals_at r3 pu
    refine ⟨T, [x, y, u], [vx, vy, vu], rfl, hT, hI, ?_, .cons q1 (.cons q2 (.cons q3 .nil)), by show 3 ≤ sizeLine; decide⟩
    rw [List.getElem?_zipWith, List.getElem?_zipWith, e1, e2, e3]
def numV (n : Nat) : List V → List (List V)
  | [] => []
  | x :: xs => [.int (n : Nat), x] :: numV (n + 1) xs
theorem numV_length : ∀ (n : Nat) (xs : List V), (numV n xs).length = xs.length
  | _, [] => rfl
  | n, x :: xs => by simp only [numV, List.length_cons, numV_length]
theorem numV_get : ∀ (n : Nat) (xs : List V) (i : Nat), (numV n xs)[i]? = (xs[i]?).map fun x => [.int ((n + i : Nat) : Int), x]
  | _, [], i => by simp [numV]
  | n, x :: xs, 0 => by simp [numV]
  | n, x :: xs, i + 1 => by
    simp only [numV, List.getElem?_cons_succ]
    rw [numV_get (n + 1) xs i, show n + 1 + i = n + (i + 1) by omega]
theorem turn_en {P : Program} {w : World} {K : PySem.W.Frag} {elts : List Expr} {kk : Nat} {tpos : Pos} {n a : Nat} {k1 : Bool} {vs : List V} (ha : a < n) :
    Turn P w K (.Tuple elts kk tpos) (JR (fun H => SqK K k1 H a vs) (numV 0 vs)) [n + 1, n] (n + 1) (fun i h => (∃ old, IsEnum h (n + 1) n (0 + (i : Int)) old) ∧ IsIt k1 h n a i) := by
  refine turn_of (by simp) ?_ ?_ (fun A i s Q E st q => by obtain ⟨old, e⟩ := st.1; exact wpAny_pyIter_enum e q) ?_
  · rintro i h ⟨⟨old, h1⟩, h4⟩ c hc
    simp only [List.mem_cons, List.not_mem_nil, or_false] at hc
    rcases hc with rfl | rfl
    · exact ⟨_, h1, fun v q => nomatch q⟩
    · exact it_ob h4
  · rintro i h h' ⟨⟨old, h1⟩, h4⟩ k
    exact ⟨⟨old, k _ (by simp) _ h1⟩, it_at h4 fun o e => k _ (by simp) o e⟩
  · intro X pins σ H s hP hw hK hh I hC
    subst hP hw hK
    obtain ⟨i1, r1, s1⟩ := sq_inv I hC
    have D1 := sq_draws (P := X.prog) (w := X.w) (A := X.A.in1) k1 hh n a (ane (by omega)) i1.toArray
    have W := en_goes (elts := elts) (x1 := kk) (pos := tpos) (z := n + 1) D1 (ane (by omega)) (nm2 (by omega) (by omega)) (by simp)
    have e : i1.toArray.size = (numV 0 vs).length := by rw [numV_length, r1.length]; simp
    rw [e] at W
    refine ⟨_, _, _, _, W, by simp, fun i st => ⟨st.1, st.2, s1⟩, fun i h' st => ⟨st.1, st.2.1⟩, ?_⟩
    rintro i v h' ⟨T, t, x, rfl, hT, px, hI⟩ hi
    obtain ⟨vx, e1, q1⟩ := vals_at r1 px
    refine ⟨T, [.int (0 + (i : Int)) t, x], [.int (((0 + i : Nat) : Int)), vx], rfl, hT, hI, ?_, .cons ⟨t, by congr 1⟩ (.cons q1 .nil), by show 2 ≤ sizeLine; decide⟩
    rw [numV_get, e1]
    rfl
end PL

namespace PL
open PySem PySem.Spec PyProof.Rows L2
theorem en_meets {v : Value} {o : Obj} {H : Heap → Prop} (B : Begins v o H) : Meets (Builtin.«enumerate.__new__» ⟨[.type "enumerate", v], []⟩) (fun _ R s => H s.heap ∧ R (.ok (.ret (.ref (s.heap.push o).objs.size)))
    { s with heap := (s.heap.push o).push { cls := .type "enumerate", data := .fields #[.none, .bool false, .ref s.heap.objs.size, rawInt 0, .none, .none] } }) := by
  refine .of_wp fun prog w A R s hh => ?_
  obtain ⟨hp, g, d, tk, os⟩ := s
  obtain ⟨hH, hR⟩ := hh
  have hsub := sub_enumerate
  have itb : ∀ {A' : Around} {E : Value → Shared → Prop} {Q : Value → Shared → Prop}, Q (.ref hp.objs.size) ⟨hp.push o, g, d, tk, os⟩ → wpAny (model prog w) A' (pyIter v) Q E ⟨hp, g, d, tk, os⟩ := fun q => B.iter prog w _ _ ⟨hp, g, d, tk, os⟩ _ hH q
  wp_walk using itb
  refine wpAny_stack_any fun st => wpAny_pure ?_
  split
  · rename_i c _ _ _ _ _
    cases (c == Value.type "enumerate") <;> (wp_walk using itb; exact ⟨_, rfl, hR⟩)
  · wp_walk using itb
    exact ⟨_, rfl, hR⟩
theorem en_begins {prog : Program} {w : World} {A : Around} {E : Value → Shared → Prop} {s : Shared} {v : Value} {o : Obj} {H : Heap → Prop} {Q : Value → Shared → Prop} (B : Begins v o H) (hH : H s.heap)
    (h : ∀ h', IsEnum h' (s.heap.objs.size + 1) s.heap.objs.size 0 .none → h'.get? s.heap.objs.size = some o → (∀ b o, s.heap.get? b = some o → h'.get? b = some o) → Q (.ref (s.heap.objs.size + 1)) { s with heap := h' }) :
    wpAny (model prog w) A (call (.type "enumerate") [v]) Q E s := by
  refine callType_new F.called_enumerate (by decide) (F.typeCall_enumerate_1 _) (F.newCall_enumerate_1 _) (fun obj => F.args_object_init_2 obj _) F.entry_enumerate_new (en_meets B) ⟨hH, ?_⟩
  have z1 : (s.heap.push o).objs.size = s.heap.objs.size + 1 := Heap.size_push ..
  have new : ((s.heap.push o).push { cls := .type "enumerate", data := .fields #[.none, .bool false, .ref s.heap.objs.size, rawInt 0, .none, .none] }).get? (s.heap.push o).objs.size = some _ := Heap.get?_push_size _ rfl
  show _ ∧ _
  rw [z1] at new ⊢
  exact ⟨⟨_, new, rfl⟩, h _ new (Heap.get?_push_of_some _ (Heap.get?_push_size _ B.free)) fun b o' e => Heap.get?_push_of_some _ (Heap.get?_push_of_some _ e)⟩
theorem fp_new {X : Cx} {pins : List (Addr × Obj)} {σ : L2.St} {H : Hp} {s : Shared} (I : Inv X pins σ H s) {c : Nat} (h : s.heap.objs.size ≤ c) : FpOk X pins H c := I.fpOk h (I.hok.fresh h)
theorem sq_lt {kd : Bool} {h : Heap} {a : Nat} {its : Array Value} (q : IsSq kd h a its) : a < h.objs.size := by
  cases kd
  · obtain ⟨o, e, _⟩ := q; exact Heap.lt_size e
  · obtain ⟨o, e, _⟩ := q; exact Heap.lt_size e
def asTL : PV → Option (List PV)
  | .tup xs => some xs
  | .lst xs => some xs
  | _ => none
theorem sq_of {K : PySem.W.Frag} {F : Hp} {x : PV} {v : V} {xs : List PV} (r : RV K F x v) (h : asTL x = some xs) : ∃ kd a vs, v = .ref a ∧ (∀ H, Same F H → SqK K kd H a vs) ∧ RVs K F xs vs := by
  cases x with
  | tup ys =>
    cases h
    unfold RV at r
    obtain ⟨p, vs, e2, g1, g2, g3⟩ := r
    exact ⟨true, p, vs, e2, fun H z => sqt_mono z g1, g3⟩
  | lst ys =>
    cases h
    unfold RV at r
    obtain ⟨p, vs, e2, g1, g2, g3⟩ := r
    exact ⟨false, p, vs, e2, fun H z => SqL.of (z _ _ g1), g3⟩
  | _ => cases h
/-! the pure readings -/
def numP (n : Nat) : List PV → List (List PV)
  | [] => []
  | x :: xs => [.int (n : Nat), x] :: numP (n + 1) xs
theorem numP_length : ∀ (n : Nat) (xs : List PV), (numP n xs).length = xs.length
  | _, [] => rfl
  | n, x :: xs => by simp only [numP, List.length_cons, numP_length]
theorem numP_get : ∀ (n : Nat) (xs : List PV) (i : Nat), (numP n xs)[i]? = (xs[i]?).map fun x => [.int ((n + i : Nat) : Int), x]
  | _, [], i => by simp [numP]
  | n, x :: xs, 0 => by simp [numP]
  | n, x :: xs, i + 1 => by
    simp only [numP, List.getElem?_cons_succ]
    rw [numP_get (n + 1) xs i, show n + 1 + i = n + (i + 1) by omega]
def iEnum (t : TA') : TI' := fun σ M R => t σ M fun xs M1 => match xs with
  | [x] => ∃ ys, asTL x = some ys ∧ R ((numP 0 ys).map PV.tup) M1
  | _ => False
def zip2P (xs ys : List PV) : List (List PV) := List.zipWith (fun x y => [x, y]) xs ys
def zip3P (xs ys zs : List PV) : List (List PV) := List.zipWith (fun x r => x :: r) xs (List.zipWith (fun x y => [x, y]) ys zs)
def iZip2 (t : TA') : TI' := fun σ M R => t σ M fun xs M1 => match xs with
  | [x, y] => ∃ as bs, asTL x = some as ∧ asTL y = some bs ∧ R ((zip2P as bs).map PV.tup) M1
  | _ => False
def iZip3 (t : TA') : TI' := fun σ M R => t σ M fun xs M1 => match xs with
  | [x, y, z] => ∃ as bs cs, asTL x = some as ∧ asTL y = some bs ∧ asTL z = some cs ∧ R ((zip3P as bs cs).map PV.tup) M1
  | _ => False
theorem rvs_len {K : PySem.W.Frag} {F : Hp} {xs : List PV} {vs : List V} (r : RVs K F xs vs) : xs.length = vs.length := r.length
theorem rvs_at {K : PySem.W.Frag} {F : Hp} {xs : List PV} {vs : List V} (r : RVs K F xs vs) {i : Nat} {x : PV} {v : V} (hx : xs[i]? = some x) (hv : vs[i]? = some v) : RV K F x v := by
  obtain ⟨y, h1, h2⟩ := r.getR hv
  rw [hx] at h1
  cases h1
  exact h2
section
variable {X : Cx} {F0 : Fix} {e e2 e3 : Expr} {elts : List Expr} {kk : Nat} {p pos tpos : Pos} {t : TA'}
theorem qi_enum (hg : Gl X "enumerate") (hm : X.mg "enumerate" = none) (ha : QA X F0 [e] t) (hs : starEach [e] X.env = [(false, eval e X.env)] := by rfl) : QI X F0 (.Tuple elts kk tpos) (.Call (.Name "enumerate" p) [e] [] pos) (iEnum t) := by
  refine ⟨fun pins s σ H R I ⟨F, M, σ', R', Rl, S, h, po⟩ => ?_⟩
  refine Call_ (ld_blt I hg hm boot_enumerate (PyProof.Rows.callWith_type1 (thn (PA.run ha pos pins s σ H (fun vs H1 => ∃ kd a us, vs = [.ref a] ∧ SqK X.K kd H1 a us ∧ R (JR (fun H => SqK X.K kd H a us) (numV 0 us)) H1) I ⟨F, M, σ', _, Rl, S, h, fun F1 H1 M1 xs vs e1 R1 rs h1 => ?_⟩) fun us s1 ⟨vs, H1, I1, r1, q1⟩ => ?_) hs rfl))
  · split at h1
    · obtain ⟨ys, ey, h1⟩ := h1
      obtain ⟨v, ev, rv⟩ := rvs1 rs
      obtain ⟨kd, a, us, e3, sq, r2⟩ := sq_of rv ey
      subst e3
      refine ⟨kd, a, us, ev, sq H1 R1.sm, po F1 H1 M1 _ _ e1 R1 (itok_rows (fun H z => sq H z) (by rw [numP_length, numV_length, rvs_len r2]) fun i as r ha hr => ?_) h1⟩
      rw [numP_get] at ha
      rw [numV_get] at hr
      cases hx : ys[i]? with
      | none => rw [hx] at ha; cases ha
      | some x =>
        cases hv : us[i]? with
        | none => rw [hv] at hr; cases hr
        | some v =>
          rw [hx] at ha
          rw [hv] at hr
          cases ha
          cases hr
          exact .cons rv_int (.cons (rvs_at r2 hx hv) .nil)
    · exact h1.elim
  · obtain ⟨kd, a, us', ev, sq, q⟩ := q1
    subst ev
    cases r1 with
    | cons r rr =>
      cases rr
      cases r
      obtain ⟨its, rv, sk⟩ := sq_inv I1 sq
      refine en_begins (sq_begins kd a its.toArray) sk fun h' he hi hk => wpAny_pyIter_enum he ?_
      refine ⟨s1.heap.objs.size + 1, [s1.heap.objs.size + 1, s1.heap.objs.size], _, _, H1, rfl, I1.kept (t' := s1.toks) hk, turn_en (n := s1.heap.objs.size) (sq_lt sk), ⟨⟨.none, he⟩, it_new hi⟩, fun b hb => ?_, q⟩
      simp only [List.mem_cons, List.not_mem_nil, or_false] at hb
      rcases hb with rfl | rfl
      · exact fp_new I1 (Nat.le_add_right _ _)
      · exact fp_new I1 (Nat.le_refl _)
theorem qi_zip2 (hg : Gl X "zip") (hm : X.mg "zip" = none) (ha : QA X F0 [e, e2] t) (hs : starEach [e, e2] X.env = (false, eval e X.env) :: starEach [e2] X.env := by rfl) (hpl : (backTo pos (starEach [e2] X.env)).any (·.1) = false := by rfl) :
    QI X F0 (.Tuple elts kk tpos) (.Call (.Name "zip" p) [e, e2] [] pos) (iZip2 t) := by
  refine ⟨fun pins s σ H R I ⟨F, M, σ', R', Rl, S, h, po⟩ => ?_⟩
  refine Call_ (ld_blt I hg hm PyProof.Rows.boot_zip (PyProof.Rows.callWith_type1 (thn (PA.run ha pos pins s σ H (fun vs H1 => ∃ k1 k2 a b us ws, vs = [.ref a, .ref b] ∧ SqK X.K k1 H1 a us ∧ SqK X.K k2 H1 b ws ∧ R (JR (fun H => SqK X.K k1 H a us ∧ SqK X.K k2 H b ws) (List.zipWith (fun x y => [x, y]) us ws)) H1) I ⟨F, M, σ', _, Rl, S, h, fun F1 H1 M1 xs vs e1 R1 rs h1 => ?_⟩) fun us s1 ⟨vs, H1, I1, r1, q1⟩ => ?_) hs hpl))
  · split at h1
    · obtain ⟨as, bs, ea, eb, h1⟩ := h1
      obtain ⟨v, v', ev, rv, rv'⟩ := rvs2 rs
      obtain ⟨k1, a, us, e3, sq, r2⟩ := sq_of rv ea
      obtain ⟨k2, b, ws, e4, sq', r3⟩ := sq_of rv' eb
      subst e3 e4
      refine ⟨k1, k2, a, b, us, ws, ev, sq H1 R1.sm, sq' H1 R1.sm, po F1 H1 M1 _ _ e1 R1 (itok_rows (fun H z => ⟨sq H z, sq' H z⟩) (by unfold zip2P; rw [List.length_zipWith, List.length_zipWith, rvs_len r2, rvs_len r3]) fun i xs r ha hr => ?_) h1⟩
      unfold zip2P at ha
      rw [List.getElem?_zipWith] at ha hr
      cases hx : as[i]? <;> cases hy : bs[i]? <;> rw [hx, hy] at ha <;> try cases ha
      cases hv : us[i]? <;> cases hw : ws[i]? <;> rw [hv, hw] at hr <;> try cases hr
      exact .cons (rvs_at r2 hx hv) (.cons (rvs_at r3 hy hw) .nil)
    · exact h1.elim
  · obtain ⟨k1, k2, a, b, us', ws, ev, sq, sq', q⟩ := q1
    subst ev
    cases r1 with
    | cons r rr =>
      cases rr with
      | cons r' rr =>
        cases rr
        cases r
        cases r'
        obtain ⟨i1, rv, sk⟩ := sq_inv I1 sq
        obtain ⟨i2, rv', sk'⟩ := sq_inv I1 sq'
        refine zip_begins2 (sq_begins k1 a i1.toArray) (sq_begins k2 b i2.toArray) sk sk' fun h' hz hT hO h1 h2 hsz hk => wpAny_pyIter_zip hz ?_
        refine ⟨s1.heap.objs.size + 4, [s1.heap.objs.size + 4, s1.heap.objs.size + 2, s1.heap.objs.size + 3, s1.heap.objs.size, s1.heap.objs.size + 1], _, _, H1, rfl, I1.kept (t' := s1.toks) hk, turn_z2 (n := s1.heap.objs.size) (sq_lt sk) (sq_lt sk'), ⟨hz, hT, ⟨_, _, hO⟩, it_new h1, it_new h2⟩, fun c hc => ?_, q⟩
        simp only [List.mem_cons, List.not_mem_nil, or_false] at hc
        rcases hc with rfl | rfl | rfl | rfl | rfl <;> first | exact fp_new I1 (Nat.le_add_right _ _) | exact fp_new I1 (Nat.le_refl _)
theorem qi_zip3 (hg : Gl X "zip") (hm : X.mg "zip" = none) (ha : QA X F0 [e, e2, e3] t) (hs : starEach [e, e2, e3] X.env = (false, eval e X.env) :: starEach [e2, e3] X.env := by rfl) (hpl : (backTo pos (starEach [e2, e3] X.env)).any (·.1) = false := by rfl) :
    QI X F0 (.Tuple elts kk tpos) (.Call (.Name "zip" p) [e, e2, e3] [] pos) (iZip3 t) := by
  refine ⟨fun pins s σ H R I ⟨F, M, σ', R', Rl, S, h, po⟩ => ?_⟩
  refine Call_ (ld_blt I hg hm PyProof.Rows.boot_zip (PyProof.Rows.callWith_type1 (thn (PA.run ha pos pins s σ H (fun vs H1 => ∃ k1 k2 k3 a b c us ws zs, vs = [.ref a, .ref b, .ref c] ∧ SqK X.K k1 H1 a us ∧ SqK X.K k2 H1 b ws ∧ SqK X.K k3 H1 c zs ∧ R (JR (fun H => SqK X.K k1 H a us ∧ SqK X.K k2 H b ws ∧ SqK X.K k3 H c zs) (List.zipWith (fun x r => x :: r) us (List.zipWith (fun x y => [x, y]) ws zs))) H1) I ⟨F, M, σ', _, Rl, S, h, fun F1 H1 M1 xs vs e1 R1 rs h1 => ?_⟩) fun us s1 ⟨vs, H1, I1, r1, q1⟩ => ?_) hs hpl))
  · split at h1
    · obtain ⟨as, bs, cs, ea, eb, ec, h1⟩ := h1
      obtain ⟨v, v', v'', ev, rv, rv', rv''⟩ := rvs3 rs
      obtain ⟨k1, a, us, e3, sq, r2⟩ := sq_of rv ea
      obtain ⟨k2, b, ws, e4, sq', r3⟩ := sq_of rv' eb
      obtain ⟨k3, c, zs, e5, sq'', r4⟩ := sq_of rv'' ec
      subst e3 e4 e5
      refine ⟨k1, k2, k3, a, b, c, us, ws, zs, ev, sq H1 R1.sm, sq' H1 R1.sm, sq'' H1 R1.sm, po F1 H1 M1 _ _ e1 R1 (itok_rows (fun H z => ⟨sq H z, sq' H z, sq'' H z⟩) (by unfold zip3P; rw [List.length_zipWith, List.length_zipWith, List.length_zipWith, List.length_zipWith, rvs_len r2, rvs_len r3, rvs_len r4]) fun i xs r ha hr => ?_) h1⟩
      unfold zip3P at ha
      rw [List.getElem?_zipWith, List.getElem?_zipWith] at ha hr
      cases hx : as[i]? <;> cases hy : bs[i]? <;> cases hz : cs[i]? <;> rw [hx, hy, hz] at ha <;> try cases ha
      cases hv : us[i]? <;> cases hw : ws[i]? <;> cases hu : zs[i]? <;> rw [hv, hw, hu] at hr <;> try cases hr
      exact .cons (rvs_at r2 hx hv) (.cons (rvs_at r3 hy hw) (.cons (rvs_at r4 hz hu) .nil))
    · exact h1.elim
  · obtain ⟨k1, k2, k3, a, b, c, us', ws, zs, ev, sq, sq', sq'', q⟩ := q1
    subst ev
    cases r1 with
    | cons r rr =>
      cases rr with
      | cons r' rr =>
        cases rr with
        | cons r'' rr =>
          cases rr
          cases r
          cases r'
          cases r''
          obtain ⟨i1, rv, sk⟩ := sq_inv I1 sq
          obtain ⟨i2, rv', sk'⟩ := sq_inv I1 sq'
          obtain ⟨i3, rv'', sk''⟩ := sq_inv I1 sq''
          refine zip_begins3 (sq_begins k1 a i1.toArray) (sq_begins k2 b i2.toArray) (sq_begins k3 c i3.toArray) sk sk' sk'' fun h' hz hT hO h1 h2 h3 hsz hk => wpAny_pyIter_zip hz ?_
          refine ⟨s1.heap.objs.size + 5, [s1.heap.objs.size + 5, s1.heap.objs.size + 3, s1.heap.objs.size + 4, s1.heap.objs.size, s1.heap.objs.size + 1, s1.heap.objs.size + 2], _, _, H1, rfl, I1.kept (t' := s1.toks) hk, turn_z3 (n := s1.heap.objs.size) (sq_lt sk) (sq_lt sk') (sq_lt sk''), ⟨hz, hT, ⟨_, _, _, hO⟩, it_new h1, it_new h2, it_new h3⟩, fun c hc => ?_, q⟩
          simp only [List.mem_cons, List.not_mem_nil, or_false] at hc
          rcases hc with rfl | rfl | rfl | rfl | rfl | rfl <;> first | exact fp_new I1 (Nat.le_add_right _ _) | exact fp_new I1 (Nat.le_refl _)
end
end PL

namespace PL
open PySem PySem.Spec PyProof.Rows L2
/-! ### zip(a, b, strict=True), both of one length -/
section
variable {prog : Program} {w : World} {A : Around} {E : Value → Shared → Prop} {s : Shared}
theorem noe_item {it : Addr} {fp : List Addr} {n i : Nat} {P : Nat → Value → Prop} {St : Nat → Heap → Prop} {Q : Option Value → Shared → Prop} (D : Draws prog w A it fp n P St) (hi : i < n) (st : St i s.heap)
    (hQ : ∀ x h' tk, P i x → St (i + 1) h' → Heap.SameBut it s.heap h' → Q (some x) { s with heap := h', toks := tk }) : wpAny (model prog w) A (Builtin.SmallTypes.nextOrEnd (.ref it)) Q E s := by
  unfold Builtin.SmallTypes.nextOrEnd
  exact wpAny_bind (wpAny_attempt (D.item i s _ _ hi st fun x h' tk hx st' sb => wpAny_pure (hQ x h' tk hx st' sb)))
theorem noe_end {it : Addr} {fp : List Addr} {n : Nat} {P : Nat → Value → Prop} {St : Nat → Heap → Prop} {Q : Option Value → Shared → Prop} (D : Draws prog w A it fp n P St) (st : St n s.heap)
    (hQ : ∀ h', Heap.ExtBut it s.heap h' → Q none { s with heap := h' }) : wpAny (model prog w) A (Builtin.SmallTypes.nextOrEnd (.ref it)) Q E s := by
  unfold Builtin.SmallTypes.nextOrEnd
  refine wpAny_bind (wpAny_attempt (D.done s _ _ st fun h' e hx he => ?_))
  obtain ⟨o, ho, hc⟩ := he
  exact wpAny_bind (wpAny_isInstance (T := "StopIteration") (b := true) ⟨o, ho, hc⟩ isSubtype_stop (wpAny_pure (hQ h' hx)))
theorem stop_run {α : Type} {Q : α → Shared → Prop} (hh : A.handled = none) (hE : ∀ h' e, (∀ c o, s.heap.get? c = some o → h'.get? c = some o) → (∃ o, h'.get? e = some o ∧ o.cls = .type "StopIteration") → E (.ref e) { s with heap := h' }) :
    wpAny (model prog w) A (Builtin.SmallTypes.stopIteration : Sem α) Q E s := by
  unfold Builtin.SmallTypes.stopIteration newExc newTuple
  refine wpAny_bind (wpAny_bind (wpAny_newObj_type (wpAny_bind (m := firstArgMember _ _) (wpAny_of_eq (a := Value.none) (by first | rfl | (simp only [firstArgMember]; rfl)) (wpAny_newObj_type ?_ (by size_fits)))) (by size_fits)))
  unfold raiseNew
  refine wpAny_bind (wpAny_handled ?_)
  rw [hh]
  refine wpAny_bind (wpAny_pure (wpAny_throw (hE _ _ (fun c o e => Heap.get?_push_of_some _ (Heap.get?_push_of_some _ e)) ⟨_, Heap.get?_push_size _ rfl, rfl⟩)))
/-- a strict zip's record -/
abbrev IsZs (h : Heap) (z TI TO : Addr) (f0 : Value) : Prop := h.get? z = some { cls := .type "zip", data := .fields #[f0, .bool false, .bool true, .ref TI, .ref TO] }
variable {z TI TO i1 i2 : Addr} {fp1 fp2 : List Addr} {n i : Nat} {P1 P2 : Nat → Value → Prop} {St1 St2 : Nat → Heap → Prop} {a1 a2 : Value}
theorem zs_item {Q : Value → Shared → Prop} (S : ZipSep2 z TI TO i1 i2 fp1 fp2) (D1 : Draws prog w A i1 fp1 n P1 St1) (D2 : Draws prog w A i2 fp2 n P2 St2) (hz : IsZs s.heap z TI TO .none) (hTI : IsTupOf2 s.heap TI (.ref i1) (.ref i2)) (hTO : IsTupOf2 s.heap TO a1 a2)
    (st1 : St1 i s.heap) (st2 : St2 i s.heap) (hi : i < n)
    (hQ : ∀ x y h' tk, P1 i x → P2 i y → IsZs h' z TI TO (rawInt s.heap.objs.size) → IsTupOf2 h' TO x y → St1 (i + 1) h' → St2 (i + 1) h' → IsTupOf2 h' s.heap.objs.size x y → (∀ c o, c ≠ z → c ≠ TO → c ≠ i1 → c ≠ i2 → s.heap.get? c = some o → h'.get? c = some o) → Q (.ref s.heap.objs.size) { s with heap := h', toks := tk }) :
    wpAny (model prog w) A (Builtin.«zip.__next__» ⟨[.ref z], []⟩) (fun fin s' => ∃ v, fin = .done (.ret v) ∧ Q v s') E s := by
  obtain ⟨hp, g, d, tk0, os⟩ := s
  show wpAny _ _ (field (.ref z) 2 >>= _) _ _ _
  refine wpAny_bind (wpAny_field hz rfl (x := .bool true) rfl ?_)
  show wpAny _ _ (field (.ref z) 3 >>= _) _ _ _
  refine wpAny_bind (wpAny_field hz rfl (x := .ref TI) rfl ?_)
  refine wpAny_bind (wpAny_seqItems hTI rfl ?_)
  show wpAny _ _ (Builtin.SmallTypes.ownedTupleIsFree (.ref z) >>= _) _ _ _
  refine wpAny_bind ?_
  unfold Builtin.SmallTypes.ownedTupleIsFree
  refine wpAny_bind (wpAny_field hz rfl (x := .none) rfl (wpAny_pure ?_))
  simp only [if_true]
  refine wpAny_bind (wpAny_rule (wpAny_bind (wpAny_field hz rfl (x := .ref TO) rfl (wpAny_bind (wpAny_setField_rec hz (by simp) fun g0 z0 b0 => wpAny_bind ?_)))))
  have z0' : IsZs g0 z TI TO .ellipsis := z0
  have b0' : Heap.SameBut z hp g0 := b0
  simp only [List.zipIdx_cons, List.zipIdx_nil, List.forIn_cons, List.forIn_nil]
  refine wpAny_bind (wpAny_bind (wpAny_onRaise ?_))
  show wpAny _ _ (Builtin.SmallTypes.nextOrEnd (.ref i1)) _ _ ⟨g0, g, d, tk0, os⟩
  refine noe_item D1 hi (D1.over st1 b0' S.zf1) fun x p1 t1 hx n1 c1 => ?_
  have c1' : Heap.SameBut i1 g0 p1 := c1
  have u1 : IsTupOf2 p1 TO a1 a2 := c1'.extBut _ _ S.Ti1 (b0'.extBut _ _ S.TOz hTO)
  refine wpAny_bind (wpAny_seqItems (s := ⟨p1, g, d, t1, os⟩) u1 rfl (wpAny_bind (updateSeq_IsTupOf2 (s := ⟨p1, g, d, t1, os⟩) u1 fun g1 w1 b1 => wpAny_bind (wpAny_letGo (wpAny_pure ?_)))))
  have w1' : IsTupOf2 g1 TO x a2 := w1
  have b1' : Heap.SameBut TO p1 g1 := b1
  refine wpAny_bind (wpAny_bind (wpAny_onRaise ?_))
  show wpAny _ _ (Builtin.SmallTypes.nextOrEnd (.ref i2)) _ _ ⟨g1, g, d, t1, os⟩
  refine noe_item D2 hi (D2.over (D2.over (D2.over st2 b0' S.zf2) c1' S.sep1_2) b1' S.Tf2) fun y p2 t2 hy n2 c2 => ?_
  have c2' : Heap.SameBut i2 g1 p2 := c2
  have u2 : IsTupOf2 p2 TO x a2 := c2'.extBut _ _ S.Ti2 w1'
  refine wpAny_bind (wpAny_seqItems (s := ⟨p2, g, d, t2, os⟩) u2 rfl (wpAny_bind (updateSeq_IsTupOf2 (s := ⟨p2, g, d, t2, os⟩) u2 fun g2 w2 b2 => wpAny_bind (wpAny_letGo (wpAny_pure (wpAny_pure ?_))))))
  have w2' : IsTupOf2 g2 TO x y := w2
  have b2' : Heap.SameBut TO p2 g2 := b2
  refine wpAny_bind (wpAny_seqItems (s := ⟨g2, g, d, t2, os⟩) w2' rfl (wpAny_bind (wpAny_newTuple ?_)))
  have hsz : g2.objs.size = hp.objs.size := by rw [b2'.1, c2'.1, b1'.1, c1'.1, b0'.1]
  have zz : IsZs g2 z TI TO .ellipsis := b2'.extBut _ _ S.TOz.symm (c2'.extBut _ _ S.zi2 (b1'.extBut _ _ S.TOz.symm (c1'.extBut _ _ S.zi1 z0')))
  have kk : ∀ c o, c ≠ z → c ≠ TO → c ≠ i1 → c ≠ i2 → hp.get? c = some o → g2.get? c = some o := fun c o cz cT e1 e2 e => b2'.extBut _ _ cT (c2'.extBut _ _ e2 (b1'.extBut _ _ cT (c1'.extBut _ _ e1 (b0'.extBut _ _ cz e))))
  have j1 : St1 (i + 1) g2 := D1.over (D1.over (D1.over n1 b1' S.Tf1) c2' S.sep2_1) b2' S.Tf1
  have j2 : St2 (i + 1) g2 := D2.over n2 b2' S.Tf2
  have zlt : z < g2.objs.size := Heap.lt_size zz
  show wpAny _ _ (Builtin.SmallTypes.ownedTupleHandOut (.ref z) (.ref g2.objs.size) >>= _) _ _ ⟨g2.push { cls := .type "tuple", data := .seq #[x, y] }, g, d, t2, os⟩
  refine wpAny_bind ?_
  unfold Builtin.SmallTypes.ownedTupleHandOut
  have z6 : IsZs (g2.push { cls := .type "tuple", data := .seq #[x, y] }) z TI TO .ellipsis := Heap.get?_push_of_some _ zz
  refine wpAny_bind (wpAny_setField_rec z6 (by simp) fun h7 z7 s7 => ?_)
  have z7' : IsZs h7 z TI TO (rawInt g2.objs.size) := z7
  refine wpAny_setField_rec z7' (by simp) fun h8 z8 s8 => ?_
  have z8' : IsZs h8 z TI TO (rawInt g2.objs.size) := z8
  have s7' : Heap.SameBut z (g2.push { cls := .type "tuple", data := .seq #[x, y] }) h7 := s7
  have s8' : Heap.SameBut z h7 h8 := s8
  have up : ∀ c o, c ≠ z → g2.get? c = some o → h8.get? c = some o := fun c o cz e => s8'.extBut _ _ cz (s7'.extBut _ _ cz (Heap.get?_push_of_some _ e))
  have t8 : IsTupOf2 h8 g2.objs.size x y := s8'.extBut _ _ (Nat.ne_of_gt zlt) (s7'.extBut _ _ (Nat.ne_of_gt zlt) (Heap.get?_push_size _ rfl))
  rw [hsz] at z8' t8
  refine wpAny_pure ⟨_, rfl, ?_⟩
  show Q (.ref g2.objs.size) ⟨h8, g, d, t2, os⟩
  rw [hsz]
  exact hQ x y h8 t2 hx hy z8' (up _ _ S.TOz w2') (D1.frame _ _ _ j1 fun b hb o e => up b o (fun q => S.zf1 (q ▸ hb)) e) (D2.frame _ _ _ j2 fun b hb o e => up b o (fun q => S.zf2 (q ▸ hb)) e) t8 fun c o cz cT e1 e2 e => up c o cz (kk c o cz cT e1 e2 e)
theorem zs_end {Q : Fin → Shared → Prop} (hh : A.handled = none) (S : ZipSep2 z TI TO i1 i2 fp1 fp2) (D1 : Draws prog w A i1 fp1 n P1 St1) (D2 : Draws prog w A i2 fp2 n P2 St2) (hz : IsZs s.heap z TI TO .none) (hTI : IsTupOf2 s.heap TI (.ref i1) (.ref i2)) (hTO : IsTupOf2 s.heap TO a1 a2)
    (st1 : St1 n s.heap) (st2 : St2 n s.heap)
    (hE : ∀ h' tk e, (∀ c o, c ≠ z → c ≠ TO → c ≠ i1 → c ≠ i2 → s.heap.get? c = some o → h'.get? c = some o) → (∃ o, h'.get? e = some o ∧ o.cls = .type "StopIteration") → E (.ref e) { s with heap := h', toks := tk }) :
    wpAny (model prog w) A (Builtin.«zip.__next__» ⟨[.ref z], []⟩) Q E s := by
  obtain ⟨hp, g, d, tk0, os⟩ := s
  show wpAny _ _ (field (.ref z) 2 >>= _) _ _ _
  refine wpAny_bind (wpAny_field hz rfl (x := .bool true) rfl ?_)
  show wpAny _ _ (field (.ref z) 3 >>= _) _ _ _
  refine wpAny_bind (wpAny_field hz rfl (x := .ref TI) rfl ?_)
  refine wpAny_bind (wpAny_seqItems hTI rfl ?_)
  show wpAny _ _ (Builtin.SmallTypes.ownedTupleIsFree (.ref z) >>= _) _ _ _
  refine wpAny_bind ?_
  unfold Builtin.SmallTypes.ownedTupleIsFree
  refine wpAny_bind (wpAny_field hz rfl (x := .none) rfl (wpAny_pure ?_))
  simp only [if_true]
  refine wpAny_bind (wpAny_rule (wpAny_bind (wpAny_field hz rfl (x := .ref TO) rfl (wpAny_bind (wpAny_setField_rec hz (by simp) fun g0 z0 b0 => wpAny_bind ?_)))))
  have z0' : IsZs g0 z TI TO .ellipsis := z0
  have b0' : Heap.SameBut z hp g0 := b0
  simp only [List.zipIdx_cons, List.zipIdx_nil, List.forIn_cons, List.forIn_nil]
  refine wpAny_bind (wpAny_bind (wpAny_onRaise ?_))
  show wpAny _ _ (Builtin.SmallTypes.nextOrEnd (.ref i1)) _ _ ⟨g0, g, d, tk0, os⟩
  refine noe_end D1 (D1.over st1 b0' S.zf1) fun p1 c1 => ?_
  have c1' : Heap.ExtBut i1 g0 p1 := c1
  have z1 : IsZs p1 z TI TO .ellipsis := c1' _ _ S.zi1 z0'
  refine wpAny_bind (wpAny_setField_rec (s := ⟨p1, g, d, tk0, os⟩) z1 (by simp) fun p2 z2 c2 => wpAny_bind ?_)
  have c2' : Heap.SameBut z p1 p2 := c2
  show wpAny _ _ (forIn [(Value.ref i2, 1)] _ _ >>= _) _ _ _
  refine wpAny_bind ?_
  simp only [List.forIn_cons, List.forIn_nil]
  have st2' : St2 n p2 := D2.over (D2.frame _ _ _ (D2.over st2 b0' S.zf2) fun b hb o e => c1' b o (fun q => S.sep1_2 (q ▸ hb)) e) c2' S.zf2
  refine wpAny_bind (wpAny_bind (noe_end D2 st2' fun p3 c3 => ?_))
  have c3' : Heap.ExtBut i2 p2 p3 := c3
  refine wpAny_pure (wpAny_pure (wpAny_bind (wpAny_rule (stop_run hh fun h' e hk he => ?_))))
  have kk : ∀ c o, c ≠ z → c ≠ TO → c ≠ i1 → c ≠ i2 → hp.get? c = some o → h'.get? c = some o := fun c o cz cT e1 e2 q => hk c o (c3' c o e2 (c2'.extBut _ _ cz (c1' c o e1 (b0'.extBut _ _ cz q))))
  exact hE h' tk0 e kk he
theorem zs_go {elts : List Expr} {x1 : Nat} {pos : Pos} {T : Addr} {Q : Unit → Shared → Prop} (hz : IsZs s.heap z TI TO (rawInt T)) (hQ : ∀ h', IsZs h' z TI TO .none → Heap.SameBut z s.heap h' → Q () { s with heap := h' }) :
    wpAny (model prog w) A (letOwnedTupleGo (.Tuple elts x1 pos) (.ref z) (.ref T)) Q E s := by
  unfold letOwnedTupleGo
  refine wpAny_bind (wpAny_load hz ?_)
  refine wpAny_ite ?_
  rw [if_pos (by simp)]
  refine wpAny_bind (wpAny_rule ?_)
  show wpAny _ _ (setField (.ref z) 0 .none) Q E s
  exact wpAny_setField_rec hz (by simp) hQ
theorem zs_iter {f0 : Value} {Q : Value → Shared → Prop} (hz : IsZs s.heap z TI TO f0) (h : Q (.ref z) s) : wpAny (model prog w) A (pyIter (.ref z)) Q E s := by
  have ty : s.TypeIs (.ref z) "zip" := ⟨_, hz, rfl⟩
  exact wpAny_pyIter_slot ty F.slot_zip_iter (wpAny_call_entry F.slot_zip_iter ty F.entry_zip_iter (wpAny_pure ⟨_, rfl, "zip", _, ty, F.slot_zip_next.lookup, h⟩) (F.args_zip_iter_1 _))
theorem zs_goes {elts : List Expr} {x1 : Nat} {pos : Pos} (hh : A.handled = none) (S : ZipSep2 z TI TO i1 i2 fp1 fp2) (D1 : Draws prog w A.in1 i1 fp1 n P1 St1) (D2 : Draws prog w A.in1 i2 fp2 n P2 St2) :
    GoesN prog w A (.Tuple elts x1 pos) z (z :: TI :: TO :: (fp1 ++ fp2)) [z, TO, i1, i2] n (fun i h₀ v h => ∃ T x y, v = .ref T ∧ h₀.objs.size ≤ T ∧ P1 i x ∧ P2 i y ∧ IsTupOf2 h T x y)
      (fun i h => IsZs h z TI TO .none ∧ IsTupOf2 h TI (.ref i1) (.ref i2) ∧ (∃ a1 a2, IsTupOf2 h TO a1 a2) ∧ St1 i h ∧ St2 i h) where
  sub := by
    intro b hb
    simp only [List.mem_cons, List.not_mem_nil, or_false] at hb
    rcases hb with rfl | rfl | rfl | rfl
    · simp
    · simp
    · simp [S.mem1]
    · simp [S.mem2]
  frame := by
    rintro i h h' ⟨h1, h2, ⟨x, y, h3⟩, h4, h5⟩ k
    exact ⟨k _ (by simp) _ h1, k _ (by simp) _ h2, ⟨x, y, k _ (by simp) _ h3⟩, D1.frame _ _ _ h4 fun b hb o e => k b (by simp [hb]) o e, D2.frame _ _ _ h5 fun b hb o e => k b (by simp [hb]) o e⟩
  goes := by
    rintro i s Q E hi ⟨h1, h2, ⟨x, y, h3⟩, h4, h5⟩ hQ
    have ty : s.TypeIs (.ref z) "zip" := ⟨_, h1, rfl⟩
    have zlt : z < s.heap.objs.size := Heap.lt_size h1
    refine wpAny_with_toks (n := s.toks) (Nat.le_refl _) ?_
    unfold pyNext
    refine wpAny_bind (wpAny_attempt (wpAny_callSpecial?_slot (name := Str.ofString "__next__") ty F.slot_zip_next (wpAny_call_entry F.slot_zip_next ty F.entry_zip_next (zs_item S D1 D2 h1 h2 h3 h4 h5 hi fun a b h' tk pa pb q1 q2 q3 q4 q5 q6 => wpAny_pure ?_) (F.args_zip_next_1 _))))
    intro htk
    refine ⟨_, rfl, zs_go (s := { s with heap := h', toks := tk }) q1 fun h'' q7 sb => hQ _ h'' tk ⟨s.heap.objs.size, a, b, rfl, Nat.le_refl _, pa, pb, sb.extBut _ _ (Nat.ne_of_gt zlt) q5⟩ ⟨q7, ?_, ⟨a, b, ?_⟩, ?_, ?_⟩ ?_ ?_⟩
    · exact sb.extBut _ _ S.TIz (q6 _ _ S.TIz S.TITO S.TIi1 S.TIi2 h2)
    · exact sb.extBut _ _ S.TOz q2
    · exact D1.over q3 sb S.zf1
    · exact D2.over q4 sb S.zf2
    · intro c o hc e
      simp only [List.mem_cons, List.not_mem_nil, or_false, not_or] at hc
      exact sb.extBut _ _ hc.1 (q6 c o hc.1 hc.2.1 hc.2.2.1 hc.2.2.2 e)
    · exact htk
  stops := by
    rintro s Q E ⟨h1, h2, ⟨x, y, h3⟩, h4, h5⟩ hQ
    have ty : s.TypeIs (.ref z) "zip" := ⟨_, h1, rfl⟩
    refine wpAny_with_toks (n := s.toks) (Nat.le_refl _) ?_
    unfold pyNext
    refine wpAny_bind (wpAny_attempt (wpAny_callSpecial?_slot (name := Str.ofString "__next__") ty F.slot_zip_next (wpAny_call_entry F.slot_zip_next ty F.entry_zip_next (zs_end (A := A.in1) hh S D1 D2 h1 h2 h3 h4 h5 fun h' tk e hk he => ?_) (F.args_zip_next_1 _))))
    obtain ⟨o, ho, hc⟩ := he
    refine wpAny_bind (wpAny_isInstance (T := "StopIteration") (b := true) ⟨o, ho, hc⟩ isSubtype_stop (wpAny_pure fun htk => ⟨rfl, hQ h' tk ?_ htk⟩))
    · intro c o hc e
      simp only [List.mem_cons, List.not_mem_nil, or_false, not_or] at hc
      exact hk c o hc.1 hc.2.1 hc.2.2.1 hc.2.2.2 e
  self := fun i s Q E st q => zs_iter st.1 q
end
theorem zs_ct (a b : Value) : checkTypeCall "zip" ⟨[a, b], [(Str.ofString "strict", .bool true)]⟩ = pure () := by kernel_rfl
theorem zs_cn (a b : Value) : checkBuiltinCall "zip.__new__" ⟨[.type "zip", a, b], [(Str.ofString "strict", .bool true)]⟩ = pure () := by kernel_rfl
theorem zs_ok (o a b : Value) : argsOk "object.__init__" ⟨[o, a, b], [(Str.ofString "strict", .bool true)]⟩ := by unfold argsOk; kernel_rfl
abbrev zsZ (h : Heap) (o1 o2 : Obj) : Heap := (gzO2 h o1 o2).push { cls := .type "zip", data := .fields #[.none, .bool false, .bool true, .ref ((h.push o1).push o2).objs.size, .ref (gzT2 h o1 o2).objs.size] }
theorem zs_meets {v1 v2 : Value} {o1 o2 : Obj} {H1 H2 : Heap → Prop} (B1 : Begins v1 o1 H1) (B2 : Begins v2 o2 H2) : Meets (Builtin.«zip.__new__» ⟨[.type "zip", v1, v2], [(Str.ofString "strict", .bool true)]⟩) (fun _ R s => (H1 s.heap ∧ H2 s.heap) ∧
    R (.ok (.ret (.ref (gzO2 s.heap o1 o2).objs.size))) { s with heap := zsZ s.heap o1 o2 }) := by
  refine .of_wp fun prog w A R s hh => ?_
  obtain ⟨hp, g, d, tk, os⟩ := s
  obtain ⟨⟨p1, p2⟩, hR⟩ := hh
  have hsub := sub_zip
  have b1 : ∀ {A' : Around} {E : Value → Shared → Prop} {Q : Value → Shared → Prop}, Q (.ref hp.objs.size) ⟨hp.push o1, g, d, tk, os⟩ → wpAny (model prog w) A' (pyIter v1) Q E ⟨hp, g, d, tk, os⟩ := fun q => B1.iter prog w _ _ ⟨hp, g, d, tk, os⟩ _ p1 q
  have b2 : ∀ {A' : Around} {E : Value → Shared → Prop} {Q : Value → Shared → Prop}, Q (.ref (hp.push o1).objs.size) ⟨(hp.push o1).push o2, g, d, tk, os⟩ → wpAny (model prog w) A' (pyIter v2) Q E ⟨hp.push o1, g, d, tk, os⟩ := fun q => B2.iter prog w _ _ ⟨hp.push o1, g, d, tk, os⟩ _ (B2.keeps _ _ p2 fun b o e => Heap.get?_push_of_some _ e) q
  wp_walk using b1, b2
  exact ⟨_, rfl, hR⟩
section
variable {prog : Program} {w : World} {A : Around} {E : Value → Shared → Prop} {s : Shared}
theorem zs_begins {v1 v2 : Value} {o1 o2 : Obj} {H1 H2 : Heap → Prop} {Q : Value → Shared → Prop} (B1 : Begins v1 o1 H1) (B2 : Begins v2 o2 H2) (p1 : H1 s.heap) (p2 : H2 s.heap)
    (h : ∀ h', IsZs h' (s.heap.objs.size + 4) (s.heap.objs.size + 2) (s.heap.objs.size + 3) .none → IsTupOf2 h' (s.heap.objs.size + 2) (.ref s.heap.objs.size) (.ref (s.heap.objs.size + 1)) → IsTupOf2 h' (s.heap.objs.size + 3) .none .none →
      h'.get? s.heap.objs.size = some o1 → h'.get? (s.heap.objs.size + 1) = some o2 → (∀ c o, s.heap.get? c = some o → h'.get? c = some o) → Q (.ref (s.heap.objs.size + 4)) { s with heap := h' }) :
    wpAny (model prog w) A (call (.type "zip") [v1, v2] [(Str.ofString "strict", .bool true)]) Q E s := by
  refine callType_newKw F.called_zip (by decide) (zs_ct _ _) (zs_cn _ _) (fun o => zs_ok o _ _) F.entry_zip_new (zs_meets B1 B2) ⟨⟨p1, p2⟩, ?_⟩
  have c1 : (s.heap.push o1).objs.size = s.heap.objs.size + 1 := by rw [Heap.size_push]
  have c2 : ((s.heap.push o1).push o2).objs.size = s.heap.objs.size + 2 := by rw [Heap.size_push, c1]
  have c3 : (gzT2 s.heap o1 o2).objs.size = s.heap.objs.size + 3 := by rw [Heap.size_push, c2]
  have c4 : (gzO2 s.heap o1 o2).objs.size = s.heap.objs.size + 4 := by rw [Heap.size_push, c3]
  have e5 : (zsZ s.heap o1 o2).get? (gzO2 s.heap o1 o2).objs.size = some _ := Heap.get?_push_size _ rfl
  have e4 : (zsZ s.heap o1 o2).get? (gzT2 s.heap o1 o2).objs.size = some _ := Heap.get?_push_of_some _ (Heap.get?_push_size _ rfl)
  have e3 : (zsZ s.heap o1 o2).get? ((s.heap.push o1).push o2).objs.size = some _ := Heap.get?_push_of_some _ (Heap.get?_push_of_some _ (Heap.get?_push_size _ rfl))
  have e2 : (zsZ s.heap o1 o2).get? (s.heap.push o1).objs.size = some o2 := Heap.get?_push_of_some _ (Heap.get?_push_of_some _ (Heap.get?_push_of_some _ (Heap.get?_push_size _ B2.free)))
  have e1 : (zsZ s.heap o1 o2).get? s.heap.objs.size = some o1 := Heap.get?_push_of_some _ (Heap.get?_push_of_some _ (Heap.get?_push_of_some _ (Heap.get?_push_of_some _ (Heap.get?_push_size _ B1.free))))
  rw [c4, c3, c2] at e5
  rw [c3] at e4
  rw [c2, c1] at e3
  rw [c1] at e2
  show _ ∧ _
  rw [c4]
  exact ⟨⟨_, e5, rfl⟩, h _ e5 e3 e4 e1 e2 fun c o e => Heap.get?_push_of_some _ (Heap.get?_push_of_some _ (Heap.get?_push_of_some _ (Heap.get?_push_of_some _ (Heap.get?_push_of_some _ e))))⟩
theorem cwTypeKw {M : Model} {env : Env} {pos : Pos} {T : String} {e : Expr} {rest : List Expr} {kws : List Keyword} {Q : Value → Shared → Prop}
    (h : wpAny M A (spliced (backTo pos (starEach (e :: rest) env))) (fun vs s₁ => wpAny M A (evalAll ((backToKw pos (keywordEach kws env)).map (·.2))) (fun kvs s₂ => wpAny M A (call (.type T) vs (((backToKw pos (keywordEach kws env)).filterMap (·.1)).zip kvs)) Q E s₂) E s₁) E s)
    (he : backTo pos (starEach (e :: rest) env) = (false, eval e env) :: backTo pos (starEach rest env) := by rfl) (hplain : (backTo pos (starEach (e :: rest) env)).any (·.1) = false := by rfl)
    (hall : (backToKw pos (keywordEach kws env)).all (·.1.isSome) = true := by rfl) (hkw : (backToKw pos (keywordEach kws env)).any (·.1.isNone) = false := by rfl) :
    wpAny M A (callWith pos (.type T) [] (backTo pos (starEach (e :: rest) env)) (backToKw pos (keywordEach kws env))) Q E s := by
  have h1 : wpAny M A (evalArgs (.type T) true (backTo pos (starEach (e :: rest) env)) (backToKw pos (keywordEach kws env))) (fun a s₁ => wpAny M A (call (.type T) ([] ++ a.pos) a.kw) Q E s₁) E s := by
    rw [he] at h ⊢
    exact evalArgs_kw hall h
  unfold callWith
  refine wpAny_bind (wpAny_holding (wpAny_mono h1 (fun a s₁ h₁ => wpAny_bind (wpAny_standAt ?_)) fun _ _ x => x))
  simp only [hplain, hkw, Bool.or_false]
  exact wpAny_bind (wpAny_pure (wpAny_bind (wpAny_mono h₁ (fun r s₂ hr => wpAny_bind (wpAny_holding (wpAny_point (wpAny_pure hr)))) fun _ _ x => x)))
end
theorem turn_zs {P : Program} {w : World} {K : PySem.W.Frag} {elts : List Expr} {kk : Nat} {tpos : Pos} {n a b : Nat} {k1 k2 : Bool} {vs us : List V} (ha : a < n) (hb : b < n) (hl : vs.length = us.length) :
    Turn P w K (.Tuple elts kk tpos) (JR (fun H => SqK K k1 H a vs ∧ SqK K k2 H b us) (List.zipWith (fun x y => [x, y]) vs us)) [n + 4, n + 2, n + 3, n, n + 1] (n + 4)
      (fun i h => IsZs h (n + 4) (n + 2) (n + 3) .none ∧ IsTupOf2 h (n + 2) (.ref n) (.ref (n + 1)) ∧ (∃ a1 a2, IsTupOf2 h (n + 3) a1 a2) ∧ IsIt k1 h n a i ∧ IsIt k2 h (n + 1) b i) := by
  refine turn_of (by simp) ?_ ?_ (fun A i s Q E st q => zs_iter st.1 q) ?_
  · rintro i h ⟨h1, h2, ⟨x, y, h3⟩, h4, h5⟩ c hc
    simp only [List.mem_cons, List.not_mem_nil, or_false] at hc
    rcases hc with rfl | rfl | rfl | rfl | rfl
    · exact ⟨_, h1, fun v q => nomatch q⟩
    · exact ⟨_, h2, fun v q => nomatch q⟩
    · exact ⟨_, h3, fun v q => nomatch q⟩
    · exact it_ob h4
    · exact it_ob h5
  · rintro i h h' ⟨h1, h2, ⟨x, y, h3⟩, h4, h5⟩ k
    exact ⟨k _ (by simp) _ h1, k _ (by simp) _ h2, ⟨x, y, k _ (by simp) _ h3⟩, it_at h4 fun o e => k _ (by simp) o e, it_at h5 fun o e => k _ (by simp) o e⟩
  · intro X pins σ H s hP hw hK hh I hC
    subst hP hw hK
    obtain ⟨i1, r1, s1⟩ := sq_inv I hC.1
    obtain ⟨i2, r2, s2⟩ := sq_inv I hC.2
    have D1 := sq_draws (P := X.prog) (w := X.w) (A := X.A.in1) k1 hh n a (ane (by omega)) i1.toArray
    have D2 := sq_draws (P := X.prog) (w := X.w) (A := X.A.in1) k2 hh (n + 1) b (ane (by omega)) i2.toArray
    have e : i1.toArray.size = (List.zipWith (fun x y => [x, y]) vs us).length := by
      rw [List.length_zipWith, hl, r2.length, Nat.min_self]
      have := r1.length
      have := r2.length
      simp; omega
    have e2 : i2.toArray.size = (List.zipWith (fun x y => [x, y]) vs us).length := by
      rw [List.length_zipWith, hl, r2.length, Nat.min_self]
      simp
    rw [e] at D1
    rw [e2] at D2
    have S : ZipSep2 (n + 4) (n + 2) (n + 3) n (n + 1) [n, a] [n + 1, b] := by constructor <;> first | exact ane (by omega) | exact nm2 (by omega) (by omega) | simp
    refine ⟨_, _, _, _, zs_goes hh S D1 D2, by simp, fun i st => ⟨st.1, st.2.1, st.2.2.1, ⟨st.2.2.2.1, s1⟩, st.2.2.2.2, s2⟩, fun i h' st => ⟨st.1, st.2.1, st.2.2.1, st.2.2.2.1.1, st.2.2.2.2.1⟩, ?_⟩
    rintro i v h' ⟨T, x, y, rfl, hT, px, py, hI⟩ hi
    obtain ⟨vx, e1, q1⟩ := vals_at r1 px
    obtain ⟨vy, e2, q2⟩ := vals_at r2 py
    refine ⟨T, [x, y], [vx, vy], rfl, hT, hI, ?_, .cons q1 (.cons q2 .nil), by show 2 ≤ sizeLine; decide⟩
    rw [List.getElem?_zipWith, e1, e2]
def iZipS (t : TA') : TI' := fun σ M R => t σ M fun xs M1 => match xs with
  | [x, y] => ∃ as bs, asTL x = some as ∧ asTL y = some bs ∧ as.length = bs.length ∧ R ((zip2P as bs).map PV.tup) M1
  | _ => False
theorem qi_zipS {X : Cx} {F0 : Fix} {e e2 : Expr} {elts : List Expr} {kk ck : Nat} {p pos tpos cp kp : Pos} {t : TA'} (hg : Gl X "zip") (hm : X.mg "zip" = none) (ha : QA X F0 [e, e2] t) (he : backTo pos (starEach [e, e2] X.env) = (false, eval e X.env) :: backTo pos (starEach [e2] X.env) := by rfl) (hpl : (backTo pos (starEach [e, e2] X.env)).any (·.1) = false := by rfl) :
    QI X F0 (.Tuple elts kk tpos) (.Call (.Name "zip" p) [e, e2] [⟨some "strict", .Constant (.bool true) ck cp, kp⟩] pos) (iZipS t) := by
  refine ⟨fun pins s σ H R I ⟨F, M, σ', R', Rl, S, h, po⟩ => ?_⟩
  refine wpAny_Call_Name_kw (ld_blt I hg hm PyProof.Rows.boot_zip (cwTypeKw (thn (PA.run ha pos pins s σ H (fun vs H1 => ∃ k1 k2 a b us ws, vs = [.ref a, .ref b] ∧ us.length = ws.length ∧ SqK X.K k1 H1 a us ∧ SqK X.K k2 H1 b ws ∧ R (JR (fun H => SqK X.K k1 H a us ∧ SqK X.K k2 H b ws) (List.zipWith (fun x y => [x, y]) us ws)) H1) I ⟨F, M, σ', _, Rl, S, h, fun F1 H1 M1 xs vs e1 R1 rs h1 => ?_⟩) fun us s1 ⟨vs, H1, I1, r1, q1⟩ => ?_) he hpl))
  · split at h1
    · obtain ⟨as, bs, ea, eb, el, h1⟩ := h1
      obtain ⟨v, v', ev, rv, rv'⟩ := rvs2 rs
      obtain ⟨k1, a, us, e3, sq, r2⟩ := sq_of rv ea
      obtain ⟨k2, b, ws, e4, sq', r3⟩ := sq_of rv' eb
      subst e3 e4
      refine ⟨k1, k2, a, b, us, ws, ev, by rw [← rvs_len r2, ← rvs_len r3]; exact el, sq H1 R1.sm, sq' H1 R1.sm, po F1 H1 M1 _ _ e1 R1 (itok_rows (fun H z => ⟨sq H z, sq' H z⟩) (by unfold zip2P; rw [List.length_zipWith, List.length_zipWith, rvs_len r2, rvs_len r3]) fun i xs r ha hr => ?_) h1⟩
      unfold zip2P at ha
      rw [List.getElem?_zipWith] at ha hr
      cases hx : as[i]? <;> cases hy : bs[i]? <;> rw [hx, hy] at ha <;> try cases ha
      cases hv : us[i]? <;> cases hw : ws[i]? <;> rw [hv, hw] at hr <;> try cases hr
      exact .cons (rvs_at r2 hx hv) (.cons (rvs_at r3 hy hw) .nil)
    · exact h1.elim
  · refine thn ((pk_cons (nm := some "strict") (kpos := kp) (pe_bl (b := true) (j := ck) (pos := cp)) pk_nil).run pos pins s1 σ H1 (fun zs H2 => zs = [.bl true] ∧ H2 = H1) I1 ⟨rfl, rfl⟩) fun ks s2 ⟨zs, H2, I2, r2, ez, eH⟩ => ?_
    subst ez eH
    cases r2 with
    | cons rb rn =>
      cases rn
      cases rb
      obtain ⟨k1, k2, a, b, us', ws, ev, el, sq, sq', q⟩ := q1
      subst ev
      cases r1 with
      | cons r rr =>
        cases rr with
        | cons r' rr =>
          cases rr
          cases r
          cases r'
          obtain ⟨i1, rv, sk⟩ := sq_inv I2 sq
          obtain ⟨i2, rv', sk'⟩ := sq_inv I2 sq'
          refine zs_begins (sq_begins k1 a i1.toArray) (sq_begins k2 b i2.toArray) sk sk' fun h' hz hT hO h1 h2 hk => zs_iter hz ?_
          refine ⟨s2.heap.objs.size + 4, [s2.heap.objs.size + 4, s2.heap.objs.size + 2, s2.heap.objs.size + 3, s2.heap.objs.size, s2.heap.objs.size + 1], _, _, _, rfl, I2.kept (t' := s2.toks) hk, turn_zs (n := s2.heap.objs.size) (sq_lt sk) (sq_lt sk') el, ⟨hz, hT, ⟨_, _, hO⟩, it_new h1, it_new h2⟩, fun c hc => ?_, q⟩
          simp only [List.mem_cons, List.not_mem_nil, or_false] at hc
          rcases hc with rfl | rfl | rfl | rfl | rfl <;> first | exact fp_new I2 (Nat.le_add_right _ _) | exact fp_new I2 (Nat.le_refl _)
end PL

namespace PL
open PySem PySem.Spec PyProof.Rows L2
/-! ### tuple.count -/
section
variable {X : Cx} {F0 : Fix} {e a b o : Expr} {pos p : Pos} {ta tb to : TE'}
def rTCnt (K : PySem.W.Frag) : V → List V → Hp → VK → Prop := fun x xs H Q => ∃ (a : Addr) (ys : List V) (y : V), x = V.ref a ∧ xs = [y] ∧ SqT K H a ys ∧ flatV y = true ∧ ys.all flatV = true ∧ Q (.int ((ys.countP fun z => eqV z y : Nat) : Int)) H
theorem cnt_of {y : V} : ∀ {ys : List V} {us : List Value}, Vals ys us → ys.all flatV = true → us.countP (eqU y) = ys.countP fun z => eqV z y
  | _, _, .nil, _ => rfl
  | z :: zs, u :: us, .cons r rs, h => by
    have h' : flatV z = true ∧ zs.all flatV = true := by simpa using h
    rw [List.countP_cons, List.countP_cons, cnt_of rs h'.2, eqU_of r h'.1]
theorem mt_tcount : MtR X "tuple.count" (rTCnt X.K) := by
  intro pins s σ H x xs v us Q I rx rxs h
  obtain ⟨a, ys, y, rfl, rfl, hs, fy, fys, q⟩ := h
  cases rx
  obtain ⟨u, rfl, ru⟩ := rxs.one
  obtain ⟨its, rv, ⟨⟨cls, dd, data, sl⟩, ho, hc, n, hd⟩, hlen⟩ := I.tuple hs
  simp only at hc hd
  subst hc hd
  refine call_meets PySem.F.slot_tuple_count ⟨_, ho, rfl⟩ PySem.F.entry_tuple_count (PySem.F.args_tuple_count_2 _ _) (SeqAt.tuple_countAt a its.toArray n dd sl u (eqU y)) ⟨ho, fun u' hu' => mem_eqAt ru fy rv fys u' (by simpa using hu'), ?_⟩
  refine ⟨.int ((ys.countP fun z => eqV z y : Nat) : Int), H, I.tok _, ⟨s.toks, ?_⟩, q⟩
  show Value.int ((its.toArray.toList.countP (eqU y) : Nat) : Int) s.toks = _
  rw [show its.toArray.toList = its from rfl, cnt_of rv fys]
def PV.fl : PV → Bool
  | .non | .bl _ | .int _ | .str _ => true
  | _ => false
def eqF : PV → PV → Bool
  | .non, .non => true
  | .bl a, .bl b => a == b
  | .bl a, .int b => (if a then 1 else 0) == b
  | .int a, .bl b => a == (if b then 1 else 0)
  | .int a, .int b => a == b
  | .str a, .str b => a == b
  | _, _ => false
theorem fl_of {K : PySem.W.Frag} {F : Hp} {x : PV} {v : V} (r : RV K F x v) (h : x.fl = true) : flatV v = true := by
  cases x <;> first | (unfold RV at r; subst r; rfl) | cases h
theorem eqF_of {K : PySem.W.Frag} {F : Hp} {x y : PV} {v u : V} (r : RV K F x v) (r' : RV K F y u) (h : x.fl = true) (h' : y.fl = true) : eqV v u = eqF x y := by
  cases x <;> try (cases h; done)
  all_goals (cases y <;> try (cases h'; done))
  all_goals (unfold RV at r r'; subst r r'; rfl)
theorem fls_of {K : PySem.W.Frag} {F : Hp} : ∀ {xs : List PV} {vs : List V}, RVs K F xs vs → xs.all PV.fl = true → vs.all flatV = true
  | [], vs, r, _ => by unfold RVs at r; subst r; rfl
  | x :: xs, vs, r, h => by
    unfold RVs at r
    obtain ⟨v, us, rfl, r1, r2⟩ := r
    have h' : x.fl = true ∧ xs.all PV.fl = true := by simpa using h
    rw [List.all_cons, fl_of r1 h'.1, fls_of r2 h'.2]; rfl
theorem cntF_of {K : PySem.W.Frag} {F : Hp} {y : PV} {u : V} (ry : RV K F y u) (hy : y.fl = true) : ∀ {xs : List PV} {vs : List V}, RVs K F xs vs → xs.all PV.fl = true → (vs.countP fun z => eqV z u) = xs.countP fun z => eqF z y
  | [], vs, r, _ => by unfold RVs at r; subst r; rfl
  | x :: xs, vs, r, h => by
    unfold RVs at r
    obtain ⟨v, us, rfl, r1, r2⟩ := r
    have h' : x.fl = true ∧ xs.all PV.fl = true := by simpa using h
    rw [List.countP_cons, List.countP_cons, cntF_of ry hy r2 h'.2, eqF_of r1 ry h'.1 hy]
/-- a call of a tuple's method -/
def DfH (K : PySem.W.Frag) (x : V) (H : Hp) : Prop := ∃ a ys, x = .ref a ∧ SqT K H a ys ∧ Df K H a
theorem dfh_is {pins : List (Addr × Obj)} {σ : L2.St} {H : Hp} {s : Shared} {x : V} {v : Value} (I : Inv X pins σ H s) (r : RelV x v) (d : DfH X.K x H) : s.TypeIs v "tuple" ∧ ∀ a, v = .ref a → ∃ ob, s.heap.get? a = some ob ∧ ob.dict = none := by
  obtain ⟨a, ys, rfl, hs, hd⟩ := d
  cases r
  obtain ⟨its, rv, ⟨o, ho, hc, hn⟩, _⟩ := I.tuple hs
  refine ⟨⟨o, ho, hc⟩, fun b e => ?_⟩
  cases e
  rcases hd with ⟨o', u, hf, hdn⟩ | ⟨o', hf, hdn⟩
  · exact ⟨o', (I.hok _ _ hf).1, hdn⟩
  · exact ⟨o', I.kIn _ _ hf, hdn⟩
def tBMD (K : PySem.W.Frag) (r : V → List V → Hp → VK → Prop) (to : TE) (t : TA) : TE := fun σ H Q => to σ H fun x H1 => DfH K x H1 ∧ t σ H1 fun xs H2 => r x xs H2 Q
theorem pe_bmD {id : String} {name : Str} {o e : Expr} {es : List Expr} {to : TE} {t : TA} {apos cpos : Pos} {r : V → List V → Hp → VK → Prop} (slot : Slot "tuple" name id) (hty : typeOf (.builtin id) = pure (.type "method_descriptor")) (hm : MtR X id r) (ho : PE X o to) (ha : PA X (e :: es) t)
    (hbase : attributeBase o name X.env (eval o X.env) = eval o X.env := by rfl)
    (hfew : ((backTo cpos (starEach (e :: es) X.env)).all (fun x => !x.1) && (backToKw cpos (keywordEach [] X.env)).all (fun x => x.1.isSome) && decide ((e :: es).length + ([] : List Keyword).length + (if ([] : List Keyword).isEmpty then 0 else 1) < 30)) = true := by rfl)
    (hline : (apos.endLine == cpos.line) = true := by rfl) (hs : starEach (e :: es) X.env = (false, eval e X.env) :: starEach es X.env := by rfl) (hplain : (backTo cpos (starEach es X.env)).any (·.1) = false := by rfl) :
    PE X (.Call (.Attribute o name apos) (e :: es) [] cpos) (tBMD X.K r to t) := by
  refine ⟨fun pins s σ H Q I h => wpAny_Call_method_late hbase hfew hline rfl (thn (ho.run pins s σ H _ I h) fun v s1 ⟨x, H1, I1, r1, ty, q1⟩ => ?_)⟩
  obtain ⟨h1, h2⟩ := dfh_is I1 r1 ty
  refine ⟨"tuple", id, PySem.F.plainAttrs_tuple, slot, hty, h1, h2, ?_⟩
  have hA := ha.run cpos pins s1 σ H1 _ I1 q1
  rw [hs] at hA ⊢
  exact Calls.callWith_builtin (by show (false || (backTo cpos (starEach es X.env)).any (·.1)) = false; rw [hplain]; rfl) (Calls.evalArgs_plain (thn hA fun us s2 ⟨vs, H2, I2, r2, q2⟩ => hm pins s2 σ H2 x vs v us Q I2 r1 r2 q2))
def isT (x : PV) (_ : PM) : Prop := ∃ xs, x = .tup xs
def pTCnt : PV → List PV → PM → QV → Prop := fun x ys M Q => match x, ys with
  | .tup xs, [y] => xs.all PV.fl = true ∧ y.fl = true ∧ Q (.int ((xs.countP fun z => eqF z y : Nat) : Int)) M
  | _, _ => False
theorem le_tcnt : LeM X F0 (rTCnt X.K) pTCnt := fun F H M x v xs vs Q Q' R rx rs h po => by
  unfold pTCnt at h
  split at h
  · obtain ⟨h1, h2, h3⟩ := h
    obtain ⟨w, e, rw'⟩ := rvs1 rs
    unfold RV at rx
    obtain ⟨a, us, e1, g1, _, g3⟩ := rx
    refine ⟨a, us, w, e1, e, sqt_mono R.sm g1, fl_of rw' h2, fls_of g3 h1, ?_⟩
    rw [cntF_of rw' h2 g3 h1]
    exact po F H M _ _ (Same.refl F) R rv_int h3
  · exact h.elim
theorem q_tcount {apos cpos : Pos} (ho : QE X F0 o to) (ha : QE X F0 a ta) (hbase : attributeBase o "count" X.env (eval o X.env) = eval o X.env := by rfl)
    (hfew : ((backTo cpos (starEach [a] X.env)).all (fun x => !x.1) && (backToKw cpos (keywordEach [] X.env)).all (fun x => x.1.isSome) && decide (([a] : List Expr).length + ([] : List Keyword).length + (if ([] : List Keyword).isEmpty then 0 else 1) < 30)) = true := by rfl)
    (hline : (apos.endLine == cpos.line) = true := by rfl) (hs : starEach [a] X.env = (false, eval a X.env) :: starEach [] X.env := by rfl) (hplain : (backTo cpos (starEach [] X.env)).any (·.1) = false := by rfl) :
    QE X F0 (.Call (.Attribute o "count" apos) [a] [] cpos) (pBM isT pTCnt to (pCons ta pNil)) :=
  qe_of (pe_bmD PySem.F.slot_tuple_count PySem.F.type_tuple_count mt_tcount ho (qa_cons ha qa_nil hs) hbase hfew hline hs hplain) fun σ H Q ⟨F, M, σ', Q', R, S, h, po⟩ => ⟨F, M, σ', _, R, S, h, fun F1 H1 M1 x v e1 R1 rx h1 => by
    obtain ⟨⟨xs, ex⟩, h1⟩ := h1
    subst ex
    have rx' := rx
    unfold RV at rx'
    obtain ⟨b, vs, ev, g1, g2, g3⟩ := rx'
    refine ⟨⟨b, vs, ev, sqt_mono R1.sm g1, df_mono R1.sm g1.2⟩, F1, M1, σ', _, R1, S.mono e1, h1, fun F2 H2 M2 ys ws e2 R2 rs h2 => le_tcnt F2 H2 M2 _ v ys ws Q Q' R2 (rx.mono e2) rs h2 (po.mono (e1.trans e2))⟩⟩
/-! ### list.index -/
def pLIx : PV → List PV → PM → QV → Prop := fun x ys M Q => match ys with
  | [y] => ∃ xs j, asL M x = some xs ∧ xs.all PV.fl = true ∧ y.fl = true ∧ (∃ z, xs[j]? = some z ∧ eqF z y = true) ∧ (∀ m z, m < j → xs[m]? = some z → eqF z y = false) ∧ Q (.int ((j : Nat) : Int)) M
  | _ => False
theorem le_lix : LeM X F0 (rIndex X.K) pLIx := fun F H M x v xs vs Q Q' R rx rs h po => by
  unfold pLIx at h
  split at h
  · obtain ⟨ys, j, h1, h2, h3, ⟨z, hz1, hz2⟩, h5, h6⟩ := h
    obtain ⟨w, e, rw'⟩ := rvs1 rs
    obtain ⟨a, us, e1, g1, g3⟩ := asL_at R rx h1
    have hl := g3.length
    have hj : j < us.length := by
      have := (List.getElem?_eq_some_iff.mp hz1).1
      omega
    have hu : us[j]? = some us[j] := List.getElem?_eq_getElem hj
    refine ⟨a, us, w, j, us[j], e1, e, SqL.of g1, fl_of rw' h3, fls_of g3 h2, hu, ?_, fun m z' hm hz' => ?_, po F H M _ _ (Same.refl F) R rv_int h6⟩
    · obtain ⟨y, q1, q2⟩ := g3.getR hu
      rw [hz1] at q1
      cases q1
      rw [eqF_of q2 rw' (List.all_eq_true.mp h2 _ (List.mem_of_getElem? hz1)) h3]
      exact hz2
    · obtain ⟨y, q1, q2⟩ := g3.getR hz'
      rw [eqF_of q2 rw' (List.all_eq_true.mp h2 _ (List.mem_of_getElem? q1)) h3]
      exact h5 m y hm q1
  · exact h.elim
theorem q_lindex {apos cpos : Pos} (ho : QE X F0 o to) (ha : QE X F0 a ta) (hbase : attributeBase o "index" X.env (eval o X.env) = eval o X.env := by rfl)
    (hfew : ((backTo cpos (starEach [a] X.env)).all (fun x => !x.1) && (backToKw cpos (keywordEach [] X.env)).all (fun x => x.1.isSome) && decide (([a] : List Expr).length + ([] : List Keyword).length + (if ([] : List Keyword).isEmpty then 0 else 1) < 30)) = true := by rfl)
    (hline : (apos.endLine == cpos.line) = true := by rfl) (hs : starEach [a] X.env = (false, eval a X.env) :: starEach [] X.env := by rfl) (hplain : (backTo cpos (starEach [] X.env)).any (·.1) = false := by rfl) :
    QE X F0 (.Call (.Attribute o "index" apos) [a] [] cpos) (pBM isL pLIx to (pCons ta pNil)) :=
  q_bm ty_list le_lix PySem.F.plainAttrs_list PySem.F.slot_list_index PySem.F.type_list_index mt_index ho (qa_cons ha qa_nil hs) hbase hfew hline hs hplain
/-! ### int(b), list(range(n)), sum -/
def pInt1 : List PV → PM → QV → Prop := fun xs M Q => match xs with
  | [.int i] => Q (.int i) M
  | [.bl k] => Q (.int (if k then 1 else 0)) M
  | _ => False
theorem le_int1 : LeC X F0 (fun xs H Q => (∃ i, xs = [.int i] ∧ Q (.int i) H) ∨ ∃ k, xs = [.bl k] ∧ Q (.int (if k then 1 else 0)) H) pInt1 := fun F H M xs vs Q Q' R rs h po => by
  unfold pInt1 at h
  split at h
  · obtain ⟨v, e, r⟩ := rvs1 rs
    unfold RV at r
    subst r
    exact .inl ⟨_, e, po F H M _ _ (Same.refl F) R rv_int h⟩
  · obtain ⟨v, e, r⟩ := rvs1 rs
    unfold RV at r
    subst r
    exact .inr ⟨_, e, po F H M _ _ (Same.refl F) R rv_int h⟩
  · exact h.elim
theorem q_int1 (hg : Gl X "int") (hm : X.mg "int" = none) (ha : QE X F0 a ta) (he : starEach [a] X.env = (false, eval a X.env) :: starEach [] X.env := by rfl) (hpl : (backTo pos (starEach [] X.env)).any (·.1) = false := by rfl) : QE X F0 (.Call (.Name "int" p) [a] [] pos) (pCB pInt1 (pCons ta pNil)) :=
  q_callTy le_int1 call_int1 hg hm (by decide +kernel) (qa_cons ha qa_nil he) (by decide) (by decide) he hpl
theorem rvs_rg {K : PySem.W.Frag} {F : Hp} : ∀ (l : List Nat) (lo : Int), RVs K F (l.map fun i => PV.int (lo + (i : Nat))) (l.map fun i => V.int (lo + (i : Nat)))
  | [], _ => .nil
  | i :: l, lo => .cons rv_int (rvs_rg l lo)
def pListRg (te : TE') : TE' := fun σ M Q => te σ M fun x M1 => match x with
  | .int n => n ≤ 16777216 ∧ 0 ≤ n ∧ Q (.lst (rgP 0 n.toNat)) M1
  | _ => False
def pListRgM (te : TE') : TE' := fun σ M Q => te σ M fun x M1 => match x with
  | .int n => n ≤ 16777216 ∧ 0 ≤ n ∧ ∀ p, M1 p = none → Q (.ref p) (put M1 p (.lst (rgP 0 n.toNat)))
  | _ => False
theorem q_listRg {p2 pos2 : Pos} (hc : X.calm = true) (hg : Gl X "list") (hm : X.mg "list" = none) (hg2 : Gl X "range") (hm2 : X.mg "range" = none) (ha : QE X F0 a ta) (na : starEach [a] X.env = (false, eval a X.env) :: starEach [] X.env := by rfl)
    (nb : starEach [Expr.Call (.Name "range" p2) [a] [] pos2] X.env = (false, eval (Expr.Call (.Name "range" p2) [a] [] pos2) X.env) :: starEach [] X.env := by rfl) : QE X F0 (.Call (.Name "list" p) [.Call (.Name "range" p2) [a] [] pos2] [] pos) (pListRg ta) :=
  qe_of (pe_listRg hc hg hm (prg_1 hg2 hm2 ha na) nb) fun σ H Q ⟨F, M, σ', Q', R, S, h, po⟩ => ⟨F, M, σ', _, R, S, h, fun F1 H1 M1 x v e1 R1 rx h1 => by
    cases x with
    | int n =>
      unfold RV at rx
      obtain ⟨h1, h2, h3⟩ := h1
      refine ⟨n, rx, RgOk.of_le (Int.le_refl 0) h1 (by omega) h2, fun q hq => ?_⟩
      have r0 : RVs X.K F1 (rgP 0 n.toNat) (rgV 0 n) := by
        unfold rgP rgV
        rw [Int.sub_zero]
        exact rvs_rg _ 0
      obtain ⟨R2, r2, e2⟩ := rel_lst R1 hq r0 (by rw [rgV_length, sizeLine_eq]; omega)
      exact po _ _ _ _ _ (e1.trans e2) R2 r2 h3
    | _ => exact h1.elim⟩
theorem q_listRgM {p2 pos2 : Pos} (hc : X.calm = true) (hg : Gl X "list") (hm : X.mg "list" = none) (hg2 : Gl X "range") (hm2 : X.mg "range" = none) (ha : QE X F0 a ta) (na : starEach [a] X.env = (false, eval a X.env) :: starEach [] X.env := by rfl)
    (nb : starEach [Expr.Call (.Name "range" p2) [a] [] pos2] X.env = (false, eval (Expr.Call (.Name "range" p2) [a] [] pos2) X.env) :: starEach [] X.env := by rfl) : QE X F0 (.Call (.Name "list" p) [.Call (.Name "range" p2) [a] [] pos2] [] pos) (pListRgM ta) :=
  qe_of (pe_listRg hc hg hm (prg_1 hg2 hm2 ha na) nb) fun σ H Q ⟨F, M, σ', Q', R, S, h, po⟩ => ⟨F, M, σ', _, R, S, h, fun F1 H1 M1 x v e1 R1 rx h1 => by
    cases x with
    | int n =>
      unfold RV at rx
      obtain ⟨h1, h2, h3⟩ := h1
      refine ⟨n, rx, RgOk.of_le (Int.le_refl 0) h1 (by omega) h2, fun q hq => ?_⟩
      have r0 : RVs X.K F1 (rgP 0 n.toNat) (rgV 0 n) := by
        unfold rgP rgV
        rw [Int.sub_zero]
        exact rvs_rg _ 0
      exact po _ _ _ _ _ e1 (rel_lstM R1 (R1.free hq) (R1.gH hq) r0) rv_ref (h3 q (R1.newM hq))
    | _ => exact h1.elim⟩
end
end PL

namespace PL
open PySem PySem.Spec PyProof.Rows L2
section
variable {X : Cx} {F0 : Fix} {e a b o : Expr} {pos p : Pos} {ta tb to : TE'}
/-! ### sum -/
def rSumT (K : PySem.W.Frag) : List V → Hp → VK → Prop := fun vs H Q => ∃ (a : Addr) (ns : List Int), vs = [V.ref a] ∧ SqT K H a (ns.map V.int) ∧ Q (.int ns.sum) H
theorem cr_sumT (hc : X.calm = true) : CallR X (.builtin "sum") (rSumT X.K) := by
  intro pins s σ H vs us Q I r h
  obtain ⟨a, ns, rfl, hs, q⟩ := h
  obtain ⟨its, rv, ht, _⟩ := I.tuple hs
  rw [Vals.ref1 r]
  have hi := rv.ints
  obtain ⟨xs, e⟩ := hi.allInts.items
  have hn : numsOf (intItems xs).toList = ns := by rw [← e]; exact hi.numsOf
  rw [nums_intItems] at hn
  rw [e] at ht
  refine PySem.W.ktm_sumG (I.ok.hd hc) ht fun h' tk t' hk => ⟨.int ns.sum, H, I.kept hk, ⟨t', ?_⟩, q⟩
  rw [preSum_eq, List.take_of_length_le (by simp), hn]
def pSum : List PV → PM → QV → Prop := fun xs M Q => match xs with
  | [x] => ∃ (ys : List PV) (ns : List Int), asSeq M x = some ys ∧ ys = ns.map PV.int ∧ Q (.int ns.sum) M
  | _ => False
theorem rvs_ints {K : PySem.W.Frag} {F : Hp} : ∀ {ns : List Int} {vs : List V}, RVs K F (ns.map PV.int) vs → vs = ns.map V.int
  | [], vs, r => by unfold RVs at r; exact r
  | n :: ns, vs, r => by
    rw [List.map_cons] at r
    unfold RVs at r
    obtain ⟨v, us, e, r1, r2⟩ := r
    unfold RV at r1
    rw [e, r1, rvs_ints r2]; rfl
theorem le_sum : LeC X F0 (fun xs H Q => rSum X.K xs H Q ∨ rSumT X.K xs H Q) pSum := fun F H M xs vs Q Q' R rs h po => by
  unfold pSum at h
  split at h
  · obtain ⟨v, e, r⟩ := rvs1 rs
    obtain ⟨ys, ns, h1, h2, h3⟩ := h
    subst h2
    obtain ⟨q, vs', e1, q1, r1⟩ := asSeq_at R r h1
    have e2 := rvs_ints r1
    subst e1 e2
    rcases q1 with q1 | q1
    · exact .inl ⟨q, ns, e, q1, po F H M _ _ (Same.refl F) R rv_int h3⟩
    · exact .inr ⟨q, ns, e, q1, po F H M _ _ (Same.refl F) R rv_int h3⟩
  · exact h.elim
theorem q_sum (hc : X.calm = true) (hg : Gl X "sum") (hm : X.mg "sum" = none) (ha : QE X F0 a ta) (he : starEach [a] X.env = (false, eval a X.env) :: starEach [] X.env := by rfl) (hpl : (backTo pos (starEach [] X.env)).any (·.1) = false := by rfl) : QE X F0 (.Call (.Name "sum" p) [a] [] pos) (pCB pSum (pCons ta pNil)) :=
  q_callB le_sum (or_call (cr_sum hc) (cr_sumT hc)) hg hm (by decide +kernel) (qa_cons ha qa_nil he) (by decide) (by decide) he hpl
/-! ### a list times a number, that may turn -/
def pMulM : R2' := fun x y M Q => match y with
  | .int k => ∃ xs, asL M x = some xs ∧ 0 ≤ k ∧ k < 2 ^ 63 ∧ xs.length * k.toNat ≤ sizeLine ∧ ∀ p, M p = none → Q (.ref p) (put M p (.lst (repP k.toNat xs)))
  | _ => False
theorem le_mulM : LeO X F0 rRep pMulM := fun F H M x y v w Q Q' R rx ry h po => by
  unfold pMulM at h
  split at h
  · obtain ⟨xs, g1, g2, g3, g4, g5⟩ := h
    obtain ⟨q, vs, e1, q1, r1⟩ := asL_at R rx g1
    unfold RV at ry
    have hl := r1.length
    exact ⟨q, _, vs, e1, ry, q1, by omega, g3, by rw [← hl]; exact g4, fun l hl' => po _ _ _ _ _ (Same.refl F) (rel_lstM R (R.free hl') (R.gH hl') (r1.rep _)) rv_ref (g5 l (R.newM hl'))⟩
  · exact h.elim
theorem q_mulM (ha : QE X F0 a ta) (hb : QE X F0 b tb) : QE X F0 (.BinOp a .Mult b pos) (pOp pMulM ta tb) := q_op op_rep le_mulM ha hb
/-! ### a, b = a list -/
def hLst (n : Nat) (t : TGs') : TG' := fun x σ M Q => ∃ xs, asL M x = some xs ∧ xs.length = n ∧ t xs σ M Q
theorem qg_lst {es : List Expr} {k : Nat} {t : TGs'} {n : Nat} (hc : X.calm = true) (h : QGs X F0 es t) (hn : (assignEach es X.env).length = n := by rfl) (hst : (assignEach es X.env).findIdx? (·.1) = none := by rfl) : QG X F0 (.Tuple es k pos) (hLst n t) :=
  qg_of (pg_lst hc h hn hst) fun v σ H Q ⟨F, M, σ', x, Q', R, S, rx, ⟨xs, h1, h2, h3⟩, po⟩ => by
    obtain ⟨a, vs, e1, g1, g3⟩ := asL_at R rx h1
    exact ⟨a, vs, e1, SqL.of g1, by rw [← g3.length]; exact h2, F, M, σ', xs, Q', R, S, g3, h3, po⟩
end
end PL

namespace PL
open PySem PySem.Spec PyProof.Rows L2
/-! ### things whose kind is known -/
mutual
def PV.isK : PV → Bool
  | .non | .bl _ | .str _ | .int _ => true
  | .tup xs => PV.areK xs
  | .lst xs => PV.areK xs
  | .dct _ => true
  | _ => false
def PV.areK : List PV → Bool
  | [] => true
  | x :: xs => x.isK && PV.areK xs
end
theorem isiK_int {M : PM} {x : PV} (h : x.isK = true) : isi "int" M x = some (isIntB x) := by
  cases x <;> first | (simp [PV.isK] at h; done) | (show kitB _ "int" = some true; decide +kernel) | (show kitB _ "int" = some false; decide +kernel)
theorem isiK_bool {M : PM} {x : PV} (h : x.isK = true) : isi "bool" M x = some (isBlB x) := by
  cases x <;> first | (simp [PV.isK] at h; done) | (show kitB _ "bool" = some true; decide +kernel) | (show kitB _ "bool" = some false; decide +kernel)
theorem isiK_tuple {M : PM} {x : PV} (h : x.isK = true) : isi "tuple" M x = some (isTupB x) := by
  cases x <;> first | (simp [PV.isK] at h; done) | (show kitB _ "tuple" = some true; decide +kernel) | (show kitB _ "tuple" = some false; decide +kernel)
theorem isiK_str {M : PM} {x : PV} (h : x.isK = true) : isi "str" M x = some (isStrB x) := by
  cases x <;> first | (simp [PV.isK] at h; done) | (show kitB _ "str" = some true; decide +kernel) | (show kitB _ "str" = some false; decide +kernel)
theorem isK_tup {xs : List PV} : (PV.tup xs).isK = PV.areK xs := by simp [PV.isK]
theorem isK_lst {xs : List PV} : (PV.lst xs).isK = PV.areK xs := by simp [PV.isK]
theorem areK_iff : ∀ {xs : List PV}, PV.areK xs = true ↔ ∀ x ∈ xs, x.isK = true
  | [] => by simp [PV.areK]
  | x :: xs => by
    unfold PV.areK
    rw [Bool.and_eq_true, areK_iff]
    simp
theorem areK_get {xs : List PV} {i : Nat} {x : PV} (h : PV.areK xs = true) (e : xs[i]? = some x) : x.isK = true := areK_iff.mp h x (List.mem_of_getElem? e)
theorem areK_append {xs ys : List PV} (h1 : PV.areK xs = true) (h2 : PV.areK ys = true) : PV.areK (xs ++ ys) = true := by
  rw [areK_iff] at *
  intro x hx
  rcases List.mem_append.mp hx with h | h
  · exact h1 x h
  · exact h2 x h
mutual
theorem isK_of : ∀ {x : PV}, x.isR = true → x.isK = true
  | .non, _ => rfl
  | .bl _, _ => rfl
  | .int _, _ => rfl
  | .str _, _ => rfl
  | .dct _, _ => rfl
  | .tup xs, h => by rw [isK_tup]; exact areK_of (by rw [← isR_tup]; exact h)
  | .lst xs, h => by rw [isK_lst]; exact areK_of (by rw [← isR_lst]; exact h)
  | .scr ns, h => by simp [PV.isR] at h
  | .ref a, h => by simp [PV.isR] at h
  | .ty n, h => by simp [PV.isR] at h
theorem areK_of : ∀ {xs : List PV}, PV.areR xs = true → PV.areK xs = true
  | [], _ => rfl
  | x :: xs, h => by
    unfold PV.areR at h
    rw [Bool.and_eq_true] at h
    unfold PV.areK
    rw [isK_of h.1, areK_of h.2]; rfl
end
theorem Sm.k {D W : Nat} {x : PV} (h : Sm D W x) : x.isK = true := isK_of h.r
theorem Sms.k {D W : Nat} {xs : List PV} (h : Sms D W xs) : PV.areK xs = true := areK_of h.r
theorem areK_map {α : Type} {f : α → PV} {l : List α} (h : ∀ a ∈ l, (f a).isK = true) : PV.areK (l.map f) = true := areK_iff.mpr fun x hx => by
  obtain ⟨a, ha, rfl⟩ := List.mem_map.mp hx
  exact h a ha
/-! ### what is compared: no dict, to a depth -/
theorem isD_tup {xs : List PV} : (PV.tup xs).isD = PV.areD xs := by simp [PV.isD]
theorem isD_lst {xs : List PV} : (PV.lst xs).isD = PV.areD xs := by simp [PV.isD]
theorem areD_iff : ∀ {xs : List PV}, PV.areD xs = true ↔ ∀ x ∈ xs, x.isD = true
  | [] => by simp [PV.areD]
  | x :: xs => by
    unfold PV.areD
    rw [Bool.and_eq_true, areD_iff]
    simp
/-- compared, to a depth -/
structure Cm (D : Nat) (x : PV) : Prop where
  d : x.isD = true
  dep : x.dep ≤ D
theorem Cm.ok {D : Nat} {x : PV} (h : Cm D x) (hD : D ≤ 64) : okP x := ⟨h.d, Nat.le_trans h.dep hD⟩
theorem Cm.int {D : Nat} {i : Int} : Cm D (.int i) := ⟨rfl, Nat.zero_le _⟩
theorem Cm.bl {D : Nat} {i : Bool} : Cm D (.bl i) := ⟨rfl, Nat.zero_le _⟩
theorem Cm.non {D : Nat} : Cm D .non := ⟨rfl, Nat.zero_le _⟩
theorem Cm.mono {D D' : Nat} {x : PV} (h : Cm D x) (e : D ≤ D') : Cm D' x := ⟨h.d, Nat.le_trans h.dep e⟩
theorem Cm.tup {D : Nat} {xs : List PV} (h : ∀ x ∈ xs, Cm D x) : Cm (D + 1) (.tup xs) := ⟨by rw [isD_tup]; exact areD_iff.mpr fun x hx => (h x hx).d, by rw [dep_tup]; exact Nat.succ_le_succ (deps_le.mpr fun x hx => (h x hx).dep)⟩
theorem Cm.lst {D : Nat} {xs : List PV} (h : ∀ x ∈ xs, Cm D x) : Cm (D + 1) (.lst xs) := ⟨by rw [isD_lst]; exact areD_iff.mpr fun x hx => (h x hx).d, by rw [dep_lst]; exact Nat.succ_le_succ (deps_le.mpr fun x hx => (h x hx).dep)⟩
mutual
theorem eqv_refl : ∀ (x : PV), x.isD = true → eqP x x = true
  | .non, _ => rfl
  | .bl b, _ => by show (b == b) = true; simp
  | .int i, _ => by show (i == i) = true; simp
  | .str s, _ => by show PyData.eqv (.str s) (.str s) = true; simp [PyData.eqv]
  | .tup xs, h => by
    show PyData.eqv (.tuple (PV.dats xs)) (.tuple (PV.dats xs)) = true
    simp only [PyData.eqv]
    exact eqvs_refl xs (by rw [← isD_tup]; exact h)
  | .lst xs, h => by
    show PyData.eqv (.list (PV.dats xs)) (.list (PV.dats xs)) = true
    simp only [PyData.eqv]
    exact eqvs_refl xs (by rw [← isD_lst]; exact h)
  | .dct _, h => by simp [PV.isD] at h
  | .scr _, h => by simp [PV.isD] at h
  | .ref _, h => by simp [PV.isD] at h
  | .ty _, h => by simp [PV.isD] at h
theorem eqvs_refl : ∀ (xs : List PV), PV.areD xs = true → PyData.eqvAll (PV.dats xs) (PV.dats xs) = true
  | [], _ => rfl
  | x :: xs, h => by
    unfold PV.areD at h
    rw [Bool.and_eq_true] at h
    simp only [PV.dats, PyData.eqvAll, Bool.and_eq_true]
    exact ⟨eqv_refl x h.1, eqvs_refl xs h.2⟩
end
end PL

namespace PL
open PySem PySem.Spec PyProof.Rows L2
/-! ### [.. for .. in .. for .. in ..] -/
theorem wipe_wipe (σ : L2.St) (vs : List Nat) : L2.wipe (L2.wipe σ vs) vs = L2.wipe σ vs := by
  have key : ∀ (us : List Nat) (τ : L2.St) (j : Nat), j ∈ us → (L2.wipe τ us).set j none = L2.wipe τ us := by
    intro us
    induction us with
    | nil => intro τ j h; cases h
    | cons u us ih2 =>
      intro τ j h
      unfold L2.wipe
      by_cases e6 : u = j
      · subst e6; rw [List.set_set]
      · rw [List.set_comm _ _ e6]
        rcases List.mem_cons.mp h with h | h
        · exact absurd h.symm e6
        · rw [ih2 τ j h]
  have ww : ∀ (us : List Nat), (∀ j ∈ us, j ∈ vs) → L2.wipe (L2.wipe σ vs) us = L2.wipe σ vs := by
    intro us
    induction us with
    | nil => intro _; rfl
    | cons j us ih =>
      intro hj
      show (L2.wipe (L2.wipe σ vs) us).set j none = _
      rw [ih fun k hk => hj k (List.mem_cons_of_mem _ hk)]
      exact key vs σ j (hj j List.mem_cons_self)
  exact ww vs fun _ h => h
theorem loop_it {J : It} {n : Nat} {G : Hp → Prop} {Y : Nat → Hp → V → Hp → Prop} (w : Walk J n G Y) (Body : V → Hp → (Hp → Prop) → Prop) {H0 : Hp} {Qd : Hp → Prop} (Pv : Nat → Hp → Prop) (h0 : Pv 0 H0) (hG : ∀ i H, i ≤ n → Pv i H → G H)
    (hs : ∀ i x H H', i < n → Pv i H → Y i H x H' → Body x H' (Pv (i + 1))) (hd : ∀ H, Pv n H → Qd H) :
    ∃ W : Nat → Nat → Hp → Prop, (∃ m, W 0 m H0) ∧ ∀ i m H, W i m H → (J.stop i H ∧ Qd H) ∨ (J.go i H ∧ ∃ Nx : Hp → Prop, (∀ H', Nx H' → ∃ m', m' < m ∧ W (i + 1) m' H') ∧ ∀ x H', J.yld i H x H' → Body x H' Nx) := by
  refine ⟨fun i m H => (m = n - i ∧ i ≤ n) ∧ Pv i H, ⟨n, ⟨rfl, Nat.zero_le _⟩, h0⟩, fun i m H ⟨⟨e, hi⟩, p⟩ => ?_⟩
  have g := hG i H hi p
  by_cases l : i < n
  · exact .inr ⟨w.goes i H l g, Pv (i + 1), fun H' p' => ⟨n - (i + 1), by omega, ⟨rfl, l⟩, p'⟩, fun x H' y => hs i x H H' l p (w.yields i H x H' l g y)⟩
  · have e : i = n := by omega
    subst e
    exact .inl ⟨w.stops H g, hd H p⟩
def lc2Run (tg : Tg) (tt : TT') (ti1 : TI') (tg1 : Tg) (tt1 : TT') (te : TE') (vs1 : List Nat) (σ : PSt) (Qd : List PV → PM → Prop) : List PV → List PV → PM → Prop
  | [], acc, M => Qd acc M
  | x :: xs, acc, M => tg.hT x σ M fun σ1 M1 => tt σ1 M1 fun b M2 => if b = true then ti1 σ1 M2 fun ys M3 => acc.length + ys.length ≤ sizeLine ∧ lcRun tg1 tt1 te (wipeP σ1 vs1) (fun acc' M4 => lc2Run tg tt ti1 tg1 tt1 te vs1 σ Qd xs acc' M4) ys acc M3 else lc2Run tg tt ti1 tg1 tt1 te vs1 σ Qd xs acc M2
def pLc2 (ti : TI') (tg : Tg) (tt : TT') (ti1 : TI') (tg1 : Tg) (tt1 : TT') (te : TE') (vs vs1 : List Nat) : TE' := fun σ M Q => ti σ M fun xs M1 => lc2Run tg tt ti1 tg1 tt1 te vs1 (wipeP σ vs) (fun ys M2 => ys.length ≤ sizeLine ∧ Q (.lst ys) M2) xs [] M1
section
variable {X : Cx} {F0 : Fix}
theorem drop_at {xs : List PV} {i : Nat} {x : PV} (hi : i < xs.length) (gx : xs[i]? = some x) : xs.drop i = x :: xs.drop (i + 1) := by
  rw [List.drop_eq_getElem_cons hi]
  have := List.getElem?_eq_getElem hi
  rw [gx] at this
  rw [← Option.some.inj this]
/-- a list that nobody tells of gets one thing more -/
theorem Rel.own {F H : Hp} {M : PM} {D : Addr} {o : HO} (R : Rel X.K F0 F H M) (f7 : F D = none) (m7 : M D = none) (gD : F0.g D = none) : Rel X.K F0 F (upd H D o) M := by
  refine ⟨R.ex, fun a u e => ?_, fun a u e => ?_, fun a u e => ?_, R.sy⟩
  · have q : a ≠ D := fun z => by subst z; rw [f7] at e; cases e
    rw [upd_ne q]; exact R.sm _ _ e
  · have q : a ≠ D := fun z => by subst z; rw [m7] at e; cases e
    exact ⟨(R.ob a u e).1, (R.ob a u e).2.at fun w z => by rw [upd_ne q]; exact z⟩
  · have q : a ≠ D := fun z => by subst z; rw [gD] at e; cases e
    rw [upd_ne q]; exact R.fr a u e
theorem l_lc2 {ti ti1 : TI'} {tg tg1 : Tg} {tt tt1 : TT'} {te : TE'} {vs vs1 : List Nat} (hin : tg.inS vs = true) (hin1 : tg1.inS vs1 = true) :
    ∀ σ H Q, L X.K F0 (pLc2 ti tg tt ti1 tg1 tt1 te vs vs1) σ H Q → tLc2 (LI X.K F0 ti) (tg.gT X.K) (fun σ H Q => ∃ B, LT X.K B tt σ H Q) (fun σ H R => ∃ B, LI X.K B ti1 σ H R) (tg1.gT X.K) (fun σ H Q => ∃ B, LT X.K B tt1 σ H Q) (fun σ H Q => ∃ B, L X.K B te σ H Q) vs vs1 σ H Q :=
  fun σ H Q ⟨F, M, σ', Q', R, S, h, po⟩ => ⟨F, M, σ', _, R, S, h, fun F1 H1 M1 xs J e1 R1 ⟨Y, w, hy⟩ h1 D hD => by
    have gD := R1.gH hD
    refine loop_it w (fun x H' Nx => tg.gT X.K x (L2.wipe σ vs) H' fun σ2 H2 => L2.wipe σ2 vs = L2.wipe σ vs ∧ ∃ B, LT X.K B tt σ2 H2 fun b H3 => if b = true then ∃ B, LI X.K B ti1 σ2 H3 fun J1 H4 => ∃ W1 : Nat → Nat → Hp → Prop, (∃ m, W1 0 m H4) ∧ ∀ j k H, W1 j k H → (J1.stop j H ∧ Nx H) ∨ (J1.go j H ∧ ∃ Nx1 : Hp → Prop, (∀ H', Nx1 H' → ∃ k', k' < k ∧ W1 (j + 1) k' H') ∧ ∀ x H', J1.yld j H x H' → tg1.gT X.K x (L2.wipe σ2 vs1) H' fun σ3 H5 => L2.wipe σ3 vs1 = L2.wipe σ2 vs1 ∧ ∃ B, LT X.K B tt1 σ3 H5 fun b H6 => if b = true then ∃ B, L X.K B te σ3 H6 fun y H7 => ∃ acc, H7 D = some (.lst acc) ∧ acc.length < sizeLine ∧ Nx1 (upd H7 D (.lst (acc ++ [y]))) else Nx1 H6) else Nx H3)
      (fun i H2 => ∃ F2 M2 acc accV, Same F1 F2 ∧ Rel X.K F0 F2 H2 M2 ∧ F2 D = none ∧ M2 D = none ∧ H2 D = some (.lst accV) ∧ RVs X.K F2 acc accV ∧ i ≤ xs.length ∧ lc2Run tg tt ti1 tg1 tt1 te vs1 (wipeP σ' vs) (fun ys M2 => ys.length ≤ sizeLine ∧ Q' (.lst ys) M2) (xs.drop i) acc M2)
      ⟨F1, M1, [], [], Same.refl F1, R1.grow (same_new hD), R1.free hD, R1.newM hD, upd_same, .nil, Nat.zero_le _, h1⟩ (fun i H2 _ ⟨F2, M2, acc, accV, e2, R2, _⟩ => e2.trans R2.sm) ?_ ?_
    · rintro i v H2 H3 hi ⟨F2, M2, acc, accV, e2, R2, fD, mD, hD2, rA, _, h2⟩ y
      have R2k := R2.keep hD2 fD mD
      obtain ⟨F3, x, gx, e3, R3, rx⟩ := hy _ i H2 v H3 F2 M2 y hi e2 R2k
      rw [drop_at hi gx] at h2
      have SW : RS X.K F3 (wipeP σ' vs) (L2.wipe σ vs) := (S.mono (((e1.trans e2).trans e3))).wipe vs
      refine tg_le tg hin R3 SW rx h2 fun σ4' σ4 S4 ew h4 => ⟨by rw [ew, wipe_wipe], _, F3, M2, σ4', _, R3, S4, h4, fun F5 H5 M5 b e5 R5 h5 => ?_⟩
      cases b with
      | false =>
        obtain ⟨R5', h7, f7, m7⟩ := R5.drop1 gD
        exact iteF ⟨F5, M5, acc, accV, (e2.trans e3).trans e5, R5', f7, m7, h7, rA.mono (e3.trans e5), hi, by simpa using h5⟩
      | true =>
        have h5' : ti1 σ4' M5 fun ys M3 => acc.length + ys.length ≤ sizeLine ∧ lcRun tg1 tt1 te (wipeP σ4' vs1) (fun acc' M4 => lc2Run tg tt ti1 tg1 tt1 te vs1 (wipeP σ' vs) (fun ys M2 => ys.length ≤ sizeLine ∧ Q' (.lst ys) M2) (xs.drop (i + 1)) acc' M4) ys acc M3 := by simpa using h5
        refine iteT ⟨_, F5, M5, σ4', _, R5, S4.mono e5, h5', fun F6 H6 M6 ys J1 e6 R6 ⟨Y1, w1, hy1⟩ ⟨hz, h6⟩ => ?_⟩
        obtain ⟨R6', h7, f7, m7⟩ := R6.drop1 gD
        have hl : accV.length = acc.length := rA.length.symm
        refine loop_it w1 (fun x H' Nx1 => tg1.gT X.K x (L2.wipe σ4 vs1) H' fun σ3 H5 => L2.wipe σ3 vs1 = L2.wipe σ4 vs1 ∧ ∃ B, LT X.K B tt1 σ3 H5 fun b H6 => if b = true then ∃ B, L X.K B te σ3 H6 fun y H7 => ∃ acc, H7 D = some (.lst acc) ∧ acc.length < sizeLine ∧ Nx1 (upd H7 D (.lst (acc ++ [y]))) else Nx1 H6)
          (fun j H2 => ∃ F7 M7 acc7 accV7, Same F6 F7 ∧ Rel X.K F0 F7 H2 M7 ∧ F7 D = none ∧ M7 D = none ∧ H2 D = some (.lst accV7) ∧ RVs X.K F7 acc7 accV7 ∧ accV7.length ≤ accV.length + j ∧ j ≤ ys.length ∧ lcRun tg1 tt1 te (wipeP σ4' vs1) (fun acc' M4 => lc2Run tg tt ti1 tg1 tt1 te vs1 (wipeP σ' vs) (fun ys M2 => ys.length ≤ sizeLine ∧ Q' (.lst ys) M2) (xs.drop (i + 1)) acc' M4) (ys.drop j) acc7 M7)
          ⟨F6, M6, acc, accV, Same.refl F6, R6', f7, m7, h7, rA.mono ((e3.trans e5).trans e6), Nat.le_refl _, Nat.zero_le _, h6⟩ (fun j H2 _ ⟨F7, M7, acc7, accV7, e7, R7, _⟩ => e7.trans R7.sm) ?_ ?_
        · rintro j v1 H7 H8 hj ⟨F7, M7, acc7, accV7, e7, R7, fD7, mD7, hD7, rA7, hl7, _, h7⟩ y1
          have R7k := R7.keep hD7 fD7 mD7
          obtain ⟨F8, x1, gx1, e8, R8, rx1⟩ := hy1 _ j H7 v1 H8 F7 M7 y1 hj e7 R7k
          rw [drop_at hj gx1] at h7
          have SW1 : RS X.K F8 (wipeP σ4' vs1) (L2.wipe σ4 vs1) := (S4.mono (((e5.trans e6).trans e7).trans e8)).wipe vs1
          refine tg_le tg1 hin1 R8 SW1 rx1 h7 fun σ9' σ9 S9 ew9 h9 => ⟨by rw [ew9, wipe_wipe], _, F8, M7, σ9', _, R8, S9, h9, fun F10 H10 M10 b e10 R10 h10 => ?_⟩
          cases b with
          | false =>
            obtain ⟨R11, h11, f11, m11⟩ := R10.drop1 gD
            exact iteF ⟨F10, M10, acc7, accV7, (e7.trans e8).trans e10, R11, f11, m11, h11, rA7.mono (e8.trans e10), by omega, hj, by simpa using h10⟩
          | true =>
            refine iteT ⟨_, F10, M10, σ9', _, R10, S9.mono e10, by simpa using h10, fun F11 H11 M11 y2 yv e11 R11 ry h11 => ?_⟩
            obtain ⟨R12, h12, f12, m12⟩ := R11.drop1 gD
            exact ⟨accV7, h12, by omega, F11, M11, acc7 ++ [y2], accV7 ++ [yv], ((e7.trans e8).trans e10).trans e11, R12.own f12 m12 gD, f12, m12, upd_same, (rA7.mono ((e8.trans e10).trans e11)).append (.cons ry .nil), by rw [List.length_append, List.length_singleton]; omega, hj, h11⟩
        · rintro H7 ⟨F7, M7, acc7, accV7, e7, R7, fD7, mD7, hD7, rA7, hl7, _, h7⟩
          rw [List.drop_length] at h7
          exact ⟨F7, M7, acc7, accV7, ((((e2.trans e3).trans e5).trans e6).trans e7), R7, fD7, mD7, hD7, rA7, hi, h7⟩
    · rintro H2 ⟨F2, M2, acc, accV, e2, R2, fD, mD, hD2, rA, _, h2⟩
      rw [List.drop_length] at h2
      exact fin_lst F2 H2 M2 Q Q' acc accV D R2 fD gD mD hD2 (by rw [← rA.length]; exact h2.1) rA h2.2 (po.mono (e1.trans e2))⟩
variable {elt tge iter tge1 iter1 : Expr} {ifs ifs1 : List Expr} {scope : Scope} {own : List (Str × Nat)} {vs1 : List Nat} {pos : Pos} {ti ti1 : TI'} {tg tg1 : Tg} {tt tt1 : TT'} {te : TE'}
theorem q_lc2 (hc : X.calm = true) (hN : X.N.Nodup) (hi : QI X F0 tge iter ti) (ok : BlkOk X.N X.env.scope scope own) (hv : ∀ i ∈ vs1, i ∈ own.map (·.2))
    (hg : ∀ (s : Shared) (H : Hp) (C : Addr) (cl : List (Str × Addr)) (fp : List Addr), PG (X.blk s H scope (compEnvC scope cl C X.env) fp) tge (tg.gT X.K))
    (ht : ∀ (B : Fix) (s : Shared) (H : Hp) (C : Addr) (cl : List (Str × Addr)) (fp : List Addr), QTs (X.blk s H scope (compEnvC scope cl C X.env) fp) B ifs tt)
    (hi1 : ∀ (B : Fix) (s : Shared) (H : Hp) (C : Addr) (cl : List (Str × Addr)) (fp : List Addr), QI (X.blk s H scope (compEnvC scope cl C X.env) fp) B tge1 iter1 ti1)
    (hg1 : ∀ (s : Shared) (H : Hp) (C : Addr) (cl : List (Str × Addr)) (fp : List Addr), PG (X.blk s H scope (compEnvC scope cl C X.env) fp) tge1 (tg1.gT X.K))
    (ht1 : ∀ (B : Fix) (s : Shared) (H : Hp) (C : Addr) (cl : List (Str × Addr)) (fp : List Addr), QTs (X.blk s H scope (compEnvC scope cl C X.env) fp) B ifs1 tt1)
    (he : ∀ (B : Fix) (s : Shared) (H : Hp) (C : Addr) (cl : List (Str × Addr)) (fp : List Addr), QE (X.blk s H scope (compEnvC scope cl C X.env) fp) B elt te)
    (hin : tg.inS (own.map (·.2)) = true := by rfl) (hin1 : tg1.inS vs1 = true := by rfl) (hs : ∀ x, foldedSetIterable iter X.env x = pure x := by intro _; rfl) (hs1 : ∀ env x, foldedSetIterable iter1 env x = pure x := by intro _ _; rfl) :
    QE X F0 (.ListComp elt [⟨tge, iter, ifs, 0⟩, ⟨tge1, iter1, ifs1, 0⟩] scope pos) (pLc2 ti tg tt ti1 tg1 tt1 te (own.map (·.2)) vs1) :=
  qe_of (pe_lc2 (tt := fun σ H Q => ∃ B, LT X.K B tt σ H Q) (wi1 := fun σ H R => ∃ B, LI X.K B ti1 σ H R) (tt1 := fun σ H Q => ∃ B, LT X.K B tt1 σ H Q) (te := fun σ H Q => ∃ B, L X.K B te σ H Q) hc hN hi ok hv hg (fun s H C cl fp => ⟨fun pins s' σ H' Q I ⟨B, h⟩ => PTs.run (ht B s H C cl fp) pins s' σ H' Q I h⟩) (fun s H C cl fp => ⟨fun pins s' σ H' R I ⟨B, h⟩ => PI.run (hi1 B s H C cl fp) pins s' σ H' R I h⟩) hg1 (fun s H C cl fp => ⟨fun pins s' σ H' Q I ⟨B, h⟩ => PTs.run (ht1 B s H C cl fp) pins s' σ H' Q I h⟩) (fun s H C cl fp => ⟨fun pins s' σ H' Q I ⟨B, h⟩ => PE.run (he B s H C cl fp) pins s' σ H' Q I h⟩) hs hs1)
    (l_lc2 hin hin1)
variable {i : Nat} {y : Str} {py spos : Pos}
theorem qs_setLc2 (hc : X.calm = true) (hN : X.N.Nodup) (hy : X.N[i]? = some y) (hyl : X.env.scope.names.lookup y = some .local) (hsw : swapsWith (.ListComp elt [⟨tge, iter, ifs, 0⟩, ⟨tge1, iter1, ifs1, 0⟩] scope pos) (some (.Name y py)) spos.line X.env = pure true) (hi : QI X F0 tge iter ti) (ok : BlkOk X.N X.env.scope scope own) (hv : ∀ i ∈ vs1, i ∈ own.map (·.2))
    (hg : ∀ (s : Shared) (H : Hp) (C : Addr) (cl : List (Str × Addr)) (fp : List Addr), PG (X.blk s H scope (compEnvC scope cl C X.env) fp) tge (tg.gT X.K))
    (ht : ∀ (B : Fix) (s : Shared) (H : Hp) (C : Addr) (cl : List (Str × Addr)) (fp : List Addr), QTs (X.blk s H scope (compEnvC scope cl C X.env) fp) B ifs tt)
    (hi1 : ∀ (B : Fix) (s : Shared) (H : Hp) (C : Addr) (cl : List (Str × Addr)) (fp : List Addr), QI (X.blk s H scope (compEnvC scope cl C X.env) fp) B tge1 iter1 ti1)
    (hg1 : ∀ (s : Shared) (H : Hp) (C : Addr) (cl : List (Str × Addr)) (fp : List Addr), PG (X.blk s H scope (compEnvC scope cl C X.env) fp) tge1 (tg1.gT X.K))
    (ht1 : ∀ (B : Fix) (s : Shared) (H : Hp) (C : Addr) (cl : List (Str × Addr)) (fp : List Addr), QTs (X.blk s H scope (compEnvC scope cl C X.env) fp) B ifs1 tt1)
    (he : ∀ (B : Fix) (s : Shared) (H : Hp) (C : Addr) (cl : List (Str × Addr)) (fp : List Addr), QE (X.blk s H scope (compEnvC scope cl C X.env) fp) B elt te)
    (hin : tg.inS (own.map (·.2)) = true := by rfl) (hin1 : tg1.inS vs1 = true := by rfl) (hs : ∀ x, foldedSetIterable iter X.env x = pure x := by intro _; rfl) (hs1 : ∀ env x, foldedSetIterable iter1 env x = pure x := by intro _ _; rfl) :
    QS X F0 (.Assign [.Name y py] (.ListComp elt [⟨tge, iter, ifs, 0⟩, ⟨tge1, iter1, ifs1, 0⟩] scope pos) spos) (sAsg (pLc2 ti tg tt ti1 tg1 tt1 te (own.map (·.2)) vs1) (hName i)) :=
  qs_of (ps_setLc2 (tt := fun σ H Q => ∃ B, LT X.K B tt σ H Q) (wi1 := fun σ H R => ∃ B, LI X.K B ti1 σ H R) (tt1 := fun σ H Q => ∃ B, LT X.K B tt1 σ H Q) (te := fun σ H Q => ∃ B, L X.K B te σ H Q) hc hN hy hyl hsw hi ok hv hg (fun s H C cl fp => ⟨fun pins s' σ H' Q I ⟨B, h⟩ => PTs.run (ht B s H C cl fp) pins s' σ H' Q I h⟩) (fun s H C cl fp => ⟨fun pins s' σ H' R I ⟨B, h⟩ => PI.run (hi1 B s H C cl fp) pins s' σ H' R I h⟩) hg1 (fun s H C cl fp => ⟨fun pins s' σ H' Q I ⟨B, h⟩ => PTs.run (ht1 B s H C cl fp) pins s' σ H' Q I h⟩) (fun s H C cl fp => ⟨fun pins s' σ H' Q I ⟨B, h⟩ => PE.run (he B s H C cl fp) pins s' σ H' Q I h⟩) hs hs1)
    fun D σ H ⟨F, M, σ', D', R, S, h, po⟩ => l_lc2 hin hin1 σ H _ ⟨F, M, σ', fun x M1 => D'.nx (σ'.set i (some x)) M1, R, S, h, fun F1 H1 M1 x v e1 R1 rx h1 => po.nx F1 H1 M1 _ _ e1 R1 ((S.mono e1).set rx i) h1⟩
end
end PL

namespace PL
open PySem PySem.Spec PyProof.Rows L2
section
variable {X : Cx} {F0 : Fix} {e a b o : Expr} {pos p apos cpos : Pos} {ta tb to : TE'}
/-! ### list.pop, extend, remove, count -/
def pPop : PV → List PV → PM → QV → Prop := fun x ys M Q => match x, ys with
  | .ref p, [] => ∃ xs y, M p = some (.lst (xs ++ [y])) ∧ Q y (put M p (.lst xs))
  | _, _ => False
theorem le_pop : LeM X F0 rPop pPop := fun F H M x v xs vs Q Q' R rx rs h po => by
  unfold pPop at h
  split at h
  · obtain ⟨zs, y, h1, h2⟩ := h
    unfold RVs at rs
    unfold RV at rx
    obtain ⟨fp, us, q1, q2⟩ := R.ob _ _ h1
    have hl := q2.length
    rw [List.length_append, List.length_singleton] at hl
    obtain ⟨w, g1, g2⟩ := q2.get (i := us.length - 1) (x := y) (by rw [List.getElem?_append_right (by omega)]; rw [show us.length - 1 - zs.length = 0 by omega]; rfl)
    have q3 := q2.dropLast
    rw [List.dropLast_concat] at q3
    exact ⟨_, us, w, rx, rs, q1, g1, po _ _ _ _ _ (Same.refl F) (rel_lstM R fp (R.gM h1) q3) g2 h2⟩
  · exact h.elim
def pPopAt : PV → List PV → PM → QV → Prop := fun x ys M Q => match x, ys with
  | .ref p, [.int i] => ∃ xs y, M p = some (.lst xs) ∧ 0 ≤ i ∧ i < 2 ^ 63 ∧ xs[i.toNat]? = some y ∧ Q y (put M p (.lst (xs.eraseIdx i.toNat)))
  | _, _ => False
theorem RVs.eraseIdx {K : PySem.W.Frag} {F : Hp} : ∀ {xs : List PV} {vs : List V} (n : Nat), RVs K F xs vs → RVs K F (xs.eraseIdx n) (vs.eraseIdx n)
  | [], vs, n, r => by unfold RVs at r; subst r; simpa using RVs.nil
  | x :: xs, vs, 0, r => by
    unfold RVs at r
    obtain ⟨v, u, e, _, h2⟩ := r
    subst e
    simpa using h2
  | x :: xs, vs, n + 1, r => by
    unfold RVs at r
    obtain ⟨v, u, e, h1, h2⟩ := r
    subst e
    simpa using RVs.cons h1 (RVs.eraseIdx n h2)
theorem seqIndex_nat {i : Int} {n : Nat} (h0 : 0 ≤ i) (h : i.toNat < n) : seqIndex? i n = some i.toNat := by
  have e1 : ¬ i < 0 := by omega
  have e2 : i < (n : Int) := by omega
  simp [seqIndex?, e1, h0, e2]
theorem le_popAt : LeM X F0 rPopAt pPopAt := fun F H M x v xs vs Q Q' R rx rs h po => by
  unfold pPopAt at h
  split at h
  · obtain ⟨zs, y, h1, i0, i1, hy, h2⟩ := h
    obtain ⟨w, e, rw'⟩ := rvs1 rs
    unfold RV at rx rw'
    subst rw'
    obtain ⟨fp, us, q1, q2⟩ := R.ob _ _ h1
    obtain ⟨z, g1, g2⟩ := q2.get hy
    exact ⟨_, us, _, _, z, rx, e, q1, by omega, i1, seqIndex_nat i0 (List.getElem?_eq_some_iff.mp g1).1, g1, po _ _ _ _ _ (Same.refl F) (rel_lstM R fp (R.gM h1) (q2.eraseIdx _)) g2 h2⟩
  · exact h.elim
def pExtend : PV → List PV → PM → QV → Prop := fun x ys M Q => match x, ys with
  | .ref p, [.lst zs] => ∃ xs, M p = some (.lst xs) ∧ xs.length + zs.length ≤ sizeLine ∧ Q .non (put M p (.lst (xs ++ zs)))
  | _, _ => False
theorem le_extend : LeM X F0 rExtend pExtend := fun F H M x v xs vs Q Q' R rx rs h po => by
  unfold pExtend at h
  split at h
  · obtain ⟨ws, h1, hz, h2⟩ := h
    obtain ⟨w, e, rw'⟩ := rvs1 rs
    unfold RV at rx rw'
    obtain ⟨b, zs, e2, g1, g2, g3⟩ := rw'
    subst e2
    obtain ⟨fp, us, q1, q2⟩ := R.ob _ _ h1
    exact ⟨_, b, us, zs, rx, e, q1, R.sm _ _ g1, by rw [← q2.length, ← g3.length]; exact hz, po _ _ _ _ _ (Same.refl F) (rel_lstM R fp (R.gM h1) (q2.append g3)) rv_non h2⟩
  · exact h.elim
theorem erase_at : ∀ {ns : List Int} {k : Int}, k ∈ ns → ∃ j : Nat, ns[j]? = some k ∧ (∀ m : Nat, m < j → ns[m]? ≠ some k) ∧ ns.eraseIdx j = ns.erase k
  | n :: ns, k, h => by
    by_cases e : n = k
    · subst e
      exact ⟨0, rfl, fun m hm => absurd hm (Nat.not_lt_zero _), by simp⟩
    · have hk : k ∈ ns := by
        rcases List.mem_cons.mp h with z | z
        · exact absurd z.symm e
        · exact z
      obtain ⟨j, h1, h2, h3⟩ := erase_at hk
      refine ⟨j + 1, h1, fun m hm => ?_, ?_⟩
      · cases m with
        | zero => intro z; exact e (Option.some.inj z)
        | succ m => exact h2 m (by omega)
      · rw [List.eraseIdx_cons_succ, h3, List.erase_cons_tail (by simpa using e)]
def pRemove : PV → List PV → PM → QV → Prop := fun x ys M Q => match x, ys with
  | .ref p, [.int k] => ∃ ns : List Int, M p = some (.lst (ns.map .int)) ∧ k ∈ ns ∧ Q .non (put M p (.lst ((ns.erase k).map .int)))
  | _, _ => False
theorem le_remove : LeM X F0 rRemI pRemove := fun F H M x v xs vs Q Q' R rx rs h po => by
  unfold pRemove at h
  split at h
  · obtain ⟨ns, h1, hk, h2⟩ := h
    obtain ⟨w, e, rw'⟩ := rvs1 rs
    unfold RV at rx rw'
    subst rw'
    obtain ⟨fp, us, q1, q2⟩ := R.ob _ _ h1
    have e3 := rvs_ints q2
    subst e3
    obtain ⟨j, j1, j2, j3⟩ := erase_at hk
    exact ⟨_, ns, _, j, rx, e, q1, j1, j2, by rw [j3]; exact po _ _ _ _ _ (Same.refl F) (rel_lstM R fp (R.gM h1) RVs.of_ints) rv_non h2⟩
  · exact h.elim
def pLCnt : PV → List PV → PM → QV → Prop := fun x ys M Q => match ys with
  | [.int k] => ∃ ns : List Int, asL M x = some (ns.map .int) ∧ Q (.int ((ns.count k : Nat) : Int)) M
  | _ => False
theorem le_lcnt : LeM X F0 (rCntI X.K) pLCnt := fun F H M x v xs vs Q Q' R rx rs h po => by
  unfold pLCnt at h
  split at h
  · obtain ⟨ns, h1, h2⟩ := h
    obtain ⟨w, e, rw'⟩ := rvs1 rs
    unfold RV at rw'
    subst rw'
    obtain ⟨q, us, e1, q1, q2⟩ := asL_at R rx h1
    have e3 := rvs_ints q2
    subst e3
    exact ⟨q, ns, _, e1, e, SqL.of q1, po _ _ _ _ _ (Same.refl F) R rv_int h2⟩
  · exact h.elim
theorem q_pop0 (ho : QE X F0 o to) (hbase : attributeBase o "pop" X.env (eval o X.env) = eval o X.env := by rfl) (hline : (apos.endLine == cpos.line) = true := by rfl) :
    QE X F0 (.Call (.Attribute o "pop" apos) [] [] cpos) (pBM0 isL pPop to) := q_bm0 ty_list le_pop PySem.F.plainAttrs_list PySem.F.slot_list_pop PySem.F.type_list_pop mt_pop ho hbase hline
section
variable (name : Str) (ho : QE X F0 o to) (ha : QE X F0 a ta)
theorem q_popAt (ho : QE X F0 o to) (ha : QE X F0 a ta) (hbase : attributeBase o "pop" X.env (eval o X.env) = eval o X.env := by rfl)
    (hfew : ((backTo cpos (starEach [a] X.env)).all (fun x => !x.1) && (backToKw cpos (keywordEach [] X.env)).all (fun x => x.1.isSome) && decide (([a] : List Expr).length + ([] : List Keyword).length + (if ([] : List Keyword).isEmpty then 0 else 1) < 30)) = true := by rfl)
    (hline : (apos.endLine == cpos.line) = true := by rfl) (hs : starEach [a] X.env = (false, eval a X.env) :: starEach [] X.env := by rfl) (hplain : (backTo cpos (starEach [] X.env)).any (·.1) = false := by rfl) :
    QE X F0 (.Call (.Attribute o "pop" apos) [a] [] cpos) (pBM isL pPopAt to (pCons ta pNil)) :=
  q_bm ty_list le_popAt PySem.F.plainAttrs_list PySem.F.slot_list_pop PySem.F.type_list_pop mt_popAt ho (qa_cons ha qa_nil hs) hbase hfew hline hs hplain
theorem q_extend (ho : QE X F0 o to) (ha : QE X F0 a ta) (hbase : attributeBase o "extend" X.env (eval o X.env) = eval o X.env := by rfl)
    (hfew : ((backTo cpos (starEach [a] X.env)).all (fun x => !x.1) && (backToKw cpos (keywordEach [] X.env)).all (fun x => x.1.isSome) && decide (([a] : List Expr).length + ([] : List Keyword).length + (if ([] : List Keyword).isEmpty then 0 else 1) < 30)) = true := by rfl)
    (hline : (apos.endLine == cpos.line) = true := by rfl) (hs : starEach [a] X.env = (false, eval a X.env) :: starEach [] X.env := by rfl) (hplain : (backTo cpos (starEach [] X.env)).any (·.1) = false := by rfl) :
    QE X F0 (.Call (.Attribute o "extend" apos) [a] [] cpos) (pBM isL pExtend to (pCons ta pNil)) :=
  q_bm ty_list le_extend PySem.F.plainAttrs_list PySem.F.slot_list_extend PySem.F.type_list_extend mt_extend ho (qa_cons ha qa_nil hs) hbase hfew hline hs hplain
theorem q_remove (ho : QE X F0 o to) (ha : QE X F0 a ta) (hbase : attributeBase o "remove" X.env (eval o X.env) = eval o X.env := by rfl)
    (hfew : ((backTo cpos (starEach [a] X.env)).all (fun x => !x.1) && (backToKw cpos (keywordEach [] X.env)).all (fun x => x.1.isSome) && decide (([a] : List Expr).length + ([] : List Keyword).length + (if ([] : List Keyword).isEmpty then 0 else 1) < 30)) = true := by rfl)
    (hline : (apos.endLine == cpos.line) = true := by rfl) (hs : starEach [a] X.env = (false, eval a X.env) :: starEach [] X.env := by rfl) (hplain : (backTo cpos (starEach [] X.env)).any (·.1) = false := by rfl) :
    QE X F0 (.Call (.Attribute o "remove" apos) [a] [] cpos) (pBM isL pRemove to (pCons ta pNil)) :=
  q_bm ty_list le_remove PySem.F.plainAttrs_list PySem.F.slot_list_remove PySem.F.type_list_remove mt_remove ho (qa_cons ha qa_nil hs) hbase hfew hline hs hplain
theorem q_lcount (ho : QE X F0 o to) (ha : QE X F0 a ta) (hbase : attributeBase o "count" X.env (eval o X.env) = eval o X.env := by rfl)
    (hfew : ((backTo cpos (starEach [a] X.env)).all (fun x => !x.1) && (backToKw cpos (keywordEach [] X.env)).all (fun x => x.1.isSome) && decide (([a] : List Expr).length + ([] : List Keyword).length + (if ([] : List Keyword).isEmpty then 0 else 1) < 30)) = true := by rfl)
    (hline : (apos.endLine == cpos.line) = true := by rfl) (hs : starEach [a] X.env = (false, eval a X.env) :: starEach [] X.env := by rfl) (hplain : (backTo cpos (starEach [] X.env)).any (·.1) = false := by rfl) :
    QE X F0 (.Call (.Attribute o "count" apos) [a] [] cpos) (pBM isL pLCnt to (pCons ta pNil)) :=
  q_bm ty_list le_lcnt PySem.F.plainAttrs_list PySem.F.slot_list_count PySem.F.type_list_count mt_lcount ho (qa_cons ha qa_nil hs) hbase hfew hline hs hplain
end
/-! ### max, min of whole numbers -/
def maxI : Int → List Int → Int := fun x xs => xs.foldl (fun a y => if a < y then y else a) x
theorem maxI_spec : ∀ (xs : List Int) (x : Int), maxI x xs ∈ x :: xs ∧ ∀ y ∈ x :: xs, y ≤ maxI x xs
  | [], x => ⟨by simp [maxI], by simp [maxI]⟩
  | y :: ys, x => by
    have ih := maxI_spec ys (if x < y then y else x)
    show maxI (if x < y then y else x) ys ∈ _ ∧ _
    obtain ⟨h1, h2⟩ := ih
    refine ⟨?_, fun z hz => ?_⟩
    · rcases List.mem_cons.mp h1 with e | e
      · rw [e]; split <;> simp
      · simp [e]
    · have h3 : (if x < y then y else x) ≤ maxI (if x < y then y else x) ys := h2 _ (List.mem_cons_self ..)
      show z ≤ maxI (if x < y then y else x) ys
      generalize maxI (if x < y then y else x) ys = q at *
      rcases List.mem_cons.mp hz with e | e
      · subst e; split at h3 <;> omega
      · rcases List.mem_cons.mp e with e | e
        · subst e; split at h3 <;> omega
        · exact h2 z (List.mem_cons_of_mem _ e)
theorem max_unique {ns : List Int} {m m' : Int} (h1 : m ∈ ns) (h2 : ∀ y ∈ ns, y ≤ m) (h1' : m' ∈ ns) (h2' : ∀ y ∈ ns, y ≤ m') : m = m' := by
  have := h2 m' h1'
  have := h2' m h1
  omega
def rMaxT (K : PySem.W.Frag) : List V → Hp → VK → Prop := fun vs H Q => ∃ (a : Addr) (n : Int) (ns : List Int), vs = [V.ref a] ∧ SqT K H a ((n :: ns).map V.int) ∧ Q (.int (maxI n ns)) H
theorem cr_maxT (hc : X.calm = true) (hu : X.A.units + 2 < cLine) : CallR X (.builtin "max") (rMaxT X.K) := by
  intro pins s σ H vs us Q I r h
  obtain ⟨a, n, ns, rfl, hs, q⟩ := h
  obtain ⟨its, rv, ht, _⟩ := I.tuple hs
  rw [Vals.ref1 r]
  have hr : ∀ (l : List Int) (vs : List Value), Vals (l.map V.int) vs → ReadsAll s.heap vs (l.map PySem.W.Datum.toD) [] := by
    intro l
    induction l with
    | nil => intro vs h; cases h; exact .nil
    | cons k ks ih =>
      intro vs h
      cases h with
      | cons h1 h2 =>
        obtain ⟨t, e⟩ := h1
        subst e
        exact .cons (as := []) (.int k t) (ih _ h2)
  refine PySem.W.max_tuple_datum (α := Int) (x := n) (xs := ns) (I.ok.hd hc) ht ⟨[], by simpa using hr (n :: ns) its rv⟩ (by show X.A.units + 1 + 0 < cLine; omega) fun i v h' tk hi ⟨bs, hv⟩ hk => ?_
  have e2 : PySem.W.maxOf n ns = maxI n ns := by
    unfold PySem.W.maxOf maxI
    congr 1
    funext a y
    show (if decide (a < y) = true then y else a) = _
    by_cases z : a < y <;> simp [z]
  rw [e2] at hv
  have : ∃ t, v = .int (maxI n ns) t := by
    cases hv with
    | int i t => exact ⟨t, rfl⟩
  obtain ⟨t, rfl⟩ := this
  exact ⟨.int _, H, I.kept hk, ⟨t, rfl⟩, q⟩
def pMaxL : List PV → PM → QV → Prop := fun xs M Q => match xs with
  | [x] => ∃ (n : Int) (ns : List Int), asSeq M x = some ((n :: ns).map PV.int) ∧ Q (.int (maxI n ns)) M
  | _ => False
theorem le_maxL : LeC X F0 (fun xs H Q => rMax X.K xs H Q ∨ rMaxT X.K xs H Q) pMaxL := fun F H M xs vs Q Q' R rs h po => by
  unfold pMaxL at h
  split at h
  · obtain ⟨v, e, r⟩ := rvs1 rs
    obtain ⟨n, ns, h1, h2⟩ := h
    obtain ⟨q, us, e1, q1, q2⟩ := asSeq_at R r h1
    subst e1
    have e3 := rvs_ints q2
    subst e3
    have hq := po F H M _ (.int (maxI n ns)) (Same.refl F) R rv_int h2
    rcases q1 with q1 | q1
    · refine .inl ⟨q, n :: ns, e, q1, by simp, fun m m1 m2 => ?_⟩
      obtain ⟨s1, s2⟩ := maxI_spec ns n
      rw [max_unique m1 m2 s1 s2]; exact hq
    · exact .inr ⟨q, n, ns, e, q1, hq⟩
  · exact h.elim
theorem q_max1 {k : Nat} (hr : Room k X.A) (hc : X.calm = true) (hg : Gl X "max") (hm : X.mg "max" = none) (ha : QE X F0 a ta) (he : starEach [a] X.env = (false, eval a X.env) :: starEach [] X.env := by rfl) (hpl : (backTo pos (starEach [] X.env)).any (·.1) = false := by rfl) : QE X F0 (.Call (.Name "max" p) [a] [] pos) (pCB pMaxL (pCons ta pNil)) :=
  q_callB le_maxL (or_call (cr_max hc) (cr_maxT hc (by have := hr.un; omega))) hg hm (by decide +kernel) (qa_cons ha qa_nil he) (by decide) (by decide) he hpl
theorem q_lelt {c : Expr} {tc : TE'} (ha : QE X F0 a ta) (hb : QE X F0 b tb) (hc : QE X F0 c tc) (hm : lastMarks [.LtE, .Lt] [b, c] = false := by with_unfolding_all rfl) : QE X F0 (.Compare a [.LtE, .Lt] [b, c] pos) (pChain iLe iLt ta tb tc) := q_chain op_le op_lt (le_I0 fun _ _ _ => rv_bl) (le_I0 fun _ _ _ => rv_bl) ha hb hc hm
theorem qt_lelt {c : Expr} {tc : TE'} (ha : QE X F0 a ta) (hb : QE X F0 b tb) (hc : QE X F0 c tc) (hm : lastMarks [.LtE, .Lt] [b, c] = false := by with_unfolding_all rfl) : QT X F0 (.Compare a [.LtE, .Lt] [b, c] pos) (pTest (pChain iLe iLt ta tb tc)) := qt_chain op_le op_lt (le_I0 fun _ _ _ => rv_bl) (le_I0 fun _ _ _ => rv_bl) ha hb hc hm
/-! ### is True, is not True -/
theorem op_isB : OpR X (compareOp .Is) (fun x y H Q => ∃ a b, x = .bl a ∧ y = .bl b ∧ Q (.bl (a == b)) H) := by
  intro pins s σ H x y v u Q I rx ry h
  obtain ⟨a, b, rfl, rfl, q⟩ := h
  cases rx
  cases ry
  cases a <;> cases b
  · exact wpAny_is_self rfl ⟨.bl true, H, I, rfl, q⟩
  · exact wpAny_is_other rfl (fun z => by cases z) ⟨.bl false, H, I, rfl, q⟩
  · exact wpAny_is_other rfl (fun z => by cases z) ⟨.bl false, H, I, rfl, q⟩
  · exact wpAny_is_self rfl ⟨.bl true, H, I, rfl, q⟩
theorem op_notB : OpR X (compareOp .IsNot) (fun x y H Q => ∃ a b, x = .bl a ∧ y = .bl b ∧ Q (.bl (!(a == b))) H) := by
  intro pins s σ H x y v u Q I rx ry h
  obtain ⟨a, b, rfl, rfl, q⟩ := h
  cases rx
  cases ry
  cases a <;> cases b
  · exact wpAny_isNot_self rfl ⟨.bl false, H, I, rfl, q⟩
  · exact wpAny_isNot_other rfl (fun z => by cases z) ⟨.bl true, H, I, rfl, q⟩
  · exact wpAny_isNot_other rfl (fun z => by cases z) ⟨.bl true, H, I, rfl, q⟩
  · exact wpAny_isNot_self rfl ⟨.bl false, H, I, rfl, q⟩
def pIsB : R2' := fun x y M Q => match x, y with
  | .bl a, .bl b => Q (.bl (a == b)) M
  | _, _ => False
def pNotB : R2' := fun x y M Q => match x, y with
  | .bl a, .bl b => Q (.bl (!(a == b))) M
  | _, _ => False
theorem le_isB : LeO X F0 (fun x y H Q => ∃ a b, x = .bl a ∧ y = .bl b ∧ Q (.bl (a == b)) H) pIsB := fun F H M x y v w Q Q' R rx ry h po => by
  unfold pIsB at h
  split at h
  · unfold RV at rx ry
    exact ⟨_, _, rx, ry, po _ _ _ _ _ (Same.refl F) R rv_bl h⟩
  · exact h.elim
theorem le_notB : LeO X F0 (fun x y H Q => ∃ a b, x = .bl a ∧ y = .bl b ∧ Q (.bl (!(a == b))) H) pNotB := fun F H M x y v w Q Q' R rx ry h po => by
  unfold pNotB at h
  split at h
  · unfold RV at rx ry
    exact ⟨_, _, rx, ry, po _ _ _ _ _ (Same.refl F) R rv_bl h⟩
  · exact h.elim
theorem q_isB (ha : QE X F0 a ta) (hb : QE X F0 b tb) : QE X F0 (.Compare a [.Is] [b] pos) (pOp pIsB ta tb) := q_cmp op_isB le_isB ha hb (nomark _)
theorem q_notB (ha : QE X F0 a ta) (hb : QE X F0 b tb) : QE X F0 (.Compare a [.IsNot] [b] pos) (pOp pNotB ta tb) := q_cmp op_notB le_notB ha hb (nomark _)
theorem qt_isB (ha : QE X F0 a ta) (hb : QE X F0 b tb) : QT X F0 (.Compare a [.Is] [b] pos) (pTest (pOp pIsB ta tb)) := qt_cmp op_isB le_isB ha hb (nomark _)
theorem qt_notB (ha : QE X F0 a ta) (hb : QE X F0 b tb) : QT X F0 (.Compare a [.IsNot] [b] pos) (pTest (pOp pNotB ta tb)) := qt_cmp op_notB le_notB ha hb (nomark _)
/-! ### divmod -/
def rDmF : List V → Hp → VK → Prop := fun xs H Q => ∃ i j, xs = [.int i, .int j] ∧ CDiv i j ∧ ∀ p o, H p = none → o.dict = none → Q (.ref p) (upd H p (.frz o (.tup [.int (i / j), .int (i % j)])))
theorem cr_divmod : CallR X (.builtin "divmod") rDmF := by
  intro pins s σ H xs us Q I r h
  obtain ⟨i, j, rfl, hd, q⟩ := h
  obtain ⟨h1, h2⟩ := id hd
  obtain ⟨u, w', rfl, ⟨t, rfl⟩, ⟨t', rfl⟩⟩ := vals2 r
  refine divmod_int (by omega) ?_ (.inl (PyProof.noPylong_small (by omega)))
  have e1 := Int.fdiv_eq_ediv_of_nonneg i (show 0 ≤ j by omega)
  have e2 := Int.fmod_eq_emod_of_nonneg i (show 0 ≤ j by omega)
  rw [e1, e2]
  exact laidF (vs := [.int (i / j), .int (i % j)]) (us := [.int (i / j) s.toks, .int (i % j) (s.toks + 1)]) I (.cons ⟨_, rfl⟩ (.cons ⟨_, rfl⟩ .nil)) (by simp only [List.length_cons, List.length_nil]; rw [sizeLine_eq]; decide) q
def pDivmod : List PV → PM → QV → Prop := fun xs M Q => match xs with
  | [.int i, .int j] => CDiv i j ∧ Q (.tup [.int (i / j), .int (i % j)]) M
  | _ => False
theorem le_divmod : LeC X F0 rDmF pDivmod := fun F H M xs vs Q Q' R rs h po => by
  unfold pDivmod at h
  split at h
  · obtain ⟨v, w, e, r1, r2⟩ := rvs2 rs
    unfold RV at r1 r2
    subst r1 r2
    refine ⟨_, _, e, h.1, fun p o hp ho => ?_⟩
    obtain ⟨R2, r3, e2⟩ := rel_tup (xs := [.int _, .int _]) R hp ho (.cons rv_int (.cons rv_int .nil)) (by simp only [List.length_cons, List.length_nil]; rw [sizeLine_eq]; decide)
    exact po _ _ _ _ _ e2 R2 r3 h.2
  · exact h.elim
theorem q_divmod {t : TA'} (hg : Gl X "divmod") (hm : X.mg "divmod" = none) (ha : QA X F0 [a, b] t) (he : starEach [a, b] X.env = (false, eval a X.env) :: starEach [b] X.env := by rfl) (hpl : (backTo pos (starEach [b] X.env)).any (·.1) = false := by rfl) : QE X F0 (.Call (.Name "divmod" p) [a, b] [] pos) (pCB pDivmod t) :=
  q_callB le_divmod cr_divmod hg hm (by decide +kernel) ha (by decide) (by decide) he hpl
end
end PL

namespace MB
open PySem PySem.Spec PyProof.Rows L2 PL
/-! ### what is told of a thing -/
def isAmong (x : PV) (l h : Int) : Bool := match x with
  | .int i => decide (l ≤ i) && decide (i ≤ h)
  | _ => false
def isRow (x : PV) (l h : Int) : Bool := match x with
  | .tup xs => decide (l ≤ (xs.length : Int)) && decide ((xs.length : Int) ≤ h)
  | _ => false
def isStep (x : PV) (n : Int) : Bool := match x with
  | .tup xs => isRow x 0 3 && xs.all fun e => isAmong e 0 (n - 1)
  | _ => false
def isWheel (x : PV) (n : Int) : Bool := match x with
  | .tup xs => isRow x 1 4 && xs.all fun e => isStep e n
  | _ => false
def isBoard (x : PV) : Bool := match x with
  | .tup [.tup ws, .int c] => isRow (.tup ws) 1 6 && isAmong (.int c) 0 4 && ws.all fun e => isWheel e ((ws.length : Int) + c)
  | _ => false
theorem isRow_size {xs : List PV} {l u : Int} (h : isRow (.tup xs) l u = true) (hu : u ≤ 1000) : xs.length ≤ sizeLine := by
  unfold isRow at h
  simp only [Bool.and_eq_true, decide_eq_true_eq] at h
  rw [sizeLine_eq]
  omega
theorem isRow2 (x : PV) : isRow x 2 2 = false ∨ ∃ a b, x = .tup [a, b] := by
  cases x with
  | tup xs =>
    match xs with
    | [] => exact .inl rfl
    | [a] => exact .inl rfl
    | [a, b] => exact .inr ⟨a, b, rfl⟩
    | a :: b :: c :: r =>
      left
      simp only [isRow, List.length_cons, Bool.and_eq_false_iff, decide_eq_false_iff_not]
      right; omega
  | _ => exact .inl rfl
theorem isBoard_no {x : PV} (h : isRow x 2 2 = false ∨ (∃ a b, x = .tup [a, b] ∧ isRow a 1 6 = false) ∨ (∃ a b, x = .tup [a, b] ∧ isAmong b 0 4 = false)) : isBoard x = false := by
  rcases h with h | ⟨a, b, rfl, h⟩ | ⟨a, b, rfl, h⟩
  · unfold isBoard
    split
    · exact absurd h (by simp [isRow])
    · rfl
  · unfold isBoard
    split
    · rename_i e
      cases e
      simp [h]
    · rfl
  · unfold isBoard
    split
    · rename_i e
      cases e
      simp [h]
    · rfl
theorem among_sm {x : PV} {l u : Int} (h : isAmong x l u = true) (hl : 0 ≤ l) (hu : u < 16) : Sm 0 7 x := by
  cases x with
  | int i =>
    simp only [isAmong, Bool.and_eq_true, decide_eq_true_eq] at h
    have : i = 0 ∨ i = 1 ∨ i = 2 ∨ i = 3 ∨ i = 4 ∨ i = 5 ∨ i = 6 ∨ i = 7 ∨ i = 8 ∨ i = 9 ∨ i = 10 ∨ i = 11 ∨ i = 12 ∨ i = 13 ∨ i = 14 ∨ i = 15 := by omega
    rcases this with rfl | rfl | rfl | rfl | rfl | rfl | rfl | rfl | rfl | rfl | rfl | rfl | rfl | rfl | rfl | rfl <;> exact Sm.ofB (by decide +kernel)
  | _ => exact absurd h (by simp [isAmong])
theorem sms_all {D W n : Nat} : ∀ {xs : List PV}, (∀ x ∈ xs, Sm D W x) → xs.length ≤ n → Sms D (n * (W + 2)) xs
  | [], _, _ => Sms.nil
  | x :: xs, h, hn => by
    obtain ⟨m, rfl⟩ : ∃ m, n = m + 1 := ⟨n - 1, by simp only [List.length_cons] at hn; omega⟩
    have h1 := Sms.one (h x (by simp))
    have h2 := sms_all (n := m) (xs := xs) (fun y hy => h y (List.mem_cons_of_mem _ hy)) (by simp only [List.length_cons] at hn; omega)
    have h3 := h1.append h2
    exact h3.mono (Nat.le_refl _) (by rw [Nat.add_mul]; omega)
theorem step_sm {x : PV} {n : Int} (h : isStep x n = true) (hn : n ≤ 16) : Sm 1 32 x := by
  cases x with
  | tup xs =>
    simp only [isStep, isRow, Bool.and_eq_true, decide_eq_true_eq, List.all_eq_true] at h
    exact (Sm.tup (sms_all (n := 3) (fun e he => among_sm (h.2 e he) (by decide) (by omega)) (by omega)))
  | _ => exact absurd h (by simp [isStep])
theorem wheel_sm {x : PV} {n : Int} (h : isWheel x n = true) (hn : n ≤ 16) : Sm 2 141 x := by
  cases x with
  | tup xs =>
    simp only [isWheel, isRow, Bool.and_eq_true, decide_eq_true_eq, List.all_eq_true] at h
    exact (Sm.tup (sms_all (n := 4) (fun e he => step_sm (h.2 e he) hn) (by omega)))
  | _ => exact absurd h (by simp [isWheel])
theorem board_is {v : PV} (h : isBoard v = true) : ∃ ws c, v = .tup [.tup ws, .int c] ∧ 1 ≤ ws.length ∧ ws.length ≤ 6 ∧ 0 ≤ c ∧ c ≤ 4 ∧ (∀ w ∈ ws, isWheel w ((ws.length : Int) + c) = true) ∧ Sm 3 863 (.tup ws) := by
  unfold isBoard at h
  split at h
  · rename_i ws c
    simp only [isRow, isAmong, Bool.and_eq_true, decide_eq_true_eq, List.all_eq_true] at h
    obtain ⟨⟨⟨h1, h2⟩, h3, h4⟩, h5⟩ := h
    exact ⟨ws, c, rfl, by omega, by omega, h3, h4, h5, Sm.tup (sms_all (n := 6) (fun e he => wheel_sm (h5 e he) (by omega)) (by omega))⟩
  · cases h
theorem board_sm {ws : List PV} {c : Int} (h1 : Sm 3 863 (.tup ws)) (h2 : 0 ≤ c) (h3 : c ≤ 4) : Sms 3 874 [.tup ws, .int c] :=
  (Sms.one h1).append (Sms.one ((among_sm (x := .int c) (l := 0) (u := 4) (by simp only [isAmong]; rw [decide_eq_true h2, decide_eq_true h3]; rfl) (by decide) (by decide)).mono (by omega) (Nat.le_refl _)))
/-! ### stands, moments -/
def rowOk : List PV → Bool
  | [x, .tup ss] => isAmong x 0 ((ss.length : Int) - 1)
  | _ => false
def isStand (ws : List PV) (x : PV) : Bool := isRow x ws.length ws.length && match x with
  | .tup xs => (zip2P xs ws).all rowOk
  | _ => false
def isNat : PV → Bool
  | .int i => decide (0 ≤ i)
  | _ => false
def isCounts (x : PV) (n : Int) : Bool := isRow x n n && match x with
  | .tup xs => xs.all isNat
  | _ => false
def isMoment (ws : List PV) (c : Int) : PV → Bool
  | .tup [a, b, d] => isStand ws a && isCounts b ws.length && isCounts d c
  | _ => false
theorem isRow_len {x : PV} {n : Int} (h : isRow x n n = true) : ∃ xs, x = .tup xs ∧ (xs.length : Int) = n := by
  cases x with
  | tup xs =>
    simp only [isRow, Bool.and_eq_true, decide_eq_true_eq] at h
    exact ⟨xs, rfl, by omega⟩
  | _ => exact absurd h (by simp [isRow])
theorem isRow3 (x : PV) : isRow x 3 3 = false ∨ ∃ a b c, x = .tup [a, b, c] := by
  cases h : isRow x 3 3 with
  | false => exact .inl rfl
  | true =>
    obtain ⟨xs, rfl, hl⟩ := isRow_len h
    match xs, hl with
    | [a, b, c], _ => exact .inr ⟨a, b, c, rfl⟩
    | [], hl => simp at hl
    | [_], hl => simp at hl
    | [_, _], hl => simp at hl
    | _ :: _ :: _ :: _ :: r, hl => simp at hl; omega
theorem isMoment_no {ws : List PV} {c : Int} {x : PV} (h : isRow x 3 3 = false) : isMoment ws c x = false := by
  unfold isMoment
  split
  · exact absurd h (by simp [isRow])
  · rfl
def areWheels (n : Nat) : PV → Bool
  | .tup xs => xs.all fun e => isAmong e 0 ((n : Int) - 1)
  | _ => false
/-! ### boards and moments in plain numbers -/
def encS (s : List Int) : PV := .tup (s.map .int)
def encW (w : List (List Int)) : PV := .tup (w.map encS)
def encB (ws : List (List (List Int))) (c : Int) : PV := .tup [.tup (ws.map encW), .int c]
structure Bd (ws : List (List (List Int))) (c : Nat) : Prop where
  n1 : 1 ≤ ws.length
  n6 : ws.length ≤ 6
  c4 : c ≤ 4
  w : ∀ w ∈ ws, 1 ≤ w.length ∧ w.length ≤ 4
  s : ∀ w ∈ ws, ∀ s ∈ w, s.length ≤ 3
  e : ∀ w ∈ ws, ∀ s ∈ w, ∀ e ∈ s, 0 ≤ e ∧ e < (ws.length : Int) + c
def encM (m : List Int × List Int × List Int) : PV := .tup [encS m.1, encS m.2.1, encS m.2.2]
structure Mo (ws : List (List (List Int))) (c : Nat) (m : List Int × List Int × List Int) : Prop where
  l1 : m.1.length = ws.length
  l2 : m.2.1.length = ws.length
  l3 : m.2.2.length = c
  at1 : ∀ (i : Nat) (s : Int) (w : List (List Int)), m.1[i]? = some s → ws[i]? = some w → 0 ≤ s ∧ s < (w.length : Int)
  wt1 : ∀ x ∈ m.2.1, 0 ≤ x
  hd1 : ∀ x ∈ m.2.2, 0 ≤ x
def bump (xs : List Int) (i : Nat) (d : Int) : List Int := xs.modify i (· + d)
def comeTo (W : Nat) (p : List Int × List Int) (e : Int) : List Int × List Int := if e < W then (bump p.1 e.toNat 1, p.2) else (p.1, bump p.2 (e - W).toNat 1)
/-- one marble handled at wheel i -/
def handleF (ws : List (List (List Int))) (m : List Int × List Int × List Int) (i : Nat) : List Int × List Int × List Int :=
  let w := ws.getD i []
  let a := m.1.getD i 0
  let p := (w.getD a.toNat []).foldl (comeTo ws.length) (bump m.2.1 i (-1), m.2.2)
  (m.1.set i ((a + 1) % (w.length : Int)), p.1, p.2)
theorem bump_len (xs : List Int) (i : Nat) (d : Int) : (bump xs i d).length = xs.length := by unfold bump; simp
theorem map_bump {xs : List Int} {i : Nat} {u d : Int} (h : xs[i]? = some u) : (xs.map PV.int).set i (.int (u + d)) = (bump xs i d).map PV.int := by
  apply List.ext_getElem?
  intro j
  unfold bump
  rw [List.getElem?_map, List.getElem?_modify, List.getElem?_set]
  by_cases e : i = j
  · subst e
    have hi := (List.getElem?_eq_some_iff.mp h).1
    rw [h]
    simp [hi]
  · rw [if_neg e, List.getElem?_map]
    cases xs[j]? <;> simp [e]
theorem come_len {W : Nat} {p : List Int × List Int} {e : Int} : (comeTo W p e).1.length = p.1.length ∧ (comeTo W p e).2.length = p.2.length := by
  unfold comeTo
  split <;> simp [bump_len]
theorem map_set {st : List Int} {i : Nat} (hi : i < st.length) (t : Int) : (st.map PV.int).take i ++ [.int t] ++ (st.map PV.int).drop (i + 1) = (st.set i t).map PV.int := by
  rw [List.map_set, List.set_eq_take_append_cons_drop, if_pos (by rw [List.length_map]; exact hi)]
  simp
theorem atI_map {α : Type} {xs : List α} {f : α → PV} {i : Nat} {u : α} (h : xs[i]? = some u) : atI (xs.map f) ((i : Nat) : Int) = some (f u) := atI_natCast (j := i) rfl (by rw [List.getElem?_map, h]; rfl)
theorem bump_nn {xs : List Int} {i : Nat} {d : Int} (h : ∀ x ∈ xs, 0 ≤ x) (hd : ∀ u, xs[i]? = some u → 0 ≤ u + d) : ∀ x ∈ bump xs i d, 0 ≤ x := by
  intro x hx
  obtain ⟨j, hj⟩ := List.getElem?_of_mem hx
  unfold bump at hj
  rw [List.getElem?_modify] at hj
  cases e : xs[j]? with
  | none => rw [e] at hj; cases hj
  | some u =>
    rw [e] at hj
    by_cases hij : i = j
    · subst hij
      simp at hj
      subst hj
      exact hd u e
    · simp [hij] at hj
      subst hj
      exact h _ (List.mem_of_getElem? e)
theorem come_nn {W : Nat} {p : List Int × List Int} {e : Int} (h : (∀ x ∈ p.1, 0 ≤ x) ∧ ∀ x ∈ p.2, 0 ≤ x) : (∀ x ∈ (comeTo W p e).1, 0 ≤ x) ∧ ∀ x ∈ (comeTo W p e).2, 0 ≤ x := by
  unfold comeTo
  split
  · exact ⟨bump_nn h.1 fun u hu => by have := h.1 u (List.mem_of_getElem? hu); omega, h.2⟩
  · exact ⟨h.1, bump_nn h.2 fun u hu => by have := h.2 u (List.mem_of_getElem? hu); omega⟩
theorem fold_come {W : Nat} : ∀ (es : List Int) (p : List Int × List Int), ((es.foldl (comeTo W) p).1.length = p.1.length ∧ (es.foldl (comeTo W) p).2.length = p.2.length) ∧ ((∀ x ∈ p.1, 0 ≤ x) ∧ (∀ x ∈ p.2, 0 ≤ x) → (∀ x ∈ (es.foldl (comeTo W) p).1, 0 ≤ x) ∧ ∀ x ∈ (es.foldl (comeTo W) p).2, 0 ≤ x)
  | [], p => ⟨⟨rfl, rfl⟩, fun h => h⟩
  | e :: es, p => by
    obtain ⟨⟨h1, h2⟩, h3⟩ := fold_come es (comeTo W p e)
    rw [List.foldl_cons]
    exact ⟨⟨h1.trans come_len.1, h2.trans come_len.2⟩, fun h => h3 (come_nn h)⟩
theorem Mo.handle {ws : List (List (List Int))} {c : Nat} {m : List Int × List Int × List Int} {i : Nat} (hb : Bd ws c) (hm : Mo ws c m) (hi : i < ws.length) (hp : 0 < m.2.1.getD i 0) : Mo ws c (handleF ws m i) := by
  obtain ⟨st, wt, hd⟩ := m
  have l1 : st.length = ws.length := hm.l1
  have l2 : wt.length = ws.length := hm.l2
  have hw0 : ws[i]? = some ws[i] := List.getElem?_eq_getElem hi
  have hs0 : st[i]? = some st[i] := List.getElem?_eq_getElem (by omega)
  have ht0 : wt[i]? = some wt[i] := List.getElem?_eq_getElem (by omega)
  have hwl := hb.w _ (List.getElem_mem hi)
  simp only [List.getD_eq_getElem?_getD, ht0, Option.getD_some] at hp
  unfold handleF
  simp only [List.getD_eq_getElem?_getD, hw0, hs0, Option.getD_some]
  generalize hES : (ws[i][st[i].toNat]?).getD [] = es
  obtain ⟨⟨g1, g2⟩, g3⟩ := fold_come (W := ws.length) es (bump wt i (-1), hd)
  have g4 := g3 ⟨bump_nn hm.wt1 fun u hu => by rw [ht0] at hu; cases hu; omega, hm.hd1⟩
  refine ⟨by simp [l1], by rw [g1, bump_len]; exact l2, by rw [g2]; exact hm.l3, fun j s w hs hw => ?_, g4.1, g4.2⟩
  by_cases hj : i = j
  · subst hj
    rw [hw0] at hw
    cases hw
    simp only [List.getElem?_set] at hs
    simp [l1, hi] at hs
    subst hs
    exact ⟨Int.emod_nonneg _ (by omega), Int.emod_lt_of_pos _ (by omega)⟩
  · simp only [List.getElem?_set, if_neg hj] at hs
    exact hm.at1 j s w hs hw
/-- how far a row goes, and where -/
def goneF (ws : List (List (List Int))) : List Int × List Int × List Int → List Nat → Nat × (List Int × List Int × List Int)
  | m, [] => (0, m)
  | m, i :: r => if m.2.1.getD i 0 = 0 then (0, m) else ((goneF ws (handleF ws m i) r).1 + 1, (goneF ws (handleF ws m i) r).2)
def encR (row : List Nat) : PV := .tup (row.map fun i => .int ((i : Nat) : Int))
theorem among_is {x : PV} {l u : Int} (h : isAmong x l u = true) : ∃ i, x = .int i ∧ l ≤ i ∧ i ≤ u := by
  cases x with
  | int i =>
    simp only [isAmong, Bool.and_eq_true, decide_eq_true_eq] at h
    exact ⟨i, rfl, h⟩
  | _ => exact absurd h (by simp [isAmong])
theorem list_is {α : Type} {f : α → PV} {p : α → Prop} : ∀ {xs : List PV}, (∀ x ∈ xs, ∃ a, x = f a ∧ p a) → ∃ l : List α, xs = l.map f ∧ ∀ a ∈ l, p a
  | [], _ => ⟨[], rfl, by simp⟩
  | x :: xs, h => by
    obtain ⟨a, e, ha⟩ := h x (by simp)
    obtain ⟨l, el, hl⟩ := list_is (xs := xs) fun y hy => h y (List.mem_cons_of_mem _ hy)
    subst e el
    exact ⟨a :: l, rfl, fun b hb => by
      rcases List.mem_cons.mp hb with e | hb
      · rw [e]; exact ha
      · exact hl b hb⟩
theorem step_is {x : PV} {n : Int} (h : isStep x n = true) : ∃ s : List Int, x = encS s ∧ s.length ≤ 3 ∧ ∀ e ∈ s, 0 ≤ e ∧ e < n := by
  cases x with
  | tup xs =>
    simp only [isStep, isRow, Bool.and_eq_true, decide_eq_true_eq, List.all_eq_true] at h
    obtain ⟨s, e, hs⟩ := list_is (f := PV.int) (p := fun i => 0 ≤ i ∧ i ≤ n - 1) fun x hx => among_is (h.2 x hx)
    subst e
    rw [List.length_map] at h
    exact ⟨s, rfl, by omega, fun e he => by have := hs e he; omega⟩
  | _ => exact absurd h (by simp [isStep])
theorem wheel_is {x : PV} {n : Int} (h : isWheel x n = true) : ∃ w : List (List Int), x = encW w ∧ 1 ≤ w.length ∧ w.length ≤ 4 ∧ ∀ s ∈ w, s.length ≤ 3 ∧ ∀ e ∈ s, 0 ≤ e ∧ e < n := by
  cases x with
  | tup xs =>
    simp only [isWheel, isRow, Bool.and_eq_true, decide_eq_true_eq, List.all_eq_true] at h
    obtain ⟨w, e, hw⟩ := list_is (f := encS) (p := fun s => s.length ≤ 3 ∧ ∀ e ∈ s, 0 ≤ e ∧ e < n) fun x hx => step_is (h.2 x hx)
    subst e
    rw [List.length_map] at h
    exact ⟨w, rfl, by omega, by omega, hw⟩
  | _ => exact absurd h (by simp [isWheel])
theorem board_enc {v : PV} (h : isBoard v = true) : ∃ ws c, v = encB ws ((c : Nat) : Int) ∧ Bd ws c := by
  obtain ⟨ws, c, rfl, h1, h2, h3, h4, h5, _⟩ := board_is h
  obtain ⟨l, e, hl⟩ := list_is (f := encW) (p := fun w => 1 ≤ w.length ∧ w.length ≤ 4 ∧ ∀ s ∈ w, s.length ≤ 3 ∧ ∀ e ∈ s, 0 ≤ e ∧ e < (ws.length : Int) + c) fun x hx => wheel_is (h5 x hx)
  subst e
  rw [List.length_map] at *
  refine ⟨l, c.toNat, by unfold encB; rw [show ((c.toNat : Nat) : Int) = c by omega], h1, h2, by omega, fun w hw => ⟨(hl w hw).1, (hl w hw).2.1⟩, fun w hw s hs => ((hl w hw).2.2 s hs).1, fun w hw s hs e he => ?_⟩
  have := ((hl w hw).2.2 s hs).2 e he
  omega
theorem counts_is {x : PV} {n : Int} (h : isCounts x n = true) : ∃ s : List Int, x = encS s ∧ (s.length : Int) = n ∧ ∀ e ∈ s, 0 ≤ e := by
  unfold isCounts at h
  rw [Bool.and_eq_true] at h
  obtain ⟨xs, rfl, hl⟩ := isRow_len h.1
  obtain ⟨s, e, hs⟩ := list_is (f := PV.int) (p := fun i => 0 ≤ i) fun x hx => by
    have := List.all_eq_true.mp h.2 x hx
    cases x with
    | int i => exact ⟨i, rfl, by simpa [isNat] using this⟩
    | _ => exact absurd this (by simp [isNat])
  subst e
  rw [List.length_map] at hl
  exact ⟨s, rfl, hl, hs⟩
theorem bd_board {ws : List (List (List Int))} {c : Nat} (h : Bd ws c) : isBoard (encB ws c) = true := by
  have n1 := h.n1
  have n6 := h.n6
  have c4 := h.c4
  simp only [encB, isBoard, isRow, isAmong, Bool.and_eq_true, decide_eq_true_eq, List.all_eq_true, List.length_map]
  refine ⟨⟨⟨by omega, by omega⟩, by omega, by omega⟩, fun x hx => ?_⟩
  obtain ⟨w, hw, rfl⟩ := List.mem_map.mp hx
  have hwl := h.w w hw
  simp only [encW, isWheel, isRow, Bool.and_eq_true, decide_eq_true_eq, List.all_eq_true, List.length_map]
  refine ⟨⟨by omega, by omega⟩, fun y hy => ?_⟩
  obtain ⟨s, hs, rfl⟩ := List.mem_map.mp hy
  have hsl := h.s w hw s hs
  simp only [encS, isStep, isRow, Bool.and_eq_true, decide_eq_true_eq, List.all_eq_true, List.length_map]
  refine ⟨⟨by omega, by omega⟩, fun z hz => ?_⟩
  obtain ⟨e, he, rfl⟩ := List.mem_map.mp hz
  have hee := h.e w hw s hs e he
  simp only [isAmong, Bool.and_eq_true, decide_eq_true_eq]
  omega
theorem counts_enc {s : List Int} (h : ∀ e ∈ s, 0 ≤ e) : isCounts (encS s) s.length = true := by
  simp only [isCounts, encS, isRow, Bool.and_eq_true, decide_eq_true_eq, List.all_eq_true, List.length_map]
  refine ⟨⟨by omega, by omega⟩, fun x hx => ?_⟩
  obtain ⟨e, he, rfl⟩ := List.mem_map.mp hx
  simp [isNat, h e he]
theorem mo_moment {ws : List (List (List Int))} {c : Nat} {m : List Int × List Int × List Int} (h : Mo ws c m) : isMoment (ws.map encW) c (encM m) = true := by
  obtain ⟨st, wt, hd⟩ := m
  have l1 : st.length = ws.length := h.l1
  have l2 : wt.length = ws.length := h.l2
  have l3 : hd.length = c := h.l3
  have h2 := counts_enc h.wt1
  have h3 := counts_enc h.hd1
  have h1 : isStand (ws.map encW) (encS st) = true := by
    simp only [isStand, encS, isRow, Bool.and_eq_true, decide_eq_true_eq, List.all_eq_true, List.length_map]
    refine ⟨⟨by omega, by omega⟩, fun r hr => ?_⟩
    obtain ⟨i, hi⟩ := List.getElem?_of_mem hr
    unfold zip2P at hi
    rw [List.getElem?_zipWith, List.getElem?_map, List.getElem?_map] at hi
    cases e1 : st[i]? <;> cases e2 : ws[i]? <;> rw [e1, e2] at hi <;> try (cases hi; done)
    rename_i s w
    cases hi
    have := h.at1 i s w e1 e2
    simp only [rowOk, encW, isAmong, Bool.and_eq_true, decide_eq_true_eq, List.length_map]
    omega
  simp only [isMoment, encM, h1, Bool.true_and, Bool.and_eq_true, List.length_map]
  constructor
  · rw [← l2]; exact h2
  · rw [← l3]; exact h3
theorem bd_sm {ws : List (List (List Int))} {c : Nat} (h : Bd ws c) : Sm 4 880 (encB ws c) := by
  obtain ⟨l, d, e, _, _, h3, h4, _, sw⟩ := board_is (bd_board h)
  rw [e]
  exact (Sm.tup (board_sm sw h3 h4)).mono (by omega) (by omega)
theorem row_areK {row : List Nat} (h : ∀ i ∈ row, i < 1000) : (encR row).isK = true := by
  unfold encR
  rw [isK_tup]
  refine areK_iff.mpr fun x hx => ?_
  obtain ⟨i, hi, rfl⟩ := List.mem_map.mp hx
  exact (Sm.int_small (D := 0) (by have := h i hi; omega)).k
theorem row_wheels {row : List Nat} {n : Nat} (h : ∀ i ∈ row, i < n) : areWheels n (encR row) = true := by
  unfold encR areWheels
  refine List.all_eq_true.mpr fun x hx => ?_
  obtain ⟨i, hi, rfl⟩ := List.mem_map.mp hx
  have := h i hi
  simp only [isAmong, Bool.and_eq_true, decide_eq_true_eq]
  omega
end MB

namespace MB
open PySem PySem.Spec PyProof.Rows L2 PL
abbrev Mt := List Int × List Int × List Int
abbrev Wh := List (List (List Int))
/-! ### rows that are let -/
/-- a row is let, and comes to a moment -/
def Let (ws : Wh) (m : Mt) (row : List Nat) (m' : Mt) : Prop := goneF ws m row = (row.length, m')
theorem gone_le (ws : Wh) : ∀ (row : List Nat) (m : Mt), (goneF ws m row).1 ≤ row.length
  | [], m => Nat.le_refl _
  | i :: r, m => by
    unfold goneF
    split
    · exact Nat.zero_le _
    · have := gone_le ws r (handleF ws m i)
      simp only [List.length_cons]; omega
theorem let_nil {ws : Wh} {m : Mt} : Let ws m [] m := rfl
theorem let_cons {ws : Wh} {m m' : Mt} {i : Nat} {r : List Nat} : Let ws m (i :: r) m' ↔ m.2.1.getD i 0 ≠ 0 ∧ Let ws (handleF ws m i) r m' := by
  unfold Let
  rw [goneF]
  by_cases h : m.2.1.getD i 0 = 0
  · rw [if_pos h]
    constructor
    · intro e; simp at e
    · rintro ⟨e, _⟩; exact absurd h e
  · rw [if_neg h]
    simp only [List.length_cons, Prod.ext_iff, Nat.add_right_cancel_iff]
    exact ⟨fun e => ⟨h, e⟩, fun e => e.2⟩
theorem let_append {ws : Wh} : ∀ {r1 r2 : List Nat} {m m' : Mt}, Let ws m (r1 ++ r2) m' ↔ ∃ m1, Let ws m r1 m1 ∧ Let ws m1 r2 m'
  | [], r2, m, m' => ⟨fun h => ⟨m, rfl, h⟩, fun ⟨m1, h1, h2⟩ => by cases h1; exact h2⟩
  | i :: r1, r2, m, m' => by
    rw [List.cons_append, let_cons, let_append]
    constructor
    · rintro ⟨h, m1, h1, h2⟩; exact ⟨m1, let_cons.mpr ⟨h, h1⟩, h2⟩
    · rintro ⟨m1, h1, h2⟩; obtain ⟨h, h1⟩ := let_cons.mp h1; exact ⟨h, m1, h1, h2⟩
theorem let_one {ws : Wh} {m : Mt} {i : Nat} (h : m.2.1.getD i 0 ≠ 0) : Let ws m [i] (handleF ws m i) := let_cons.mpr ⟨h, let_nil⟩
theorem let_same {ws : Wh} {m m1 m2 : Mt} {r : List Nat} (h1 : Let ws m r m1) (h2 : Let ws m r m2) : m1 = m2 := by
  have := h1.symm.trans h2
  exact (Prod.ext_iff.mp this).2
theorem wt_pos {ws : Wh} {c : Nat} {m : Mt} (hm : Mo ws c m) {i : Nat} (hi : i < ws.length) (h : m.2.1.getD i 0 ≠ 0) : 0 < m.2.1.getD i 0 := by
  have l2 : m.2.1.length = ws.length := hm.l2
  have ht0 : m.2.1[i]? = some m.2.1[i] := List.getElem?_eq_getElem (by omega)
  rw [List.getD_eq_getElem?_getD, ht0, Option.getD_some] at h ⊢
  have := hm.wt1 _ (List.getElem_mem (show i < m.2.1.length by omega))
  omega
theorem Mo.letm {ws : Wh} {c : Nat} (hb : Bd ws c) : ∀ {r : List Nat} {m m' : Mt}, Mo ws c m → (∀ i ∈ r, i < ws.length) → Let ws m r m' → Mo ws c m'
  | [], m, m', hm, _, h => by cases h; exact hm
  | i :: r, m, m', hm, hr, h => by
    obtain ⟨h1, h2⟩ := let_cons.mp h
    have hi := hr i (by simp)
    exact Mo.letm hb (hm.handle hb hi (wt_pos hm hi h1)) (fun j hj => hr j (List.mem_cons_of_mem _ hj)) h2
theorem Mo.gone {ws : Wh} {c : Nat} (hb : Bd ws c) : ∀ {r : List Nat} {m : Mt}, Mo ws c m → (∀ i ∈ r, i < ws.length) → Mo ws c (goneF ws m r).2
  | [], m, hm, _ => hm
  | i :: r, m, hm, hr => by
    unfold goneF
    split
    · exact hm
    · rename_i h
      have hi := hr i (by simp)
      exact Mo.gone hb (hm.handle hb hi (wt_pos hm hi h)) (fun j hj => hr j (List.mem_cons_of_mem _ hj))
/-! ### the text's shape -/
theorem encS_k {s : List Int} : (encS s).isK = true := by unfold encS; rw [isK_tup]; exact areK_map fun _ _ => rfl
theorem encM_k {m : Mt} : (encM m).isK = true := by
  unfold encM; rw [isK_tup]
  exact areK_iff.mpr fun x hx => by
    simp only [List.mem_cons, List.not_mem_nil, or_false] at hx
    rcases hx with rfl | rfl | rfl <;> exact encS_k
theorem encS_c {s : List Int} : Cm 1 (encS s) := Cm.tup fun x hx => by
  obtain ⟨a, _, rfl⟩ := List.mem_map.mp hx
  exact .int
theorem encM_c {m : Mt} : Cm 2 (encM m) := Cm.tup fun x hx => by
  simp only [List.mem_cons, List.not_mem_nil, or_false] at hx
  rcases hx with rfl | rfl | rfl <;> exact encS_c
theorem encR_c {row : List Nat} : Cm 1 (encR row) := Cm.tup fun x hx => by
  obtain ⟨a, _, rfl⟩ := List.mem_map.mp hx
  exact .int
theorem encW_c {w : List (List Int)} : Cm 2 (encW w) := Cm.tup fun x hx => by
  obtain ⟨a, _, rfl⟩ := List.mem_map.mp hx
  exact encS_c
theorem encB_c {ws : Wh} {c : Int} : Cm 4 (encB ws c) := Cm.tup fun x hx => by
  simp only [List.mem_cons, List.not_mem_nil, or_false] at hx
  rcases hx with rfl | rfl
  · exact Cm.tup fun x hx => by
      obtain ⟨a, _, rfl⟩ := List.mem_map.mp hx
      exact encW_c
  · exact .int
theorem eqP_nil {xs : List PV} : eqP (.lst xs) (.lst []) = xs.isEmpty := by
  cases xs <;> rfl
theorem atI_last {α : Type} {xs : List α} {x : α} : atI (xs ++ [x]) (-1) = some x := by
  unfold atI ixN
  rw [if_neg (by decide), List.length_append, List.length_singleton, if_pos (by omega), show (-1 + ((xs.length + 1 : Nat) : Int)).toNat = xs.length by omega]
  simp
end MB

namespace MB
open PySem PySem.Spec PyProof.Rows L2 PL
/-! ### sums, tables -/
def sumN : Nat → (Nat → Nat) → Nat
  | 0, _ => 0
  | n + 1, f => sumN n f + f n
theorem sumN_congr {f g : Nat → Nat} : ∀ {n : Nat}, (∀ i, i < n → f i = g i) → sumN n f = sumN n g
  | 0, _ => rfl
  | n + 1, h => by
    unfold sumN
    rw [sumN_congr (n := n) fun i hi => h i (by omega), h n (by omega)]
theorem sumN_zero : ∀ n, sumN n (fun _ => 0) = 0
  | 0 => rfl
  | n + 1 => by show sumN n _ + 0 = 0; rw [sumN_zero n]
theorem sumN_add {f g : Nat → Nat} : ∀ n, sumN n (fun i => f i + g i) = sumN n f + sumN n g
  | 0 => rfl
  | n + 1 => by
    show sumN n (fun i => f i + g i) + (f n + g n) = (sumN n f + f n) + (sumN n g + g n)
    rw [sumN_add n]; omega
theorem sumN_one {k d : Nat} : ∀ n, sumN n (fun i => if i = k then d else 0) = if k < n then d else 0
  | 0 => by simp [sumN]
  | n + 1 => by
    show sumN n (fun i => if i = k then d else 0) + (if n = k then d else 0) = _
    rw [sumN_one n]
    by_cases h : n = k
    · subst h; simp
    · rw [if_neg h]
      by_cases h2 : k < n
      · rw [if_pos h2, if_pos (by omega)]; rfl
      · rw [if_neg h2, if_neg (by omega)]
/-- a table of so many numbers -/
def tab (n : Nat) (f : Nat → Int) : List Int := (List.range n).map f
theorem tab_len {n : Nat} {f : Nat → Int} : (tab n f).length = n := by unfold tab; simp
theorem tab_get {n i : Nat} {f : Nat → Int} (h : i < n) : (tab n f)[i]? = some (f i) := by unfold tab; simp [h]
theorem tab_getD {n i : Nat} {f : Nat → Int} (h : i < n) : (tab n f).getD i 0 = f i := by rw [List.getD_eq_getElem?_getD, tab_get h]; rfl
theorem tab_congr {n : Nat} {f g : Nat → Int} (h : ∀ i, i < n → f i = g i) : tab n f = tab n g := by
  unfold tab
  exact List.map_congr_left fun i hi => h i (List.mem_range.mp hi)
theorem tab_of {n : Nat} {xs : List Int} (h : xs.length = n) : xs = tab n fun i => xs.getD i 0 := by
  apply List.ext_getElem?
  intro i
  by_cases hi : i < n
  · rw [tab_get hi, List.getD_eq_getElem?_getD, List.getElem?_eq_getElem (by omega)]; rfl
  · rw [List.getElem?_eq_none (by omega), List.getElem?_eq_none (by rw [tab_len]; omega)]
theorem tab_ext {n : Nat} {xs : List Int} {f : Nat → Int} (h : xs.length = n) (e : ∀ i, i < n → xs.getD i 0 = f i) : xs = tab n f := (tab_of h).trans (tab_congr e)
theorem list_ext {n : Nat} {xs ys : List Int} (h : xs.length = n) (h' : ys.length = n) (e : ∀ i, i < n → xs.getD i 0 = ys.getD i 0) : xs = ys := (tab_ext h e).trans (tab_of h').symm
theorem bump_tab {n i : Nat} {f : Nat → Int} {d : Int} : bump (tab n f) i d = tab n fun e => f e + if e = i then d else 0 := by
  apply List.ext_getElem?
  intro j
  unfold bump
  rw [List.getElem?_modify]
  by_cases hj : j < n
  · rw [tab_get hj, tab_get hj]
    by_cases h : i = j
    · subst h; simp
    · simp [h, Ne.symm h]
  · rw [List.getElem?_eq_none (by rw [tab_len]; omega), List.getElem?_eq_none (by rw [tab_len]; omega)]; rfl
theorem bump_getD {xs : List Int} {i j : Nat} {d : Int} (hj : j < xs.length) : (bump xs i d).getD j 0 = xs.getD j 0 + if j = i then d else 0 := by
  rw [tab_of (xs := xs) rfl, bump_tab, tab_getD hj, tab_getD hj]
/-! ### what comes of marbles handled -/
/-- the ends of the step at which a wheel stands, behind so many more -/
def stepAt (ws : Wh) (i : Nat) (s : Int) : List Int := (ws.getD i []).getD (s % ((ws.getD i []).length : Int)).toNat []
def turnsN (ws : Wh) (i : Nat) (s : Int) (k : Nat) (e : Int) : Nat := sumN k fun t => (stepAt ws i (s + (t : Nat))).count e
/-- how many come to an end, by so many handled at each wheel -/
def cameN (ws : Wh) (st : List Int) (cs : Nat → Nat) (e : Int) : Nat := sumN ws.length fun i => turnsN ws i (st.getD i 0) (cs i) e
theorem come_getD {W : Nat} {c : Nat} : ∀ (es : List Int) (p : List Int × List Int), (∀ e ∈ es, 0 ≤ e ∧ e < (W : Int) + c) → p.1.length = W → p.2.length = c →
    (∀ j, j < W → (es.foldl (comeTo W) p).1.getD j 0 = p.1.getD j 0 + (es.count (j : Int) : Nat)) ∧ ∀ j, j < c → (es.foldl (comeTo W) p).2.getD j 0 = p.2.getD j 0 + (es.count ((W : Int) + (j : Nat)) : Nat)
  | [], p, _, _, _ => ⟨fun j _ => by simp, fun j _ => by simp⟩
  | e :: es, p, h, h1, h2 => by
    have he := h e (by simp)
    obtain ⟨g1, g2⟩ := come_getD es (comeTo W p e) (fun x hx => h x (List.mem_cons_of_mem _ hx)) (by rw [come_len.1]; exact h1) (by rw [come_len.2]; exact h2)
    rw [List.foldl_cons]
    refine ⟨fun j hj => ?_, fun j hj => ?_⟩
    · rw [g1 j hj, List.count_cons]
      unfold comeTo
      by_cases hlt : e < (W : Int)
      · rw [if_pos hlt]
        simp only
        rw [bump_getD (by omega)]
        by_cases q : j = e.toNat
        · rw [if_pos q, if_pos (by rw [beq_iff_eq]; omega)]; omega
        · rw [if_neg q, if_neg (by rw [beq_iff_eq]; omega)]; omega
      · rw [if_neg hlt, if_neg (by rw [beq_iff_eq]; omega)]; simp only; omega
    · rw [g2 j hj, List.count_cons]
      unfold comeTo
      by_cases hlt : e < (W : Int)
      · rw [if_pos hlt, if_neg (by rw [beq_iff_eq]; omega)]; simp only; omega
      · rw [if_neg hlt]
        simp only
        rw [bump_getD (by omega)]
        by_cases q : j = (e - (W : Int)).toNat
        · rw [if_pos q, if_pos (by rw [beq_iff_eq]; omega)]; omega
        · rw [if_neg q, if_neg (by rw [beq_iff_eq]; omega)]; omega
theorem stepAt_eq {ws : Wh} {c : Nat} {m : Mt} (hm : Mo ws c m) {i : Nat} (hi : i < ws.length) : stepAt ws i (m.1.getD i 0) = (ws.getD i []).getD (m.1.getD i 0).toNat [] := by
  have l1 : m.1.length = ws.length := hm.l1
  have hw0 : ws[i]? = some ws[i] := List.getElem?_eq_getElem hi
  have hs0 : m.1[i]? = some m.1[i] := List.getElem?_eq_getElem (by omega)
  obtain ⟨h1, h2⟩ := hm.at1 i _ _ hs0 hw0
  unfold stepAt
  rw [List.getD_eq_getElem?_getD (l := m.1), hs0, List.getD_eq_getElem?_getD (l := ws), hw0]
  simp only [Option.getD_some]
  rw [Int.emod_eq_of_lt h1 h2]
theorem stepAt_ends {ws : Wh} {c : Nat} (hb : Bd ws c) {i : Nat} (hi : i < ws.length) (s : Int) : ∀ e ∈ stepAt ws i s, 0 ≤ e ∧ e < (ws.length : Int) + c := by
  intro e he
  unfold stepAt at he
  have hw0 : ws[i]? = some ws[i] := List.getElem?_eq_getElem hi
  rw [List.getD_eq_getElem?_getD (l := ws), hw0] at he
  simp only [Option.getD_some] at he
  have hwm : ws[i] ∈ ws := List.getElem_mem hi
  rw [List.getD_eq_getElem?_getD] at he
  cases q : ws[i][(s % (ws[i].length : Int)).toNat]? with
  | none => rw [q] at he; simp at he
  | some st => rw [q] at he; exact hb.e _ hwm st (List.mem_of_getElem? q) e he
def lenW (ws : Wh) (i : Nat) : Int := ((ws.getD i []).length : Int)
theorem lenW_pos {ws : Wh} {c : Nat} (hb : Bd ws c) {i : Nat} (hi : i < ws.length) : 0 < lenW ws i := by
  unfold lenW
  have hw0 : ws[i]? = some ws[i] := List.getElem?_eq_getElem hi
  rw [List.getD_eq_getElem?_getD, hw0]
  have := hb.w _ (List.getElem_mem hi)
  simp only [Option.getD_some]; omega
theorem stepAt_mod {ws : Wh} {i : Nat} {s t : Int} (h : s % lenW ws i = t % lenW ws i) : stepAt ws i s = stepAt ws i t := by
  unfold stepAt
  unfold lenW at h
  rw [h]
theorem st_mod {ws : Wh} {c : Nat} {m : Mt} (hm : Mo ws c m) {i : Nat} (hi : i < ws.length) : m.1.getD i 0 % lenW ws i = m.1.getD i 0 := by
  have l1 : m.1.length = ws.length := hm.l1
  have hw0 : ws[i]? = some ws[i] := List.getElem?_eq_getElem hi
  have hs0 : m.1[i]? = some m.1[i] := List.getElem?_eq_getElem (by omega)
  obtain ⟨h1, h2⟩ := hm.at1 i _ _ hs0 hw0
  unfold lenW
  rw [List.getD_eq_getElem?_getD (l := m.1), hs0, List.getD_eq_getElem?_getD (l := ws), hw0]
  exact Int.emod_eq_of_lt h1 h2
/-- one marble handled, number by number -/
theorem handle_at {ws : Wh} {c : Nat} {m : Mt} (hb : Bd ws c) (hm : Mo ws c m) {i : Nat} (hi : i < ws.length) :
    (∀ j, j < ws.length → (handleF ws m i).1.getD j 0 = if j = i then (m.1.getD i 0 + 1) % lenW ws i else m.1.getD j 0) ∧
    (∀ j, j < ws.length → (handleF ws m i).2.1.getD j 0 = m.2.1.getD j 0 + ((stepAt ws i (m.1.getD i 0)).count (j : Int) : Nat) - if j = i then 1 else 0) ∧
    ∀ j, j < c → (handleF ws m i).2.2.getD j 0 = m.2.2.getD j 0 + ((stepAt ws i (m.1.getD i 0)).count ((ws.length : Int) + (j : Nat)) : Nat) := by
  have he := stepAt_ends hb hi (m.1.getD i 0)
  rw [stepAt_eq hm hi] at he ⊢
  have l1 : m.1.length = ws.length := hm.l1
  have l2 : m.2.1.length = ws.length := hm.l2
  have l3 : m.2.2.length = c := hm.l3
  obtain ⟨g1, g2⟩ := come_getD (W := ws.length) (c := c) _ (bump m.2.1 i (-1), m.2.2) he (by rw [bump_len]; exact l2) l3
  refine ⟨fun j hj => ?_, fun j hj => ?_, fun j hj => ?_⟩
  · unfold handleF lenW
    simp only
    rw [List.getD_eq_getElem?_getD, List.getElem?_set]
    by_cases q : i = j
    · subst q; rw [if_pos rfl, if_pos (by omega), if_pos rfl]; rfl
    · rw [if_neg q, if_neg (Ne.symm q), List.getD_eq_getElem?_getD]
  · unfold handleF
    simp only
    rw [g1 j hj, bump_getD (by omega)]
    split <;> omega
  · unfold handleF
    simp only
    exact g2 j hj
theorem turns_succ {ws : Wh} {i : Nat} {s : Int} {k : Nat} {e : Int} : turnsN ws i s (k + 1) e = turnsN ws i s k e + (stepAt ws i (s + (k : Nat))).count e := rfl
theorem came_succ {ws : Wh} {st : List Int} {cs : Nat → Nat} {i : Nat} (hi : i < ws.length) (e : Int) : cameN ws st (fun j => cs j + if j = i then 1 else 0) e = cameN ws st cs e + (stepAt ws i (st.getD i 0 + (cs i : Nat))).count e := by
  unfold cameN
  have h : ∀ j, j < ws.length → turnsN ws j (st.getD j 0) (cs j + if j = i then 1 else 0) e = turnsN ws j (st.getD j 0) (cs j) e + if j = i then (stepAt ws i (st.getD i 0 + (cs i : Nat))).count e else 0 := fun j _ => by
    by_cases q : j = i
    · subst q; rw [if_pos rfl, if_pos rfl, turns_succ]
    · rw [if_neg q, if_neg q]; rfl
  rw [sumN_congr h, sumN_add, sumN_one, if_pos hi]
/-- the moment behind a let row, by its counts alone -/
theorem let_counts {ws : Wh} {c : Nat} {m : Mt} (hb : Bd ws c) (hm : Mo ws c m) : ∀ (n : Nat) (row : List Nat) (m' : Mt), row.length = n → (∀ i ∈ row, i < ws.length) → Let ws m row m' →
    (∀ j, j < ws.length → m'.1.getD j 0 = (m.1.getD j 0 + (row.count j : Nat)) % lenW ws j) ∧
    (∀ j, j < ws.length → m'.2.1.getD j 0 = m.2.1.getD j 0 + (cameN ws m.1 (fun i => row.count i) (j : Int) : Nat) - (row.count j : Nat)) ∧
    ∀ j, j < c → m'.2.2.getD j 0 = m.2.2.getD j 0 + (cameN ws m.1 (fun i => row.count i) ((ws.length : Int) + (j : Nat)) : Nat)
  | 0, row, m', hn, hr, h => by
    have : row = [] := List.length_eq_zero_iff.mp hn
    subst this
    cases h
    have z : ∀ e, cameN ws m.1 (fun i => List.count i []) e = 0 := fun e => by
      unfold cameN
      exact (sumN_congr (g := fun _ => 0) fun i _ => by simp only [List.count_nil]; rfl).trans (sumN_zero _)
    refine ⟨fun j hj => ?_, fun j hj => ?_, fun j hj => ?_⟩
    · rw [List.count_nil, show m.1.getD j 0 + ((0 : Nat) : Int) = m.1.getD j 0 by omega]; exact (st_mod hm hj).symm
    · rw [z, List.count_nil]; omega
    · rw [z]; omega
  | n + 1, row, m', hn, hr, h => by
    obtain ⟨r, i, rfl⟩ : ∃ r i, row = r ++ [i] := ⟨row.dropLast, row.getLast (by intro e; rw [e] at hn; simp at hn), (List.dropLast_concat_getLast _).symm⟩
    obtain ⟨m1, h1, h2⟩ := let_append.mp h
    obtain ⟨h2, h3⟩ := let_cons.mp h2
    cases h3
    have hr1 : ∀ j ∈ r, j < ws.length := fun j hj => hr j (List.mem_append_left _ hj)
    have hi : i < ws.length := hr i (by simp)
    obtain ⟨g1, g2, g3⟩ := let_counts hb hm n r m1 (by simp at hn; exact hn) hr1 h1
    have hm1 := hm.letm hb hr1 h1
    obtain ⟨k1, k2, k3⟩ := handle_at hb hm1 hi
    have hc : ∀ j, (r ++ [i]).count j = r.count j + if j = i then 1 else 0 := fun j => by
      rw [List.count_append, List.count_singleton]
      by_cases q : i = j
      · subst q; simp
      · rw [if_neg (by simpa using q), if_neg (Ne.symm q)]
    have hce : ∀ e, cameN ws m.1 (fun j => (r ++ [i]).count j) e = cameN ws m.1 (fun j => r.count j) e + (stepAt ws i (m1.1.getD i 0)).count e := fun e => by
      rw [show (fun j => (r ++ [i]).count j) = fun j => r.count j + if j = i then 1 else 0 from funext hc, came_succ hi e, stepAt_mod (s := m1.1.getD i 0) (t := m.1.getD i 0 + (r.count i : Nat))]
      rw [g1 i hi, Int.emod_emod]
    refine ⟨fun j hj => ?_, fun j hj => ?_, fun j hj => ?_⟩
    · rw [k1 j hj, hc]
      by_cases q : j = i
      · subst q
        rw [if_pos rfl, if_pos rfl, g1 j hj, Int.emod_add_emod]
        congr 1; omega
      · rw [if_neg q, if_neg q, g1 j hj]; rfl
    · rw [k2 j hj, hce, hc, g2 j hj]
      split <;> omega
    · rw [k3 j hj, hce, g3 j hj]; omega
theorem count_sum {n : Nat} : ∀ (row : List Nat), (∀ i ∈ row, i < n) → sumN n (fun i => row.count i) = row.length
  | [], _ => (sumN_congr (g := fun _ => 0) fun i _ => by rw [List.count_nil]).trans (sumN_zero _)
  | i :: r, h => by
    have e : sumN n (fun j => (i :: r).count j) = sumN n (fun j => r.count j + if j = i then 1 else 0) := sumN_congr fun j _ => by
      rw [List.count_cons]
      by_cases q : i = j
      · subst q; simp
      · rw [if_neg (by simpa using q), if_neg (Ne.symm q)]
    rw [e, sumN_add, sumN_one, if_pos (h i (by simp)), count_sum r fun j hj => h j (List.mem_cons_of_mem _ hj)]; rfl
theorem sum_tab {f : Nat → Nat} : ∀ n, (tab n fun i => ((f i : Nat) : Int)).sum = (sumN n f : Nat)
  | 0 => rfl
  | n + 1 => by
    have := sum_tab (f := f) n
    unfold tab at *
    rw [List.range_succ, List.map_append, List.sum_append, this]
    simp [sumN]
end MB

namespace MB
open PySem PySem.Spec PyProof.Rows L2 PL
theorem put_comm {M : PM} {a b : Addr} {o u : MO} (h : a ≠ b) : put (put M a o) b u = put (put M b u) a o := by
  funext c
  by_cases h1 : c = a
  · subst h1; rw [put_ne h, put_same, put_same]
  · by_cases h2 : c = b
    · subst h2; rw [put_same, put_ne h1, put_same]
    · rw [put_ne h2, put_ne h1, put_ne h1, put_ne h2]
theorem put_swap {M : PM} {a b : Addr} {o u o' : MO} (h : a ≠ b) : put (put (put M a o) b u) a o' = put (put M a o') b u := by
  rw [put_comm (M := M) (a := a) (b := b) h, put_put, put_comm (Ne.symm h)]
theorem rep_tab {k : Nat} {i : Int} : repP k [PV.int i] = (tab k fun _ => i).map PV.int := by
  unfold repP tab
  rw [List.map_map]
  induction k with
  | zero => rfl
  | succ n ih => rw [List.replicate_succ', List.flatten_append, ih, List.range_succ, List.map_append]; rfl
theorem count_take {es : List Int} {j : Nat} {e x : Int} (h : es[j]? = some e) : (es.take (j + 1)).count x = (es.take j).count x + if x = e then 1 else 0 := by
  have hj := (List.getElem?_eq_some_iff.mp h).1
  rw [List.take_succ_eq_append_getElem hj, List.count_append, (List.getElem?_eq_some_iff.mp h).2, List.count_singleton]
  by_cases q : x = e
  · subst q; simp
  · rw [if_neg (by simpa using Ne.symm q), if_neg q]
theorem asTL_tup {xs : List PV} : asTL (.tup xs) = some xs := rfl
theorem getD_at {xs : List Int} {i : Nat} (h : i < xs.length) : xs[i]? = some (xs.getD i 0) := by rw [List.getD_eq_getElem?_getD, List.getElem?_eq_getElem h]; rfl
theorem wsD_at {ws : Wh} {i : Nat} (h : i < ws.length) : ws[i]? = some (ws.getD i []) := by rw [List.getD_eq_getElem?_getD, List.getElem?_eq_getElem h]; rfl
theorem stepD_at {ws : Wh} {c : Nat} (hb : Bd ws c) {i : Nat} (h : i < ws.length) (s : Int) : (ws.getD i [])[(s % lenW ws i).toNat]? = some (stepAt ws i s) := by
  have h1 := Int.emod_lt_of_pos s (lenW_pos hb h)
  have h2 := Int.emod_nonneg s (show lenW ws i ≠ 0 by have := lenW_pos hb h; omega)
  unfold stepAt
  unfold lenW at *
  rw [List.getD_eq_getElem?_getD (l := ws.getD i []), List.getElem?_eq_getElem (by omega)]
  rfl
theorem map_tab_set {n i : Nat} {f : Nat → Int} {u : Int} (h : i < n) : ((tab n f).map PV.int).set i (.int (f i + u)) = (tab n fun e => f e + if e = i then u else 0).map PV.int := by
  rw [← bump_tab]
  exact map_bump (tab_get h)
/-- a comprehension that reads nothing that turns, number by number -/
theorem lc_ix {tg : Tg} {te : TE'} {σ : PSt} {Qd : List PV → PM → Prop} {M : PM} {xs : List PV} (n : Nat) (g : Nat → PV) (hn : xs.length = n) (hs : ∀ i x, i < n → xs[i]? = some x → ∀ N : PV → PM → Prop, N (g i) M → tg.hT x σ M fun σ1 M1 => te σ1 M1 N) (hd : Qd ((List.range n).map g) M) : lcRun tg pYes te σ Qd xs [] M := by
  refine lc_by (fun j acc M' => M' = M ∧ acc = (List.range j).map g) ⟨rfl, rfl⟩ ?_ ?_
  · rintro i x acc M1 hx ⟨rfl, rfl⟩ N hN
    have hi := (List.getElem?_eq_some_iff.mp hx).1
    simp only [pYes, if_true]
    exact hs i x (by omega) hx (fun y M3 => N ((List.range i).map g ++ [y]) M3) (hN _ _ ⟨rfl, by rw [List.range_succ, List.map_append]; rfl⟩)
  · rintro acc M1 ⟨rfl, rfl⟩
    rw [hn]; exact hd
theorem map_tab {n : Nat} {f : Nat → Int} : (tab n f).map PV.int = (List.range n).map fun i => PV.int (f i) := by unfold tab; rw [List.map_map]; rfl
theorem zip2_len {as bs : List PV} : (zip2P as bs).length = min as.length bs.length := by unfold zip2P; rw [List.length_zipWith]
theorem zip3_len {as bs cs : List PV} : (zip3P as bs cs).length = min as.length (min bs.length cs.length) := by unfold zip3P; rw [List.length_zipWith, List.length_zipWith]
theorem zip2_at {as bs : List PV} {i : Nat} {a b x : PV} (h : ((zip2P as bs).map PV.tup)[i]? = some x) (ha : as[i]? = some a) (hb : bs[i]? = some b) : x = .tup [a, b] := by
  rw [List.getElem?_map] at h
  unfold zip2P at h
  rw [List.getElem?_zipWith, ha, hb] at h
  cases h; rfl
theorem zip3_at {as bs cs : List PV} {i : Nat} {a b c x : PV} (h : ((zip3P as bs cs).map PV.tup)[i]? = some x) (ha : as[i]? = some a) (hb : bs[i]? = some b) (hc : cs[i]? = some c) : x = .tup [a, b, c] := by
  rw [List.getElem?_map] at h
  unfold zip3P at h
  rw [List.getElem?_zipWith, List.getElem?_zipWith, ha, hb, hc] at h
  cases h; rfl
theorem mapI_at {xs : List Int} {i : Nat} (h : i < xs.length) : (xs.map PV.int)[i]? = some (.int (xs.getD i 0)) := by rw [List.getElem?_map, getD_at h]; rfl
theorem tabI_at {n i : Nat} {f : Nat → Int} (h : i < n) : ((tab n f).map PV.int)[i]? = some (.int (f i)) := by rw [List.getElem?_map, tab_get h]; rfl
theorem wsE_at {ws : Wh} {i : Nat} (h : i < ws.length) : (ws.map encW)[i]? = some (encW (ws.getD i [])) := by rw [List.getElem?_map, wsD_at h]; rfl
section
variable {M : PM} {Q : QV}
theorem r_lenM {p : Addr} {xs : List PV} (e : M p = some (.lst xs)) : pLen [.ref p] M Q = Q (.int (xs.length : Nat)) M := by
  apply propext
  constructor
  · intro h
    obtain ⟨ys, h1, h2⟩ := h
    rw [asSeq_ref e] at h1
    cases h1
    exact h2
  · exact fun h => ⟨xs, asSeq_ref e, h⟩
theorem r_len_encR {row : List Nat} : pLen [encR row] M Q = Q (.int (row.length : Nat)) M := by unfold encR; rw [r_len_tup, List.length_map]
theorem atI_two {α : Type} {x y z : α} {xs : List α} : atI (x :: y :: z :: xs) 2 = some z := by
  unfold atI ixN
  rw [if_pos (by decide), if_pos (by simp only [List.length_cons]; omega)]; rfl
theorem r_len_encS {s : List Int} : pLen [encS s] M Q = Q (.int (s.length : Nat)) M := by unfold encS; rw [r_len_tup, List.length_map]
theorem r_to_encR {row : List Nat} {r : Int} (h : 0 ≤ r) : pCut M (encR row) none (some r) Q = Q (encR (row.take r.toNat)) M := by unfold encR; rw [r_cut_tup, cut_to h, List.map_take]
theorem r_from_encR {row : List Nat} {r : Int} (h : 0 ≤ r) : pCut M (encR row) (some r) none Q = Q (encR (row.drop r.toNat)) M := by unfold encR; rw [r_cut_tup, cut_from h, List.map_drop]
theorem ne_same {D : Nat} {x : PV} (hx : Cm D x) (hD : D ≤ 64) (h : Q (.bl false) M) : pNe x x M Q := by
  have h1 : okP x ∧ okP x ∧ Q (.bl (!eqP x x)) M := ⟨hx.ok hD, hx.ok hD, by rw [PL.eqv_refl x hx.d]; exact h⟩
  cases x with
  | str s => show Q (.bl (!decide (s = s))) M; rw [decide_eq_true rfl]; exact h
  | _ => exact h1
theorem eq_same {D : Nat} {x : PV} (hx : Cm D x) (hD : D ≤ 64) (h : Q (.bl true) M) : pEq x x M Q := by
  have h1 : okP x ∧ okP x ∧ Q (.bl (eqP x x)) M := ⟨hx.ok hD, hx.ok hD, by rw [PL.eqv_refl x hx.d]; exact h⟩
  cases x with
  | str s => show Q (.bl (decide (s = s))) M; rw [decide_eq_true rfl]; exact h
  | tup xs =>
    cases xs with
    | nil => exact h
    | cons a r => exact h1
  | _ => exact h1
end
/-- the moment by the counts alone -/
def byF (ws : Wh) (c : Nat) (m : Mt) (f : Nat → Nat) : Mt := (tab ws.length fun j => (m.1.getD j 0 + (f j : Nat)) % lenW ws j, tab ws.length fun j => m.2.1.getD j 0 + (cameN ws m.1 f (j : Int) : Nat) - (f j : Nat), tab c fun j => m.2.2.getD j 0 + (cameN ws m.1 f ((ws.length : Int) + (j : Nat)) : Nat))
theorem let_by {ws : Wh} {c : Nat} {m m' : Mt} {row : List Nat} (hb : Bd ws c) (hm : Mo ws c m) (hr : ∀ i ∈ row, i < ws.length) (h : Let ws m row m') : m' = byF ws c m fun i => row.count i := by
  obtain ⟨h1, h2, h3⟩ := let_counts hb hm _ row m' rfl hr h
  have hm' := hm.letm hb hr h
  obtain ⟨a, b, d⟩ := m'
  exact Prod.ext (tab_ext hm'.l1 h1) (Prod.ext (tab_ext hm'.l2 h2) (tab_ext hm'.l3 h3))
end MB

namespace MB
open PySem PySem.Spec PyProof.Rows L2 PL
/-! ### orders -/
theorem erase_map {α β : Type} (f : α → β) : ∀ (l : List α) (j : Nat), (l.map f).eraseIdx j = (l.eraseIdx j).map f
  | [], j => by simp
  | a :: r, 0 => by simp
  | a :: r, j + 1 => by simp [erase_map f r j]
theorem erase_perm' {α : Type} : ∀ (l : List α) (j : Nat) (h : j < l.length), (l[j] :: l.eraseIdx j).Perm l
  | a :: r, 0, h => by simp
  | a :: r, j + 1, h => by
    have ih := erase_perm' r j (by simp at h; exact h)
    simp only [List.getElem_cons_succ, List.eraseIdx_cons_succ]
    exact (List.Perm.swap _ _ _).trans (ih.cons a)

def encN (o : List Nat) : PV := .lst (o.map fun i => PV.int ((i : Nat) : Int))
/-- an order of the numbers below n -/
def Ord (n : Nat) (o : List Nat) : Prop := o.Perm (List.range n)
theorem Ord.len {n : Nat} {o : List Nat} (h : Ord n o) : o.length = n := by rw [h.length_eq, List.length_range]
theorem Ord.nodup {n : Nat} {o : List Nat} (h : Ord n o) : o.Nodup := h.nodup_iff.mpr List.nodup_range
theorem Ord.mem {n : Nat} {o : List Nat} (h : Ord n o) {i : Nat} : i ∈ o ↔ i < n := by rw [h.mem_iff, List.mem_range]
theorem Ord.lt {n : Nat} {o : List Nat} (h : Ord n o) {i : Nat} (hi : i < n) : o.getD i 0 < n := by
  have hl := h.len
  rw [List.getD_eq_getElem?_getD, List.getElem?_eq_getElem (by omega)]
  exact h.mem.mp (List.getElem_mem _)
theorem Ord.idx_lt {n : Nat} {o : List Nat} (h : Ord n o) {j : Nat} (hj : j < n) : o.idxOf j < n := by
  have := List.idxOf_lt_length_of_mem (h.mem.mpr hj)
  rw [h.len] at this; exact this
theorem Ord.at_idx {n : Nat} {o : List Nat} (h : Ord n o) {j : Nat} (hj : j < n) : o.getD (o.idxOf j) 0 = j := by
  have h1 := List.idxOf_lt_length_of_mem (h.mem.mpr hj)
  rw [List.getD_eq_getElem?_getD, List.getElem?_eq_getElem h1]
  simp
theorem Ord.idx_at {n : Nat} {o : List Nat} (h : Ord n o) {i : Nat} (hi : i < n) : o.idxOf (o.getD i 0) = i := by
  have hl := h.len
  rw [List.getD_eq_getElem?_getD, List.getElem?_eq_getElem (by omega)]
  exact h.nodup.idxOf_getElem i (by omega)
theorem Ord.inj {n : Nat} {o : List Nat} (h : Ord n o) {i j : Nat} (hi : i < n) (hj : j < n) (e : o.getD i 0 = o.getD j 0) : i = j := by
  rw [← h.idx_at hi, e, h.idx_at hj]
/-- things laid at their new places -/
def moved {α : Type} (o : List Nat) (xs : List α) (d : α) : List α := (List.range xs.length).map fun j => xs.getD (o.idxOf j) d
theorem moved_len {α : Type} {o : List Nat} {xs : List α} {d : α} : (moved o xs d).length = xs.length := by unfold moved; simp
theorem moved_at {α : Type} {n : Nat} {o : List Nat} (h : Ord n o) {xs : List α} (hl : xs.length = n) {d : α} {i : Nat} (hi : i < n) : (moved o xs d).getD (o.getD i 0) d = xs.getD i d := by
  have h1 := h.lt hi
  unfold moved
  rw [List.getD_eq_getElem?_getD, List.getElem?_map, List.getElem?_range (by omega), Option.map_some, Option.getD_some, h.idx_at hi]
theorem moved_get {α : Type} {n : Nat} {o : List Nat} (h : Ord n o) {xs : List α} (hl : xs.length = n) {d : α} {j : Nat} (hj : j < n) : (moved o xs d)[j]? = some (xs.getD (o.idxOf j) d) := by
  unfold moved
  rw [List.getElem?_map, List.getElem?_range (by omega), Option.map_some]
theorem moved_map {α β : Type} {o : List Nat} {xs : List α} {d : α} {f : α → β} (hn : ∀ j, j < xs.length → o.idxOf j < xs.length) : moved o (xs.map f) (f d) = (moved o xs d).map f := by
  unfold moved
  rw [List.length_map, List.map_map]
  apply List.map_congr_left
  intro j hj
  have := hn j (List.mem_range.mp hj)
  simp only [Function.comp, List.getD_eq_getElem?_getD, List.getElem?_map, List.getElem?_eq_getElem this, Option.map_some, Option.getD_some]
theorem mem_moved {α : Type} {n : Nat} {o : List Nat} (h : Ord n o) {xs : List α} (hl : xs.length = n) {d x : α} (hx : x ∈ moved o xs d) : x ∈ xs := by
  unfold moved at hx
  obtain ⟨j, hj, rfl⟩ := List.mem_map.mp hx
  have := h.idx_lt (show j < n by rw [← hl]; exact List.mem_range.mp hj)
  rw [List.getD_eq_getElem?_getD, List.getElem?_eq_getElem (by omega)]
  exact List.getElem_mem _
theorem moved_int {n : Nat} {o : List Nat} (h : Ord n o) {xs : List Int} (hl : xs.length = n) : moved o (xs.map PV.int) .non = (moved o xs 0).map PV.int := by
  rw [← moved_map (f := PV.int) fun j hj => by rw [hl] at hj ⊢; exact h.idx_lt hj]
  unfold moved
  refine List.map_congr_left fun j hj => ?_
  rw [List.length_map] at hj
  have := h.idx_lt (show j < n by rw [← hl]; exact List.mem_range.mp hj)
  simp only [List.getD_eq_getElem?_getD]
  rw [List.getElem?_eq_getElem (by simp only [List.length_map]; omega)]; rfl
/-! ### a board under other names -/
def nmE (n : Nat) (o cu : List Nat) (e : Int) : Int := if e < (n : Int) then ((o.getD e.toNat 0 : Nat) : Int) else (n : Int) + ((cu.getD (e - n).toNat 0 : Nat) : Int)
def nmW (n : Nat) (o cu : List Nat) (w : List (List Int)) : List (List Int) := w.map fun s => s.map (nmE n o cu)
def nmB (o cu : List Nat) (ws : Wh) : Wh := moved o (ws.map (nmW ws.length o cu)) []
def nmM (o cu : List Nat) (m : Mt) : Mt := (moved o m.1 0, moved o m.2.1 0, moved cu m.2.2 0)
theorem nmB_len {o cu : List Nat} {ws : Wh} : (nmB o cu ws).length = ws.length := by unfold nmB; rw [moved_len, List.length_map]
section
variable {ws : Wh} {c : Nat} {o cu : List Nat} (hb : Bd ws c) (ho : Ord ws.length o) (hc : Ord c cu)
include ho in
theorem nmB_at {i : Nat} (hi : i < ws.length) : (nmB o cu ws).getD (o.getD i 0) [] = nmW ws.length o cu (ws.getD i []) := by
  unfold nmB
  rw [moved_at ho (by rw [List.length_map]) hi, List.getD_eq_getElem?_getD, List.getElem?_map, wsD_at hi]; rfl
include ho hc in
theorem nmE_lt {e : Int} (h0 : 0 ≤ e) (h1 : e < (ws.length : Int) + c) : 0 ≤ nmE ws.length o cu e ∧ nmE ws.length o cu e < (ws.length : Int) + c := by
  unfold nmE
  split
  · have := ho.lt (i := e.toNat) (by omega); omega
  · have := hc.lt (i := (e - ws.length).toNat) (by omega); omega
include ho hc in
theorem nmE_inj {e f : Int} (h0 : 0 ≤ e) (h1 : e < (ws.length : Int) + c) (g0 : 0 ≤ f) (g1 : f < (ws.length : Int) + c) (h : nmE ws.length o cu e = nmE ws.length o cu f) : e = f := by
  unfold nmE at h
  split at h <;> split at h
  · have := ho.inj (i := e.toNat) (j := f.toNat) (by omega) (by omega) (by omega); omega
  · have := ho.lt (i := e.toNat) (by omega); omega
  · have := ho.lt (i := f.toNat) (by omega); omega
  · have := hc.inj (i := (e - ws.length).toNat) (j := (f - ws.length).toNat) (by omega) (by omega) (by omega); omega
include hb ho hc in
theorem nm_bd : Bd (nmB o cu ws) c := by
  have hm : ∀ w ∈ nmB o cu ws, ∃ w0 ∈ ws, w = nmW ws.length o cu w0 := fun w hw => by
    have := mem_moved ho (by rw [List.length_map]) hw
    obtain ⟨w0, h0, e⟩ := List.mem_map.mp this
    exact ⟨w0, h0, e.symm⟩
  refine ⟨by rw [nmB_len]; exact hb.n1, by rw [nmB_len]; exact hb.n6, hb.c4, fun w hw => ?_, fun w hw s hs => ?_, fun w hw s hs e he => ?_⟩
  · obtain ⟨w0, h0, rfl⟩ := hm w hw
    unfold nmW; rw [List.length_map]; exact hb.w w0 h0
  · obtain ⟨w0, h0, rfl⟩ := hm w hw
    obtain ⟨s0, h1, rfl⟩ := List.mem_map.mp hs
    rw [List.length_map]; exact hb.s w0 h0 s0 h1
  · obtain ⟨w0, h0, rfl⟩ := hm w hw
    obtain ⟨s0, h1, rfl⟩ := List.mem_map.mp hs
    obtain ⟨e0, h2, rfl⟩ := List.mem_map.mp he
    have h3 := hb.e w0 h0 s0 h1 e0 h2
    rw [nmB_len]
    exact nmE_lt ho hc h3.1 h3.2
include ho in
theorem nm_lenW {i : Nat} (hi : i < ws.length) : lenW (nmB o cu ws) (o.getD i 0) = lenW ws i := by
  unfold lenW
  rw [nmB_at ho hi]
  unfold nmW
  rw [List.length_map]
include hb ho in
theorem nm_stepAt {i : Nat} (hi : i < ws.length) (s : Int) : stepAt (nmB o cu ws) (o.getD i 0) s = (stepAt ws i s).map (nmE ws.length o cu) := by
  have h1 := stepD_at hb hi s
  unfold stepAt at h1 ⊢
  rw [nmB_at ho hi]
  unfold nmW
  rw [List.length_map, List.getD_eq_getElem?_getD, List.getElem?_map, show ((ws.getD i []).length : Int) = lenW ws i from rfl, h1]
  rfl
theorem count_nm {es : List Int} {e : Int} {g : Int → Int} (h : ∀ x ∈ es, g x = g e → x = e) : (es.map g).count (g e) = es.count e := by
  unfold List.count
  rw [List.countP_map]
  apply List.countP_congr
  intro x hx
  simp only [Function.comp, beq_iff_eq]
  exact ⟨h x hx, fun q => by rw [q]⟩
include ho hc in
theorem nm_mo {m : Mt} (hm : Mo ws c m) : Mo (nmB o cu ws) c (nmM o cu m) := by
  have l1 : m.1.length = ws.length := hm.l1
  have l2 : m.2.1.length = ws.length := hm.l2
  have l3 : m.2.2.length = c := hm.l3
  refine ⟨by rw [nmB_len]; exact moved_len.trans l1, by rw [nmB_len]; exact moved_len.trans l2, moved_len.trans l3, fun i s w hs hw => ?_, fun x hx => hm.wt1 x (mem_moved ho l2 hx), fun x hx => hm.hd1 x (mem_moved hc l3 hx)⟩
  have hi : i < ws.length := by
    have := (List.getElem?_eq_some_iff.mp hw).1
    rw [nmB_len] at this; exact this
  have hs : (moved o m.1 0)[i]? = some s := hs
  rw [moved_get ho l1 hi] at hs
  cases hs
  unfold nmB at hw
  rw [moved_get ho (by rw [List.length_map]) hi] at hw
  cases hw
  have hj := ho.idx_lt hi
  have h1 := hm.at1 (o.idxOf i) _ _ (getD_at (by omega)) (wsD_at hj)
  rw [List.getD_eq_getElem?_getD (l := ws.map (nmW ws.length o cu)), List.getElem?_map, wsD_at hj]
  show 0 ≤ _ ∧ _ < ((nmW ws.length o cu (ws.getD (o.idxOf i) [])).length : Int)
  unfold nmW
  rw [List.length_map]
  exact h1
include hb ho hc in
/-- one marble handled, under other names -/
theorem nm_handle {m : Mt} (hm : Mo ws c m) {i : Nat} (hi : i < ws.length) : handleF (nmB o cu ws) (nmM o cu m) (o.getD i 0) = nmM o cu (handleF ws m i) := by
  have hb' := nm_bd hb ho hc
  have hm' := nm_mo ho hc hm
  have l1 : m.1.length = ws.length := hm.l1
  have l2 : m.2.1.length = ws.length := hm.l2
  have l3 : m.2.2.length = c := hm.l3
  have hoi := ho.lt hi
  obtain ⟨g1, g2, g3⟩ := handle_at hb hm hi
  obtain ⟨k1, k2, k3⟩ := handle_at hb' hm' (i := o.getD i 0) (by rw [nmB_len]; exact hoi)
  rw [nmB_len] at k1 k2 k3
  have hs : (nmM o cu m).1.getD (o.getD i 0) 0 = m.1.getD i 0 := moved_at ho l1 hi
  rw [hs] at k1 k2 k3
  rw [nm_lenW ho hi] at k1
  rw [nm_stepAt hb ho hi] at k2 k3
  have hF : (handleF ws m i).1.length = ws.length ∧ (handleF ws m i).2.1.length = ws.length ∧ (handleF ws m i).2.2.length = c := by
    unfold handleF
    obtain ⟨⟨q1, q2⟩, _⟩ := fold_come (W := ws.length) ((ws.getD i []).getD (m.1.getD i 0).toNat []) (bump m.2.1 i (-1), m.2.2)
    exact ⟨by simp [l1], by rw [q1, bump_len]; exact l2, by rw [q2]; exact l3⟩
  have hF' : (handleF (nmB o cu ws) (nmM o cu m) (o.getD i 0)).1.length = ws.length ∧ (handleF (nmB o cu ws) (nmM o cu m) (o.getD i 0)).2.1.length = ws.length ∧ (handleF (nmB o cu ws) (nmM o cu m) (o.getD i 0)).2.2.length = c := by
    unfold handleF
    obtain ⟨⟨q1, q2⟩, _⟩ := fold_come (W := (nmB o cu ws).length) (((nmB o cu ws).getD (o.getD i 0) []).getD ((nmM o cu m).1.getD (o.getD i 0) 0).toNat []) (bump (nmM o cu m).2.1 (o.getD i 0) (-1), (nmM o cu m).2.2)
    exact ⟨by simp [nmM, moved_len, l1], by rw [q1, bump_len]; exact moved_len.trans l2, by rw [q2]; exact moved_len.trans l3⟩
  have hends := stepAt_ends hb hi (m.1.getD i 0)
  refine Prod.ext (list_ext hF'.1 (moved_len.trans hF.1) fun j hj => ?_) (Prod.ext (list_ext hF'.2.1 (moved_len.trans hF.2.1) fun j hj => ?_) (list_ext hF'.2.2 (moved_len.trans hF.2.2) fun j hj => ?_))
  · have hj2 := ho.idx_lt hj
    have ej := ho.at_idx hj
    rw [k1 j hj]
    show _ = (moved o (handleF ws m i).1 0).getD j 0
    rw [← ej, moved_at ho hF.1 hj2, g1 _ hj2, ej]
    by_cases q : o.idxOf j = i
    · rw [if_pos q, if_pos (by rw [← q, ej])]
    · rw [if_neg q, if_neg (fun z => q (by rw [z, ho.idx_at hi]))]
      show (moved o m.1 0).getD j 0 = _
      rw [← ej, moved_at ho l1 hj2, ej]
  · have hj2 := ho.idx_lt hj
    have ej := ho.at_idx hj
    rw [k2 j hj]
    show _ = (moved o (handleF ws m i).2.1 0).getD j 0
    have e1 : (moved o m.2.1 0).getD j 0 = m.2.1.getD (o.idxOf j) 0 := by
      have := moved_at ho l2 hj2 (d := 0)
      rw [ej] at this; exact this
    have e2 : (moved o (handleF ws m i).2.1 0).getD j 0 = (handleF ws m i).2.1.getD (o.idxOf j) 0 := by
      have := moved_at ho hF.2.1 hj2 (d := 0)
      rw [ej] at this; exact this
    have e3 : nmE ws.length o cu ((o.idxOf j : Nat) : Int) = (j : Int) := by
      unfold nmE
      rw [if_pos (by omega), Int.toNat_natCast, ej]
    have e4 : ((stepAt ws i (m.1.getD i 0)).map (nmE ws.length o cu)).count (j : Int) = (stepAt ws i (m.1.getD i 0)).count ((o.idxOf j : Nat) : Int) := by
      rw [← e3]
      refine count_nm fun x hx q => ?_
      have h3 := hends x hx
      exact nmE_inj ho hc h3.1 h3.2 (by omega) (by omega) q
    show (moved o m.2.1 0).getD j 0 + _ - _ = _
    rw [e1, e2, e4, g2 _ hj2]
    by_cases q : o.idxOf j = i
    · rw [if_pos q, if_pos (by rw [← q, ej])]
    · rw [if_neg q, if_neg (fun z => q (by rw [z, ho.idx_at hi]))]
  · have hj2 := hc.idx_lt hj
    have ej := hc.at_idx hj
    rw [k3 j hj]
    show _ = (moved cu (handleF ws m i).2.2 0).getD j 0
    have e1 : (moved cu m.2.2 0).getD j 0 = m.2.2.getD (cu.idxOf j) 0 := by
      have := moved_at hc l3 hj2 (d := 0)
      rw [ej] at this; exact this
    have e2 : (moved cu (handleF ws m i).2.2 0).getD j 0 = (handleF ws m i).2.2.getD (cu.idxOf j) 0 := by
      have := moved_at hc hF.2.2 hj2 (d := 0)
      rw [ej] at this; exact this
    have e3 : nmE ws.length o cu ((ws.length : Int) + ((cu.idxOf j : Nat) : Int)) = (ws.length : Int) + (j : Int) := by
      unfold nmE
      rw [if_neg (by omega), show ((ws.length : Int) + ((cu.idxOf j : Nat) : Int) - (ws.length : Int)).toNat = cu.idxOf j by omega, ej]
    have e4 : ((stepAt ws i (m.1.getD i 0)).map (nmE ws.length o cu)).count ((ws.length : Int) + (j : Int)) = (stepAt ws i (m.1.getD i 0)).count ((ws.length : Int) + ((cu.idxOf j : Nat) : Int)) := by
      rw [← e3]
      refine count_nm fun x hx q => ?_
      have h3 := hends x hx
      exact nmE_inj ho hc h3.1 h3.2 (by omega) (by omega) q
    show (moved cu m.2.2 0).getD j 0 + _ = _
    rw [e1, e2, e4, g3 _ hj2]
include hb ho hc in
theorem nm_gone : ∀ (row : List Nat) {m : Mt}, Mo ws c m → (∀ i ∈ row, i < ws.length) → goneF (nmB o cu ws) (nmM o cu m) (row.map fun i => o.getD i 0) = ((goneF ws m row).1, nmM o cu (goneF ws m row).2)
  | [], m, _, _ => rfl
  | i :: r, m, hm, hr => by
    have hi := hr i (by simp)
    have l2 : m.2.1.length = ws.length := hm.l2
    have e : (nmM o cu m).2.1.getD (o.getD i 0) 0 = m.2.1.getD i 0 := moved_at ho l2 hi
    rw [List.map_cons, goneF, goneF, e]
    by_cases h : m.2.1.getD i 0 = 0
    · rw [if_pos h, if_pos h]
    · rw [if_neg h, if_neg h, nm_handle hb ho hc hm hi, nm_gone r (hm.handle hb hi (wt_pos hm hi h)) fun j hj => hr j (List.mem_cons_of_mem _ hj)]
end
end MB

namespace MB
open PySem PySem.Spec PyProof.Rows L2 PL
/-! ### boards that do alike: the steps of one are the other's, told more than once -/
structure Alike (ws ws' : Wh) : Prop where
  len : ws'.length = ws.length
  lw : ∀ i, i < ws.length → ∃ k : Nat, 1 ≤ k ∧ lenW ws' i = lenW ws i * (k : Int)
  st : ∀ i, i < ws.length → ∀ s : Int, stepAt ws' i s = stepAt ws i s
/-- moments alike: the stands alike but for whole turns -/
structure Like (ws : Wh) (m m' : Mt) : Prop where
  wt : m'.2.1 = m.2.1
  hd : m'.2.2 = m.2.2
  at1 : ∀ i, i < ws.length → m'.1.getD i 0 % lenW ws i = m.1.getD i 0
theorem handle_len {ws : Wh} {c : Nat} {m : Mt} (hm : Mo ws c m) (i : Nat) : (handleF ws m i).1.length = ws.length ∧ (handleF ws m i).2.1.length = ws.length ∧ (handleF ws m i).2.2.length = c := by
  unfold handleF
  obtain ⟨⟨q1, q2⟩, _⟩ := fold_come (W := ws.length) ((ws.getD i []).getD (m.1.getD i 0).toNat []) (bump m.2.1 i (-1), m.2.2)
  exact ⟨by simp [hm.l1], by rw [q1, bump_len]; exact hm.l2, by rw [q2]; exact hm.l3⟩
theorem like_handle {ws ws' : Wh} {c : Nat} {m m' : Mt} (hb : Bd ws c) (hb' : Bd ws' c) (al : Alike ws ws') (hm : Mo ws c m) (hm' : Mo ws' c m') (h : Like ws m m') {i : Nat} (hi : i < ws.length) : Like ws (handleF ws m i) (handleF ws' m' i) := by
  obtain ⟨g1, g2, g3⟩ := handle_at hb hm hi
  obtain ⟨k1, k2, k3⟩ := handle_at hb' hm' (i := i) (by rw [al.len]; exact hi)
  rw [al.len] at k1 k2 k3
  obtain ⟨a1, a2, a3⟩ := handle_len hm i
  obtain ⟨b1, b2, b3⟩ := handle_len hm' i
  have hst : stepAt ws' i (m'.1.getD i 0) = stepAt ws i (m.1.getD i 0) := by
    rw [al.st i hi]
    exact stepAt_mod (by rw [← h.at1 i hi, Int.emod_emod])
  rw [hst] at k2 k3
  refine ⟨list_ext (by rw [b2, al.len]) a2 fun j hj => ?_, list_ext b3 a3 fun j hj => ?_, fun j hj => ?_⟩
  · rw [k2 j hj, g2 j hj, h.wt]
  · rw [k3 j hj, g3 j hj, h.hd]
  · rw [k1 j hj, g1 j hj]
    by_cases q : j = i
    · subst q
      rw [if_pos rfl, if_pos rfl]
      obtain ⟨k, hk, e⟩ := al.lw j hj
      rw [e, Int.emod_emod_of_dvd _ ⟨(k : Int), rfl⟩, ← h.at1 j hj, Int.emod_add_emod]
    · rw [if_neg q, if_neg q]; exact h.at1 j hj
theorem like_gone {ws ws' : Wh} {c : Nat} (hb : Bd ws c) (hb' : Bd ws' c) (al : Alike ws ws') : ∀ (row : List Nat) {m m' : Mt}, Mo ws c m → Mo ws' c m' → Like ws m m' → (∀ i ∈ row, i < ws.length) → (goneF ws' m' row).1 = (goneF ws m row).1 ∧ Like ws (goneF ws m row).2 (goneF ws' m' row).2
  | [], m, m', _, _, h, _ => ⟨rfl, h⟩
  | i :: r, m, m', hm, hm', h, hr => by
    have hi := hr i (by simp)
    rw [goneF, goneF, h.wt]
    by_cases q : m.2.1.getD i 0 = 0
    · rw [if_pos q, if_pos q]; exact ⟨rfl, h⟩
    · rw [if_neg q, if_neg q]
      have hp := wt_pos hm hi q
      have := like_gone hb hb' al r (hm.handle hb hi hp) (hm'.handle hb' (by rw [al.len]; exact hi) (by rw [h.wt]; exact hp)) (like_handle hb hb' al hm hm' h hi) fun j hj => hr j (List.mem_cons_of_mem _ hj)
      exact ⟨by rw [this.1], this.2⟩
/-- the steps told once, or twice -/
def twW (w : List (List Int)) : List (List Int) := if w.length < 3 then w ++ w else w
theorem tw_get {w : List (List Int)} (hw : 0 < w.length) (s : Int) : (w ++ w).getD (s % ((w ++ w).length : Int)).toNat [] = w.getD (s % (w.length : Int)).toNat [] := by
  have e : (((w ++ w).length : Nat) : Int) = (w.length : Int) * 2 := by rw [List.length_append]; omega
  have h0 := Int.emod_nonneg s (show (w.length : Int) * 2 ≠ 0 by omega)
  have h1 := Int.emod_lt_of_pos s (show 0 < (w.length : Int) * 2 by omega)
  have h2 : s % ((w.length : Int) * 2) % (w.length : Int) = s % (w.length : Int) := Int.emod_emod_of_dvd _ ⟨2, rfl⟩
  rw [e, ← h2]
  generalize s % ((w.length : Int) * 2) = r at *
  rw [List.getD_eq_getElem?_getD, List.getD_eq_getElem?_getD, List.getElem?_append]
  by_cases q : r < (w.length : Int)
  · rw [if_pos (by omega), Int.emod_eq_of_lt h0 q]
  · rw [if_neg (by omega)]
    have h3 : r % (w.length : Int) = r - (w.length : Int) := by
      rw [show r = (r - w.length) + (w.length : Int) by omega, Int.add_emod_right, Int.emod_eq_of_lt (by omega) (by omega)]; omega
    rw [h3]
    congr 2
    omega
theorem tw_alike {ws : Wh} {c : Nat} (hb : Bd ws c) : Alike ws (ws.map twW) := by
  have ea : ∀ i, i < ws.length → (ws.map twW).getD i [] = twW (ws.getD i []) := fun i hi => by
    rw [List.getD_eq_getElem?_getD, List.getElem?_map, wsD_at hi]; rfl
  have hp : ∀ i, i < ws.length → 0 < (ws.getD i []).length := fun i hi => by have := lenW_pos hb hi; unfold lenW at this; omega
  refine ⟨List.length_map _, fun i hi => ?_, fun i hi s => ?_⟩
  · unfold lenW
    rw [ea i hi]
    unfold twW
    split
    · exact ⟨2, by decide, by rw [List.length_append]; omega⟩
    · exact ⟨1, Nat.le_refl _, by omega⟩
  · unfold stepAt
    rw [ea i hi]
    unfold twW
    split
    · exact tw_get (hp i hi) s
    · rfl
theorem tw_bd {ws : Wh} {c : Nat} (hb : Bd ws c) : Bd (ws.map twW) c := by
  have hm : ∀ w ∈ ws.map twW, ∃ w0 ∈ ws, w = twW w0 := fun w hw => by
    obtain ⟨w0, h0, e⟩ := List.mem_map.mp hw
    exact ⟨w0, h0, e.symm⟩
  have ms : ∀ w0 : List (List Int), ∀ s ∈ twW w0, s ∈ w0 := fun w0 s hs => by
    unfold twW at hs
    split at hs
    · rcases List.mem_append.mp hs with h | h <;> exact h
    · exact hs
  refine ⟨by rw [List.length_map]; exact hb.n1, by rw [List.length_map]; exact hb.n6, hb.c4, fun w hw => ?_, fun w hw s hs => ?_, fun w hw s hs e he => ?_⟩
  · obtain ⟨w0, h0, rfl⟩ := hm w hw
    have := hb.w w0 h0
    unfold twW
    split
    · rw [List.length_append]; omega
    · exact this
  · obtain ⟨w0, h0, rfl⟩ := hm w hw
    exact hb.s w0 h0 s (ms w0 s hs)
  · obtain ⟨w0, h0, rfl⟩ := hm w hw
    rw [List.length_map]
    exact hb.e w0 h0 s (ms w0 s hs) e he
/-! ### one cup more -/
theorem bump_app {xs : List Int} {i : Nat} {d x : Int} (h : i < xs.length) : bump (xs ++ [x]) i d = bump xs i d ++ [x] := by
  unfold bump
  apply List.ext_getElem?
  intro j
  rw [List.getElem?_modify, List.getElem?_append, List.getElem?_append, List.length_modify]
  by_cases hj : j < xs.length
  · rw [if_pos hj, if_pos hj, List.getElem?_modify]
  · rw [if_neg hj, if_neg hj]
    cases e : ([x] : List Int)[j - xs.length]? with
    | none => rfl
    | some y => simp [show i ≠ j by omega]
theorem come_app {W : Nat} {x : Int} : ∀ (es : List Int) (p : List Int × List Int), (∀ e ∈ es, 0 ≤ e ∧ e < (W : Int) + p.2.length) → es.foldl (comeTo W) (p.1, p.2 ++ [x]) = ((es.foldl (comeTo W) p).1, (es.foldl (comeTo W) p).2 ++ [x])
  | [], p, _ => rfl
  | e :: es, p, h => by
    have he := h e (by simp)
    have e1 : comeTo W (p.1, p.2 ++ [x]) e = ((comeTo W p e).1, (comeTo W p e).2 ++ [x]) := by
      unfold comeTo
      by_cases q : e < (W : Int)
      · rw [if_pos q, if_pos q]
      · rw [if_neg q, if_neg q]
        simp only
        rw [bump_app (by omega)]
    rw [List.foldl_cons, List.foldl_cons, e1]
    exact come_app es (comeTo W p e) fun y hy => by rw [come_len.2]; exact h y (List.mem_cons_of_mem _ hy)
theorem cup_handle {ws : Wh} {c : Nat} {m : Mt} {x : Int} (hb : Bd ws c) (hm : Mo ws c m) {i : Nat} (hi : i < ws.length) : handleF ws (m.1, m.2.1, m.2.2 ++ [x]) i = ((handleF ws m i).1, (handleF ws m i).2.1, (handleF ws m i).2.2 ++ [x]) := by
  have he := stepAt_ends hb hi (m.1.getD i 0)
  rw [stepAt_eq hm hi] at he
  have l3 : m.2.2.length = c := hm.l3
  unfold handleF
  simp only
  rw [come_app _ (bump m.2.1 i (-1), m.2.2) (by rw [l3]; exact he)]
theorem cup_gone {ws : Wh} {c : Nat} {x : Int} (hb : Bd ws c) : ∀ (row : List Nat) {m : Mt}, Mo ws c m → (∀ i ∈ row, i < ws.length) → goneF ws (m.1, m.2.1, m.2.2 ++ [x]) row = ((goneF ws m row).1, ((goneF ws m row).2.1, (goneF ws m row).2.2.1, (goneF ws m row).2.2.2 ++ [x]))
  | [], m, _, _ => rfl
  | i :: r, m, hm, hr => by
    have hi := hr i (by simp)
    rw [goneF, goneF]
    by_cases q : m.2.1.getD i 0 = 0
    · rw [if_pos q, if_pos (by exact q)]
    · rw [if_neg q, if_neg (by exact q), cup_handle hb hm hi, cup_gone hb r (hm.handle hb hi (wt_pos hm hi q)) fun j hj => hr j (List.mem_cons_of_mem _ hj)]
end MB

namespace MB.K08
open PySem PySem.Spec PyProof.Rows L2 PL
def topS (i : Nat) : Stmt := PySem.Challenge.pw_marblefall_k08_whole_boards_called_other.main.body.getD i (.Pass ⟨0, 0, 0, 0⟩)
abbrev s_is_whole : Stmt := topS 10
theorem sc_is_whole : FnScope ["thing"] ["thing"] (defScope s_is_whole) := ⟨rfl, rfl, rfl, by decide +kernel, rfl, by decide +kernel, by decide +kernel⟩
abbrev s_is_among : Stmt := topS 11
theorem sc_is_among : FnScope ["thing", "low", "high"] ["thing", "low", "high"] (defScope s_is_among) := ⟨rfl, rfl, rfl, by decide +kernel, rfl, by decide +kernel, by decide +kernel⟩
abbrev s_is_row : Stmt := topS 12
theorem sc_is_row : FnScope ["thing", "low", "high"] ["thing", "low", "high"] (defScope s_is_row) := ⟨rfl, rfl, rfl, by decide +kernel, rfl, by decide +kernel, by decide +kernel⟩
abbrev s_is_step : Stmt := topS 13
theorem sc_is_step : FnScope ["thing", "ends", "end"] ["thing", "ends"] (defScope s_is_step) := ⟨rfl, rfl, rfl, by decide +kernel, rfl, by decide +kernel, by decide +kernel⟩
abbrev s_is_wheel : Stmt := topS 14
theorem sc_is_wheel : FnScope ["thing", "ends", "step"] ["thing", "ends"] (defScope s_is_wheel) := ⟨rfl, rfl, rfl, by decide +kernel, rfl, by decide +kernel, by decide +kernel⟩
abbrev s_is_board : Stmt := topS 15
theorem sc_is_board : FnScope ["thing", "wheels", "cups", "wheel"] ["thing"] (defScope s_is_board) := ⟨rfl, rfl, rfl, by decide +kernel, rfl, by decide +kernel, by decide +kernel⟩
abbrev s_need_board : Stmt := topS 16
theorem sc_need_board : FnScope ["thing"] ["thing"] (defScope s_need_board) := ⟨rfl, rfl, rfl, by decide +kernel, rfl, by decide +kernel, by decide +kernel⟩
abbrev s_is_stand_by : Stmt := topS 17
theorem sc_is_stand_by : FnScope ["board", "thing", "wheels", "at", "wheel"] ["board", "thing"] (defScope s_is_stand_by) := ⟨rfl, rfl, rfl, by decide +kernel, rfl, by decide +kernel, by decide +kernel⟩
abbrev s_are_counts : Stmt := topS 18
theorem sc_are_counts : FnScope ["thing", "many", "one"] ["thing", "many"] (defScope s_are_counts) := ⟨rfl, rfl, rfl, by decide +kernel, rfl, by decide +kernel, by decide +kernel⟩
abbrev s_is_moment_by : Stmt := topS 19
theorem sc_is_moment_by : FnScope ["board", "thing"] ["board", "thing"] (defScope s_is_moment_by) := ⟨rfl, rfl, rfl, by decide +kernel, rfl, by decide +kernel, by decide +kernel⟩
abbrev s_is_moment : Stmt := topS 20
theorem sc_is_moment : FnScope ["board", "thing"] ["board", "thing"] (defScope s_is_moment) := ⟨rfl, rfl, rfl, by decide +kernel, rfl, by decide +kernel, by decide +kernel⟩
abbrev s_need_moment : Stmt := topS 21
theorem sc_need_moment : FnScope ["board", "thing"] ["board", "thing"] (defScope s_need_moment) := ⟨rfl, rfl, rfl, by decide +kernel, rfl, by decide +kernel, by decide +kernel⟩
abbrev s_is_wheel_of : Stmt := topS 22
theorem sc_is_wheel_of : FnScope ["board", "thing"] ["board", "thing"] (defScope s_is_wheel_of) := ⟨rfl, rfl, rfl, by decide +kernel, rfl, by decide +kernel, by decide +kernel⟩
abbrev s_handled_by : Stmt := topS 24
theorem sc_handled_by : FnScope ["board", "moment", "wheel", "wheels", "stand", "waiting", "held", "at", "later", "filled", "end", "turned"] ["board", "moment", "wheel"] (defScope s_handled_by) := ⟨rfl, rfl, rfl, by decide +kernel, rfl, by decide +kernel, by decide +kernel⟩
abbrev s_are_wheels : Stmt := topS 25
theorem sc_are_wheels : FnScope ["board", "thing", "one"] ["board", "thing"] (defScope s_are_wheels) := ⟨rfl, rfl, rfl, by decide +kernel, rfl, by decide +kernel, by decide +kernel⟩
abbrev s_need_row : Stmt := topS 26
theorem sc_need_row : FnScope ["board", "thing"] ["board", "thing"] (defScope s_need_row) := ⟨rfl, rfl, rfl, by decide +kernel, rfl, by decide +kernel, by decide +kernel⟩
abbrev s_gone_by : Stmt := topS 27
theorem sc_gone_by : FnScope ["board", "moment", "row", "place", "wheel"] ["board", "moment", "row"] (defScope s_gone_by) := ⟨rfl, rfl, rfl, by decide +kernel, rfl, by decide +kernel, by decide +kernel⟩
abbrev s_behind_by : Stmt := topS 28
theorem sc_behind_by : FnScope ["board", "moment", "row", "many", "later"] ["board", "moment", "row"] (defScope s_behind_by) := ⟨rfl, rfl, rfl, by decide +kernel, rfl, by decide +kernel, by decide +kernel⟩
abbrev s_need_asked : Stmt := topS 29
theorem sc_need_asked : FnScope ["board", "moment", "row"] ["board", "moment", "row"] (defScope s_need_asked) := ⟨rfl, rfl, rfl, by decide +kernel, rfl, by decide +kernel, by decide +kernel⟩
abbrev s_first_wrong : Stmt := topS 30
theorem sc_first_wrong : FnScope ["board", "moment", "row", "place"] ["board", "moment", "row"] (defScope s_first_wrong) := ⟨rfl, rfl, rfl, by decide +kernel, rfl, by decide +kernel, by decide +kernel⟩
abbrev s_behind : Stmt := topS 31
theorem sc_behind : FnScope ["board", "moment", "row", "found"] ["board", "moment", "row"] (defScope s_behind) := ⟨rfl, rfl, rfl, by decide +kernel, rfl, by decide +kernel, by decide +kernel⟩
abbrev s__law_cell_at : Stmt := topS 33
theorem sc__law_cell_at : FnScope ["_law_script", "_law_k"] ["_law_script", "_law_k"] (defScope s__law_cell_at) := ⟨rfl, rfl, rfl, by decide +kernel, rfl, by decide +kernel, by decide +kernel⟩
abbrev s__law_pen : Stmt := topS 34
theorem sc__law_pen : FnScope ["_law_cell"] ["_law_cell"] (defScope s__law_pen) := ⟨rfl, rfl, rfl, by decide +kernel, rfl, by decide +kernel, by decide +kernel⟩
abbrev s__law_draw : Stmt := topS 35
theorem sc__law_draw : FnScope ["_law_pen_here", "_law_many", "_law_digit", "_law_stir"] ["_law_pen_here", "_law_many"] (defScope s__law_draw) := ⟨rfl, rfl, rfl, by decide +kernel, rfl, by decide +kernel, by decide +kernel⟩
abbrev s__law_pick : Stmt := topS 36
theorem sc__law_pick : FnScope ["_law_pen_here", "_law_some"] ["_law_pen_here", "_law_some"] (defScope s__law_pick) := ⟨rfl, rfl, rfl, by decide +kernel, rfl, by decide +kernel, by decide +kernel⟩
abbrev s__law_board : Stmt := topS 37
theorem sc__law_board : FnScope ["_law_pen_here", "_law_most", "_law_many", "_law_cups", "_law_wheels", "_law_wheel", "_law_steps", "_law_turn", "_law_ends", "_law_lap", "_law_far"] ["_law_pen_here", "_law_most"] (defScope s__law_board) := ⟨rfl, rfl, rfl, by decide +kernel, rfl, by decide +kernel, by decide +kernel⟩
abbrev s__law_moment : Stmt := topS 38
theorem sc__law_moment : FnScope ["_law_pen_here", "_law_board_here", "_law_most", "_law_stand", "_law_waiting", "_law_wheel", "_law_cup"] ["_law_pen_here", "_law_board_here", "_law_most"] (defScope s__law_moment) := ⟨rfl, rfl, rfl, by decide +kernel, rfl, by decide +kernel, by decide +kernel⟩
abbrev s__law_handle : Stmt := topS 39
theorem sc__law_handle : FnScope ["_law_board_here", "_law_moment_here", "_law_wheel", "_law_wheels", "_law_cups", "_law_stand", "_law_waiting", "_law_held", "_law_end", "_law_row"] ["_law_board_here", "_law_moment_here", "_law_wheel"] (defScope s__law_handle) := ⟨rfl, rfl, rfl, by decide +kernel, rfl, by decide +kernel, by decide +kernel⟩
abbrev s__law_ready : Stmt := topS 40
theorem sc__law_ready : FnScope ["_law_moment_here", "_law_wheel", "_law_many"] ["_law_moment_here"] (defScope s__law_ready) := ⟨rfl, rfl, rfl, by decide +kernel, rfl, by decide +kernel, by decide +kernel⟩
abbrev s__law_let_row : Stmt := topS 41
theorem sc__law_let_row : FnScope ["_law_pen_here", "_law_board_here", "_law_moment_here", "_law_most", "_law_row", "_law_turn", "_law_some"] ["_law_pen_here", "_law_board_here", "_law_moment_here", "_law_most"] (defScope s__law_let_row) := ⟨rfl, rfl, rfl, by decide +kernel, rfl, by decide +kernel, by decide +kernel⟩
abbrev s__law_mixed : Stmt := topS 42
theorem sc__law_mixed : FnScope ["_law_pen_here", "_law_many", "_law_left", "_law_turn"] ["_law_pen_here", "_law_many"] (defScope s__law_mixed) := ⟨rfl, rfl, rfl, by decide +kernel, rfl, by decide +kernel, by decide +kernel⟩
abbrev s__law_moved : Stmt := topS 43
theorem sc__law_moved : FnScope ["_law_some", "_law_order", "_law_found", "_law_at", "_law_place"] ["_law_some", "_law_order"] (defScope s__law_moved) := ⟨rfl, rfl, rfl, by decide +kernel, rfl, by decide +kernel, by decide +kernel⟩
abbrev s__law_named : Stmt := topS 44
theorem sc__law_named : FnScope ["_law_board_here", "_law_order", "_law_cups", "_law_names", "_law_wheels", "_law_wheel", "_law_place", "_law_step", "_law_end"] ["_law_board_here", "_law_order", "_law_cups"] (defScope s__law_named) := ⟨rfl, rfl, rfl, by decide +kernel, rfl, by decide +kernel, by decide +kernel⟩
abbrev s__law_right : Stmt := topS 45
theorem sc__law_right : FnScope ["_law_pen_here", "_law_board_here", "_law_moment_here", "_law_row", "_law_order", "_law_cups", "_law_stand", "_law_waiting", "_law_held", "_law_other", "_law_here", "_law_line", "_law_later", "_law_due", "_law_wheel"] ["_law_pen_here", "_law_board_here", "_law_moment_here", "_law_row"] (defScope s__law_right) := ⟨rfl, rfl, rfl, by decide +kernel, rfl, by decide +kernel, by decide +kernel⟩
abbrev s__law_twice_right : Stmt := topS 46
theorem sc__law_twice_right : FnScope ["_law_pen_here", "_law_board_here", "_law_moment_here", "_law_row", "_law_twice", "_law_sizes", "_law_more", "_law_stand", "_law_waiting", "_law_held", "_law_here", "_law_later", "_law_found", "_law_wider", "_law_wheel", "_law_size", "_law_at", "_law_so"] ["_law_pen_here", "_law_board_here", "_law_moment_here", "_law_row"] (defScope s__law_twice_right) := ⟨rfl, rfl, rfl, by decide +kernel, rfl, by decide +kernel, by decide +kernel⟩
abbrev s_law : Stmt := topS 47
theorem sc_law : FnScope ["_law_script", "_law_k", "_law_pen_here", "_law_turn", "_law_board_here", "_law_moment_here", "_law_row", "_law_other", "_law_lap"] ["_law_script"] (defScope s_law) := ⟨rfl, rfl, rfl, by decide +kernel, rfl, by decide +kernel, by decide +kernel⟩
structure Txt (K : PySem.W.Frag) (mg : Str → Option Value) where
  f_is_whole : Addr
  fd_is_whole : FuncData
  F_is_whole : Fun K "is_whole" "is_whole" s_is_whole f_is_whole fd_is_whole
  g_is_whole : mg "is_whole" = some (.ref f_is_whole)
  b_is_whole : Binds K fd_is_whole ["thing"] []
  f_is_among : Addr
  fd_is_among : FuncData
  F_is_among : Fun K "is_among" "is_among" s_is_among f_is_among fd_is_among
  g_is_among : mg "is_among" = some (.ref f_is_among)
  b_is_among : Binds K fd_is_among ["thing", "low", "high"] []
  f_is_row : Addr
  fd_is_row : FuncData
  F_is_row : Fun K "is_row" "is_row" s_is_row f_is_row fd_is_row
  g_is_row : mg "is_row" = some (.ref f_is_row)
  b_is_row : Binds K fd_is_row ["thing", "low", "high"] []
  f_is_step : Addr
  fd_is_step : FuncData
  F_is_step : Fun K "is_step" "is_step" s_is_step f_is_step fd_is_step
  g_is_step : mg "is_step" = some (.ref f_is_step)
  b_is_step : Binds K fd_is_step ["thing", "ends"] []
  f_is_wheel : Addr
  fd_is_wheel : FuncData
  F_is_wheel : Fun K "is_wheel" "is_wheel" s_is_wheel f_is_wheel fd_is_wheel
  g_is_wheel : mg "is_wheel" = some (.ref f_is_wheel)
  b_is_wheel : Binds K fd_is_wheel ["thing", "ends"] []
  f_is_board : Addr
  fd_is_board : FuncData
  F_is_board : Fun K "is_board" "is_board" s_is_board f_is_board fd_is_board
  g_is_board : mg "is_board" = some (.ref f_is_board)
  b_is_board : Binds K fd_is_board ["thing"] []
  f_need_board : Addr
  fd_need_board : FuncData
  F_need_board : Fun K "need_board" "need_board" s_need_board f_need_board fd_need_board
  g_need_board : mg "need_board" = some (.ref f_need_board)
  b_need_board : Binds K fd_need_board ["thing"] []
  f_is_stand_by : Addr
  fd_is_stand_by : FuncData
  F_is_stand_by : Fun K "is_stand_by" "is_stand_by" s_is_stand_by f_is_stand_by fd_is_stand_by
  g_is_stand_by : mg "is_stand_by" = some (.ref f_is_stand_by)
  b_is_stand_by : Binds K fd_is_stand_by ["board", "thing"] []
  f_are_counts : Addr
  fd_are_counts : FuncData
  F_are_counts : Fun K "are_counts" "are_counts" s_are_counts f_are_counts fd_are_counts
  g_are_counts : mg "are_counts" = some (.ref f_are_counts)
  b_are_counts : Binds K fd_are_counts ["thing", "many"] []
  f_is_moment_by : Addr
  fd_is_moment_by : FuncData
  F_is_moment_by : Fun K "is_moment_by" "is_moment_by" s_is_moment_by f_is_moment_by fd_is_moment_by
  g_is_moment_by : mg "is_moment_by" = some (.ref f_is_moment_by)
  b_is_moment_by : Binds K fd_is_moment_by ["board", "thing"] []
  f_is_moment : Addr
  fd_is_moment : FuncData
  F_is_moment : Fun K "is_moment" "is_moment" s_is_moment f_is_moment fd_is_moment
  g_is_moment : mg "is_moment" = some (.ref f_is_moment)
  b_is_moment : Binds K fd_is_moment ["board", "thing"] []
  f_need_moment : Addr
  fd_need_moment : FuncData
  F_need_moment : Fun K "need_moment" "need_moment" s_need_moment f_need_moment fd_need_moment
  g_need_moment : mg "need_moment" = some (.ref f_need_moment)
  b_need_moment : Binds K fd_need_moment ["board", "thing"] []
  f_is_wheel_of : Addr
  fd_is_wheel_of : FuncData
  F_is_wheel_of : Fun K "is_wheel_of" "is_wheel_of" s_is_wheel_of f_is_wheel_of fd_is_wheel_of
  g_is_wheel_of : mg "is_wheel_of" = some (.ref f_is_wheel_of)
  b_is_wheel_of : Binds K fd_is_wheel_of ["board", "thing"] []
  f_handled_by : Addr
  fd_handled_by : FuncData
  F_handled_by : Fun K "handled_by" "handled_by" s_handled_by f_handled_by fd_handled_by
  g_handled_by : mg "handled_by" = some (.ref f_handled_by)
  b_handled_by : Binds K fd_handled_by ["board", "moment", "wheel"] []
  f_are_wheels : Addr
  fd_are_wheels : FuncData
  F_are_wheels : Fun K "are_wheels" "are_wheels" s_are_wheels f_are_wheels fd_are_wheels
  g_are_wheels : mg "are_wheels" = some (.ref f_are_wheels)
  b_are_wheels : Binds K fd_are_wheels ["board", "thing"] []
  f_need_row : Addr
  fd_need_row : FuncData
  F_need_row : Fun K "need_row" "need_row" s_need_row f_need_row fd_need_row
  g_need_row : mg "need_row" = some (.ref f_need_row)
  b_need_row : Binds K fd_need_row ["board", "thing"] []
  f_gone_by : Addr
  fd_gone_by : FuncData
  F_gone_by : Fun K "gone_by" "gone_by" s_gone_by f_gone_by fd_gone_by
  g_gone_by : mg "gone_by" = some (.ref f_gone_by)
  b_gone_by : Binds K fd_gone_by ["board", "moment", "row"] []
  f_behind_by : Addr
  fd_behind_by : FuncData
  F_behind_by : Fun K "behind_by" "behind_by" s_behind_by f_behind_by fd_behind_by
  g_behind_by : mg "behind_by" = some (.ref f_behind_by)
  b_behind_by : Binds K fd_behind_by ["board", "moment", "row"] []
  f_need_asked : Addr
  fd_need_asked : FuncData
  F_need_asked : Fun K "need_asked" "need_asked" s_need_asked f_need_asked fd_need_asked
  g_need_asked : mg "need_asked" = some (.ref f_need_asked)
  b_need_asked : Binds K fd_need_asked ["board", "moment", "row"] []
  f_first_wrong : Addr
  fd_first_wrong : FuncData
  F_first_wrong : Fun K "first_wrong" "first_wrong" s_first_wrong f_first_wrong fd_first_wrong
  g_first_wrong : mg "first_wrong" = some (.ref f_first_wrong)
  b_first_wrong : Binds K fd_first_wrong ["board", "moment", "row"] []
  f_behind : Addr
  fd_behind : FuncData
  F_behind : Fun K "behind" "behind" s_behind f_behind fd_behind
  g_behind : mg "behind" = some (.ref f_behind)
  b_behind : Binds K fd_behind ["board", "moment", "row"] []
  f__law_cell_at : Addr
  fd__law_cell_at : FuncData
  F__law_cell_at : Fun K "_law_cell_at" "_law_cell_at" s__law_cell_at f__law_cell_at fd__law_cell_at
  g__law_cell_at : mg "_law_cell_at" = some (.ref f__law_cell_at)
  b__law_cell_at : Binds K fd__law_cell_at ["_law_script", "_law_k"] []
  f__law_pen : Addr
  fd__law_pen : FuncData
  F__law_pen : Fun K "_law_pen" "_law_pen" s__law_pen f__law_pen fd__law_pen
  g__law_pen : mg "_law_pen" = some (.ref f__law_pen)
  b__law_pen : Binds K fd__law_pen ["_law_cell"] []
  f__law_draw : Addr
  fd__law_draw : FuncData
  F__law_draw : Fun K "_law_draw" "_law_draw" s__law_draw f__law_draw fd__law_draw
  g__law_draw : mg "_law_draw" = some (.ref f__law_draw)
  b__law_draw : Binds K fd__law_draw ["_law_pen_here", "_law_many"] []
  f__law_pick : Addr
  fd__law_pick : FuncData
  F__law_pick : Fun K "_law_pick" "_law_pick" s__law_pick f__law_pick fd__law_pick
  g__law_pick : mg "_law_pick" = some (.ref f__law_pick)
  b__law_pick : Binds K fd__law_pick ["_law_pen_here", "_law_some"] []
  f__law_board : Addr
  fd__law_board : FuncData
  F__law_board : Fun K "_law_board" "_law_board" s__law_board f__law_board fd__law_board
  g__law_board : mg "_law_board" = some (.ref f__law_board)
  b__law_board : Binds K fd__law_board ["_law_pen_here", "_law_most"] []
  f__law_moment : Addr
  fd__law_moment : FuncData
  F__law_moment : Fun K "_law_moment" "_law_moment" s__law_moment f__law_moment fd__law_moment
  g__law_moment : mg "_law_moment" = some (.ref f__law_moment)
  b__law_moment : Binds K fd__law_moment ["_law_pen_here", "_law_board_here", "_law_most"] []
  f__law_handle : Addr
  fd__law_handle : FuncData
  F__law_handle : Fun K "_law_handle" "_law_handle" s__law_handle f__law_handle fd__law_handle
  g__law_handle : mg "_law_handle" = some (.ref f__law_handle)
  b__law_handle : Binds K fd__law_handle ["_law_board_here", "_law_moment_here", "_law_wheel"] []
  f__law_ready : Addr
  fd__law_ready : FuncData
  F__law_ready : Fun K "_law_ready" "_law_ready" s__law_ready f__law_ready fd__law_ready
  g__law_ready : mg "_law_ready" = some (.ref f__law_ready)
  b__law_ready : Binds K fd__law_ready ["_law_moment_here"] []
  f__law_let_row : Addr
  fd__law_let_row : FuncData
  F__law_let_row : Fun K "_law_let_row" "_law_let_row" s__law_let_row f__law_let_row fd__law_let_row
  g__law_let_row : mg "_law_let_row" = some (.ref f__law_let_row)
  b__law_let_row : Binds K fd__law_let_row ["_law_pen_here", "_law_board_here", "_law_moment_here", "_law_most"] []
  f__law_mixed : Addr
  fd__law_mixed : FuncData
  F__law_mixed : Fun K "_law_mixed" "_law_mixed" s__law_mixed f__law_mixed fd__law_mixed
  g__law_mixed : mg "_law_mixed" = some (.ref f__law_mixed)
  b__law_mixed : Binds K fd__law_mixed ["_law_pen_here", "_law_many"] []
  f__law_moved : Addr
  fd__law_moved : FuncData
  F__law_moved : Fun K "_law_moved" "_law_moved" s__law_moved f__law_moved fd__law_moved
  g__law_moved : mg "_law_moved" = some (.ref f__law_moved)
  b__law_moved : Binds K fd__law_moved ["_law_some", "_law_order"] []
  f__law_named : Addr
  fd__law_named : FuncData
  F__law_named : Fun K "_law_named" "_law_named" s__law_named f__law_named fd__law_named
  g__law_named : mg "_law_named" = some (.ref f__law_named)
  b__law_named : Binds K fd__law_named ["_law_board_here", "_law_order", "_law_cups"] []
  f__law_right : Addr
  fd__law_right : FuncData
  F__law_right : Fun K "_law_right" "_law_right" s__law_right f__law_right fd__law_right
  g__law_right : mg "_law_right" = some (.ref f__law_right)
  b__law_right : Binds K fd__law_right ["_law_pen_here", "_law_board_here", "_law_moment_here", "_law_row"] []
  f__law_twice_right : Addr
  fd__law_twice_right : FuncData
  F__law_twice_right : Fun K "_law_twice_right" "_law_twice_right" s__law_twice_right f__law_twice_right fd__law_twice_right
  g__law_twice_right : mg "_law_twice_right" = some (.ref f__law_twice_right)
  b__law_twice_right : Binds K fd__law_twice_right ["_law_pen_here", "_law_board_here", "_law_moment_here", "_law_row"] []
  f_law : Addr
  fd_law : FuncData
  F_law : Fun K "law" "law" s_law f_law fd_law
  g_law : mg "law" = some (.ref f_law)
  b_law : Binds K fd_law ["_law_script"] []
  t_MOST_WHEELS : Tok
  c_MOST_WHEELS : mg "MOST_WHEELS" = some (.int 6 t_MOST_WHEELS)
  t_MOST_CUPS : Tok
  c_MOST_CUPS : mg "MOST_CUPS" = some (.int 4 t_MOST_CUPS)
  t_MOST_STEPS : Tok
  c_MOST_STEPS : mg "MOST_STEPS" = some (.int 4 t_MOST_STEPS)
  t_MOST_ENDS : Tok
  c_MOST_ENDS : mg "MOST_ENDS" = some (.int 3 t_MOST_ENDS)
  n_all : mg "all" = none
  n_bool : mg "bool" = none
  n_enumerate : mg "enumerate" = none
  n_int : mg "int" = none
  n_isinstance : mg "isinstance" = none
  n_len : mg "len" = none
  n_list : mg "list" = none
  n_max : mg "max" = none
  n_min : mg "min" = none
  n_range : mg "range" = none
  n_tuple : mg "tuple" = none
  n_zip : mg "zip" = none
section
variable {P : Program} {w : World} {K : PySem.W.Frag} {mg : Str → Option Value} {base : Heap}
local macro_rules | `(tactic| walk_at "pl") => `(tactic| simp -failIfUnchanged only [sRet, sRetN, sSeq, sAsg, sIf, sDrop, sNext, sPar, sPar3, sNever, hName, hTup, hCons, hNil, hSub, pVar, pC, pOp, pAndV, pOrV, pNotV, pNot, pAnd, pOr, pTest, pIf, pChain, pCB, pCons, pNil, pTup, pLst, pLstM, pCall, pBM, pBM0, sFor, sAug, sAugL, iSeq, iRange1, iRange2, PL.iEnum, PL.iZip2, PL.iZip3, PL.iZipS, PL.pTCnt, PL.pLIx, PL.pInt1, PL.pSum, PL.pMulM, PL.hLst, PL.pListRg, PL.pListRgM, PL.pLc2, PL.pPop, PL.pPopAt, PL.pExtend, PL.pRemove, PL.pLCnt, PL.pMaxL, PL.pDivmod, PL.pIsB, PL.pNotB, BEq.rfl, beq_self_eq_true, PL.pIsN, PL.pNotN, PL.isN, pLc, pLcM, pSl, oNone, oSome, Tg.hT, Tg.hTs, List.nil_append, List.append_nil, List.cons_append, sp0_app, sp1_app, sp2_app, sp3_app, sp4_app, List.getElem?_cons_zero, List.getElem?_cons_succ, List.set_cons_zero, List.set_cons_succ, List.length_cons, List.length_nil, r_add_int, r_add_tup, r_add_str, r_add_lst, r_sub, r_lt, r_le, r_gt, r_ge, r_mod, r_fdiv, r_pow, r_mul_int, r_mul_tup, r_eq_int, r_ne_int, r_eq_str, r_ne_str, r_eq_nil, r_len_tup, r_len_lst, r_len_scr, r_len_str, r_ix_tup, r_ix_lst, r_ix_scr, r_tuple_lst, r_tuple_tup, r_list_tup, r_list_lst, r_listM_tup, r_max, r_min, r_it_tup, r_it_lst, r_it_scr, r_cut_tup, r_cut_lst, if_true, if_false, Bool.false_eq_true, Bool.not_true, Bool.not_false, r_repr_bl, eq_self, decide_true, wipeP, List.map_cons, List.map_nil])
local macro_rules | `(tactic| walk_at "pl2") => `(tactic| simp -failIfUnchanged only [sRet, sRetN, sSeq, sAsg, sIf, sDrop, sNext, sPar, sPar3, sNever, hName, hTup, hCons, hNil, hSub, pVar, pC, pOp, pAndV, pOrV, pNotV, pNot, pAnd, pOr, pTest, pIf, pChain, pCB, pCons, pNil, pTup, pLst, pLstM, pCall, pBM, pBM0, sFor, sAug, sAugL, iSeq, iRange1, iRange2, PL.iEnum, PL.iZip2, PL.iZip3, PL.iZipS, PL.pTCnt, PL.pLIx, PL.pInt1, PL.pSum, PL.pMulM, PL.hLst, PL.pListRg, PL.pListRgM, PL.pLc2, PL.pPop, PL.pPopAt, PL.pExtend, PL.pRemove, PL.pLCnt, PL.pMaxL, PL.pDivmod, PL.pIsB, PL.pNotB, BEq.rfl, beq_self_eq_true, PL.pIsN, PL.pNotN, PL.isN, pLc, pLcM, pSl, oNone, oSome, Tg.hT, Tg.hTs, List.nil_append, List.append_nil, List.cons_append, sp0_app, sp1_app, sp2_app, sp3_app, sp4_app, List.getElem?_cons_zero, List.getElem?_cons_succ, List.set_cons_zero, List.set_cons_succ, List.length_cons, List.length_nil, r_add_int, r_add_tup, r_add_str, r_add_lst, r_sub, r_lt, r_le, r_gt, r_ge, r_mod, r_fdiv, r_pow, r_mul_int, r_mul_tup, r_eq_int, r_ne_int, r_eq_str, r_ne_str, r_eq_nil, r_len_tup, r_len_lst, r_len_scr, r_len_str, r_ix_tup, r_ix_lst, r_ix_scr, r_tuple_lst, r_tuple_tup, r_list_tup, r_list_lst, r_listM_tup, r_max, r_min, r_it_tup, r_it_lst, r_it_scr, r_cut_tup, r_cut_lst, if_true, if_false, Bool.false_eq_true, Bool.not_true, Bool.not_false, r_repr_bl, eq_self, decide_true, wipeP, List.map_cons, List.map_nil, atI_zero, atI_one, ex_eq, true_and, and_true, exists_const, pYes, atI_two, r_len_encR, r_len_encS])
local macro_rules | `(tactic| walk_at "side") => `(tactic| repeat (refine ⟨(by first | exact ⟨by decide, by decide, by decide⟩ | decide | (rw [sizeLine_eq]; omega) | simp), ?_⟩))
/-! ### is_whole -/
abbrev sp_is_whole : Sp' := sp1 fun x M Q _ => x.isK = true ∧ Q (.bl (isWholeB x)) M
theorem ok_is_whole (T : Txt K mg) : FnP P w K mg base CX0 1 T.f_is_whole T.fd_is_whole ["thing"] sp_is_whole := by
  refine fnp_of T.F_is_whole sc_is_whole (fun xs M Q E h => sp1_len h) fun cdv A outer s H E B hG hr E' hE => ⟨_, qss_nox
    (qss_one (qs_ret (q_and (q_isi rfl T.n_isinstance (qa_cons (qv 0) (qa_cons (q_bty (n := "int") rfl T.n_int (by decide +kernel)) qa_nil))) (q_one (q_not (q_isi rfl T.n_isinstance (qa_cons (qv 0) (qa_cons (q_bty (n := "bool") rfl T.n_bool (by decide +kernel)) qa_nil)))))))), fun xs M Q h => ?_⟩
  obtain ⟨a0, rfl, h⟩ := h
  rw [show startP ["thing"] [a0] = [some a0] from rfl]
  clear hE hr hG
  obtain ⟨h1, h⟩ := h
  walk_at "pl"
  simp only [pIsi, isiK_int h1, isiK_bool h1]
  cases a0 <;> exact Fewer.of h
/-! ### is_row -/
abbrev sp_is_row : Sp' := sp3 fun x lo hi M Q _ => match lo, hi with
  | .int l, .int u => x.isK = true ∧ Q (.bl (isRow x l u)) M
  | _, _ => False
theorem ok_is_row (T : Txt K mg) : FnP P w K mg base CX0 1 T.f_is_row T.fd_is_row ["thing", "low", "high"] sp_is_row := by
  refine fnp_of T.F_is_row sc_is_row (fun xs M Q E h => sp3_len h) fun cdv A outer s H E B hG hr E' hE => ⟨_, qss_nox
    (qss_one (qs_ret (q_and (q_isi rfl T.n_isinstance (qa_cons (qv 0) (qa_cons (q_bty (n := "tuple") rfl T.n_tuple (by decide +kernel)) qa_nil))) (q_one (q_lele (qv 1) (q_len rfl T.n_len (qv 0)) (qv 2)))))), fun xs M Q h => ?_⟩
  obtain ⟨a0, a1, a2, rfl, h⟩ := h
  rw [show startP ["thing", "low", "high"] [a0, a1, a2] = [some a0, some a1, some a2] from rfl]
  clear hE hr hG
  cases a1 <;> try exact h.elim
  cases a2 <;> try exact h.elim
  rename_i l u
  obtain ⟨h1, h⟩ := h
  walk_at "pl"
  simp only [pIsi, isiK_tuple h1]
  cases a0 with
  | tup xs =>
    simp only [isRow] at h
    simp only [isTupB]
    walk_at "pl"
    by_cases h2 : l ≤ (xs.length : Int)
    · rw [decide_eq_true h2] at h ⊢
      exact Fewer.of h
    · rw [decide_eq_false h2] at h ⊢
      exact Fewer.of h
  | _ => exact Fewer.of h
/-! ### handled_by -/
abbrev sp_handled_by : Sp' := sp3 fun bd mo wh M Q _ => ∃ ws c m i, bd = encB ws (c : Nat) ∧ mo = encM m ∧ wh = .int ((i : Nat) : Int) ∧ Bd ws c ∧ Mo ws c m ∧ i < ws.length ∧ Q (encM (handleF ws m i)) M
theorem ok_handled_by (T : Txt K mg) : FnP P w K mg base CX0 1 T.f_handled_by T.fd_handled_by ["board", "moment", "wheel"] sp_handled_by := by
  refine fnp_of T.F_handled_by sc_handled_by (fun xs M Q E h => sp3_len h) fun cdv A outer s H E B hG hr E' hE => ⟨_, qss_nox
    (qss_cons (qs_asg (q_tup (qa_cons (q_ixs (qv 0) q_int (fun _ _ => rfl)) (qa_cons (qv 1) qa_nil))) (qg_tup (n := 2) rfl (qgs_cons (qg_name (i := 3) sc_handled_by.nd rfl (by first | exact Or.inl rfl | exact Or.inr rfl)) (qgs_cons (qg_tup (n := 3) rfl (qgs_cons (qg_name (i := 4) sc_handled_by.nd rfl (by first | exact Or.inl rfl | exact Or.inr rfl)) (qgs_cons (qg_name (i := 5) sc_handled_by.nd rfl (by first | exact Or.inl rfl | exact Or.inr rfl)) (qgs_cons (qg_name (i := 6) sc_handled_by.nd rfl (by first | exact Or.inl rfl | exact Or.inr rfl)) qgs_nil)))) qgs_nil))))
      (qss_cons (qs_par3 (i := 7) (j := 8) (l := 9) rfl sc_handled_by.nd rfl rfl rfl (by decide) (by decide) (by decide) rfl rfl rfl (qa_cons (q_ixs (qv 4) (qv 2) (fun _ _ => rfl)) (qa_cons (q_listM rfl T.n_list (qv 5)) (qa_cons (q_listM rfl T.n_list (qv 6)) qa_nil))) (by rfl))
      (qss_cons (qs_augL (qv 8) (qv 2) q_int ip_sub)
      (qss_cons (qs_for PassesOwn.never rfl (qi_seq (q_ixs (q_ixs (qv 3) (qv 2) (fun _ _ => rfl)) (qv 7) (fun _ _ => rfl))) (qg_name (i := 10) sc_handled_by.nd rfl (by first | exact Or.inl rfl | exact Or.inr rfl))
      (qss_one (qs_if (qt_lt (qv 10) (q_len rfl T.n_len (qv 3)))
      (qss_one (qs_augL (qv 8) (qv 10) q_int ip_add))
      (qss_one (qs_augL (qv 9) (q_sub (qv 10) (q_len rfl T.n_len (qv 3))) q_int ip_add)))))
      (qss_cons (qs_set (i := 11) sc_handled_by.nd rfl (Or.inl rfl) (q_mod (q_add (qv 7) q_int) (q_len rfl T.n_len (q_ixs (qv 3) (qv 2) (fun _ _ => rfl)))))
      (qss_one (qs_ret (q_tup (qa_cons (q_add (q_add (q_slice (qv 4) qo_none (qo_some (qv 2))) (q_tup (qa_cons (qv 11) qa_nil))) (q_slice (qv 4) (qo_some (q_add (qv 2) q_int)) qo_none)) (qa_cons (q_tuple rfl T.n_tuple (qv 8)) (qa_cons (q_tuple rfl T.n_tuple (qv 9)) qa_nil))))))))))), fun xs M Q h => ?_⟩
  obtain ⟨a0, a1, a2, rfl, h⟩ := h
  rw [show startP ["board", "moment", "wheel", "wheels", "stand", "waiting", "held", "at", "later", "filled", "end", "turned"] [a0, a1, a2] = [some a0, some a1, some a2, none, none, none, none, none, none, none, none, none] from rfl]
  clear hE hr hG
  obtain ⟨ws, c, ⟨st, wt, hd⟩, i, rfl, rfl, rfl, hb, hm, hi, h⟩ := h
  have l1 : st.length = ws.length := hm.l1
  have l2 : wt.length = ws.length := hm.l2
  have l3 : hd.length = c := hm.l3
  have hw0 : ws[i]? = some ws[i] := List.getElem?_eq_getElem hi
  have hs0 : st[i]? = some st[i] := List.getElem?_eq_getElem (by omega)
  have ht0 : wt[i]? = some wt[i] := List.getElem?_eq_getElem (by omega)
  obtain ⟨hs1, hs2⟩ := hm.at1 i _ _ hs0 hw0
  have hwm : ws[i] ∈ ws := List.getElem_mem hi
  generalize hwe : ws[i] = w at *
  generalize hse : st[i] = s0 at *
  generalize hte : wt[i] = t0 at *
  have hsl : s0.toNat < w.length := by omega
  have hst0 : w[s0.toNat]? = some w[s0.toNat] := List.getElem?_eq_getElem hsl
  have hsm : w[s0.toNat] ∈ w := List.getElem_mem hsl
  have hends := hb.e w hwm _ hsm
  generalize hee : w[s0.toNat] = es at *
  have hF : handleF ws (st, wt, hd) i = (st.set i ((s0 + 1) % (w.length : Int)), es.foldl (comeTo ws.length) (bump wt i (-1), hd)) := by
    unfold handleF
    simp only [List.getD_eq_getElem?_getD, hw0, hs0, Option.getD_some, hst0]
  rw [hF] at h
  simp only [encB, encM, encS]
  walk_at "pl2"
  refine ⟨by rw [sizeLine_eq]; decide, .int s0, atI_map hs0, fun p hp p1 hp1 => ?_⟩
  have hne : p1 ≠ p := by rintro rfl; rw [put_same] at hp1; cases hp1
  have hp1' : M p1 = none := by rw [put_ne hne] at hp1; exact hp1
  have e0 : put (put M p (.lst (wt.map PV.int))) p1 (.lst (hd.map PV.int)) p = some (.lst (wt.map PV.int)) := by rw [put_ne (Ne.symm hne)]; exact put_same
  refine ⟨_, t0, e0, by omega, by rw [Int.toNat_natCast, List.getElem?_map, ht0]; rfl, ?_⟩
  rw [r_setM e0 (by rw [List.length_map]; omega), show t0 - 1 = t0 + -1 from rfl, map_bump ht0]
  have e1 : put (put (put M p (.lst (wt.map PV.int))) p1 (.lst (hd.map PV.int))) p (.lst ((bump wt i (-1)).map PV.int)) p = some (.lst ((bump wt i (-1)).map PV.int)) := put_same
  have e2 : put (put (put M p (.lst (wt.map PV.int))) p1 (.lst (hd.map PV.int))) p (.lst ((bump wt i (-1)).map PV.int)) p1 = some (.lst (hd.map PV.int)) := by rw [put_ne hne]; exact put_same
  have k0 : ∀ a o, M a = some o → put (put (put M p (.lst (wt.map PV.int))) p1 (.lst (hd.map PV.int))) p (.lst ((bump wt i (-1)).map PV.int)) a = some o := fun a o e => by
    have g1 : a ≠ p := by rintro rfl; rw [hp] at e; cases e
    have g2 : a ≠ p1 := by rintro rfl; rw [hp1'] at e; cases e
    rw [put_ne g1, put_ne g2, put_ne g1]; exact e
  generalize put (put (put M p (.lst (wt.map PV.int))) p1 (.lst (hd.map PV.int))) p (.lst ((bump wt i (-1)).map PV.int)) = M1 at *
  refine ⟨_, atI_map hw0, ?_⟩
  simp only [encW]
  walk_at "pl2"
  refine ⟨_, atI_natCast (j := s0.toNat) (by omega) (by rw [List.getElem?_map, hst0]; rfl), es.map PV.int, rfl, ?_⟩
  refine for_by (fun j σ M' => ∃ v10 v11 cur, σ = [some (PV.tup [PV.tup (ws.map encW), PV.int c]), some (PV.tup [PV.tup (st.map PV.int), PV.tup (wt.map PV.int), PV.tup (hd.map PV.int)]), some (PV.int i), some (PV.tup (ws.map encW)), some (PV.tup (st.map PV.int)), some (PV.tup (wt.map PV.int)), some (PV.tup (hd.map PV.int)), some (.int s0), some (.ref p), some (.ref p1), v10, v11] ∧ M' p = some (.lst (cur.1.map PV.int)) ∧ M' p1 = some (.lst (cur.2.map PV.int)) ∧ cur.1.length = ws.length ∧ cur.2.length = c ∧ (∀ a o, M a = some o → M' a = some o) ∧ (es.drop j).foldl (comeTo ws.length) cur = es.foldl (comeTo ws.length) (bump wt i (-1), hd)) ⟨_, _, (bump wt i (-1), hd), rfl, e1, e2, by simp [bump_len, l2], l3, k0, rfl⟩ ?_ ?_
  · rintro j x σ M2 hx ⟨v10, v11, cur, rfl, f1, f2, g1, g2, k2, hf⟩ N hN
    rw [List.getElem?_map] at hx
    cases he : es[j]? with
    | none => rw [he] at hx; cases hx
    | some e =>
      rw [he] at hx
      cases hx
      have hj := (List.getElem?_eq_some_iff.mp he).1
      rw [List.drop_eq_getElem_cons hj, (List.getElem?_eq_some_iff.mp he).2, List.foldl_cons] at hf
      have hb1 := hends e (List.mem_of_getElem? he)
      walk_at "pl2"
      rw [List.length_map]
      by_cases hlt : e < (ws.length : Int)
      · rw [decide_eq_true hlt]
        walk_at "pl2"
        have hu : cur.1[e.toNat]? = some cur.1[e.toNat] := List.getElem?_eq_getElem (by omega)
        refine ⟨_, cur.1[e.toNat], f1, hb1.1, by rw [List.getElem?_map, hu]; rfl, ?_⟩
        rw [show PV.int e = PV.int ((e.toNat : Nat) : Int) by congr 1; omega, r_setM f1 (by rw [List.length_map]; omega), map_bump hu]
        refine hN _ _ ⟨_, _, comeTo ws.length cur e, rfl, ?_, ?_, ?_, ?_, fun a o ea => ?_, hf⟩
        · rw [put_same]; unfold comeTo; rw [if_pos hlt]
        · rw [put_ne hne, f2]; unfold comeTo; rw [if_pos hlt]
        · rw [come_len.1]; exact g1
        · rw [come_len.2]; exact g2
        · have q1 : a ≠ p := by rintro rfl; rw [hp] at ea; cases ea
          rw [put_ne q1]; exact k2 a o ea
      · rw [decide_eq_false hlt]
        walk_at "pl2"
        have hu : cur.2[(e - ws.length).toNat]? = some cur.2[(e - ws.length).toNat] := List.getElem?_eq_getElem (by omega)
        refine ⟨_, cur.2[(e - ws.length).toNat], f2, by omega, by rw [List.getElem?_map, hu]; rfl, ?_⟩
        rw [show PV.int (e - ws.length) = PV.int (((e - ws.length).toNat : Nat) : Int) by congr 1; omega, r_setM f2 (by rw [List.length_map]; omega), map_bump hu]
        refine hN _ _ ⟨_, _, comeTo ws.length cur e, rfl, ?_, ?_, ?_, ?_, fun a o ea => ?_, hf⟩
        · rw [put_ne (Ne.symm hne), f1]; unfold comeTo; rw [if_neg hlt]
        · rw [put_same]; unfold comeTo; rw [if_neg hlt]
        · rw [come_len.1]; exact g1
        · rw [come_len.2]; exact g2
        · have q1 : a ≠ p1 := by rintro rfl; rw [hp1'] at ea; cases ea
          rw [put_ne q1]; exact k2 a o ea
  · rintro σ M2 ⟨v10, v11, cur, rfl, f1, f2, g1, g2, k2, hf⟩
    rw [List.length_map, List.drop_length, List.foldl_nil] at hf
    rw [← hf] at h
    walk_at "pl2"
    refine ⟨_, atI_map hw0, ?_⟩
    simp only [encW]
    walk_at "pl2"
    rw [cut_to (by omega), cut_from (by omega), show ((i : Nat) : Int).toNat = i from rfl, show (((i : Nat) : Int) + 1).toNat = i + 1 by omega]
    rw [r_tupleM f1]
    simp only [r_tupleM f2, List.length_map]
    have hwl := hb.w w hwm
    refine ⟨by omega, by rw [sizeLine_eq]; decide, by rw [List.length_take, List.length_map, sizeLine_eq]; have := hb.n6; omega, ?_, by rw [sizeLine_eq]; have := hb.n6; omega, by rw [sizeLine_eq]; have := hb.c4; omega, by rw [sizeLine_eq]; decide, M, k2, ?_⟩
    · rw [List.length_append, List.length_take, List.length_drop, List.length_map, List.length_singleton, sizeLine_eq]; have := hb.n6; omega
    · rw [map_set (by omega)]
      exact h
/-! ### _law_cell_at -/
abbrev sp__law_cell_at : Sp' := sp2 fun x k M Q _ => match x, k with
  | .scr _, .int i => 0 ≤ i ∧ ∀ n : Int, Q (.int n) M
  | _, _ => False
theorem ok__law_cell_at (T : Txt K mg) : FnP P w K mg base CX0 1 T.f__law_cell_at T.fd__law_cell_at ["_law_script", "_law_k"] sp__law_cell_at := by
  refine fnp_of T.F__law_cell_at sc__law_cell_at (fun xs M Q E h => sp2_len h) fun cdv A outer s H E B hG hr E' hE => ⟨_, qss_nox
    (qss_cons (qs_if (qt_lt (qv 1) (q_len rfl T.n_len (qv 0)))
      (qss_one (qs_ret (q_ixs (qv 0) (qv 1) (fun _ _ => rfl))))
      qss_nil)
      (qss_one (qs_ret q_int))), fun xs M Q h => ?_⟩
  obtain ⟨a0, a1, rfl, h⟩ := h
  rw [show startP ["_law_script", "_law_k"] [a0, a1] = [some a0, some a1] from rfl]
  clear hE hr hG
  cases a0 <;> try exact h.elim
  cases a1 <;> try exact h.elim
  rename_i ns i
  obtain ⟨h0, h⟩ := h
  walk_at "pl"
  by_cases h2 : i < (ns.length : Int)
  · rw [decide_eq_true h2]
    walk_at "pl"
    have hj : i.toNat < ns.length := by omega
    exact ⟨ns[i.toNat], atI_natCast (j := i.toNat) (by omega) (List.getElem?_eq_getElem hj), Fewer.of (h _)⟩
  · rw [decide_eq_false h2]
    walk_at "pl"
    exact Fewer.of (h 0)
/-! ### _law_pen -/
abbrev sp__law_pen : Sp' := sp1 fun x M Q _ => match x with
  | .int _ => ∀ p M', M p = none → But p M M' → PenAt M' p 0 → Q (.ref p) M'
  | _ => False
theorem ok__law_pen (T : Txt K mg) : FnP P w K mg base CX0 1 T.f__law_pen T.fd__law_pen ["_law_cell"] sp__law_pen := by
  refine fnp_of T.F__law_pen sc__law_pen (fun xs M Q E h => sp1_len h) fun cdv A outer s H E B hG hr E' hE => ⟨_, qss_nox
    (qss_one (qs_ret (q_lstM (qa_cons (q_max2 rfl rfl T.n_max (qa_cons q_int (qa_cons (q_sub (qv 0) (q_pow q_int q_int)) qa_nil))) (qa_cons (q_mod (qv 0) q_int) (qa_cons q_int qa_nil)))))), fun xs M Q h => ?_⟩
  obtain ⟨a0, rfl, h⟩ := h
  rw [show startP ["_law_cell"] [a0] = [some a0] from rfl]
  clear hE hr hG
  cases a0 <;> try exact h.elim
  rename_i i
  walk_at "pl"
  refine ⟨⟨by decide, by decide, by decide⟩, by decide, by rw [sizeLine_eq]; decide, fun p hp => Fewer.of (h p _ hp .put ?_)⟩
  refine ⟨_, _, _, put_same, ?_, ?_, ?_, by decide, by decide⟩
  · split <;> omega
  · omega
  · omega
/-! ### _law_draw -/
abbrev sp__law_draw : Sp' := sp2 fun x n M Q _ => match x, n with
  | .ref p, .int m => 0 < m ∧ m ≤ 1000000 ∧ ∃ k, k ≤ 1000000000000 ∧ PenAt M p k ∧ ∀ r M', 0 ≤ r → r < m → PenAt M' p (k + 1) → But p M M' → Q (.int r) M'
  | _, _ => False
theorem ok__law_draw (T : Txt K mg) : FnP P w K mg base CX0 1 T.f__law_draw T.fd__law_draw ["_law_pen_here", "_law_many"] sp__law_draw := by
  refine fnp_of T.F__law_draw sc__law_draw (fun xs M Q E h => sp2_len h) fun cdv A outer s H E B hG hr E' hE => ⟨_, qss_nox
    (qss_cons (qs_if (qt_gt (q_ixs (qv 0) q_int (fun _ _ => rfl)) q_int)
      (qss_cons (qs_set (i := 2) sc__law_draw.nd rfl (Or.inl rfl) (q_mod (q_ixs (qv 0) q_int (fun _ _ => rfl)) (qv 1)))
      (qss_cons (qs_asg (q_fdiv (q_ixs (qv 0) q_int (fun _ _ => rfl)) (qv 1)) (qg_sub (qv 0) q_int))
      (qss_one (qs_ret (qv 2)))))
      qss_nil)
      (qss_cons (qs_asg (q_add (q_ixs (qv 0) q_int (fun _ _ => rfl)) q_int) (qg_sub (qv 0) q_int))
      (qss_cons (qs_set (i := 3) sc__law_draw.nd rfl (Or.inl rfl) (q_mod (q_mul (q_add (q_ixs (qv 0) q_int (fun _ _ => rfl)) (q_mul q_int (q_ixs (qv 0) q_int (fun _ _ => rfl)))) (q_add q_int (q_mul q_int (q_ixs (qv 0) q_int (fun _ _ => rfl))))) q_int))
      (qss_cons (qs_set (i := 3) sc__law_draw.nd rfl (Or.inl rfl) (q_mod (q_add (q_add (q_mul (qv 3) (qv 3)) (q_mul q_int (q_ixs (qv 0) q_int (fun _ _ => rfl)))) q_int) q_int))
      (qss_one (qs_ret (q_mod (q_fdiv (q_mod (q_mul (qv 3) q_int) q_int) q_int) (qv 1)))))))), fun xs M Q h => ?_⟩
  obtain ⟨a0, a1, rfl, h⟩ := h
  rw [show startP ["_law_pen_here", "_law_many", "_law_digit", "_law_stir"] [a0, a1] = [some a0, some a1, none, none] from rfl]
  clear hE hr hG
  cases a0 <;> try exact h.elim
  cases a1 <;> try exact h.elim
  rename_i p m
  obtain ⟨hm, hm2, k, hk, ⟨a, b, c, e1, h1, h2, h3, h4, h5⟩, h⟩ := h
  walk_at "pl"
  simp only [r_ixM e1, at3_0, at3_2, ex_eq]
  walk_at "pl"
  by_cases ha : 0 < a
  · rw [decide_eq_true ha]
    walk_at "pl"
    simp only [r_ixM e1, at3_0, ex_eq]
    walk_at "pl"
    simp only [r_ixM e1, at3_0, ex_eq]
    walk_at "pl"
    refine ⟨hm, ⟨hm, by omega⟩, Eq.mpr (r_setM (j := 0) e1 (by simp)) ?_⟩
    exact (Fewer.of (h _ _ (Int.emod_nonneg _ (by omega)) (Int.emod_lt_of_pos _ hm) ⟨_, _, _, put_same, Int.ediv_nonneg h1 (by omega), h2, h3, h4, by omega⟩ .put))
  · rw [decide_eq_false ha]
    walk_at "pl"
    simp only [r_ixM e1, at3_2, ex_eq]
    walk_at "pl"
    rw [show (PV.int 2) = (PV.int ((2 : Nat) : Int)) from rfl, r_setM e1 (show 2 < 3 by decide)]
    walk_at "pl"
    have e2 : put M p (.lst [.int a, .int b, .int (c + 1)]) p = some (.lst [.int a, .int b, .int (c + 1)]) := put_same
    have h6 : 0 ≤ c + 1 := by omega
    have h7 : c + 1 ≤ 1000000000001 := by omega
    have h8 : PenAt (put M p (.lst [.int a, .int b, .int (c + 1)])) p (k + 1) := ⟨_, _, _, e2, h1, h2, h3, h6, by omega⟩
    have h9 : But p M (put M p (.lst [.int a, .int b, .int (c + 1)])) := .put
    generalize put M p (.lst [.int a, .int b, .int (c + 1)]) = M' at *
    generalize c + 1 = d at *
    simp only [show ((2 : Nat) : Int) = 2 from rfl, r_ixM e2, at3_1, at3_2, ex_eq]
    walk_at "pl"
    simp only [r_ixM e2, at3_1, at3_2, ex_eq]
    walk_at "pl"
    refine ⟨.inl (by decide), .inl (by decide), .inr (by omega), by decide, ?_⟩
    generalize hx : (b + 17 * d) * (69621 + 2 * d) % 2147483647 = x
    have hx1 : 0 ≤ x ∧ x < 2147483647 := by omega
    refine ⟨.inl (by omega), ?_⟩
    simp only [r_ixM e2, at3_1, at3_2, ex_eq]
    walk_at "pl"
    refine ⟨.inl (by decide), by decide, .inr (by decide), by decide, ⟨by decide, by decide⟩, hm, Fewer.of (h _ _ (Int.emod_nonneg _ (by omega)) (Int.emod_lt_of_pos _ hm) h8 h9)⟩
/-! ### _law_handle -/
abbrev sp__law_handle : Sp' := sp3 fun bd mo wh M Q _ => ∃ ws c m i, bd = encB ws (c : Nat) ∧ mo = encM m ∧ wh = .int ((i : Nat) : Int) ∧ Bd ws c ∧ Mo ws c m ∧ i < ws.length ∧ Q (encM (handleF ws m i)) M
theorem ok__law_handle (T : Txt K mg) : FnP P w K mg base CX0 1 T.f__law_handle T.fd__law_handle ["_law_board_here", "_law_moment_here", "_law_wheel"] sp__law_handle := by
  refine fnp_of T.F__law_handle sc__law_handle (fun xs M Q E h => sp3_len h) fun cdv A outer s H E B hG hr E' hE => ⟨_, qss_nox
    (qss_cons (qs_asg (qv 0) (qg_tup (n := 2) rfl (qgs_cons (qg_name (i := 3) sc__law_handle.nd rfl (by first | exact Or.inl rfl | exact Or.inr rfl)) (qgs_cons (qg_name (i := 4) sc__law_handle.nd rfl (by first | exact Or.inl rfl | exact Or.inr rfl)) qgs_nil))))
      (qss_cons (qs_asg (q_lc (own := [("_law_row", 9)]) (tg := .nm 9) rfl sc__law_handle.nd (qi_seq (qv 1)) (blkOk_by (own := [("_law_row", 9)]) (by rfl)) (fun _ _ _ _ _ => (pg_name (i := 9) sc__law_handle.nd rfl (by first | exact Or.inl rfl | exact Or.inr rfl))) (fun _ _ _ _ _ _ => qts_nil) (fun _ _ _ _ _ _ => (q_listM rfl T.n_list (qv 9)))) (qg_lst (n := 3) rfl (qgs_cons (qg_name (i := 5) sc__law_handle.nd rfl (by first | exact Or.inl rfl | exact Or.inr rfl)) (qgs_cons (qg_name (i := 6) sc__law_handle.nd rfl (by first | exact Or.inl rfl | exact Or.inr rfl)) (qgs_cons (qg_name (i := 7) sc__law_handle.nd rfl (by first | exact Or.inl rfl | exact Or.inr rfl)) qgs_nil)))))
      (qss_cons (qs_asg (q_sub (q_ixs (qv 6) (qv 2) (fun _ _ => rfl)) q_int) (qg_sub (qv 6) (qv 2)))
      (qss_cons (qs_for PassesOwn.never rfl (qi_seq (q_ixs (q_ixs (qv 3) (qv 2) (fun _ _ => rfl)) (q_ixs (qv 5) (qv 2) (fun _ _ => rfl)) (fun _ _ => rfl))) (qg_name (i := 8) sc__law_handle.nd rfl (by first | exact Or.inl rfl | exact Or.inr rfl))
      (qss_one (qs_if (qt_ge (qv 8) (q_len rfl T.n_len (qv 3)))
      (qss_one (qs_asg (q_add (q_ixs (qv 7) (q_sub (qv 8) (q_len rfl T.n_len (qv 3))) (fun _ _ => rfl)) q_int) (qg_sub (qv 7) (q_sub (qv 8) (q_len rfl T.n_len (qv 3))))))
      (qss_one (qs_asg (q_add (q_ixs (qv 6) (qv 8) (fun _ _ => rfl)) q_int) (qg_sub (qv 6) (qv 8)))))))
      (qss_cons (qs_asg (q_add (q_ixs (qv 5) (qv 2) (fun _ _ => rfl)) q_int) (qg_sub (qv 5) (qv 2)))
      (qss_cons (qs_if (qt_eq hr (q_ixs (qv 5) (qv 2) (fun _ _ => rfl)) (q_len rfl T.n_len (q_ixs (qv 3) (qv 2) (fun _ _ => rfl))))
      (qss_one (qs_asg q_int (qg_sub (qv 5) (qv 2))))
      qss_nil)
      (qss_one (qs_ret (q_tup (qa_cons (q_tuple rfl T.n_tuple (qv 5)) (qa_cons (q_tuple rfl T.n_tuple (qv 6)) (qa_cons (q_tuple rfl T.n_tuple (qv 7)) qa_nil)))))))))))), fun xs M Q h => ?_⟩
  obtain ⟨a0, a1, a2, rfl, h⟩ := h
  rw [show startP ["_law_board_here", "_law_moment_here", "_law_wheel", "_law_wheels", "_law_cups", "_law_stand", "_law_waiting", "_law_held", "_law_end", "_law_row"] [a0, a1, a2] = [some a0, some a1, some a2, none, none, none, none, none, none, none] from rfl]
  clear hE hr hG
  obtain ⟨ws, c, ⟨st, wt, hd⟩, i, rfl, rfl, rfl, hb, hm, hi, h⟩ := h
  have l1 : st.length = ws.length := hm.l1
  have l2 : wt.length = ws.length := hm.l2
  have l3 : hd.length = c := hm.l3
  have hw0 : ws[i]? = some ws[i] := List.getElem?_eq_getElem hi
  have hs0 : st[i]? = some st[i] := List.getElem?_eq_getElem (by omega)
  have ht0 : wt[i]? = some wt[i] := List.getElem?_eq_getElem (by omega)
  obtain ⟨hs1, hs2⟩ := hm.at1 i _ _ hs0 hw0
  have hwm : ws[i] ∈ ws := List.getElem_mem hi
  generalize hwe : ws[i] = w at *
  generalize hse : st[i] = s0 at *
  generalize hte : wt[i] = t0 at *
  have hsl : s0.toNat < w.length := by omega
  have hst0 : w[s0.toNat]? = some w[s0.toNat] := List.getElem?_eq_getElem hsl
  have hsm : w[s0.toNat] ∈ w := List.getElem_mem hsl
  have hends := hb.e w hwm _ hsm
  generalize hee : w[s0.toNat] = es at *
  have hF : handleF ws (st, wt, hd) i = (st.set i ((s0 + 1) % (w.length : Int)), es.foldl (comeTo ws.length) (bump wt i (-1), hd)) := by
    unfold handleF
    simp only [List.getD_eq_getElem?_getD, hw0, hs0, Option.getD_some, hst0]
  rw [hF] at h
  simp only [encB, encM, encS]
  walk_at "pl2"
  refine ⟨_, rfl, by rw [sizeLine_eq]; simp, ?_⟩
  simp only [lcRun]
  walk_at "pl2"
  intro q5 hq5 q6 hq6 q7 hq7
  have n65 : q6 ≠ q5 := by rintro rfl; rw [put_same] at hq6; cases hq6
  have n76 : q7 ≠ q6 := by rintro rfl; rw [put_same] at hq7; cases hq7
  have n75 : q7 ≠ q5 := by rintro rfl; rw [put_ne (Ne.symm n65), put_same] at hq7; cases hq7
  have hq6' : M q6 = none := by rw [put_ne n65] at hq6; exact hq6
  have hq7' : M q7 = none := by rw [put_ne n76, put_ne n75] at hq7; exact hq7
  refine ⟨[.ref q5, .ref q6, .ref q7], rfl, rfl, ?_⟩
  walk_at "pl2"
  have e5 : put (put (put M q5 (.lst (st.map PV.int))) q6 (.lst (wt.map PV.int))) q7 (.lst (hd.map PV.int)) q5 = some (.lst (st.map PV.int)) := by rw [put_ne (Ne.symm n75), put_ne (Ne.symm n65)]; exact put_same
  have e6 : put (put (put M q5 (.lst (st.map PV.int))) q6 (.lst (wt.map PV.int))) q7 (.lst (hd.map PV.int)) q6 = some (.lst (wt.map PV.int)) := by rw [put_ne (Ne.symm n76)]; exact put_same
  have e7 : put (put (put M q5 (.lst (st.map PV.int))) q6 (.lst (wt.map PV.int))) q7 (.lst (hd.map PV.int)) q7 = some (.lst (hd.map PV.int)) := put_same
  have k0 : ∀ a o, M a = some o → a ≠ q5 ∧ a ≠ q6 ∧ a ≠ q7 ∧ put (put (put M q5 (.lst (st.map PV.int))) q6 (.lst (wt.map PV.int))) q7 (.lst (hd.map PV.int)) a = some o := fun a o e => by
    have g1 : a ≠ q5 := by rintro rfl; rw [hq5] at e; cases e
    have g2 : a ≠ q6 := by rintro rfl; rw [hq6'] at e; cases e
    have g3 : a ≠ q7 := by rintro rfl; rw [hq7'] at e; cases e
    exact ⟨g1, g2, g3, by rw [put_ne g3, put_ne g2, put_ne g1]; exact e⟩
  clear hq6 hq7
  generalize put (put (put M q5 (.lst (st.map PV.int))) q6 (.lst (wt.map PV.int))) q7 (.lst (hd.map PV.int)) = M0 at *
  rw [r_ixM e6]
  refine ⟨_, atI_map ht0, ?_⟩
  walk_at "pl2"
  rw [r_setM e6 (by rw [List.length_map]; omega), show t0 - 1 = t0 + -1 from rfl, map_bump ht0]
  refine ⟨_, atI_map hw0, ?_⟩
  rw [r_ixM (by rw [put_ne (Ne.symm n65)]; exact e5)]
  refine ⟨_, atI_map hs0, ?_⟩
  simp only [encW]
  walk_at "pl2"
  refine ⟨_, atI_natCast (j := s0.toNat) (by omega) (by rw [List.getElem?_map, hst0]; rfl), es.map PV.int, rfl, ?_⟩
  refine for_by (fun j σ M' => ∃ v8 v9 cur, σ = [some (PV.tup [PV.tup (ws.map encW), PV.int c]), some (PV.tup [PV.tup (st.map PV.int), PV.tup (wt.map PV.int), PV.tup (hd.map PV.int)]), some (PV.int i), some (PV.tup (ws.map encW)), some (PV.int c), some (.ref q5), some (.ref q6), some (.ref q7), v8, v9] ∧ M' q5 = some (.lst (st.map PV.int)) ∧ M' q6 = some (.lst (cur.1.map PV.int)) ∧ M' q7 = some (.lst (cur.2.map PV.int)) ∧ cur.1.length = ws.length ∧ cur.2.length = c ∧ (∀ a o, M a = some o → M' a = some o) ∧ (es.drop j).foldl (comeTo ws.length) cur = es.foldl (comeTo ws.length) (bump wt i (-1), hd)) ⟨_, _, (bump wt i (-1), hd), rfl, by rw [put_ne (Ne.symm n65)]; exact e5, put_same, by rw [put_ne n76]; exact e7, by simp [bump_len, l2], l3, fun a o e => by rw [put_ne (k0 a o e).2.1]; exact (k0 a o e).2.2.2, rfl⟩ ?_ ?_
  · rintro j x σ M2 hx ⟨v8, v9, cur, rfl, f0, f1, f2, g1, g2, k2, hf⟩ N hN
    rw [List.getElem?_map] at hx
    cases he : es[j]? with
    | none => rw [he] at hx; cases hx
    | some e =>
      rw [he] at hx
      cases hx
      have hj := (List.getElem?_eq_some_iff.mp he).1
      rw [List.drop_eq_getElem_cons hj, (List.getElem?_eq_some_iff.mp he).2, List.foldl_cons] at hf
      have hb1 := hends e (List.mem_of_getElem? he)
      walk_at "pl2"
      rw [List.length_map]
      by_cases hlt : (ws.length : Int) ≤ e
      · have hlt' : ¬ e < (ws.length : Int) := by omega
        rw [decide_eq_true hlt]
        walk_at "pl2"
        have hu : cur.2[(e - ws.length).toNat]? = some cur.2[(e - ws.length).toNat] := List.getElem?_eq_getElem (by omega)
        rw [show PV.int (e - ws.length) = PV.int (((e - ws.length).toNat : Nat) : Int) by congr 1; omega, r_ixM f2]
        refine ⟨_, atI_map hu, ?_⟩
        walk_at "pl2"
        rw [r_setM f2 (by rw [List.length_map]; omega), map_bump hu]
        refine hN _ _ ⟨_, _, comeTo ws.length cur e, rfl, ?_, ?_, ?_, ?_, ?_, fun a o ea => ?_, hf⟩
        · rw [put_ne (Ne.symm n75)]; exact f0
        · rw [put_ne (Ne.symm n76), f1]; unfold comeTo; rw [if_neg hlt']
        · rw [put_same]; unfold comeTo; rw [if_neg hlt']
        · rw [come_len.1]; exact g1
        · rw [come_len.2]; exact g2
        · rw [put_ne (k0 a o ea).2.2.1]; exact k2 a o ea
      · have hlt' : e < (ws.length : Int) := by omega
        rw [decide_eq_false hlt]
        walk_at "pl2"
        have hu : cur.1[e.toNat]? = some cur.1[e.toNat] := List.getElem?_eq_getElem (by omega)
        rw [show PV.int e = PV.int ((e.toNat : Nat) : Int) by congr 1; omega, r_ixM f1]
        refine ⟨_, atI_map hu, ?_⟩
        walk_at "pl2"
        rw [r_setM f1 (by rw [List.length_map]; omega), map_bump hu]
        refine hN _ _ ⟨_, _, comeTo ws.length cur e, rfl, ?_, ?_, ?_, ?_, ?_, fun a o ea => ?_, hf⟩
        · rw [put_ne (Ne.symm n65)]; exact f0
        · rw [put_same]; unfold comeTo; rw [if_pos hlt']
        · rw [put_ne n76, f2]; unfold comeTo; rw [if_pos hlt']
        · rw [come_len.1]; exact g1
        · rw [come_len.2]; exact g2
        · rw [put_ne (k0 a o ea).2.1]; exact k2 a o ea
  · rintro σ M2 ⟨v8, v9, cur, rfl, f0, f1, f2, g1, g2, k2, hf⟩
    rw [List.length_map, List.drop_length, List.foldl_nil] at hf
    rw [← hf] at h
    walk_at "pl2"
    rw [r_ixM f0]
    refine ⟨_, atI_map hs0, ?_⟩
    walk_at "pl2"
    rw [r_setM f0 (by rw [List.length_map]; omega)]
    rw [r_ixM put_same]
    refine ⟨.int (s0 + 1), by rw [atI_natCast (j := i) rfl (by rw [List.getElem?_set_self (by rw [List.length_map]; omega)])], ?_⟩
    walk_at "pl2"
    refine ⟨_, atI_map hw0, ?_⟩
    simp only [encW]
    walk_at "pl2"
    rw [List.length_map]
    have n6 := hb.n6
    have c4 := hb.c4
    have hwl := hb.w w hwm
    have fin : ∀ M4, M4 q5 = some (.lst ((st.set i ((s0 + 1) % (w.length : Int))).map PV.int)) → M4 q6 = some (.lst (cur.1.map PV.int)) → M4 q7 = some (.lst (cur.2.map PV.int)) → (∀ a o, M a = some o → M4 a = some o) → pTuple [.ref q5] M4 fun x M1 => pTuple [.ref q6] M1 fun x_1 M1 => pTuple [.ref q7] M1 fun x_2 M1 => 3 ≤ sizeLine ∧ Fewer Q (.tup [x, x_1, x_2]) M1 := fun M4 u0 u1 u2 k4 => by
      rw [r_tupleM u0]
      simp only [r_tupleM u1, r_tupleM u2, List.length_map, List.length_set]
      exact ⟨by rw [sizeLine_eq]; omega, by rw [sizeLine_eq]; omega, by rw [sizeLine_eq]; omega, by rw [sizeLine_eq]; decide, M, k4, h⟩
    by_cases hz : s0 + 1 = (w.length : Int)
    · rw [decide_eq_true hz]
      walk_at "pl2"
      rw [r_setM put_same (by rw [List.length_set, List.length_map]; omega)]
      refine fin _ ?_ ?_ ?_ fun a o ea => ?_
      · rw [put_same, List.set_set, hz, Int.emod_self, List.map_set]
      · rw [put_ne n65, put_ne n65]; exact f1
      · rw [put_ne n75, put_ne n75]; exact f2
      · rw [put_ne (k0 a o ea).1, put_ne (k0 a o ea).1]; exact k2 a o ea
    · rw [decide_eq_false hz]
      walk_at "pl2"
      refine fin _ ?_ ?_ ?_ fun a o ea => ?_
      · rw [put_same, Int.emod_eq_of_lt (by omega) (by omega), List.map_set]
      · rw [put_ne n65]; exact f1
      · rw [put_ne n75]; exact f2
      · rw [put_ne (k0 a o ea).1]; exact k2 a o ea
/-! ### _law_ready -/
abbrev sp__law_ready : Sp' := sp1 fun mo M Q _ => ∃ m : List Int × List Int × List Int, mo = encM m ∧ m.2.1.length ≤ 100 ∧ Q (.lst (((List.range m.2.1.length).filter fun i => decide (0 < m.2.1.getD i 0)).map fun i => .int ((i : Nat) : Int))) M
theorem ok__law_ready (T : Txt K mg) : FnP P w K mg base CX0 1 T.f__law_ready T.fd__law_ready ["_law_moment_here"] sp__law_ready := by
  refine fnp_of T.F__law_ready sc__law_ready (fun xs M Q E h => sp1_len h) fun cdv A outer s H E B hG hr E' hE => ⟨_, qss_nox
    (qss_one (qs_ret (q_lc (own := [("_law_wheel", 1), ("_law_many", 2)]) (tg := .tp [.nm 1, .nm 2]) rfl sc__law_ready.nd (qi_enum rfl T.n_enumerate (qa_cons (q_ixs (qv 0) q_int (fun _ _ => rfl)) qa_nil)) (blkOk_by (own := [("_law_wheel", 1), ("_law_many", 2)]) (by rfl)) (fun _ _ _ _ _ => (pg_tup rfl (pgs_cons (pg_name (i := 1) sc__law_ready.nd rfl (by first | exact Or.inl rfl | exact Or.inr rfl)) (pgs_cons (pg_name (i := 2) sc__law_ready.nd rfl (by first | exact Or.inl rfl | exact Or.inr rfl)) pgs_nil)))) (fun _ _ _ _ _ _ => (qts_one (qt_gt (qv 2) q_int))) (fun _ _ _ _ _ _ => (qv 1))))), fun xs M Q h => ?_⟩
  obtain ⟨a0, rfl, h⟩ := h
  rw [show startP ["_law_moment_here", "_law_wheel", "_law_many"] [a0] = [some a0, none, none] from rfl]
  clear hE hr hG
  obtain ⟨⟨st, wt, hd⟩, rfl, hl, h⟩ := h
  rw [show encM (st, wt, hd) = .tup [encS st, .tup (wt.map PV.int), encS hd] from rfl]
  walk_at "pl2"
  refine ⟨_, rfl, by rw [List.length_map, numP_length, List.length_map, sizeLine_eq]; simp only at hl; omega, lc_by (fun j acc M' => M' = M ∧ acc = ((List.range j).filter fun i => decide (0 < wt.getD i 0)).map fun i => PV.int ((i : Nat) : Int)) ⟨rfl, rfl⟩ ?_ ?_⟩
  · rintro j x acc M1 hx ⟨rfl, rfl⟩ N hN
    rw [List.getElem?_map, numP_get, List.getElem?_map] at hx
    cases he : wt[j]? with
    | none => rw [he] at hx; cases hx
    | some t =>
      rw [he] at hx
      cases hx
      walk_at "pl2"
      have ht : wt.getD j 0 = t := by rw [List.getD_eq_getElem?_getD, he]; rfl
      by_cases hp : 0 < t
      · rw [decide_eq_true hp]
        walk_at "pl2"
        refine hN _ _ ⟨rfl, ?_⟩
        rw [List.range_succ, List.filter_append, List.map_append, List.filter_cons_of_pos (by rw [ht]; exact decide_eq_true hp)]
        simp
      · rw [decide_eq_false hp]
        walk_at "pl2"
        refine hN _ _ ⟨rfl, ?_⟩
        rw [List.range_succ, List.filter_append, List.map_append, List.filter_cons_of_neg (by rw [ht]; simpa using hp)]
        simp
  · rintro acc M1 ⟨rfl, rfl⟩
    rw [List.length_map, numP_length, List.length_map]
    exact Fewer.of h
/-! ### _law_moved -/
abbrev sp__law_moved : Sp' := sp2 fun x o M Q _ => ∃ xs od, (x = .tup xs ∨ x = .lst xs) ∧ o = encN od ∧ Ord xs.length od ∧ xs.length ≤ 100 ∧ Q (.tup (moved od xs .non)) M
theorem ok__law_moved (T : Txt K mg) : FnP P w K mg base CX0 1 T.f__law_moved T.fd__law_moved ["_law_some", "_law_order"] sp__law_moved := by
  refine fnp_of T.F__law_moved sc__law_moved (fun xs M Q E h => sp2_len h) fun cdv A outer s H E B hG hr E' hE => ⟨_, qss_nox
    (qss_cons (qs_set (i := 2) sc__law_moved.nd rfl (Or.inl rfl) (q_mulM (q_lst (qa_cons q_non qa_nil)) (q_len rfl T.n_len (qv 0))))
      (qss_cons (qs_for PassesOwn.never rfl (qi_enum rfl T.n_enumerate (qa_cons (qv 1) qa_nil)) (qg_tup (n := 2) rfl (qgs_cons (qg_name (i := 3) sc__law_moved.nd rfl (by first | exact Or.inl rfl | exact Or.inr rfl)) (qgs_cons (qg_name (i := 4) sc__law_moved.nd rfl (by first | exact Or.inl rfl | exact Or.inr rfl)) qgs_nil)))
      (qss_one (qs_asg (q_ixs (qv 0) (qv 3) (fun _ _ => rfl)) (qg_sub (qv 2) (qv 4)))))
      (qss_one (qs_ret (q_tuple rfl T.n_tuple (qv 2)))))), fun xs M Q h => ?_⟩
  obtain ⟨a0, a1, rfl, h⟩ := h
  rw [show startP ["_law_some", "_law_order", "_law_found", "_law_at", "_law_place"] [a0, a1] = [some a0, some a1, none, none, none] from rfl]
  clear hE hr hG
  obtain ⟨xs, od, hs0, rfl, ho, hl, h⟩ := h
  have hol := ho.len
  have hs : asSeq M a0 = some xs := by rcases hs0 with rfl | rfl <;> rfl
  have hln : ∀ Q' : QV, pLen [a0] M Q' = Q' (.int (xs.length : Nat)) M := fun Q' => by
    rcases hs0 with rfl | rfl
    · exact r_len_tup
    · exact r_len_lst
  simp only [encN]
  walk_at "pl2"
  rw [hln]
  walk_at "pl2"
  refine ⟨by rw [sizeLine_eq]; decide, _, rfl, by omega, by omega, by rw [List.length_singleton, sizeLine_eq]; omega, fun q hq => ⟨_, rfl, ?_⟩⟩
  have hrep : repP ((xs.length : Int)).toNat [PV.non] = (List.range xs.length).map fun _ => PV.non := by
    rw [Int.toNat_natCast]
    unfold repP
    generalize xs.length = n
    induction n with
    | zero => rfl
    | succ n ih => rw [List.replicate_succ', List.flatten_append, ih, List.range_succ, List.map_append]; rfl
  rw [hrep]
  refine for_by (fun j σ M' => ∃ v3 v4, σ = [some a0, some (.lst (od.map fun i => PV.int ((i : Nat) : Int))), some (.ref q), v3, v4] ∧ M' = put M q (.lst ((List.range xs.length).map fun t => if od.idxOf t < j then xs.getD (od.idxOf t) .non else .non))) ⟨_, _, rfl, by simp⟩ ?_ ?_
  · rintro j x σ M1 hx ⟨v3, v4, rfl, rfl⟩ N hN
    rw [List.getElem?_map, numP_get, List.getElem?_map] at hx
    cases he : od[j]? with
    | none => rw [he] at hx; cases hx
    | some t =>
      rw [he] at hx
      cases hx
      have hj := (List.getElem?_eq_some_iff.mp he).1
      have ht : od.getD j 0 = t := by rw [List.getD_eq_getElem?_getD, he]; rfl
      have htl : t < xs.length := ht ▸ ho.lt (show j < xs.length by omega)
      walk_at "pl2"
      have hix : ∀ M' (Q' : QV), Q' (xs.getD j .non) M' → pIx a0 (.int ((0 + j : Nat) : Int)) M' Q' := fun M' Q' hq' => by
        have hat : atI xs ((0 + j : Nat) : Int) = some (xs.getD j .non) := by
          rw [Nat.zero_add]
          exact atI_natCast (j := j) rfl (by rw [List.getD_eq_getElem?_getD, List.getElem?_eq_getElem (show j < xs.length by omega)]; rfl)
        rcases hs0 with rfl | rfl
        · rw [r_ix_tup]; exact ⟨_, hat, hq'⟩
        · rw [r_ix_lst]; exact ⟨_, hat, hq'⟩
      refine hix _ _ ?_
      rw [r_setM put_same (by rw [List.length_map, List.length_range]; exact htl), put_put]
      refine hN _ _ ⟨_, _, rfl, ?_⟩
      congr 2
      apply List.ext_getElem?
      intro a
      rw [List.getElem?_set, List.length_map, List.length_range]
      by_cases ha : t = a
      · subst ha
        rw [if_pos rfl, if_pos htl, List.getElem?_map, List.getElem?_range htl]
        have : od.idxOf t = j := by rw [← ht]; exact ho.idx_at (show j < xs.length by omega)
        simp [this]
      · rw [if_neg ha, List.getElem?_map, List.getElem?_map]
        by_cases hal : a < xs.length
        · rw [List.getElem?_range hal]
          have h1 : od.idxOf a ≠ j := fun z => ha (by rw [← ht, ← z]; exact ho.at_idx hal)
          simp only [Option.map_some]
          congr 1
          by_cases h2 : od.idxOf a < j
          · rw [if_pos h2, if_pos (by omega)]
          · rw [if_neg h2, if_neg (by omega)]
        · rw [List.getElem?_eq_none (by rw [List.length_range]; omega)]; rfl
  · rintro σ M1 ⟨v3, v4, rfl, rfl⟩
    walk_at "pl2"
    rw [r_tupleM put_same]
    refine ⟨by rw [List.length_map, List.length_range, sizeLine_eq]; omega, M, fun a o e => by rw [put_ne (by rintro rfl; rw [hq] at e; cases e)]; exact e, ?_⟩
    have e : ((List.range xs.length).map fun t => if od.idxOf t < (List.map PV.tup (numP 0 (od.map fun i => PV.int ((i : Nat) : Int)))).length then xs.getD (od.idxOf t) .non else .non) = moved od xs .non := by
      unfold moved
      refine List.map_congr_left fun t ht => ?_
      have := ho.idx_lt (List.mem_range.mp ht)
      rw [List.length_map, numP_length, List.length_map, if_pos (by omega)]
    rw [e]; exact h
/-! ### is_among -/
abbrev sp_is_among : Sp' := sp3 fun x lo hi M Q _ => match lo, hi with
  | .int l, .int u => x.isK = true ∧ Q (.bl (isAmong x l u)) M
  | _, _ => False
theorem ok_is_among (T : Txt K mg) : FnP P w K mg base CX0 2 T.f_is_among T.fd_is_among ["thing", "low", "high"] sp_is_among := by
  have D_is_whole : FnP P w K mg base CX0 1 T.f_is_whole T.fd_is_whole ["thing"] sp_is_whole := (ok_is_whole T).mono (by decide)
  refine fnp_of T.F_is_among sc_is_among (fun xs M Q E h => sp3_len h) fun cdv A outer s H E B hG hr E' hE => ⟨_, qss_nox
    (qss_one (qs_ret (q_and (q_call1 D_is_whole hG hr rfl T.g_is_whole T.F_is_whole.kp T.b_is_whole (qa_cons (qv 0) qa_nil)) (q_one (q_lele (qv 1) (qv 0) (qv 2)))))), fun xs M Q h => ?_⟩
  obtain ⟨a0, a1, a2, rfl, h⟩ := h
  rw [show startP ["thing", "low", "high"] [a0, a1, a2] = [some a0, some a1, some a2] from rfl]
  clear hE hr hG
  cases a1 <;> try exact h.elim
  cases a2 <;> try exact h.elim
  rename_i l u
  obtain ⟨h1, h⟩ := h
  walk_at "pl"
  refine ⟨h1, ?_⟩
  cases a0 with
  | int i =>
    simp only [isAmong] at h
    simp only [isWholeB]
    walk_at "pl"
    by_cases h2 : l ≤ i
    · rw [decide_eq_true h2] at h ⊢
      exact Fewer.of h
    · rw [decide_eq_false h2] at h ⊢
      exact Fewer.of h
  | _ => exact Fewer.of h
/-! ### are_counts -/
abbrev sp_are_counts : Sp' := sp2 fun x n M Q _ => ∃ k, n = .int k ∧ k ≤ 100 ∧ x.isK = true ∧ Q (.bl (isCounts x k)) M
theorem ok_are_counts (T : Txt K mg) : FnP P w K mg base CX0 2 T.f_are_counts T.fd_are_counts ["thing", "many"] sp_are_counts := by
  have D_is_row : FnP P w K mg base CX0 1 T.f_is_row T.fd_is_row ["thing", "low", "high"] sp_is_row := (ok_is_row T).mono (by decide)
  have D_is_whole : FnP P w K mg base CX0 1 T.f_is_whole T.fd_is_whole ["thing"] sp_is_whole := (ok_is_whole T).mono (by decide)
  refine fnp_of T.F_are_counts sc_are_counts (fun xs M Q E h => sp2_len h) fun cdv A outer s H E B hG hr E' hE => ⟨_, qss_nox
    (qss_one (qs_ret (q_and (q_call1 D_is_row hG hr rfl T.g_is_row T.F_is_row.kp T.b_is_row (qa_cons (qv 0) (qa_cons (qv 1) (qa_cons (qv 1) qa_nil)))) (q_one (q_all rfl rfl T.n_all (q_lc (own := [("one", 2)]) (tg := .nm 2) rfl sc_are_counts.nd (qi_seq (qv 0)) (blkOk_by (own := [("one", 2)]) (by rfl)) (fun _ _ _ _ _ => (pg_name (i := 2) sc_are_counts.nd rfl (by first | exact Or.inl rfl | exact Or.inr rfl))) (fun _ _ _ _ _ _ => qts_nil) (fun _ _ _ _ _ _ => (q_and (q_call1 D_is_whole hG hr rfl T.g_is_whole T.F_is_whole.kp T.b_is_whole (qa_cons (qv 2) qa_nil)) (q_one (q_ge (qv 2) q_int)))))))))), fun xs M Q h => ?_⟩
  obtain ⟨a0, a1, rfl, h⟩ := h
  rw [show startP ["thing", "many", "one"] [a0, a1] = [some a0, some a1, none] from rfl]
  clear hE hr hG
  obtain ⟨k, rfl, hk, hr, h⟩ := h
  walk_at "pl2"
  refine ⟨hr, ?_⟩
  unfold isCounts at h
  cases h2 : isRow a0 k k with
  | false =>
    rw [h2] at h
    exact Fewer.of h
  | true =>
    rw [h2, Bool.true_and] at h
    obtain ⟨xs, rfl, hx⟩ := isRow_len h2
    rw [isK_tup] at hr
    walk_at "pl2"
    refine ⟨xs, rfl, by rw [sizeLine_eq]; omega, lc_pure (fun e => .bl (isNat e)) xs [] (fun y hy N hN => ?_) ?_⟩
    · walk_at "pl2"
      refine ⟨areK_iff.mp hr y hy, ?_⟩
      cases y with
      | int i =>
        simp only [isWholeB]
        walk_at "pl2"
        exact hN
      | _ => exact hN
    · rw [List.nil_append, show (fun e => PV.bl (isNat e)) = PV.bl ∘ isNat from rfl, ← List.map_map, r_all, List.all_map]
      exact Fewer.of h
/-! ### gone_by -/
abbrev sp_gone_by : Sp' := sp3 fun bd mo ro M Q _ => ∃ ws c m row, bd = encB ws (c : Nat) ∧ mo = encM m ∧ ro = encR row ∧ Bd ws c ∧ Mo ws c m ∧ (∀ i ∈ row, i < ws.length) ∧ row.length ≤ 100000 ∧ Q (.tup [.int (((goneF ws m row).1 : Nat) : Int), encM (goneF ws m row).2]) M
theorem ok_gone_by (T : Txt K mg) : FnP P w K mg base CX0 2 T.f_gone_by T.fd_gone_by ["board", "moment", "row"] sp_gone_by := by
  have D_handled_by : FnP P w K mg base CX0 1 T.f_handled_by T.fd_handled_by ["board", "moment", "wheel"] sp_handled_by := (ok_handled_by T).mono (by decide)
  refine fnp_of T.F_gone_by sc_gone_by (fun xs M Q E h => sp3_len h) fun cdv A outer s H E B hG hr E' hE => ⟨_, qss_nox
    (qss_cons (qs_for PassesOwn.never rfl (qi_enum rfl T.n_enumerate (qa_cons (qv 2) qa_nil)) (qg_tup (n := 2) rfl (qgs_cons (qg_name (i := 3) sc_gone_by.nd rfl (by first | exact Or.inl rfl | exact Or.inr rfl)) (qgs_cons (qg_name (i := 4) sc_gone_by.nd rfl (by first | exact Or.inl rfl | exact Or.inr rfl)) qgs_nil)))
      (qss_cons (qs_if (qt_eq hr (q_ixs (q_ixs (qv 1) q_int (fun _ _ => rfl)) (qv 4) (fun _ _ => rfl)) q_int)
      (qss_one (qs_ret (q_tup (qa_cons (qv 3) (qa_cons (qv 1) qa_nil)))))
      qss_nil)
      (qss_one (qs_set (i := 1) sc_gone_by.nd rfl (Or.inl rfl) (q_call1 D_handled_by hG hr rfl T.g_handled_by T.F_handled_by.kp T.b_handled_by (qa_cons (qv 0) (qa_cons (qv 1) (qa_cons (qv 4) qa_nil))))))))
      (qss_one (qs_ret (q_tup (qa_cons (q_len rfl T.n_len (qv 2)) (qa_cons (qv 1) qa_nil)))))), fun xs M Q h => ?_⟩
  obtain ⟨a0, a1, a2, rfl, h⟩ := h
  rw [show startP ["board", "moment", "row", "place", "wheel"] [a0, a1, a2] = [some a0, some a1, some a2, none, none] from rfl]
  clear hE hr hG
  obtain ⟨ws, c, m, row, rfl, rfl, rfl, hb, hm, hr, hl, h⟩ := h
  simp only [encR]
  walk_at "pl2"
  refine ⟨_, rfl, ?_⟩
  refine for_by (fun j σ M' => ∃ v3 v4 m', M' = M ∧ σ = [some (encB ws c), some (encM m'), some (.tup (row.map fun i => PV.int ((i : Nat) : Int))), v3, v4] ∧ Mo ws c m' ∧ (goneF ws m row).1 = j + (goneF ws m' (row.drop j)).1 ∧ (goneF ws m row).2 = (goneF ws m' (row.drop j)).2) ⟨_, _, m, rfl, rfl, hm, by simp, rfl⟩ ?_ ?_
  · rintro j x σ M1 hx ⟨v3, v4, m', rfl, rfl, hm', g1, g2⟩ N hN
    rw [List.getElem?_map, numP_get] at hx
    rw [List.getElem?_map] at hx
    cases he : row[j]? with
    | none => rw [he] at hx; cases hx
    | some i =>
      rw [he] at hx
      cases hx
      have hj := (List.getElem?_eq_some_iff.mp he).1
      have hi := hr i (List.mem_of_getElem? he)
      rw [List.drop_eq_getElem_cons hj, (List.getElem?_eq_some_iff.mp he).2] at g1 g2
      obtain ⟨st, wt, hd⟩ := m'
      have l2 : wt.length = ws.length := hm'.l2
      have ht0 : wt[i]? = some wt[i] := List.getElem?_eq_getElem (by omega)
      simp only [goneF, List.getD_eq_getElem?_getD, ht0, Option.getD_some] at g1 g2
      walk_at "pl2"
      rw [show encM (st, wt, hd) = .tup [encS st, encS wt, encS hd] from rfl, r_ix_tup]
      refine ⟨encS wt, rfl, ?_⟩
      rw [show encS wt = .tup (wt.map PV.int) from rfl, r_ix_tup]
      refine ⟨_, atI_map ht0, ?_⟩
      walk_at "pl2"
      by_cases hz : wt[i] = 0
      · rw [decide_eq_true hz]
        rw [if_pos hz] at g1 g2
        rw [g1, g2] at h
        refine ⟨by rw [sizeLine_eq]; decide, ?_⟩
        rw [Nat.zero_add]
        exact Fewer.of h
      · rw [decide_eq_false hz]
        rw [if_neg hz] at g1 g2
        refine ⟨ws, c, (st, wt, hd), i, rfl, rfl, rfl, hb, hm', hi, hN _ _ ⟨_, _, handleF ws (st, wt, hd) i, rfl, rfl, hm'.handle hb hi ?_, by omega, g2⟩⟩
        have := hm'.wt1 _ (List.getElem_mem (show i < wt.length by omega))
        simp only [List.getD_eq_getElem?_getD, ht0, Option.getD_some]
        omega
  · rintro σ M1 ⟨v3, v4, m', rfl, rfl, hm', g1, g2⟩
    rw [List.length_map, numP_length, List.length_map, List.drop_length] at g1 g2
    walk_at "pl2"
    rw [List.length_map]
    refine ⟨by rw [sizeLine_eq]; decide, ?_⟩
    rw [g1, g2] at h
    exact Fewer.of h
/-! ### _law_pick -/
abbrev sp__law_pick : Sp' := sp2 fun x l M Q _ => match x, l with
  | .ref p, .lst xs => 0 < xs.length ∧ xs.length ≤ 1000 ∧ ∃ k, k ≤ 1000000000000 ∧ PenAt M p k ∧ ∀ v M', v ∈ xs → PenAt M' p (k + 1) → But p M M' → Q v M'
  | _, _ => False
theorem ok__law_pick (T : Txt K mg) : FnP P w K mg base CX0 2 T.f__law_pick T.fd__law_pick ["_law_pen_here", "_law_some"] sp__law_pick := by
  have D__law_draw : FnP P w K mg base CX0 1 T.f__law_draw T.fd__law_draw ["_law_pen_here", "_law_many"] sp__law_draw := (ok__law_draw T).mono (by decide)
  refine fnp_of T.F__law_pick sc__law_pick (fun xs M Q E h => sp2_len h) fun cdv A outer s H E B hG hr E' hE => ⟨_, qss_nox
    (qss_one (qs_ret (q_ixs (qv 1) (q_call1 D__law_draw hG hr rfl T.g__law_draw T.F__law_draw.kp T.b__law_draw (qa_cons (qv 0) (qa_cons (q_len rfl T.n_len (qv 1)) qa_nil))) (fun _ _ => rfl)))), fun xs M Q h => ?_⟩
  obtain ⟨a0, a1, rfl, h⟩ := h
  rw [show startP ["_law_pen_here", "_law_some"] [a0, a1] = [some a0, some a1] from rfl]
  clear hE hr hG
  cases a0 <;> try exact h.elim
  cases a1 <;> try exact h.elim
  rename_i p xs
  obtain ⟨h1, h2, k, hk, hp, h⟩ := h
  walk_at "pl2"
  refine ⟨by omega, by omega, k, hk, hp, fun r M1 r0 r1 p1 b1 => ?_⟩
  obtain ⟨u, e, hu⟩ := atI_mem (xs := xs) r0 r1
  exact ⟨u, e, Fewer.of (h u M1 hu p1 b1)⟩
/-! ### _law_board -/
abbrev sp__law_board : Sp' := sp2 fun x n M Q _ => match x, n with
  | .ref p, .int m => 0 < m ∧ m ≤ 6 ∧ ∃ k, k ≤ 900000000000 ∧ PenAt M p k ∧ ∀ v M', isBoard v = true → PenAt M' p (k + 1000) → But p M M' → Q v M'
  | _, _ => False
theorem ok__law_board (T : Txt K mg) : FnP P w K mg base CX0 2 T.f__law_board T.fd__law_board ["_law_pen_here", "_law_most"] sp__law_board := by
  have D__law_draw : FnP P w K mg base CX0 1 T.f__law_draw T.fd__law_draw ["_law_pen_here", "_law_many"] sp__law_draw := (ok__law_draw T).mono (by decide)
  refine fnp_of T.F__law_board sc__law_board (fun xs M Q E h => sp2_len h) fun cdv A outer s H E B hG hr E' hE => ⟨_, qss_nox
    (qss_cons (qs_par (i := 2) (j := 3) rfl sc__law_board.nd rfl rfl (by decide) rfl rfl (qa_cons (q_add q_int (q_call1 D__law_draw hG hr rfl T.g__law_draw T.F__law_draw.kp T.b__law_draw (qa_cons (qv 0) (qa_cons (qv 1) qa_nil)))) (qa_cons (q_call1 D__law_draw hG hr rfl T.g__law_draw T.F__law_draw.kp T.b__law_draw (qa_cons (qv 0) (qa_cons q_int qa_nil))) qa_nil)) (by rfl))
      (qss_cons (qs_set (i := 4) sc__law_board.nd rfl (Or.inl rfl) (q_lstM qa_nil))
      (qss_cons (qs_for PassesOwn.never rfl (qi_range1 rfl T.n_range (qa_cons (qv 2) qa_nil)) (qg_name (i := 5) sc__law_board.nd rfl (by first | exact Or.inl rfl | exact Or.inr rfl))
      (qss_cons (qs_set (i := 6) sc__law_board.nd rfl (Or.inl rfl) (q_lstM qa_nil))
      (qss_cons (qs_for PassesOwn.never rfl (qi_range1 rfl T.n_range (qa_cons (q_add q_int (q_call1 D__law_draw hG hr rfl T.g__law_draw T.F__law_draw.kp T.b__law_draw (qa_cons (qv 0) (qa_cons q_int qa_nil)))) qa_nil)) (qg_name (i := 7) sc__law_board.nd rfl (by first | exact Or.inl rfl | exact Or.inr rfl))
      (qss_cons (qs_set (i := 8) sc__law_board.nd rfl (Or.inl rfl) (q_lstM qa_nil))
      (qss_cons (qs_for PassesOwn.never rfl (qi_range1 rfl T.n_range (qa_cons (q_ixs (q_lst (qa_cons q_int (qa_cons q_int (qa_cons q_int (qa_cons q_int (qa_cons q_int qa_nil)))))) (q_call1 D__law_draw hG hr rfl T.g__law_draw T.F__law_draw.kp T.b__law_draw (qa_cons (qv 0) (qa_cons q_int qa_nil))) (fun _ _ => rfl)) qa_nil)) (qg_name (i := 9) sc__law_board.nd rfl (by first | exact Or.inl rfl | exact Or.inr rfl))
      (qss_cons (qs_set (i := 10) sc__law_board.nd rfl (Or.inl rfl) (q_ifExp (qt_gt (q_call1 D__law_draw hG hr rfl T.g__law_draw T.F__law_draw.kp T.b__law_draw (qa_cons (qv 0) (qa_cons q_int qa_nil))) q_int) (q_add (q_add (qv 5) q_int) (q_call1 D__law_draw hG hr rfl T.g__law_draw T.F__law_draw.kp T.b__law_draw (qa_cons (qv 0) (qa_cons q_int qa_nil)))) (q_call1 D__law_draw hG hr rfl T.g__law_draw T.F__law_draw.kp T.b__law_draw (qa_cons (qv 0) (qa_cons (q_add (qv 2) (qv 3)) qa_nil)))))
      (qss_one (qs_expr (q_append (qv 8) (q_min2 rfl rfl T.n_min (qa_cons (qv 10) (qa_cons (q_max2 rfl rfl T.n_max (qa_cons q_int (qa_cons (q_sub (q_add (qv 2) (qv 3)) q_int) qa_nil))) qa_nil))))))))
      (qss_one (qs_expr (q_append (qv 6) (q_tuple rfl T.n_tuple (qv 8))))))))
      (qss_one (qs_expr (q_append (qv 4) (q_tuple rfl T.n_tuple (qv 6))))))))
      (qss_one (qs_ret (q_tup (qa_cons (q_tuple rfl T.n_tuple (qv 4)) (qa_cons (qv 3) qa_nil)))))))), fun xs M Q h => ?_⟩
  obtain ⟨a0, a1, rfl, h⟩ := h
  rw [show startP ["_law_pen_here", "_law_most", "_law_many", "_law_cups", "_law_wheels", "_law_wheel", "_law_steps", "_law_turn", "_law_ends", "_law_lap", "_law_far"] [a0, a1] = [some a0, some a1, none, none, none, none, none, none, none, none, none] from rfl]
  clear hE hr hG
  cases a0 <;> try exact h.elim
  cases a1 <;> try exact h.elim
  rename_i p m
  obtain ⟨hm, hm2, k, hk, hp, h⟩ := h
  walk_at "pl"
  refine ⟨hm, by omega, k, by omega, hp, fun r M1 hr0 hr1 hp1 hb1 => ⟨by decide, by decide, k + 1, by omega, hp1, fun c M2 hc0 hc1 hp2 hb2 => ⟨Nat.zero_le _, fun q hq => ⟨by omega, by omega, ?_⟩⟩⟩⟩
  have hqp : q ≠ p := hp2.ne hq
  have hM0 : ∀ o, M q = some o → False := fun o e => by rw [hb2 q hqp, hb1 q hqp, e] at hq; cases hq
  have hMq : M q = none := by cases e : M q with | none => rfl | some o => exact (hM0 o e).elim
  have K0 : Kp p M (put M2 q (.lst [])) := ((hb1.trans hb2).kp).put hMq
  have hP0 : PenAt (put M2 q (.lst [])) p (k + 2) := (hp2.put hqp).mono (by omega)
  have hQ0 : put M2 q (.lst []) q = some (.lst []) := put_same
  generalize put M2 q (.lst []) = M3 at *
  generalize hn : 1 + r = n at *
  clear hb1 hb2 hp1 hp2 hq M1 M2 hM0
  refine for_by (fun i σ M' => ∃ ws v5 v6 v7 v8 v9 v10, σ = [some (.ref p), some (.int m), some (.int n), some (.int c), some (.ref q), v5, v6, v7, v8, v9, v10] ∧ M' q = some (.lst ws) ∧ ws.length = i ∧ (∀ w ∈ ws, isWheel w (n + c) = true) ∧ PenAt M' p (k + 2 + 100 * (i : Nat)) ∧ Kp p M M') ⟨[], _, _, _, _, _, _, rfl, hQ0, rfl, by simp, hP0.mono (by omega), K0⟩ ?_ ?_
  · rintro i x σ M4 hx ⟨ws, v5, v6, v7, v8, v9, v10, rfl, e4, l4, w4, p4, k4⟩ N hN
    obtain ⟨hi, rfl⟩ := rgP_at hx
    walk_at "pl"
    refine ⟨Nat.zero_le _, fun q6 hq6 => ?_⟩
    have hq6p : q6 ≠ p := p4.ne hq6
    have hne : q6 ≠ q := by rintro rfl; rw [e4] at hq6; cases hq6
    refine ⟨by decide, by decide, _, ?_, p4.put hq6p, fun r5 M5 h50 h51 p5 b5 => ⟨by omega, by omega, ?_⟩⟩
    · omega
    have K5 : Kp p M4 M5 := (Kp.refl.put hq6).but b5
    have e5 : M5 q6 = some (.lst []) := by rw [b5 q6 hq6p]; exact put_same
    clear b5
    refine for_by (fun j σ M' => ∃ ss v7 v8 v9 v10, σ = [some (.ref p), some (.int m), some (.int n), some (.int c), some (.ref q), some (.int (0 + (i : Nat))), some (.ref q6), v7, v8, v9, v10] ∧ M' q6 = some (.lst ss) ∧ ss.length = j ∧ (∀ w ∈ ss, isStep w (n + c) = true) ∧ PenAt M' p (k + 2 + 100 * (i : Nat) + 1 + 8 * (j : Nat)) ∧ Kp p M4 M') ⟨[], _, _, _, _, rfl, e5, rfl, by simp, p5.mono (by omega), K5⟩ ?_ ?_
    · rintro j x σ M6 hx ⟨ss, v7, v8, v9, v10, rfl, e6, l6, w6, p6, k6⟩ N' hN'
      obtain ⟨hj, rfl⟩ := rgP_at hx
      walk_at "pl"
      refine ⟨Nat.zero_le _, fun q8 hq8 => ⟨by rw [sizeLine_eq]; decide, by decide, by decide, _, ?_, p6.put (p6.ne hq8), fun r7 M7 h70 h71 p7 b7 => ?_⟩⟩
      · omega
      have hq8p : q8 ≠ p := p6.ne hq8
      have hne8 : q8 ≠ q6 := by rintro rfl; rw [e6] at hq8; cases hq8
      have K7 : Kp p M6 M7 := (Kp.refl.put hq8).but b7
      have e7 : M7 q8 = some (.lst []) := by rw [b7 q8 hq8p]; exact put_same
      clear b7
      have ht : ∃ t : Int, atI [PV.int 0, PV.int 1, PV.int 1, PV.int 2, PV.int 3] r7 = some (.int t) ∧ 0 ≤ t ∧ t ≤ 3 := by
        have : r7 = 0 ∨ r7 = 1 ∨ r7 = 2 ∨ r7 = 3 ∨ r7 = 4 := by omega
        rcases this with rfl | rfl | rfl | rfl | rfl
        · exact ⟨0, rfl, by decide, by decide⟩
        · exact ⟨1, rfl, by decide, by decide⟩
        · exact ⟨1, rfl, by decide, by decide⟩
        · exact ⟨2, rfl, by decide, by decide⟩
        · exact ⟨3, rfl, by decide, by decide⟩
      obtain ⟨t, et, ht0, ht3⟩ := ht
      refine ⟨.int t, et, by omega, by omega, ?_⟩
      refine for_by (fun l σ M' => ∃ es v9 v10, σ = [some (.ref p), some (.int m), some (.int n), some (.int c), some (.ref q), some (.int (0 + (i : Nat))), some (.ref q6), some (.int (0 + (j : Nat))), some (.ref q8), v9, v10] ∧ M' q8 = some (.lst es) ∧ es.length = l ∧ (∀ w ∈ es, isAmong w 0 (n + c - 1) = true) ∧ PenAt M' p (k + 2 + 100 * (i : Nat) + 1 + 8 * (j : Nat) + 1 + 2 * (l : Nat)) ∧ Kp p M6 M') ⟨[], _, _, rfl, e7, rfl, by simp, p7.mono (by omega), K7⟩ ?_ ?_
      · rintro l x σ M8 hx ⟨es, v9, v10, rfl, e8, l8, w8, p8, k8⟩ N'' hN''
        obtain ⟨hl, rfl⟩ := rgP_at hx
        have fin : ∀ (f : Int) (M9 : PM), 0 ≤ f → PenAt M9 p (k + 2 + 100 * (i : Nat) + 1 + 8 * (j : Nat) + 1 + 2 * (l : Nat) + 1 + 1) → But p M8 M9 → isL (.ref q8) M9 ∧ pAppend (.ref q8) [.int (if (if n + c - 1 > 0 then n + c - 1 else 0) < f then (if n + c - 1 > 0 then n + c - 1 else 0) else f)] M9 fun x M1 => N'' [some (.ref p), some (.int m), some (.int n), some (.int c), some (.ref q), some (.int (0 + (i : Nat))), some (.ref q6), some (.int (0 + (j : Nat))), some (.ref q8), some (.int (0 + (l : Nat))), some (.int f)] M1 := by
          intro f M9 hf p9 b9
          refine r_appM (xs := es) (by rw [b9 q8 hq8p]; exact e8) (by rw [sizeLine_eq]; omega) (hN'' _ _ ⟨_, _, _, rfl, put_same, by rw [List.length_append]; simp [l8], ?_, (p9.put hq8p).mono (by omega), (k8.but b9).put hq8⟩)
          intro w hw
          rcases List.mem_append.mp hw with hw | hw
          · exact w8 w hw
          · rw [List.mem_singleton] at hw
            subst hw
            simp only [isAmong, Bool.and_eq_true, decide_eq_true_eq]
            split <;> split <;> omega
        walk_at "pl"
        refine ⟨by decide, by decide, _, ?_, p8, fun r8 M9 h80 h81 p9 b9 => ?_⟩
        · omega
        by_cases hr8 : 0 < r8
        · rw [decide_eq_true hr8]
          walk_at "pl"
          refine ⟨by decide, by decide, _, ?_, p9, fun r9 M10 h90 h91 p10 b10 => ?_⟩
          · omega
          exact fin _ _ (by omega) p10 (b9.trans b10)
        · rw [decide_eq_false hr8]
          walk_at "pl"
          refine ⟨by omega, by omega, _, ?_, p9, fun r9 M10 h90 h91 p10 b10 => ?_⟩
          · omega
          exact fin _ _ (by omega) p10 (b9.trans b10)
      · rintro σ M8 ⟨es, v9, v10, rfl, e8, l8, w8, p8, k8⟩
        rw [rgP_length] at l8 p8
        walk_at "pl"
        rw [r_tupleM e8]
        have e6' : M8 q6 = some (.lst ss) := k8 q6 hq6p _ e6
        have hst : isStep (.tup es) (n + c) = true := by
          simp only [isStep, isRow, Bool.and_eq_true, decide_eq_true_eq, l8, List.all_eq_true]
          exact ⟨⟨by omega, by omega⟩, w8⟩
        refine ⟨(r_appM (Q := fun _ _ => True) (y := .non) e6' (by rw [sizeLine_eq]; omega) trivial).1, by rw [sizeLine_eq]; omega, (r_appM e6' (by rw [sizeLine_eq]; omega) (hN' _ _ ⟨_, _, _, _, _, rfl, put_same, by rw [List.length_append]; simp [l6], ?_, (p8.put hq6p).mono (by omega), (k6.trans k8).put hq6⟩)).2⟩
        intro w hw
        rcases List.mem_append.mp hw with hw | hw
        · exact w6 w hw
        · rw [List.mem_singleton] at hw
          subst hw
          exact hst
    · rintro σ M6 ⟨ss, v7, v8, v9, v10, rfl, e6, l6, w6, p6, k6⟩
      rw [rgP_length] at l6 p6
      walk_at "pl"
      rw [r_tupleM e6]
      have e4' : M6 q = some (.lst ws) := k6 q hqp _ e4
      have hst : isWheel (.tup ss) (n + c) = true := by
        simp only [isWheel, isRow, Bool.and_eq_true, decide_eq_true_eq, l6, List.all_eq_true]
        exact ⟨⟨by omega, by omega⟩, w6⟩
      refine ⟨(r_appM (Q := fun _ _ => True) (y := .non) e4' (by rw [sizeLine_eq]; omega) trivial).1, by rw [sizeLine_eq]; omega, (r_appM e4' (by rw [sizeLine_eq]; omega) (hN _ _ ⟨_, _, _, _, _, _, _, rfl, put_same, by rw [List.length_append]; simp [l4], ?_, (p6.put hqp).mono (by omega), (k4.trans k6).put hMq⟩)).2⟩
      intro w hw
      rcases List.mem_append.mp hw with hw | hw
      · exact w4 w hw
      · rw [List.mem_singleton] at hw
        subst hw
        exact hst
  · rintro σ M4 ⟨ws, v5, v6, v7, v8, v9, v10, rfl, e4, l4, w4, p4, k4⟩
    rw [rgP_length] at l4 p4
    walk_at "pl"
    rw [r_tupleM e4]
    refine ⟨by rw [sizeLine_eq]; omega, by rw [sizeLine_eq]; decide, pen_back k4 (h _ _ ?_ ((pen_now p4).mono (by omega)) but_now)⟩
    simp only [isBoard, isRow, isAmong, Bool.and_eq_true, decide_eq_true_eq, l4, List.all_eq_true]
    refine ⟨⟨⟨by omega, by omega⟩, by omega, by omega⟩, ?_⟩
    rw [show ((n.toNat : Nat) : Int) = n by omega]
    exact w4
/-! ### _law_moment -/
abbrev sp__law_moment : Sp' := sp3 fun x bd n M Q _ => match x, n with
  | .ref p, .int mo => ∃ ws c k, bd = encB ws ((c : Nat) : Int) ∧ Bd ws c ∧ 0 ≤ mo ∧ mo ≤ 100 ∧ k ≤ 900000000000 ∧ PenAt M p k ∧ ∀ m M', Mo ws c m → (∀ x ∈ m.2.1, x ≤ 100) → (∀ x ∈ m.2.2, x ≤ 100) → PenAt M' p (k + 100) → But p M M' → Q (encM m) M'
  | _, _ => False
theorem ok__law_moment (T : Txt K mg) : FnP P w K mg base CX0 2 T.f__law_moment T.fd__law_moment ["_law_pen_here", "_law_board_here", "_law_most"] sp__law_moment := by
  have D__law_draw : FnP P w K mg base CX0 1 T.f__law_draw T.fd__law_draw ["_law_pen_here", "_law_many"] sp__law_draw := (ok__law_draw T).mono (by decide)
  refine fnp_of T.F__law_moment sc__law_moment (fun xs M Q E h => sp3_len h) fun cdv A outer s H E B hG hr E' hE => ⟨_, qss_nox
    (qss_cons (qs_set (i := 3) sc__law_moment.nd rfl (Or.inl rfl) (q_tuple rfl T.n_tuple (q_lc (own := [("_law_wheel", 5)]) (tg := .nm 5) rfl sc__law_moment.nd (qi_seq (q_ixs (qv 1) q_int (fun _ _ => rfl))) (blkOk_by (own := [("_law_wheel", 5)]) (by rfl)) (fun _ _ _ _ _ => (pg_name (i := 5) sc__law_moment.nd rfl (by first | exact Or.inl rfl | exact Or.inr rfl))) (fun _ _ _ _ _ _ => qts_nil) (fun _ _ _ _ _ _ => (q_call1 D__law_draw hG hr rfl T.g__law_draw T.F__law_draw.kp T.b__law_draw (qa_cons (qv 0) (qa_cons (q_len rfl T.n_len (qv 5)) qa_nil)))))))
      (qss_cons (qs_set (i := 4) sc__law_moment.nd rfl (Or.inl rfl) (q_tuple rfl T.n_tuple (q_lc (own := [("_law_wheel", 5)]) (tg := .nm 5) rfl sc__law_moment.nd (qi_seq (q_ixs (qv 1) q_int (fun _ _ => rfl))) (blkOk_by (own := [("_law_wheel", 5)]) (by rfl)) (fun _ _ _ _ _ => (pg_name (i := 5) sc__law_moment.nd rfl (by first | exact Or.inl rfl | exact Or.inr rfl))) (fun _ _ _ _ _ _ => qts_nil) (fun _ _ _ _ _ _ => (q_ixs (q_lst (qa_cons q_int (qa_cons q_int (qa_cons (q_call1 D__law_draw hG hr rfl T.g__law_draw T.F__law_draw.kp T.b__law_draw (qa_cons (qv 0) (qa_cons (q_add (qv 2) q_int) qa_nil))) qa_nil)))) (q_call1 D__law_draw hG hr rfl T.g__law_draw T.F__law_draw.kp T.b__law_draw (qa_cons (qv 0) (qa_cons q_int qa_nil))) (fun _ _ => rfl))))))
      (qss_one (qs_ret (q_tup (qa_cons (qv 3) (qa_cons (qv 4) (qa_cons (q_tuple rfl T.n_tuple (q_lc (own := [("_law_cup", 6)]) (tg := .nm 6) rfl sc__law_moment.nd (qi_range1 rfl T.n_range (qa_cons (q_ixs (qv 1) q_int (fun _ _ => rfl)) qa_nil)) (blkOk_by (own := [("_law_cup", 6)]) (by rfl)) (fun _ _ _ _ _ => (pg_name (i := 6) sc__law_moment.nd rfl (by first | exact Or.inl rfl | exact Or.inr rfl))) (fun _ _ _ _ _ _ => qts_nil) (fun _ _ _ _ _ _ => (q_call1 D__law_draw hG hr rfl T.g__law_draw T.F__law_draw.kp T.b__law_draw (qa_cons (qv 0) (qa_cons q_int qa_nil)))))) qa_nil)))))))), fun xs M Q h => ?_⟩
  obtain ⟨a0, a1, a2, rfl, h⟩ := h
  rw [show startP ["_law_pen_here", "_law_board_here", "_law_most", "_law_stand", "_law_waiting", "_law_wheel", "_law_cup"] [a0, a1, a2] = [some a0, some a1, some a2, none, none, none, none] from rfl]
  clear hE hr hG
  cases a0 <;> try exact h.elim
  cases a2 <;> try exact h.elim
  rename_i p mo
  obtain ⟨ws, c, k, rfl, hb, hm0, hm1, hk, hp, h⟩ := h
  have n6 := hb.n6
  have c4 := hb.c4
  simp only [encB]
  walk_at "pl2"
  refine ⟨_, rfl, by rw [List.length_map, sizeLine_eq]; omega, lc_by (fun j acc M' => ∃ st : List Int, acc = st.map PV.int ∧ st.length = j ∧ (∀ (i : Nat) (s : Int) (w : List (List Int)), st[i]? = some s → ws[i]? = some w → 0 ≤ s ∧ s < (w.length : Int)) ∧ PenAt M' p (k + (j : Nat)) ∧ But p M M') ⟨[], rfl, rfl, by simp, hp.mono (by omega), .refl⟩ ?_ ?_⟩
  · rintro j x acc M1 hx ⟨st, rfl, g1, g2, g3, g4⟩ N hN
    rw [List.getElem?_map] at hx
    cases he : ws[j]? with
    | none => rw [he] at hx; cases hx
    | some w =>
      rw [he] at hx
      cases hx
      have hj := (List.getElem?_eq_some_iff.mp he).1
      have hwl := hb.w w (List.mem_of_getElem? he)
      simp only [encW]
      walk_at "pl2"
      rw [List.length_map]
      refine ⟨by omega, by omega, _, ?_, g3, fun r M2 r0 r1 p2 b2 => hN _ _ ⟨st ++ [r], by simp, by simp [g1], fun i s w' hs hw => ?_, p2.mono (by omega), g4.trans b2⟩⟩
      · omega
      · rw [List.getElem?_append] at hs
        split at hs
        · exact g2 i s w' hs hw
        · rename_i hni
          have : i = st.length := by
            have := (List.getElem?_eq_some_iff.mp hs).1
            simp at this
            omega
          subst this
          rw [g1, he] at hw
          cases hw
          simp at hs
          subst hs
          exact ⟨r0, r1⟩
  rintro acc M1 ⟨st, rfl, s1, s2, s3, s4⟩
  rw [List.length_map] at s1 s3
  walk_at "pl2"
  refine ⟨by rw [List.length_map, sizeLine_eq]; omega, _, rfl, by rw [List.length_map, sizeLine_eq]; omega, lc_by (fun j acc M' => ∃ wt : List Int, acc = wt.map PV.int ∧ wt.length = j ∧ (∀ x ∈ wt, 0 ≤ x ∧ x ≤ 100) ∧ PenAt M' p (k + (ws.length : Nat) + 2 * (j : Nat)) ∧ But p M M') ⟨[], rfl, rfl, by simp, s3.mono (by omega), s4⟩ ?_ ?_⟩
  · rintro j x acc M2 hx ⟨wt, rfl, g1, g2, g3, g4⟩ N hN
    have hj := (List.getElem?_eq_some_iff.mp hx).1
    rw [List.length_map] at hj
    walk_at "pl2"
    refine ⟨by omega, by omega, _, ?_, g3, fun r M3 r0 r1 p2 b2 => ⟨by rw [sizeLine_eq]; decide, by decide, by decide, _, ?_, p2, fun r2 M4 q0 q1 p4 b4 => ?_⟩⟩
    · omega
    · omega
    have fin : ∀ t : Int, 0 ≤ t → t ≤ 100 → N (wt.map PV.int ++ [.int t]) M4 := fun t t0 t1 => hN _ _ ⟨wt ++ [t], by simp, by simp [g1], fun x hx => by
      rcases List.mem_append.mp hx with hx | hx
      · exact g2 x hx
      · rw [List.mem_singleton] at hx; subst hx; exact ⟨t0, t1⟩, p4.mono (by omega), g4.trans (b2.trans b4)⟩
    have : r2 = 0 ∨ r2 = 1 ∨ r2 = 2 := by omega
    rcases this with rfl | rfl | rfl
    · exact ⟨_, rfl, fin 0 (by decide) (by decide)⟩
    · exact ⟨_, rfl, fin 1 (by decide) (by decide)⟩
    · exact ⟨_, rfl, fin r r0 (by omega)⟩
  rintro acc M2 ⟨wt, rfl, t1, t2, t3, t4⟩
  rw [List.length_map] at t1 t3
  refine ⟨by rw [List.length_map, sizeLine_eq]; omega, by omega, by omega, by rw [rgP_length, sizeLine_eq]; omega, lc_by (fun j acc M' => ∃ hd : List Int, acc = hd.map PV.int ∧ hd.length = j ∧ (∀ x ∈ hd, 0 ≤ x ∧ x ≤ 100) ∧ PenAt M' p (k + 3 * (ws.length : Nat) + (j : Nat)) ∧ But p M M') ⟨[], rfl, rfl, by simp, t3.mono (by omega), t4⟩ ?_ ?_⟩
  · rintro j x acc M3 hx ⟨hd, rfl, g1, g2, g3, g4⟩ N hN
    obtain ⟨hj, rfl⟩ := rgP_at hx
    walk_at "pl2"
    refine ⟨by decide, by decide, _, ?_, g3, fun r M4 r0 r1 p2 b2 => hN _ _ ⟨hd ++ [r], by simp, by simp [g1], fun x hx => ?_, p2.mono (by omega), g4.trans b2⟩⟩
    · omega
    · rcases List.mem_append.mp hx with hx | hx
      · exact g2 x hx
      · rw [List.mem_singleton] at hx; subst hx; exact ⟨r0, by omega⟩
  rintro acc M3 ⟨hd, rfl, u1, u2, u3, u4⟩
  rw [rgP_length] at u1 u3
  refine ⟨by rw [List.length_map, sizeLine_eq]; omega, by rw [sizeLine_eq]; decide, Fewer.of (h (st, wt, hd) M3 ⟨show st.length = ws.length by omega, show wt.length = ws.length by omega, show hd.length = c by omega, s2, fun x hx => (t2 x hx).1, fun x hx => (u2 x hx).1⟩ (fun x hx => (t2 x hx).2) (fun x hx => (u2 x hx).2) (u3.mono (by omega)) u4)⟩
/-! ### _law_mixed -/
abbrev sp__law_mixed : Sp' := sp2 fun x n M Q _ => match x, n with
  | .ref p, .int m => 0 ≤ m ∧ m ≤ 100 ∧ ∃ k, k ≤ 900000000000 ∧ PenAt M p k ∧ ∀ o M', Ord m.toNat o → PenAt M' p (k + m) → But p M M' → Q (encN o) M'
  | _, _ => False
theorem ok__law_mixed (T : Txt K mg) : FnP P w K mg base CX0 2 T.f__law_mixed T.fd__law_mixed ["_law_pen_here", "_law_many"] sp__law_mixed := by
  have D__law_draw : FnP P w K mg base CX0 1 T.f__law_draw T.fd__law_draw ["_law_pen_here", "_law_many"] sp__law_draw := (ok__law_draw T).mono (by decide)
  refine fnp_of T.F__law_mixed sc__law_mixed (fun xs M Q E h => sp2_len h) fun cdv A outer s H E B hG hr E' hE => ⟨_, qss_nox
    (qss_cons (qs_set (i := 2) sc__law_mixed.nd rfl (Or.inr rfl) (q_listRgM rfl rfl T.n_list rfl T.n_range (qv 1)))
      (qss_one (qs_ret (q_lc (own := [("_law_turn", 3)]) (tg := .nm 3) rfl sc__law_mixed.nd (qi_range1 rfl T.n_range (qa_cons (qv 1) qa_nil)) (blkOk_by (own := [("_law_turn", 3)]) (by rfl)) (fun _ _ _ _ _ => (pg_name (i := 3) sc__law_mixed.nd rfl (by first | exact Or.inl rfl | exact Or.inr rfl))) (fun _ _ _ _ _ _ => qts_nil) (fun _ _ _ _ _ _ => (q_popAt (qv 2) (q_call1 D__law_draw hG hr rfl T.g__law_draw T.F__law_draw.kp T.b__law_draw (qa_cons (qv 0) (qa_cons (q_len rfl T.n_len (qv 2)) qa_nil))))))))), fun xs M Q h => ?_⟩
  obtain ⟨a0, a1, rfl, h⟩ := h
  rw [show startP ["_law_pen_here", "_law_many", "_law_left", "_law_turn"] [a0, a1] = [some a0, some a1, none, none] from rfl]
  clear hE hr hG
  cases a0 <;> try exact h.elim
  cases a1 <;> try exact h.elim
  rename_i p m
  obtain ⟨hm, hm2, k, hk, hp, h⟩ := h
  walk_at "pl2"
  refine ⟨by omega, hm, fun q hq => ⟨by omega, by omega, by rw [rgP_length, sizeLine_eq]; omega, ?_⟩⟩
  have hqp := hp.ne hq
  have e0 : rgP 0 m.toNat = (List.range m.toNat).map fun i => PV.int ((i : Nat) : Int) := by
    unfold rgP
    exact List.map_congr_left fun i _ => by rw [Int.zero_add]
  refine lc_by (fun j acc M' => ∃ dn lf : List Nat, acc = dn.map (fun i => PV.int ((i : Nat) : Int)) ∧ M' q = some (.lst (lf.map fun i => PV.int ((i : Nat) : Int))) ∧ (dn ++ lf).Perm (List.range m.toNat) ∧ dn.length = j ∧ PenAt M' p (k + (j : Nat)) ∧ ∀ a, a ≠ p → a ≠ q → M' a = M a) ⟨[], List.range m.toNat, rfl, by rw [put_same, e0], List.Perm.refl _, rfl, (hp.put hqp).mono (by omega), fun a _ ha => put_ne ha⟩ ?_ ?_
  · rintro j x acc M1 hx ⟨dn, lf, rfl, g1, g2, g3, g4, g5⟩ N hN
    obtain ⟨hj, rfl⟩ := rgP_at hx
    have hlen := g2.length_eq
    rw [List.length_append, List.length_range] at hlen
    walk_at "pl2"
    refine ⟨⟨_, asL_ref g1⟩, ?_⟩
    rw [r_lenM g1]
    walk_at "pl2"
    rw [List.length_map]
    refine ⟨by omega, by omega, _, ?_, g4, fun r M2 r0 r1 p2 b2 => ?_⟩
    · omega
    have hr : r.toNat < lf.length := by omega
    refine ⟨_, PV.int ((lf[r.toNat] : Nat) : Int), by rw [b2 q hqp]; exact g1, r0, by omega, by rw [List.getElem?_map, List.getElem?_eq_getElem hr]; rfl, ?_⟩
    refine hN _ _ ⟨dn ++ [lf[r.toNat]], lf.eraseIdx r.toNat, by simp, by rw [put_same, erase_map], ?_, by simp [g3], (p2.put hqp).mono (by omega), fun a h1 h2 => by rw [put_ne h2, b2 a h1]; exact g5 a h1 h2⟩
    refine List.Perm.trans ?_ g2
    rw [List.append_assoc]
    exact List.Perm.append_left dn (erase_perm' lf r.toNat hr)
  · rintro acc M1 ⟨dn, lf, rfl, g1, g2, g3, g4, g5⟩
    rw [rgP_length] at g3 g4
    have hlen := g2.length_eq
    rw [List.length_append, List.length_range] at hlen
    have hlf : lf = [] := List.length_eq_zero_iff.mp (by omega)
    subst hlf
    rw [List.append_nil] at g2
    refine pen_back (fun a ha o e => ?_) (h dn _ g2 ((pen_now g4).mono (by omega)) but_now)
    have hne : a ≠ q := by rintro rfl; rw [hq] at e; cases e
    rw [g5 a ha hne]; exact e
/-! ### _law_named -/
abbrev sp__law_named : Sp' := sp3 fun bd o cu M Q _ => ∃ ws c od cd, bd = encB ws ((c : Nat) : Int) ∧ o = encN od ∧ cu = encN cd ∧ Bd ws c ∧ Ord ws.length od ∧ Ord c cd ∧ Q (encB (nmB od cd ws) ((c : Nat) : Int)) M
theorem ok__law_named (T : Txt K mg) : FnP P w K mg base CX0 2 T.f__law_named T.fd__law_named ["_law_board_here", "_law_order", "_law_cups"] sp__law_named := by
  have D__law_moved : FnP P w K mg base CX0 1 T.f__law_moved T.fd__law_moved ["_law_some", "_law_order"] sp__law_moved := (ok__law_moved T).mono (by decide)
  refine fnp_of T.F__law_named sc__law_named (fun xs M Q E h => sp3_len h) fun cdv A outer s H E B hG hr E' hE => ⟨_, qss_nox
    (qss_cons (qs_set (i := 3) sc__law_named.nd rfl (Or.inr rfl) (q_add (qv 1) (q_lc (own := [("_law_place", 6)]) (tg := .nm 6) rfl sc__law_named.nd (qi_seq (qv 2)) (blkOk_by (own := [("_law_place", 6)]) (by rfl)) (fun _ _ _ _ _ => (pg_name (i := 6) sc__law_named.nd rfl (by first | exact Or.inl rfl | exact Or.inr rfl))) (fun _ _ _ _ _ _ => qts_nil) (fun _ _ _ _ _ _ => (q_add (q_len rfl T.n_len (qv 1)) (qv 6))))))
      (qss_cons (qs_setLc (i := 4) (own := [("_law_wheel", 5)]) (tg := .nm 5) rfl sc__law_named.nd rfl rfl (sw_true rfl rfl rfl (by decide +kernel)) (qi_seq (q_ixs (qv 0) q_int (fun _ _ => rfl))) (blkOk_by (own := [("_law_wheel", 5)]) (by rfl)) (fun _ _ _ _ _ => (pg_name (i := 5) sc__law_named.nd rfl (by first | exact Or.inl rfl | exact Or.inr rfl))) (fun _ _ _ _ _ _ => qts_nil) (fun _ _ _ _ _ _ => (q_tuple rfl T.n_tuple (q_lc (own := [("_law_step", 7)]) (tg := .nm 7) rfl sc__law_named.nd (qi_seq (qv 5)) (blkOk_by (own := [("_law_step", 7)]) (by rfl)) (fun _ _ _ _ _ => (pg_name (i := 7) sc__law_named.nd rfl (by first | exact Or.inl rfl | exact Or.inr rfl))) (fun _ _ _ _ _ _ => qts_nil) (fun _ _ _ _ _ _ => (q_tuple rfl T.n_tuple (q_lc (own := [("_law_end", 8)]) (tg := .nm 8) rfl sc__law_named.nd (qi_seq (qv 7)) (blkOk_by (own := [("_law_end", 8)]) (by rfl)) (fun _ _ _ _ _ => (pg_name (i := 8) sc__law_named.nd rfl (by first | exact Or.inl rfl | exact Or.inr rfl))) (fun _ _ _ _ _ _ => qts_nil) (fun _ _ _ _ _ _ => (q_ixs (qv 3) (qv 8) (fun _ _ => rfl))))))))))
      (qss_one (qs_ret (q_tup (qa_cons (q_call1 D__law_moved hG hr rfl T.g__law_moved T.F__law_moved.kp T.b__law_moved (qa_cons (qv 4) (qa_cons (qv 1) qa_nil))) (qa_cons (q_ixs (qv 0) q_int (fun _ _ => rfl)) qa_nil))))))), fun xs M Q h => ?_⟩
  obtain ⟨a0, a1, a2, rfl, h⟩ := h
  rw [show startP ["_law_board_here", "_law_order", "_law_cups", "_law_names", "_law_wheels", "_law_wheel", "_law_place", "_law_step", "_law_end"] [a0, a1, a2] = [some a0, some a1, some a2, none, none, none, none, none, none] from rfl]
  clear hE hr hG
  obtain ⟨ws, c, od, cd, rfl, rfl, rfl, hb, ho, hc, h⟩ := h
  have n6 := hb.n6
  have c4 := hb.c4
  have lo := ho.len
  have lc := hc.len
  simp only [encB, encN]
  walk_at "pl2"
  refine ⟨_, rfl, by rw [List.length_map, sizeLine_eq]; omega, lc_pure (fun x => match x with | .int i => .int ((ws.length : Int) + i) | x => x) _ [] (fun x hx N hN => ?_) ?_⟩
  · obtain ⟨i, _, rfl⟩ := List.mem_map.mp hx
    walk_at "pl2"
    rw [List.length_map, lo]
    exact hN
  rw [List.nil_append, List.map_map]
  refine ⟨by simp only [List.length_map]; rw [sizeLine_eq]; omega, _, rfl, by rw [List.length_map, sizeLine_eq]; omega, ?_⟩
  have hnm : ∀ e : Int, 0 ≤ e → e < (ws.length : Int) + c → atI (od.map (fun i => PV.int ((i : Nat) : Int)) ++ cd.map ((fun x => match x with | .int i => .int ((ws.length : Int) + i) | x => x) ∘ fun i => PV.int ((i : Nat) : Int))) e = some (.int (nmE ws.length od cd e)) := fun e e0 e1 => by
    refine atI_natCast (j := e.toNat) (by omega) ?_
    rw [List.getElem?_append, List.length_map]
    unfold nmE
    by_cases q : e < (ws.length : Int)
    · rw [if_pos (by omega), if_pos q, List.getElem?_map, List.getD_eq_getElem?_getD, List.getElem?_eq_getElem (by omega)]; rfl
    · rw [if_neg (by omega), if_neg q, List.getElem?_map, List.getD_eq_getElem?_getD, show e.toNat - od.length = (e - (ws.length : Int)).toNat by omega, List.getElem?_eq_getElem (by omega)]; rfl
  generalize od.map (fun i => PV.int ((i : Nat) : Int)) ++ cd.map ((fun x => match x with | .int i => .int ((ws.length : Int) + i) | x => x) ∘ fun i => PV.int ((i : Nat) : Int)) = nms at *
  refine lc_ix ws.length (fun i => encW (nmW ws.length od cd (ws.getD i []))) (List.length_map _) (fun i x hi hx N hN => ?_) ?_
  · rw [wsE_at hi] at hx
    cases hx
    have hw := List.mem_of_getElem? (wsD_at hi)
    have hwl := hb.w _ hw
    simp only [encW]
    walk_at "pl2"
    refine ⟨_, rfl, by rw [List.length_map, sizeLine_eq]; omega, lc_ix (ws.getD i []).length (fun j => encS (((ws.getD i []).getD j []).map (nmE ws.length od cd))) (List.length_map _) (fun j y hj hy N2 hN2 => ?_) ?_⟩
    · have hsj : (ws.getD i [])[j]? = some ((ws.getD i []).getD j []) := by rw [List.getD_eq_getElem?_getD (l := ws.getD i []), List.getElem?_eq_getElem hj]; rfl
      rw [List.getElem?_map, hsj] at hy
      cases hy
      have hsm := List.mem_of_getElem? hsj
      have hsl := hb.s _ hw _ hsm
      have hee := hb.e _ hw _ hsm
      generalize (ws.getD i []).getD j [] = es at *
      simp only [encS]
      walk_at "pl2"
      refine ⟨_, rfl, by rw [List.length_map, sizeLine_eq]; omega, lc_ix es.length (fun t => .int (nmE ws.length od cd (es.getD t 0))) (List.length_map _) (fun t z ht hz N3 hN3 => ?_) ?_⟩
      · rw [mapI_at ht] at hz
        cases hz
        walk_at "pl2"
        have hm := hee _ (List.mem_of_getElem? (getD_at ht))
        exact ⟨_, hnm _ hm.1 hm.2, hN3⟩
      · rw [List.length_map, List.length_range]
        refine ⟨by rw [sizeLine_eq]; omega, ?_⟩
        have e : (List.range es.length).map (fun t => PV.int (nmE ws.length od cd (es.getD t 0))) = (es.map (nmE ws.length od cd)).map PV.int := by
          rw [List.map_map]
          apply List.ext_getElem?
          intro t
          rw [List.getElem?_map, List.getElem?_map]
          by_cases ht : t < es.length
          · rw [List.getElem?_range ht, getD_at ht]; rfl
          · rw [List.getElem?_eq_none (by rw [List.length_range]; omega), List.getElem?_eq_none (by omega)]; rfl
        rw [e]; exact hN2
    · rw [List.length_map, List.length_range]
      refine ⟨by rw [sizeLine_eq]; omega, ?_⟩
      have e : (List.range (ws.getD i []).length).map (fun j => encS (((ws.getD i []).getD j []).map (nmE ws.length od cd))) = (nmW ws.length od cd (ws.getD i [])).map encS := by
        unfold nmW
        rw [List.map_map]
        apply List.ext_getElem?
        intro t
        rw [List.getElem?_map, List.getElem?_map]
        by_cases ht : t < (ws.getD i []).length
        · rw [List.getElem?_range ht, show (ws.getD i [])[t]? = some ((ws.getD i []).getD t []) by rw [List.getD_eq_getElem?_getD (l := ws.getD i []), List.getElem?_eq_getElem ht]; rfl]; rfl
        · rw [List.getElem?_eq_none (by rw [List.length_range]; omega), List.getElem?_eq_none (by omega)]; rfl
      rw [e]; exact hN
  · have e : (List.range ws.length).map (fun i => encW (nmW ws.length od cd (ws.getD i []))) = (ws.map (nmW ws.length od cd)).map encW := by
      rw [List.map_map]
      apply List.ext_getElem?
      intro t
      rw [List.getElem?_map, List.getElem?_map]
      by_cases ht : t < ws.length
      · rw [List.getElem?_range ht, wsD_at ht]; rfl
      · rw [List.getElem?_eq_none (by rw [List.length_range]; omega), List.getElem?_eq_none (by omega)]; rfl
    rw [e]
    refine ⟨_, od, .inr rfl, rfl, by rw [List.length_map, List.length_map]; exact ho, by rw [List.length_map, List.length_map]; omega, ?_⟩
    have e2 : moved od ((ws.map (nmW ws.length od cd)).map encW) .non = (nmB od cd ws).map encW := by
      unfold nmB
      rw [← moved_map (f := encW) fun j hj => by rw [List.length_map] at hj ⊢; exact ho.idx_lt hj]
      unfold moved
      refine List.map_congr_left fun j hj => ?_
      rw [List.length_map, List.length_map] at hj
      have := ho.idx_lt (List.mem_range.mp hj)
      simp only [List.getD_eq_getElem?_getD]
      rw [List.getElem?_eq_getElem (by simp only [List.length_map]; exact this)]; rfl
    rw [e2]
    refine ⟨by rw [sizeLine_eq]; decide, ?_⟩
    exact Fewer.of h
/-! ### is_step -/
abbrev sp_is_step : Sp' := sp2 fun x n M Q _ => match n with
  | .int k => x.isK = true ∧ Q (.bl (isStep x k)) M
  | _ => False
theorem ok_is_step (T : Txt K mg) : FnP P w K mg base CX0 3 T.f_is_step T.fd_is_step ["thing", "ends"] sp_is_step := by
  have D_is_among : FnP P w K mg base CX0 2 T.f_is_among T.fd_is_among ["thing", "low", "high"] sp_is_among := (ok_is_among T).mono (by decide)
  have D_is_row : FnP P w K mg base CX0 2 T.f_is_row T.fd_is_row ["thing", "low", "high"] sp_is_row := (ok_is_row T).mono (by decide)
  refine fnp_of T.F_is_step sc_is_step (fun xs M Q E h => sp2_len h) fun cdv A outer s H E B hG hr E' hE => ⟨_, qss_nox
    (qss_one (qs_ret (q_and (q_call1 D_is_row hG hr rfl T.g_is_row T.F_is_row.kp T.b_is_row (qa_cons (qv 0) (qa_cons q_int (qa_cons (q_gint rfl T.c_MOST_ENDS) qa_nil)))) (q_one (q_all rfl rfl T.n_all (q_lc (own := [("end", 2)]) (tg := .nm 2) rfl sc_is_step.nd (qi_seq (qv 0)) (blkOk_by (own := [("end", 2)]) (by rfl)) (fun _ _ _ _ _ => (pg_name (i := 2) sc_is_step.nd rfl (by first | exact Or.inl rfl | exact Or.inr rfl))) (fun _ _ _ _ _ _ => qts_nil) (fun _ _ _ _ _ _ => (q_call1 D_is_among hG hr rfl T.g_is_among T.F_is_among.kp T.b_is_among (qa_cons (qv 2) (qa_cons q_int (qa_cons (q_sub (qv 1) q_int) qa_nil))))))))))), fun xs M Q h => ?_⟩
  obtain ⟨a0, a1, rfl, h⟩ := h
  rw [show startP ["thing", "ends", "end"] [a0, a1] = [some a0, some a1, none] from rfl]
  clear hE hr hG
  cases a1 <;> try exact h.elim
  rename_i k
  obtain ⟨h1, h⟩ := h
  walk_at "pl"
  refine ⟨h1, ?_⟩
  cases a0 with
  | tup xs =>
    simp only [isStep] at h
    cases h2 : isRow (.tup xs) 0 3 with
    | false =>
      rw [h2] at h
      exact Fewer.of h
    | true =>
      rw [h2, Bool.true_and] at h
      rw [isK_tup] at h1
      have hz : xs.length ≤ sizeLine := isRow_size h2 (by decide)
      walk_at "pl"
      refine ⟨xs, rfl, hz, lc_pure (fun e => .bl (isAmong e 0 (k - 1))) xs [] (fun x hx N hN => ?_) ?_⟩
      · walk_at "pl"
        exact ⟨areK_iff.mp h1 x hx, hN⟩
      · rw [List.nil_append, show (fun e => PV.bl (isAmong e 0 (k - 1))) = PV.bl ∘ (fun e => isAmong e 0 (k - 1)) from rfl, ← List.map_map, r_all, List.all_map]
        exact Fewer.of h
  | _ => exact Fewer.of h
/-! ### is_stand_by -/
abbrev sp_is_stand_by : Sp' := sp2 fun bd x M Q _ => ∃ ws c, bd = .tup [.tup ws, .int c] ∧ ws.length ≤ 6 ∧ (∀ w ∈ ws, ∃ ss, w = .tup ss) ∧ x.isK = true ∧ Q (.bl (isStand ws x)) M
theorem ok_is_stand_by (T : Txt K mg) : FnP P w K mg base CX0 3 T.f_is_stand_by T.fd_is_stand_by ["board", "thing"] sp_is_stand_by := by
  have D_is_among : FnP P w K mg base CX0 2 T.f_is_among T.fd_is_among ["thing", "low", "high"] sp_is_among := (ok_is_among T).mono (by decide)
  have D_is_row : FnP P w K mg base CX0 2 T.f_is_row T.fd_is_row ["thing", "low", "high"] sp_is_row := (ok_is_row T).mono (by decide)
  refine fnp_of T.F_is_stand_by sc_is_stand_by (fun xs M Q E h => sp2_len h) fun cdv A outer s H E B hG hr E' hE => ⟨_, qss_nox
    (qss_cons (qs_set (i := 2) sc_is_stand_by.nd rfl (Or.inl rfl) (q_ixs (qv 0) q_int (fun _ _ => rfl)))
      (qss_cons (qs_if (qt_not (qt_val (q_call1 D_is_row hG hr rfl T.g_is_row T.F_is_row.kp T.b_is_row (qa_cons (qv 1) (qa_cons (q_len rfl T.n_len (qv 2)) (qa_cons (q_len rfl T.n_len (qv 2)) qa_nil))))))
      (qss_one (qs_ret q_bl))
      qss_nil)
      (qss_one (qs_ret (q_all rfl rfl T.n_all (q_lc (own := [("at", 3), ("wheel", 4)]) (tg := .tp [.nm 3, .nm 4]) rfl sc_is_stand_by.nd (qi_zipS rfl T.n_zip (qa_cons (qv 1) (qa_cons (qv 2) qa_nil))) (blkOk_by (own := [("at", 3), ("wheel", 4)]) (by rfl)) (fun _ _ _ _ _ => (pg_tup rfl (pgs_cons (pg_name (i := 3) sc_is_stand_by.nd rfl (by first | exact Or.inl rfl | exact Or.inr rfl)) (pgs_cons (pg_name (i := 4) sc_is_stand_by.nd rfl (by first | exact Or.inl rfl | exact Or.inr rfl)) pgs_nil)))) (fun _ _ _ _ _ _ => qts_nil) (fun _ _ _ _ _ _ => (q_call1 D_is_among hG hr rfl T.g_is_among T.F_is_among.kp T.b_is_among (qa_cons (qv 3) (qa_cons q_int (qa_cons (q_sub (q_len rfl T.n_len (qv 4)) q_int) qa_nil))))))))))), fun xs M Q h => ?_⟩
  obtain ⟨a0, a1, rfl, h⟩ := h
  rw [show startP ["board", "thing", "wheels", "at", "wheel"] [a0, a1] = [some a0, some a1, none, none, none] from rfl]
  clear hE hr hG
  obtain ⟨ws, c, rfl, hl, hw, hr, h⟩ := h
  walk_at "pl2"
  refine ⟨hr, ?_⟩
  unfold isStand at h
  cases h2 : isRow a1 ws.length ws.length with
  | false =>
    rw [h2] at h
    exact Fewer.of h
  | true =>
    rw [h2, Bool.true_and] at h
    obtain ⟨xs, rfl, hx⟩ := isRow_len h2
    rw [isK_tup] at hr
    walk_at "pl2"
    refine ⟨xs, ws, rfl, rfl, by omega, ?_⟩
    have hz : ((zip2P xs ws).map PV.tup).length ≤ sizeLine := by
      unfold zip2P
      rw [List.length_map, List.length_zipWith, sizeLine_eq]; omega
    refine ⟨hz, lc_pure (fun r => .bl (match r with | .tup l => rowOk l | _ => false)) _ [] (fun r hm N hN => ?_) ?_⟩
    · obtain ⟨l, hl2, rfl⟩ := List.mem_map.mp hm
      obtain ⟨i, hi⟩ := List.getElem?_of_mem hl2
      unfold zip2P at hi
      rw [List.getElem?_zipWith] at hi
      cases e1 : xs[i]? <;> cases e2 : ws[i]? <;> rw [e1, e2] at hi <;> try (cases hi; done)
      rename_i y w
      cases hi
      obtain ⟨ss, rfl⟩ := hw w (List.mem_of_getElem? e2)
      walk_at "pl2"
      exact ⟨areK_get hr e1, hN⟩
    · rw [List.nil_append, List.map_map, show ((fun r => PV.bl (match r with | .tup l => rowOk l | _ => false)) ∘ PV.tup) = PV.bl ∘ rowOk from rfl, ← List.map_map, r_all, List.all_map]
      exact Fewer.of h
/-! ### is_wheel_of -/
abbrev sp_is_wheel_of : Sp' := sp2 fun bd x M Q _ => ∃ ws c, bd = .tup [.tup ws, .int c] ∧ x.isK = true ∧ Q (.bl (isAmong x 0 ((ws.length : Int) - 1))) M
theorem ok_is_wheel_of (T : Txt K mg) : FnP P w K mg base CX0 3 T.f_is_wheel_of T.fd_is_wheel_of ["board", "thing"] sp_is_wheel_of := by
  have D_is_among : FnP P w K mg base CX0 2 T.f_is_among T.fd_is_among ["thing", "low", "high"] sp_is_among := (ok_is_among T).mono (by decide)
  refine fnp_of T.F_is_wheel_of sc_is_wheel_of (fun xs M Q E h => sp2_len h) fun cdv A outer s H E B hG hr E' hE => ⟨_, qss_nox
    (qss_one (qs_ret (q_call1 D_is_among hG hr rfl T.g_is_among T.F_is_among.kp T.b_is_among (qa_cons (qv 1) (qa_cons q_int (qa_cons (q_sub (q_len rfl T.n_len (q_ixs (qv 0) q_int (fun _ _ => rfl))) q_int) qa_nil)))))), fun xs M Q h => ?_⟩
  obtain ⟨a0, a1, rfl, h⟩ := h
  rw [show startP ["board", "thing"] [a0, a1] = [some a0, some a1] from rfl]
  clear hE hr hG
  obtain ⟨ws, c, rfl, hr, h⟩ := h
  walk_at "pl2"
  exact ⟨hr, Fewer.of h⟩
/-! ### behind_by -/
abbrev sp_behind_by : Sp' := sp3 fun bd mo ro M Q _ => ∃ ws c m row, bd = encB ws (c : Nat) ∧ mo = encM m ∧ ro = encR row ∧ Bd ws c ∧ Mo ws c m ∧ (∀ i ∈ row, i < ws.length) ∧ row.length ≤ 100000 ∧ Q (if (goneF ws m row).1 = row.length then encM (goneF ws m row).2 else .non) M
theorem ok_behind_by (T : Txt K mg) : FnP P w K mg base CX0 3 T.f_behind_by T.fd_behind_by ["board", "moment", "row"] sp_behind_by := by
  have D_gone_by : FnP P w K mg base CX0 2 T.f_gone_by T.fd_gone_by ["board", "moment", "row"] sp_gone_by := (ok_gone_by T).mono (by decide)
  refine fnp_of T.F_behind_by sc_behind_by (fun xs M Q E h => sp3_len h) fun cdv A outer s H E B hG hr E' hE => ⟨_, qss_nox
    (qss_cons (qs_asg (q_call1 D_gone_by hG hr rfl T.g_gone_by T.F_gone_by.kp T.b_gone_by (qa_cons (qv 0) (qa_cons (qv 1) (qa_cons (qv 2) qa_nil)))) (qg_tup (n := 2) rfl (qgs_cons (qg_name (i := 3) sc_behind_by.nd rfl (by first | exact Or.inl rfl | exact Or.inr rfl)) (qgs_cons (qg_name (i := 4) sc_behind_by.nd rfl (by first | exact Or.inl rfl | exact Or.inr rfl)) qgs_nil))))
      (qss_one (qs_ret (q_ifExp (qt_eq hr (qv 3) (q_len rfl T.n_len (qv 2))) (qv 4) q_non)))), fun xs M Q h => ?_⟩
  obtain ⟨a0, a1, a2, rfl, h⟩ := h
  rw [show startP ["board", "moment", "row", "many", "later"] [a0, a1, a2] = [some a0, some a1, some a2, none, none] from rfl]
  clear hE hr hG
  obtain ⟨ws, c, m, row, rfl, rfl, rfl, hb, hm, hr, hl, h⟩ := h
  walk_at "pl2"
  refine ⟨ws, c, m, row, rfl, rfl, rfl, hb, hm, hr, hl, ?_⟩
  walk_at "pl2"
  by_cases hz : (goneF ws m row).1 = row.length
  · rw [if_pos hz] at h
    rw [decide_eq_true (by omega)]
    exact Fewer.of h
  · rw [if_neg hz] at h
    rw [decide_eq_false (by omega)]
    exact Fewer.of h
/-! ### _law_let_row -/
abbrev sp__law_let_row : Sp' := sp4 fun x bd mo n M Q _ => match x, n with
  | .ref p, .int most => ∃ ws c m k, bd = encB ws ((c : Nat) : Int) ∧ mo = encM m ∧ Bd ws c ∧ Mo ws c m ∧ 0 ≤ most ∧ most ≤ 1000 ∧ k ≤ 900000000000 ∧ PenAt M p k ∧ ∀ row m' M', Let ws m row m' → (∀ i ∈ row, i < ws.length) → (row.length : Int) ≤ most → PenAt M' p (k + most) → But p M M' → Q (.tup [encR row, encM m']) M'
  | _, _ => False
theorem ok__law_let_row (T : Txt K mg) : FnP P w K mg base CX0 3 T.f__law_let_row T.fd__law_let_row ["_law_pen_here", "_law_board_here", "_law_moment_here", "_law_most"] sp__law_let_row := by
  have D__law_handle : FnP P w K mg base CX0 2 T.f__law_handle T.fd__law_handle ["_law_board_here", "_law_moment_here", "_law_wheel"] sp__law_handle := (ok__law_handle T).mono (by decide)
  have D__law_pick : FnP P w K mg base CX0 2 T.f__law_pick T.fd__law_pick ["_law_pen_here", "_law_some"] sp__law_pick := (ok__law_pick T).mono (by decide)
  have D__law_ready : FnP P w K mg base CX0 2 T.f__law_ready T.fd__law_ready ["_law_moment_here"] sp__law_ready := (ok__law_ready T).mono (by decide)
  refine fnp_of T.F__law_let_row sc__law_let_row (fun xs M Q E h => sp4_len h) fun cdv A outer s H E B hG hr E' hE => ⟨_, qss_nox
    (qss_cons (qs_set (i := 4) sc__law_let_row.nd rfl (Or.inl rfl) (q_lstM qa_nil))
      (qss_cons (qs_for PassesOwn.never rfl (qi_range1 rfl T.n_range (qa_cons (qv 3) qa_nil)) (qg_name (i := 5) sc__law_let_row.nd rfl (by first | exact Or.inl rfl | exact Or.inr rfl))
      (qss_cons (qs_set (i := 6) sc__law_let_row.nd rfl (Or.inl rfl) (q_call1 D__law_ready hG hr rfl T.g__law_ready T.F__law_ready.kp T.b__law_ready (qa_cons (qv 2) qa_nil)))
      (qss_one (qs_if (qt_ne hr (qv 6) (q_lst qa_nil))
      (qss_cons (qs_expr (q_append (qv 4) (q_call1 D__law_pick hG hr rfl T.g__law_pick T.F__law_pick.kp T.b__law_pick (qa_cons (qv 0) (qa_cons (qv 6) qa_nil)))))
      (qss_one (qs_set (i := 2) sc__law_let_row.nd rfl (Or.inl rfl) (q_call1 D__law_handle hG hr rfl T.g__law_handle T.F__law_handle.kp T.b__law_handle (qa_cons (qv 1) (qa_cons (qv 2) (qa_cons (q_ixs (qv 4) (q_neg q_int) (fun _ _ => rfl)) qa_nil)))))))
      qss_nil))))
      (qss_one (qs_ret (q_tup (qa_cons (q_tuple rfl T.n_tuple (qv 4)) (qa_cons (qv 2) qa_nil))))))), fun xs M Q h => ?_⟩
  obtain ⟨a0, a1, a2, a3, rfl, h⟩ := h
  rw [show startP ["_law_pen_here", "_law_board_here", "_law_moment_here", "_law_most", "_law_row", "_law_turn", "_law_some"] [a0, a1, a2, a3] = [some a0, some a1, some a2, some a3, none, none, none] from rfl]
  clear hE hr hG
  cases a0 <;> try exact h.elim
  cases a3 <;> try exact h.elim
  rename_i p most
  obtain ⟨ws, c, m, k, rfl, rfl, hb, hm, hn0, hn1, hk, hp, h⟩ := h
  have n6 := hb.n6
  walk_at "pl2"
  refine ⟨by rw [sizeLine_eq]; decide, fun q hq => ⟨by omega, by omega, ?_⟩⟩
  have hqp := hp.ne hq
  refine for_by (fun j σ M' => ∃ v5 v6 row m', σ = [some (.ref p), some (encB ws c), some (encM m'), some (.int most), some (.ref q), v5, v6] ∧ M' q = some (.lst (row.map fun i => PV.int ((i : Nat) : Int))) ∧ Let ws m row m' ∧ (∀ i ∈ row, i < ws.length) ∧ row.length ≤ j ∧ PenAt M' p (k + (j : Nat)) ∧ (∀ a, a ≠ p → a ≠ q → M' a = M a)) ⟨_, _, [], m, rfl, put_same, let_nil, by simp, Nat.le_refl _, (hp.put hqp).mono (by omega), fun a _ ha => put_ne ha⟩ ?_ ?_
  · rintro j x σ M1 hx ⟨v5, v6, row, m', rfl, f1, f2, f3, f4, f5, f6⟩ N hN
    have hm' := hm.letm hb f3 f2
    obtain ⟨hj, rfl⟩ := rgP_at hx
    walk_at "pl2"
    refine ⟨m', rfl, by rw [hm'.l2]; omega, ?_⟩
    walk_at "pl2"
    generalize hS : ((List.range m'.2.1.length).filter fun i => decide (0 < m'.2.1.getD i 0)) = S
    rw [show pNe (PV.lst (S.map fun i => PV.int ((i : Nat) : Int))) (PV.lst []) = fun M Q => okP (PV.lst (S.map fun i => PV.int ((i : Nat) : Int))) ∧ okP (.lst []) ∧ Q (.bl (!eqP (PV.lst (S.map fun i => PV.int ((i : Nat) : Int))) (.lst []))) M from rfl]
    refine ⟨by decide, (Cm.lst (D := 0) fun x hx => by obtain ⟨a, _, rfl⟩ := List.mem_map.mp hx; exact .int).ok (by decide), (Cm.lst (D := 0) (by simp)).ok (by decide), ?_⟩
    rw [eqP_nil]
    have hl : S.length ≤ 6 := by
      rw [← hS]
      have := List.length_filter_le (fun i => decide (0 < m'.2.1.getD i 0)) (List.range m'.2.1.length)
      have l2' := hm'.l2
      rw [List.length_range] at this
      omega
    cases hE : S with
    | nil =>
      walk_at "pl2"
      exact hN _ _ ⟨_, _, row, m', rfl, f1, f2, f3, by omega, f5.mono (by omega), f6⟩
    | cons i0 r0 =>
      rw [← hE]
      walk_at "pl2"
      rw [if_pos (by rw [hE]; rfl)]
      have hlen : (S.map fun i => PV.int ((i : Nat) : Int)).length = S.length := List.length_map _
      refine ⟨⟨_, asL_ref f1⟩, by rw [hlen, hE]; simp, by rw [hlen]; omega, k + (j : Nat), by omega, f5, fun v M2 hv hp2 hb2 => ?_⟩
      obtain ⟨i, hi, rfl⟩ := List.mem_map.mp hv
      have f1' : M2 q = some (.lst (row.map fun i => PV.int ((i : Nat) : Int))) := by rw [hb2 q hqp]; exact f1
      refine ⟨_, f1', by rw [List.length_map, sizeLine_eq]; omega, ?_⟩
      walk_at "pl2"
      rw [r_ixM put_same]
      rw [← hS, List.mem_filter, List.mem_range, decide_eq_true_eq] at hi
      have l2' := hm'.l2
      have hi2 : i < ws.length := by omega
      refine ⟨_, atI_last, ws, c, m', i, rfl, rfl, rfl, hb, hm', hi2, hN _ _ ⟨_, _, row ++ [i], handleF ws m' i, rfl, by rw [put_same, List.map_append]; rfl, let_append.mpr ⟨m', f2, let_one (by omega)⟩, fun t ht => ?_, by rw [List.length_append, List.length_singleton]; omega, (hp2.put hqp).mono (by omega), fun a h1 h2 => ?_⟩⟩
      · rcases List.mem_append.mp ht with ht | ht
        · exact f3 t ht
        · rw [List.mem_singleton] at ht; rw [ht]; exact hi2
      · rw [put_ne h2, hb2 a h1]; exact f6 a h1 h2
  · rintro σ M1 ⟨v5, v6, row, m', rfl, f1, f2, f3, f4, f5, f6⟩
    rw [rgP_length] at f4 f5
    walk_at "pl2"
    rw [r_tupleM f1]
    refine ⟨by rw [List.length_map, sizeLine_eq]; omega, by rw [sizeLine_eq]; decide, pen_back (fun a ha o e => ?_) (h row m' _ f2 f3 (by omega) ((pen_now f5).mono (by omega)) but_now)⟩
    have hne : a ≠ q := by rintro rfl; rw [hq] at e; cases e
    rw [f6 a ha hne]; exact e
/-! ### is_wheel -/
abbrev sp_is_wheel : Sp' := sp2 fun x n M Q _ => match n with
  | .int k => x.isK = true ∧ Q (.bl (isWheel x k)) M
  | _ => False
theorem ok_is_wheel (T : Txt K mg) : FnP P w K mg base CX0 4 T.f_is_wheel T.fd_is_wheel ["thing", "ends"] sp_is_wheel := by
  have D_is_row : FnP P w K mg base CX0 3 T.f_is_row T.fd_is_row ["thing", "low", "high"] sp_is_row := (ok_is_row T).mono (by decide)
  have D_is_step : FnP P w K mg base CX0 3 T.f_is_step T.fd_is_step ["thing", "ends"] sp_is_step := (ok_is_step T).mono (by decide)
  refine fnp_of T.F_is_wheel sc_is_wheel (fun xs M Q E h => sp2_len h) fun cdv A outer s H E B hG hr E' hE => ⟨_, qss_nox
    (qss_one (qs_ret (q_and (q_call1 D_is_row hG hr rfl T.g_is_row T.F_is_row.kp T.b_is_row (qa_cons (qv 0) (qa_cons q_int (qa_cons (q_gint rfl T.c_MOST_STEPS) qa_nil)))) (q_one (q_all rfl rfl T.n_all (q_lc (own := [("step", 2)]) (tg := .nm 2) rfl sc_is_wheel.nd (qi_seq (qv 0)) (blkOk_by (own := [("step", 2)]) (by rfl)) (fun _ _ _ _ _ => (pg_name (i := 2) sc_is_wheel.nd rfl (by first | exact Or.inl rfl | exact Or.inr rfl))) (fun _ _ _ _ _ _ => qts_nil) (fun _ _ _ _ _ _ => (q_call1 D_is_step hG hr rfl T.g_is_step T.F_is_step.kp T.b_is_step (qa_cons (qv 2) (qa_cons (qv 1) qa_nil)))))))))), fun xs M Q h => ?_⟩
  obtain ⟨a0, a1, rfl, h⟩ := h
  rw [show startP ["thing", "ends", "step"] [a0, a1] = [some a0, some a1, none] from rfl]
  clear hE hr hG
  cases a1 <;> try exact h.elim
  rename_i k
  obtain ⟨h1, h⟩ := h
  walk_at "pl"
  refine ⟨h1, ?_⟩
  cases a0 with
  | tup xs =>
    simp only [isWheel] at h
    cases h2 : isRow (.tup xs) 1 4 with
    | false =>
      rw [h2] at h
      exact Fewer.of h
    | true =>
      rw [h2, Bool.true_and] at h
      rw [isK_tup] at h1
      have hz : xs.length ≤ sizeLine := isRow_size h2 (by decide)
      walk_at "pl"
      refine ⟨xs, rfl, hz, lc_pure (fun e => .bl (isStep e k)) xs [] (fun x hx N hN => ?_) ?_⟩
      · walk_at "pl"
        exact ⟨areK_iff.mp h1 x hx, hN⟩
      · rw [List.nil_append, show (fun e => PV.bl (isStep e k)) = PV.bl ∘ (fun e => isStep e k) from rfl, ← List.map_map, r_all, List.all_map]
        exact Fewer.of h
  | _ => exact Fewer.of h
/-! ### is_moment_by -/
abbrev sp_is_moment_by : Sp' := sp2 fun bd x M Q _ => ∃ ws c, bd = .tup [.tup ws, .int c] ∧ ws.length ≤ 6 ∧ c ≤ 4 ∧ (∀ w ∈ ws, ∃ ss, w = .tup ss) ∧ x.isK = true ∧ Q (.bl (isMoment ws c x)) M
theorem ok_is_moment_by (T : Txt K mg) : FnP P w K mg base CX0 4 T.f_is_moment_by T.fd_is_moment_by ["board", "thing"] sp_is_moment_by := by
  have D_are_counts : FnP P w K mg base CX0 3 T.f_are_counts T.fd_are_counts ["thing", "many"] sp_are_counts := (ok_are_counts T).mono (by decide)
  have D_is_row : FnP P w K mg base CX0 3 T.f_is_row T.fd_is_row ["thing", "low", "high"] sp_is_row := (ok_is_row T).mono (by decide)
  have D_is_stand_by : FnP P w K mg base CX0 3 T.f_is_stand_by T.fd_is_stand_by ["board", "thing"] sp_is_stand_by := (ok_is_stand_by T).mono (by decide)
  refine fnp_of T.F_is_moment_by sc_is_moment_by (fun xs M Q E h => sp2_len h) fun cdv A outer s H E B hG hr E' hE => ⟨_, qss_nox
    (qss_cons (qs_if (qw_pt (qw_or (qt_not (qt_val (q_call1 D_is_row hG hr rfl T.g_is_row T.F_is_row.kp T.b_is_row (qa_cons (qv 1) (qa_cons q_int (qa_cons q_int qa_nil)))))) (qw_or1 (qt_not (qt_val (q_call1 D_is_stand_by hG hr rfl T.g_is_stand_by T.F_is_stand_by.kp T.b_is_stand_by (qa_cons (qv 0) (qa_cons (q_ixs (qv 1) q_int (fun _ _ => rfl)) qa_nil))))))))
      (qss_one (qs_ret q_bl))
      qss_nil)
      (qss_one (qs_ret (q_and (q_call1 D_are_counts hG hr rfl T.g_are_counts T.F_are_counts.kp T.b_are_counts (qa_cons (q_ixs (qv 1) q_int (fun _ _ => rfl)) (qa_cons (q_len rfl T.n_len (q_ixs (qv 0) q_int (fun _ _ => rfl))) qa_nil))) (q_one (q_call1 D_are_counts hG hr rfl T.g_are_counts T.F_are_counts.kp T.b_are_counts (qa_cons (q_ixs (qv 1) q_int (fun _ _ => rfl)) (qa_cons (q_ixs (qv 0) q_int (fun _ _ => rfl)) qa_nil)))))))), fun xs M Q h => ?_⟩
  obtain ⟨a0, a1, rfl, h⟩ := h
  rw [show startP ["board", "thing"] [a0, a1] = [some a0, some a1] from rfl]
  clear hE hr hG
  obtain ⟨ws, c, rfl, hl, hc, hw, hr, h⟩ := h
  walk_at "pl2"
  refine ⟨hr, ?_⟩
  rcases isRow3 a1 with h2 | ⟨x, y, z, rfl⟩
  · rw [isMoment_no h2] at h
    rw [h2]
    exact Fewer.of h
  · rw [isK_tup, areK_iff] at hr
    rw [show isRow (.tup [x, y, z]) 3 3 = true from rfl]
    walk_at "pl2"
    refine ⟨ws, c, rfl, hl, hw, hr x (by simp), ?_⟩
    simp only [isMoment] at h
    cases h3 : isStand ws x with
    | false =>
      rw [h3] at h
      exact Fewer.of h
    | true =>
      rw [h3] at h
      walk_at "pl2"
      refine ⟨_, rfl, by omega, hr y (by simp), ?_⟩
      cases h4 : isCounts y ws.length with
      | false =>
        rw [h4] at h
        exact Fewer.of h
      | true =>
        rw [h4] at h
        simp only [at3_2, ex_eq, if_true]
        exact ⟨c, rfl, by omega, hr z (by simp), Fewer.of h⟩
/-! ### are_wheels -/
abbrev sp_are_wheels : Sp' := sp2 fun bd x M Q _ => ∃ ws c, bd = .tup [.tup ws, .int c] ∧ x.isK = true ∧ (∀ xs, x = .tup xs → xs.length ≤ 100000) ∧ Q (.bl (areWheels ws.length x)) M
theorem ok_are_wheels (T : Txt K mg) : FnP P w K mg base CX0 4 T.f_are_wheels T.fd_are_wheels ["board", "thing"] sp_are_wheels := by
  have D_is_wheel_of : FnP P w K mg base CX0 3 T.f_is_wheel_of T.fd_is_wheel_of ["board", "thing"] sp_is_wheel_of := (ok_is_wheel_of T).mono (by decide)
  refine fnp_of T.F_are_wheels sc_are_wheels (fun xs M Q E h => sp2_len h) fun cdv A outer s H E B hG hr E' hE => ⟨_, qss_nox
    (qss_one (qs_ret (q_and (q_isi rfl T.n_isinstance (qa_cons (qv 1) (qa_cons (q_bty (n := "tuple") rfl T.n_tuple (by decide +kernel)) qa_nil))) (q_one (q_all rfl rfl T.n_all (q_lc (own := [("one", 2)]) (tg := .nm 2) rfl sc_are_wheels.nd (qi_seq (qv 1)) (blkOk_by (own := [("one", 2)]) (by rfl)) (fun _ _ _ _ _ => (pg_name (i := 2) sc_are_wheels.nd rfl (by first | exact Or.inl rfl | exact Or.inr rfl))) (fun _ _ _ _ _ _ => qts_nil) (fun _ _ _ _ _ _ => (q_call1 D_is_wheel_of hG hr rfl T.g_is_wheel_of T.F_is_wheel_of.kp T.b_is_wheel_of (qa_cons (qv 0) (qa_cons (qv 2) qa_nil)))))))))), fun xs M Q h => ?_⟩
  obtain ⟨a0, a1, rfl, h⟩ := h
  rw [show startP ["board", "thing", "one"] [a0, a1] = [some a0, some a1, none] from rfl]
  clear hE hr hG
  obtain ⟨ws, c, rfl, hr, hz, h⟩ := h
  walk_at "pl2"
  simp only [pIsi, isiK_tuple hr]
  cases a1 with
  | tup xs =>
    simp only [isTupB]
    walk_at "pl2"
    rw [isK_tup] at hr
    have hz1 := hz xs rfl
    refine ⟨xs, rfl, by rw [sizeLine_eq]; omega, lc_pure (fun e => .bl (isAmong e 0 ((ws.length : Int) - 1))) xs [] (fun y hy N hN => ?_) ?_⟩
    · walk_at "pl2"
      exact ⟨ws, c, rfl, areK_iff.mp hr y hy, hN⟩
    · rw [List.nil_append, show (fun e => PV.bl (isAmong e 0 ((ws.length : Int) - 1))) = PV.bl ∘ (fun e => isAmong e 0 ((ws.length : Int) - 1)) from rfl, ← List.map_map, r_all, List.all_map]
      exact Fewer.of h
  | _ => exact Fewer.of h
/-! ### is_board -/
abbrev sp_is_board : Sp' := sp1 fun x M Q _ => x.isK = true ∧ Q (.bl (isBoard x)) M
theorem ok_is_board (T : Txt K mg) : FnP P w K mg base CX0 5 T.f_is_board T.fd_is_board ["thing"] sp_is_board := by
  have D_is_among : FnP P w K mg base CX0 4 T.f_is_among T.fd_is_among ["thing", "low", "high"] sp_is_among := (ok_is_among T).mono (by decide)
  have D_is_row : FnP P w K mg base CX0 4 T.f_is_row T.fd_is_row ["thing", "low", "high"] sp_is_row := (ok_is_row T).mono (by decide)
  have D_is_wheel : FnP P w K mg base CX0 4 T.f_is_wheel T.fd_is_wheel ["thing", "ends"] sp_is_wheel := (ok_is_wheel T).mono (by decide)
  refine fnp_of T.F_is_board sc_is_board (fun xs M Q E h => sp1_len h) fun cdv A outer s H E B hG hr E' hE => ⟨_, qss_nox
    (qss_cons (qs_if (qw_pt (qw_or (qt_not (qt_val (q_call1 D_is_row hG hr rfl T.g_is_row T.F_is_row.kp T.b_is_row (qa_cons (qv 0) (qa_cons q_int (qa_cons q_int qa_nil)))))) (qw_or (qt_not (qt_val (q_call1 D_is_row hG hr rfl T.g_is_row T.F_is_row.kp T.b_is_row (qa_cons (q_ixs (qv 0) q_int (fun _ _ => rfl)) (qa_cons q_int (qa_cons (q_gint rfl T.c_MOST_WHEELS) qa_nil)))))) (qw_or1 (qt_not (qt_val (q_call1 D_is_among hG hr rfl T.g_is_among T.F_is_among.kp T.b_is_among (qa_cons (q_ixs (qv 0) q_int (fun _ _ => rfl)) (qa_cons q_int (qa_cons (q_gint rfl T.c_MOST_CUPS) qa_nil))))))))))
      (qss_one (qs_ret q_bl))
      qss_nil)
      (qss_cons (qs_asg (qv 0) (qg_tup (n := 2) rfl (qgs_cons (qg_name (i := 1) sc_is_board.nd rfl (by first | exact Or.inl rfl | exact Or.inr rfl)) (qgs_cons (qg_name (i := 2) sc_is_board.nd rfl (by first | exact Or.inl rfl | exact Or.inr rfl)) qgs_nil))))
      (qss_one (qs_ret (q_all rfl rfl T.n_all (q_lc (own := [("wheel", 3)]) (tg := .nm 3) rfl sc_is_board.nd (qi_seq (qv 1)) (blkOk_by (own := [("wheel", 3)]) (by rfl)) (fun _ _ _ _ _ => (pg_name (i := 3) sc_is_board.nd rfl (by first | exact Or.inl rfl | exact Or.inr rfl))) (fun _ _ _ _ _ _ => qts_nil) (fun _ _ _ _ _ _ => (q_call1 D_is_wheel hG hr rfl T.g_is_wheel T.F_is_wheel.kp T.b_is_wheel (qa_cons (qv 3) (qa_cons (q_add (q_len rfl T.n_len (qv 1)) (qv 2)) qa_nil)))))))))), fun xs M Q h => ?_⟩
  obtain ⟨a0, rfl, h⟩ := h
  rw [show startP ["thing", "wheels", "cups", "wheel"] [a0] = [some a0, none, none, none] from rfl]
  clear hE hr hG
  obtain ⟨h1, h⟩ := h
  walk_at "pl"
  refine ⟨h1, ?_⟩
  rcases isRow2 a0 with h2 | ⟨a, b, rfl⟩
  · rw [isBoard_no (.inl h2)] at h
    rw [h2]
    exact Fewer.of h
  · rw [isK_tup, areK_iff] at h1
    have ha := h1 a (by simp)
    have hb := h1 b (by simp)
    rw [show isRow (.tup [a, b]) 2 2 = true from rfl]
    walk_at "pl"
    refine ⟨a, atI_zero, ha, ?_⟩
    cases ea : isRow a 1 6 with
    | false =>
      rw [isBoard_no (.inr (.inl ⟨a, b, rfl, ea⟩))] at h
      exact Fewer.of h
    | true =>
      walk_at "pl"
      refine ⟨b, atI_one, hb, ?_⟩
      cases eb : isAmong b 0 4 with
      | false =>
        rw [isBoard_no (.inr (.inr ⟨a, b, rfl, eb⟩))] at h
        exact Fewer.of h
      | true =>
        cases a with
        | tup ws =>
          cases b with
          | int c =>
            walk_at "pl"
            have hz : ws.length ≤ sizeLine := isRow_size ea (by decide)
            rw [isK_tup, areK_iff] at ha
            simp only [isBoard, ea, eb, Bool.true_and] at h
            refine ⟨trivial, ws, rfl, hz, lc_pure (fun e => .bl (isWheel e ((ws.length : Int) + c))) ws [] (fun x hx N hN => ?_) ?_⟩
            · walk_at "pl"
              exact ⟨ha x hx, hN⟩
            · rw [List.nil_append, show (fun e => PV.bl (isWheel e ((ws.length : Int) + c))) = PV.bl ∘ (fun e => isWheel e ((ws.length : Int) + c)) from rfl, ← List.map_map, r_all, List.all_map]
              exact Fewer.of h
          | _ => exact absurd eb (by simp [isAmong])
        | _ => exact absurd ea (by simp [isRow])
/-! ### need_moment -/
abbrev sp_need_moment : Sp' := sp2 fun bd x M Q _ => ∃ ws c, bd = .tup [.tup ws, .int c] ∧ ws.length ≤ 6 ∧ c ≤ 4 ∧ (∀ w ∈ ws, ∃ ss, w = .tup ss) ∧ x.isK = true ∧ isMoment ws c x = true ∧ Q .non M
theorem ok_need_moment (T : Txt K mg) : FnP P w K mg base CX0 5 T.f_need_moment T.fd_need_moment ["board", "thing"] sp_need_moment := by
  have D_is_moment_by : FnP P w K mg base CX0 4 T.f_is_moment_by T.fd_is_moment_by ["board", "thing"] sp_is_moment_by := (ok_is_moment_by T).mono (by decide)
  refine fnp_of T.F_need_moment sc_need_moment (fun xs M Q E h => sp2_len h) fun cdv A outer s H E B hG hr E' hE => ⟨_, qss_nox
    (qss_one (qs_if (qt_not (qt_val (q_call1 D_is_moment_by hG hr rfl T.g_is_moment_by T.F_is_moment_by.kp T.b_is_moment_by (qa_cons (qv 0) (qa_cons (qv 1) qa_nil)))))
      (qss_one qs_never)
      qss_nil)), fun xs M Q h => ?_⟩
  obtain ⟨a0, a1, rfl, h⟩ := h
  rw [show startP ["board", "thing"] [a0, a1] = [some a0, some a1] from rfl]
  clear hE hr hG
  obtain ⟨ws, c, rfl, hl, hc, hw, hr, hm, h⟩ := h
  walk_at "pl2"
  refine ⟨ws, c, rfl, hl, hc, hw, hr, ?_⟩
  rw [hm]
  exact Fewer.of h
/-! ### need_row -/
abbrev sp_need_row : Sp' := sp2 fun bd x M Q _ => ∃ ws c, bd = .tup [.tup ws, .int c] ∧ x.isK = true ∧ (∀ xs, x = .tup xs → xs.length ≤ 100000) ∧ areWheels ws.length x = true ∧ Q .non M
theorem ok_need_row (T : Txt K mg) : FnP P w K mg base CX0 5 T.f_need_row T.fd_need_row ["board", "thing"] sp_need_row := by
  have D_are_wheels : FnP P w K mg base CX0 4 T.f_are_wheels T.fd_are_wheels ["board", "thing"] sp_are_wheels := (ok_are_wheels T).mono (by decide)
  refine fnp_of T.F_need_row sc_need_row (fun xs M Q E h => sp2_len h) fun cdv A outer s H E B hG hr E' hE => ⟨_, qss_nox
    (qss_one (qs_if (qt_not (qt_val (q_call1 D_are_wheels hG hr rfl T.g_are_wheels T.F_are_wheels.kp T.b_are_wheels (qa_cons (qv 0) (qa_cons (qv 1) qa_nil)))))
      (qss_one qs_never)
      qss_nil)), fun xs M Q h => ?_⟩
  obtain ⟨a0, a1, rfl, h⟩ := h
  rw [show startP ["board", "thing"] [a0, a1] = [some a0, some a1] from rfl]
  clear hE hr hG
  obtain ⟨ws, c, rfl, hr, hz, hm, h⟩ := h
  walk_at "pl2"
  refine ⟨ws, c, rfl, hr, hz, ?_⟩
  rw [hm]
  exact Fewer.of h
/-! ### need_board -/
abbrev sp_need_board : Sp' := sp1 fun x M Q _ => x.isK = true ∧ isBoard x = true ∧ Q .non M
theorem ok_need_board (T : Txt K mg) : FnP P w K mg base CX0 6 T.f_need_board T.fd_need_board ["thing"] sp_need_board := by
  have D_is_board : FnP P w K mg base CX0 5 T.f_is_board T.fd_is_board ["thing"] sp_is_board := (ok_is_board T).mono (by decide)
  refine fnp_of T.F_need_board sc_need_board (fun xs M Q E h => sp1_len h) fun cdv A outer s H E B hG hr E' hE => ⟨_, qss_nox
    (qss_one (qs_if (qt_not (qt_val (q_call1 D_is_board hG hr rfl T.g_is_board T.F_is_board.kp T.b_is_board (qa_cons (qv 0) qa_nil))))
      (qss_one qs_never)
      qss_nil)), fun xs M Q h => ?_⟩
  obtain ⟨a0, rfl, h⟩ := h
  rw [show startP ["thing"] [a0] = [some a0] from rfl]
  clear hE hr hG
  obtain ⟨h1, h2, h⟩ := h
  walk_at "pl"
  refine ⟨h1, ?_⟩
  rw [h2]
  exact Fewer.of h
/-! ### is_moment -/
abbrev sp_is_moment : Sp' := sp2 fun bd x M Q _ => ∃ ws c, bd = encB ws ((c : Nat) : Int) ∧ Bd ws c ∧ x.isK = true ∧ Q (.bl (isMoment (ws.map encW) c x)) M
theorem ok_is_moment (T : Txt K mg) : FnP P w K mg base CX0 7 T.f_is_moment T.fd_is_moment ["board", "thing"] sp_is_moment := by
  have D_is_moment_by : FnP P w K mg base CX0 6 T.f_is_moment_by T.fd_is_moment_by ["board", "thing"] sp_is_moment_by := (ok_is_moment_by T).mono (by decide)
  have D_need_board : FnP P w K mg base CX0 6 T.f_need_board T.fd_need_board ["thing"] sp_need_board := (ok_need_board T).mono (by decide)
  refine fnp_of T.F_is_moment sc_is_moment (fun xs M Q E h => sp2_len h) fun cdv A outer s H E B hG hr E' hE => ⟨_, qss_nox
    (qss_cons (qs_expr (q_call1 D_need_board hG hr rfl T.g_need_board T.F_need_board.kp T.b_need_board (qa_cons (qv 0) qa_nil)))
      (qss_one (qs_ret (q_call1 D_is_moment_by hG hr rfl T.g_is_moment_by T.F_is_moment_by.kp T.b_is_moment_by (qa_cons (qv 0) (qa_cons (qv 1) qa_nil)))))), fun xs M Q h => ?_⟩
  obtain ⟨a0, a1, rfl, h⟩ := h
  rw [show startP ["board", "thing"] [a0, a1] = [some a0, some a1] from rfl]
  clear hE hr hG
  obtain ⟨ws, c, rfl, hb, hx, h⟩ := h
  walk_at "pl2"
  refine ⟨(bd_sm hb).k, bd_board hb, ws.map encW, c, rfl, by rw [List.length_map]; exact hb.n6, by have := hb.c4; omega, fun w hw => ?_, hx, Fewer.of h⟩
  obtain ⟨w', hw', rfl⟩ := List.mem_map.mp hw
  exact ⟨_, rfl⟩
/-! ### need_asked -/
abbrev sp_need_asked : Sp' := sp3 fun bd mo ro M Q _ => ∃ ws c m row, bd = encB ws (c : Nat) ∧ mo = encM m ∧ ro = encR row ∧ Bd ws c ∧ Mo ws c m ∧ (∀ i ∈ row, i < ws.length) ∧ row.length ≤ 100000 ∧ Q .non M
theorem ok_need_asked (T : Txt K mg) : FnP P w K mg base CX0 7 T.f_need_asked T.fd_need_asked ["board", "moment", "row"] sp_need_asked := by
  have D_need_board : FnP P w K mg base CX0 6 T.f_need_board T.fd_need_board ["thing"] sp_need_board := (ok_need_board T).mono (by decide)
  have D_need_moment : FnP P w K mg base CX0 6 T.f_need_moment T.fd_need_moment ["board", "thing"] sp_need_moment := (ok_need_moment T).mono (by decide)
  have D_need_row : FnP P w K mg base CX0 6 T.f_need_row T.fd_need_row ["board", "thing"] sp_need_row := (ok_need_row T).mono (by decide)
  refine fnp_of T.F_need_asked sc_need_asked (fun xs M Q E h => sp3_len h) fun cdv A outer s H E B hG hr E' hE => ⟨_, qss_nox
    (qss_cons (qs_expr (q_call1 D_need_board hG hr rfl T.g_need_board T.F_need_board.kp T.b_need_board (qa_cons (qv 0) qa_nil)))
      (qss_cons (qs_expr (q_call1 D_need_moment hG hr rfl T.g_need_moment T.F_need_moment.kp T.b_need_moment (qa_cons (qv 0) (qa_cons (qv 1) qa_nil))))
      (qss_one (qs_expr (q_call1 D_need_row hG hr rfl T.g_need_row T.F_need_row.kp T.b_need_row (qa_cons (qv 0) (qa_cons (qv 2) qa_nil))))))), fun xs M Q h => ?_⟩
  obtain ⟨a0, a1, a2, rfl, h⟩ := h
  rw [show startP ["board", "moment", "row"] [a0, a1, a2] = [some a0, some a1, some a2] from rfl]
  clear hE hr hG
  obtain ⟨ws, c, m, row, rfl, rfl, rfl, hb, hm, hr, hl, h⟩ := h
  have n6 := hb.n6
  walk_at "pl2"
  refine ⟨(bd_sm hb).k, bd_board hb, ws.map encW, c, rfl, by rw [List.length_map]; omega, by have := hb.c4; omega, fun w hw => ?_, encM_k, mo_moment hm, ws.map encW, c, rfl, row_areK fun i hi => by have := hr i hi; omega, fun xs hx => ?_, by rw [List.length_map]; exact row_wheels hr, Fewer.of h⟩
  · obtain ⟨w', hw', rfl⟩ := List.mem_map.mp hw
    exact ⟨_, rfl⟩
  · cases hx
    rw [List.length_map]; exact hl
/-! ### first_wrong -/
abbrev sp_first_wrong : Sp' := sp3 fun bd mo ro M Q _ => ∃ ws c m row, bd = encB ws (c : Nat) ∧ mo = encM m ∧ ro = encR row ∧ Bd ws c ∧ Mo ws c m ∧ (∀ i ∈ row, i < ws.length) ∧ row.length ≤ 100000 ∧ Q (if (goneF ws m row).1 < row.length then .int (((goneF ws m row).1 : Nat) : Int) else .non) M
theorem ok_first_wrong (T : Txt K mg) : FnP P w K mg base CX0 8 T.f_first_wrong T.fd_first_wrong ["board", "moment", "row"] sp_first_wrong := by
  have D_gone_by : FnP P w K mg base CX0 7 T.f_gone_by T.fd_gone_by ["board", "moment", "row"] sp_gone_by := (ok_gone_by T).mono (by decide)
  have D_need_asked : FnP P w K mg base CX0 7 T.f_need_asked T.fd_need_asked ["board", "moment", "row"] sp_need_asked := (ok_need_asked T).mono (by decide)
  refine fnp_of T.F_first_wrong sc_first_wrong (fun xs M Q E h => sp3_len h) fun cdv A outer s H E B hG hr E' hE => ⟨_, qss_nox
    (qss_cons (qs_expr (q_call1 D_need_asked hG hr rfl T.g_need_asked T.F_need_asked.kp T.b_need_asked (qa_cons (qv 0) (qa_cons (qv 1) (qa_cons (qv 2) qa_nil)))))
      (qss_cons (qs_set (i := 3) sc_first_wrong.nd rfl (Or.inl rfl) (q_ixs (q_call1 D_gone_by hG hr rfl T.g_gone_by T.F_gone_by.kp T.b_gone_by (qa_cons (qv 0) (qa_cons (qv 1) (qa_cons (qv 2) qa_nil)))) q_int (fun _ _ => rfl)))
      (qss_one (qs_ret (q_ifExp (qt_lt (qv 3) (q_len rfl T.n_len (qv 2))) (qv 3) q_non))))), fun xs M Q h => ?_⟩
  obtain ⟨a0, a1, a2, rfl, h⟩ := h
  rw [show startP ["board", "moment", "row", "place"] [a0, a1, a2] = [some a0, some a1, some a2, none] from rfl]
  clear hE hr hG
  obtain ⟨ws, c, m, row, rfl, rfl, rfl, hb, hm, hr, hl, h⟩ := h
  walk_at "pl2"
  refine ⟨ws, c, m, row, rfl, rfl, rfl, hb, hm, hr, hl, ws, c, m, row, rfl, rfl, rfl, hb, hm, hr, hl, ?_⟩
  walk_at "pl2"
  by_cases hz : (goneF ws m row).1 < row.length
  · rw [if_pos hz] at h
    rw [decide_eq_true (by omega)]
    exact Fewer.of h
  · rw [if_neg hz] at h
    rw [decide_eq_false (by omega)]
    exact Fewer.of h
/-! ### behind -/
abbrev sp_behind : Sp' := sp3 fun bd mo ro M Q _ => ∃ ws c m row, bd = encB ws (c : Nat) ∧ mo = encM m ∧ ro = encR row ∧ Bd ws c ∧ Mo ws c m ∧ (∀ i ∈ row, i < ws.length) ∧ row.length ≤ 100000 ∧ (goneF ws m row).1 = row.length ∧ Q (encM (goneF ws m row).2) M
theorem ok_behind (T : Txt K mg) : FnP P w K mg base CX0 8 T.f_behind T.fd_behind ["board", "moment", "row"] sp_behind := by
  have D_behind_by : FnP P w K mg base CX0 7 T.f_behind_by T.fd_behind_by ["board", "moment", "row"] sp_behind_by := (ok_behind_by T).mono (by decide)
  have D_need_asked : FnP P w K mg base CX0 7 T.f_need_asked T.fd_need_asked ["board", "moment", "row"] sp_need_asked := (ok_need_asked T).mono (by decide)
  refine fnp_of T.F_behind sc_behind (fun xs M Q E h => sp3_len h) fun cdv A outer s H E B hG hr E' hE => ⟨_, qss_nox
    (qss_cons (qs_expr (q_call1 D_need_asked hG hr rfl T.g_need_asked T.F_need_asked.kp T.b_need_asked (qa_cons (qv 0) (qa_cons (qv 1) (qa_cons (qv 2) qa_nil)))))
      (qss_cons (qs_set (i := 3) sc_behind.nd rfl (Or.inl rfl) (q_call1 D_behind_by hG hr rfl T.g_behind_by T.F_behind_by.kp T.b_behind_by (qa_cons (qv 0) (qa_cons (qv 1) (qa_cons (qv 2) qa_nil)))))
      (qss_cons (qs_if (qt_isN (qv 3) q_non)
      (qss_one qs_never)
      qss_nil)
      (qss_one (qs_ret (qv 3)))))), fun xs M Q h => ?_⟩
  obtain ⟨a0, a1, a2, rfl, h⟩ := h
  rw [show startP ["board", "moment", "row", "found"] [a0, a1, a2] = [some a0, some a1, some a2, none] from rfl]
  clear hE hr hG
  obtain ⟨ws, c, m, row, rfl, rfl, rfl, hb, hm, hr, hl, hg, h⟩ := h
  walk_at "pl2"
  refine ⟨ws, c, m, row, rfl, rfl, rfl, hb, hm, hr, hl, ws, c, m, row, rfl, rfl, rfl, hb, hm, hr, hl, ?_⟩
  rw [if_pos hg]
  exact Fewer.of h
/-! ### _law_right -/
abbrev sp__law_right : Sp' := sp4 fun x bd mo ro M Q _ => match x with
  | .ref p => ∃ ws c m row k, bd = encB ws ((c : Nat) : Int) ∧ mo = encM m ∧ ro = encR row ∧ Bd ws c ∧ Mo ws c m ∧ (∀ i ∈ row, i < ws.length) ∧ row.length ≤ 1000 ∧ k ≤ 800000000000 ∧ PenAt M p k ∧ ∀ M', PenAt M' p (k + 20) → But p M M' → Q (.bl true) M'
  | _ => False
theorem ok__law_right (T : Txt K mg) : FnP P w K mg base CX0 9 T.f__law_right T.fd__law_right ["_law_pen_here", "_law_board_here", "_law_moment_here", "_law_row"] sp__law_right := by
  have D__law_mixed : FnP P w K mg base CX0 8 T.f__law_mixed T.fd__law_mixed ["_law_pen_here", "_law_many"] sp__law_mixed := (ok__law_mixed T).mono (by decide)
  have D__law_moved : FnP P w K mg base CX0 8 T.f__law_moved T.fd__law_moved ["_law_some", "_law_order"] sp__law_moved := (ok__law_moved T).mono (by decide)
  have D__law_named : FnP P w K mg base CX0 8 T.f__law_named T.fd__law_named ["_law_board_here", "_law_order", "_law_cups"] sp__law_named := (ok__law_named T).mono (by decide)
  have D_behind : FnP P w K mg base CX0 8 T.f_behind T.fd_behind ["board", "moment", "row"] sp_behind := (ok_behind T).mono (by decide)
  have D_first_wrong : FnP P w K mg base CX0 8 T.f_first_wrong T.fd_first_wrong ["board", "moment", "row"] sp_first_wrong := (ok_first_wrong T).mono (by decide)
  have D_is_board : FnP P w K mg base CX0 8 T.f_is_board T.fd_is_board ["thing"] sp_is_board := (ok_is_board T).mono (by decide)
  have D_is_moment : FnP P w K mg base CX0 8 T.f_is_moment T.fd_is_moment ["board", "thing"] sp_is_moment := (ok_is_moment T).mono (by decide)
  refine fnp_of T.F__law_right sc__law_right (fun xs M Q E h => sp4_len h) fun cdv A outer s H E B hG hr E' hE => ⟨_, qss_nox
    (qss_cons (qs_asg (q_tup (qa_cons (q_call1 D__law_mixed hG hr rfl T.g__law_mixed T.F__law_mixed.kp T.b__law_mixed (qa_cons (qv 0) (qa_cons (q_len rfl T.n_len (q_ixs (qv 1) q_int (fun _ _ => rfl))) qa_nil))) (qa_cons (q_call1 D__law_mixed hG hr rfl T.g__law_mixed T.F__law_mixed.kp T.b__law_mixed (qa_cons (qv 0) (qa_cons (q_ixs (qv 1) q_int (fun _ _ => rfl)) qa_nil))) qa_nil))) (qg_tup (n := 2) rfl (qgs_cons (qg_name (i := 4) sc__law_right.nd rfl (by first | exact Or.inl rfl | exact Or.inr rfl)) (qgs_cons (qg_name (i := 5) sc__law_right.nd rfl (by first | exact Or.inl rfl | exact Or.inr rfl)) qgs_nil))))
      (qss_cons (qs_asg (qv 2) (qg_tup (n := 3) rfl (qgs_cons (qg_name (i := 6) sc__law_right.nd rfl (by first | exact Or.inl rfl | exact Or.inr rfl)) (qgs_cons (qg_name (i := 7) sc__law_right.nd rfl (by first | exact Or.inl rfl | exact Or.inr rfl)) (qgs_cons (qg_name (i := 8) sc__law_right.nd rfl (by first | exact Or.inl rfl | exact Or.inr rfl)) qgs_nil)))))
      (qss_cons (qs_set (i := 9) sc__law_right.nd rfl (Or.inl rfl) (q_call1 D__law_named hG hr rfl T.g__law_named T.F__law_named.kp T.b__law_named (qa_cons (qv 1) (qa_cons (qv 4) (qa_cons (qv 5) qa_nil)))))
      (qss_cons (qs_set (i := 10) sc__law_right.nd rfl (Or.inl rfl) (q_tup (qa_cons (q_call1 D__law_moved hG hr rfl T.g__law_moved T.F__law_moved.kp T.b__law_moved (qa_cons (qv 6) (qa_cons (qv 4) qa_nil))) (qa_cons (q_call1 D__law_moved hG hr rfl T.g__law_moved T.F__law_moved.kp T.b__law_moved (qa_cons (qv 7) (qa_cons (qv 4) qa_nil))) (qa_cons (q_call1 D__law_moved hG hr rfl T.g__law_moved T.F__law_moved.kp T.b__law_moved (qa_cons (qv 8) (qa_cons (qv 5) qa_nil))) qa_nil)))))
      (qss_cons (qs_set (i := 11) sc__law_right.nd rfl (Or.inl rfl) (q_tuple rfl T.n_tuple (q_lc (own := [("_law_wheel", 14)]) (tg := .nm 14) rfl sc__law_right.nd (qi_seq (qv 3)) (blkOk_by (own := [("_law_wheel", 14)]) (by rfl)) (fun _ _ _ _ _ => (pg_name (i := 14) sc__law_right.nd rfl (by first | exact Or.inl rfl | exact Or.inr rfl))) (fun _ _ _ _ _ _ => qts_nil) (fun _ _ _ _ _ _ => (q_ixs (qv 4) (qv 14) (fun _ _ => rfl))))))
      (qss_cons (qs_if (qw_pt (qw_or (qt_notB (q_call1 D_is_board hG hr rfl T.g_is_board T.F_is_board.kp T.b_is_board (qa_cons (qv 9) qa_nil)) q_bl) (qw_or1 (qt_notB (q_call1 D_is_moment hG hr rfl T.g_is_moment T.F_is_moment.kp T.b_is_moment (qa_cons (qv 9) (qa_cons (qv 10) qa_nil))) q_bl))))
      (qss_one (qs_ret q_bl))
      qss_nil)
      (qss_cons (qs_if (qt_ne hr (q_call1 D_first_wrong hG hr rfl T.g_first_wrong T.F_first_wrong.kp T.b_first_wrong (qa_cons (qv 9) (qa_cons (qv 10) (qa_cons (qv 11) qa_nil)))) (q_call1 D_first_wrong hG hr rfl T.g_first_wrong T.F_first_wrong.kp T.b_first_wrong (qa_cons (qv 1) (qa_cons (qv 2) (qa_cons (qv 3) qa_nil)))))
      (qss_one (qs_ret q_bl))
      qss_nil)
      (qss_cons (qs_if (qt_notN (q_call1 D_first_wrong hG hr rfl T.g_first_wrong T.F_first_wrong.kp T.b_first_wrong (qa_cons (qv 1) (qa_cons (qv 2) (qa_cons (qv 3) qa_nil)))) q_non)
      (qss_one (qs_ret q_bl))
      qss_nil)
      (qss_cons (qs_set (i := 12) sc__law_right.nd rfl (Or.inl rfl) (q_call1 D_behind hG hr rfl T.g_behind T.F_behind.kp T.b_behind (qa_cons (qv 1) (qa_cons (qv 2) (qa_cons (qv 3) qa_nil)))))
      (qss_cons (qs_set (i := 13) sc__law_right.nd rfl (Or.inl rfl) (q_tup (qa_cons (q_call1 D__law_moved hG hr rfl T.g__law_moved T.F__law_moved.kp T.b__law_moved (qa_cons (q_ixs (qv 12) q_int (fun _ _ => rfl)) (qa_cons (qv 4) qa_nil))) (qa_cons (q_call1 D__law_moved hG hr rfl T.g__law_moved T.F__law_moved.kp T.b__law_moved (qa_cons (q_ixs (qv 12) q_int (fun _ _ => rfl)) (qa_cons (qv 4) qa_nil))) (qa_cons (q_call1 D__law_moved hG hr rfl T.g__law_moved T.F__law_moved.kp T.b__law_moved (qa_cons (q_ixs (qv 12) q_int (fun _ _ => rfl)) (qa_cons (qv 5) qa_nil))) qa_nil)))))
      (qss_one (qs_ret (q_eq hr (q_call1 D_behind hG hr rfl T.g_behind T.F_behind.kp T.b_behind (qa_cons (qv 9) (qa_cons (qv 10) (qa_cons (qv 11) qa_nil)))) (qv 13)))))))))))))), fun xs M Q h => ?_⟩
  obtain ⟨a0, a1, a2, a3, rfl, h⟩ := h
  rw [show startP ["_law_pen_here", "_law_board_here", "_law_moment_here", "_law_row", "_law_order", "_law_cups", "_law_stand", "_law_waiting", "_law_held", "_law_other", "_law_here", "_law_line", "_law_later", "_law_due", "_law_wheel"] [a0, a1, a2, a3] = [some a0, some a1, some a2, some a3, none, none, none, none, none, none, none, none, none, none, none] from rfl]
  clear hE hr hG
  cases a0 <;> try exact h.elim
  rename_i p
  obtain ⟨ws, c, m, row, k, rfl, rfl, rfl, hb, hm, hr, hl, hk, hp, h⟩ := h
  have n6 := hb.n6
  have c4 := hb.c4
  rw [show encB ws c = .tup [.tup (ws.map encW), .int c] from rfl, show encM m = .tup [.tup (m.1.map PV.int), .tup (m.2.1.map PV.int), .tup (m.2.2.map PV.int)] from rfl]
  walk_at "pl2"
  have hlw : (ws.map encW).length = ws.length := List.length_map _
  have l1 : m.1.length = ws.length := hm.l1
  have l2 : m.2.1.length = ws.length := hm.l2
  have l3 : m.2.2.length = c := hm.l3
  rw [hlw]
  refine ⟨by omega, by omega, k, by omega, hp, fun o M1 ho p1 b1 => ⟨by omega, by omega, _, ?_, p1, fun cu M2 hc p2 b2 => ?_⟩⟩
  · omega
  rw [Int.toNat_natCast] at ho hc
  refine ⟨by rw [sizeLine_eq]; decide, ws, c, o, cu, rfl, rfl, rfl, hb, ho, hc, m.1.map PV.int, o, .inl rfl, rfl, by rw [List.length_map, l1]; exact ho, by rw [List.length_map]; omega, m.2.1.map PV.int, o, .inl rfl, rfl, by rw [List.length_map, l2]; exact ho, by rw [List.length_map]; omega, m.2.2.map PV.int, cu, .inl rfl, rfl, by rw [List.length_map, l3]; exact hc, by rw [List.length_map]; omega, by rw [sizeLine_eq]; decide, ?_⟩
  rw [moved_int ho l1, moved_int ho l2, moved_int hc l3]
  rw [show PV.tup [PV.tup ((moved o m.1 0).map PV.int), PV.tup ((moved o m.2.1 0).map PV.int), PV.tup ((moved cu m.2.2 0).map PV.int)] = encM (nmM o cu m) from rfl, show PV.tup [.tup (ws.map encW), .int c] = encB ws c from rfl, show PV.tup [.tup (m.1.map PV.int), .tup (m.2.1.map PV.int), .tup (m.2.2.map PV.int)] = encM m from rfl]
  have hb' := nm_bd hb ho hc
  have hm' := nm_mo ho hc hm
  have lo := ho.len
  refine ⟨row.map fun i => PV.int ((i : Nat) : Int), rfl, by rw [List.length_map, sizeLine_eq]; omega, lc_ix row.length (fun i => .int ((o.getD (row.getD i 0) 0 : Nat) : Int)) (List.length_map _) (fun i x hi hx N hN => ?_) ?_⟩
  · rw [List.getElem?_map, List.getElem?_eq_getElem hi] at hx
    cases hx
    have h1 := hr _ (List.getElem_mem hi)
    walk_at "pl2"
    simp only [encN]
    rw [r_ix_lst]
    refine ⟨_, atI_natCast (j := row[i]) rfl (by rw [List.getElem?_map, List.getElem?_eq_getElem (by omega)]; rfl), ?_⟩
    rw [List.getD_eq_getElem?_getD (l := row), List.getElem?_eq_getElem hi, List.getD_eq_getElem?_getD (l := o), Option.getD_some, List.getElem?_eq_getElem (by omega)] at hN
    exact hN
  have eR : PV.tup ((List.range row.length).map fun i => PV.int ((o.getD (row.getD i 0) 0 : Nat) : Int)) = encR (row.map fun i => o.getD i 0) := by
    unfold encR
    rw [List.map_map]
    congr 1
    apply List.ext_getElem?
    intro t
    rw [List.getElem?_map, List.getElem?_map]
    by_cases ht : t < row.length
    · rw [List.getElem?_range ht, List.getElem?_eq_getElem ht, Option.map_some, Option.map_some, List.getD_eq_getElem?_getD (l := row), List.getElem?_eq_getElem ht]; rfl
    · rw [List.getElem?_eq_none (by rw [List.length_range]; omega), List.getElem?_eq_none (by omega)]; rfl
  have hr' : ∀ i ∈ row.map (fun i => o.getD i 0), i < (nmB o cu ws).length := fun i hi => by
    obtain ⟨t, ht, rfl⟩ := List.mem_map.mp hi
    rw [nmB_len]; exact ho.lt (hr t ht)
  have hg := nm_gone hb ho hc row hm hr
  have fin : Fewer Q (.bl true) M2 := Fewer.of (h M2 (p2.mono (by omega)) (b1.trans b2))
  rw [eR, bd_board hb']
  refine ⟨by rw [List.length_map, List.length_range, sizeLine_eq]; omega, (bd_sm hb').k, ?_⟩
  walk_at "pl2"
  refine ⟨nmB o cu ws, c, rfl, hb', encM_k, ?_⟩
  rw [mo_moment hm']
  walk_at "pl2"
  refine ⟨nmB o cu ws, c, nmM o cu m, row.map fun i => o.getD i 0, rfl, rfl, rfl, hb', hm', hr', by rw [List.length_map]; omega, ws, c, m, row, rfl, rfl, rfl, hb, hm, hr, by omega, ?_⟩
  rw [hg, List.length_map]
  refine ne_same (D := 0) (by split <;> constructor <;> first | rfl | exact Nat.zero_le _) (by decide) ?_
  walk_at "pl2"
  refine ⟨ws, c, m, row, rfl, rfl, rfl, hb, hm, hr, by omega, ?_⟩
  by_cases hz : (goneF ws m row).1 < row.length
  · rw [if_pos hz]
    walk_at "pl2"
    exact fin
  rw [if_neg hz]
  walk_at "pl2"
  have hfull : (goneF ws m row).1 = row.length := by have := gone_le ws row m; omega
  refine ⟨ws, c, m, row, rfl, rfl, rfl, hb, hm, hr, by omega, hfull, ?_⟩
  have hmg := Mo.gone hb hm hr
  generalize hme : (goneF ws m row).2 = mg at *
  have g1 : mg.1.length = ws.length := hmg.l1
  have g2 : mg.2.1.length = ws.length := hmg.l2
  have g3 : mg.2.2.length = c := hmg.l3
  rw [show encM mg = .tup [.tup (mg.1.map PV.int), .tup (mg.2.1.map PV.int), .tup (mg.2.2.map PV.int)] from rfl]
  walk_at "pl2"
  refine ⟨mg.1.map PV.int, o, .inl rfl, rfl, by rw [List.length_map, g1]; exact ho, by rw [List.length_map]; omega, mg.2.1.map PV.int, o, .inl rfl, rfl, by rw [List.length_map, g2]; exact ho, by rw [List.length_map]; omega, mg.2.2.map PV.int, cu, .inl rfl, rfl, by rw [List.length_map, g3]; exact hc, by rw [List.length_map]; omega, by rw [sizeLine_eq]; decide, nmB o cu ws, c, nmM o cu m, row.map (fun i => o.getD i 0), rfl, rfl, rfl, hb', hm', hr', by rw [List.length_map]; omega, by rw [hg, List.length_map]; exact hfull, ?_⟩
  rw [moved_int ho g1, moved_int ho g2, moved_int hc g3, hg]
  exact eq_same encM_c (by decide) (fin)
/-! ### _law_twice_right -/
abbrev sp__law_twice_right : Sp' := sp4 fun x bd mo ro M Q _ => match x with
  | .ref p => ∃ ws c m row k, bd = encB ws ((c : Nat) : Int) ∧ mo = encM m ∧ ro = encR row ∧ Bd ws c ∧ Mo ws c m ∧ (∀ i ∈ row, i < ws.length) ∧ row.length ≤ 1000 ∧ (goneF ws m row).1 = row.length ∧ k ≤ 800000000000 ∧ PenAt M p k ∧ ∀ M', PenAt M' p (k + 20) → But p M M' → Q (.bl true) M'
  | _ => False
theorem ok__law_twice_right (T : Txt K mg) : FnP P w K mg base CX0 9 T.f__law_twice_right T.fd__law_twice_right ["_law_pen_here", "_law_board_here", "_law_moment_here", "_law_row"] sp__law_twice_right := by
  have D__law_draw : FnP P w K mg base CX0 8 T.f__law_draw T.fd__law_draw ["_law_pen_here", "_law_many"] sp__law_draw := (ok__law_draw T).mono (by decide)
  have D_behind : FnP P w K mg base CX0 8 T.f_behind T.fd_behind ["board", "moment", "row"] sp_behind := (ok_behind T).mono (by decide)
  refine fnp_of T.F__law_twice_right sc__law_twice_right (fun xs M Q E h => sp4_len h) fun cdv A outer s H E B hG hr E' hE => ⟨_, qss_nox
    (qss_cons (qs_set (i := 4) sc__law_twice_right.nd rfl (Or.inl rfl) (q_tup (qa_cons (q_tuple rfl T.n_tuple (q_lc (own := [("_law_wheel", 14)]) (tg := .nm 14) rfl sc__law_twice_right.nd (qi_seq (q_ixs (qv 1) q_int (fun _ _ => rfl))) (blkOk_by (own := [("_law_wheel", 14)]) (by rfl)) (fun _ _ _ _ _ => (pg_name (i := 14) sc__law_twice_right.nd rfl (by first | exact Or.inl rfl | exact Or.inr rfl))) (fun _ _ _ _ _ _ => qts_nil) (fun _ _ _ _ _ _ => (q_mul (qv 14) (q_add q_int (q_int1 rfl T.n_int (q_lt (q_len rfl T.n_len (qv 14)) q_int))))))) (qa_cons (q_ixs (qv 1) q_int (fun _ _ => rfl)) qa_nil))))
      (qss_cons (qs_setLc (i := 5) (own := [("_law_wheel", 14)]) (tg := .nm 14) rfl sc__law_twice_right.nd rfl rfl (sw_true rfl rfl rfl (by decide +kernel)) (qi_seq (q_ixs (qv 1) q_int (fun _ _ => rfl))) (blkOk_by (own := [("_law_wheel", 14)]) (by rfl)) (fun _ _ _ _ _ => (pg_name (i := 14) sc__law_twice_right.nd rfl (by first | exact Or.inl rfl | exact Or.inr rfl))) (fun _ _ _ _ _ _ => qts_nil) (fun _ _ _ _ _ _ => (q_len rfl T.n_len (qv 14))))
      (qss_cons (qs_setLc (i := 6) (own := [("_law_size", 15)]) (tg := .nm 15) rfl sc__law_twice_right.nd rfl rfl (sw_true rfl rfl rfl (by decide +kernel)) (qi_seq (qv 5)) (blkOk_by (own := [("_law_size", 15)]) (by rfl)) (fun _ _ _ _ _ => (pg_name (i := 15) sc__law_twice_right.nd rfl (by first | exact Or.inl rfl | exact Or.inr rfl))) (fun _ _ _ _ _ _ => qts_nil) (fun _ _ _ _ _ _ => (q_mul (q_mul (qv 15) (q_int1 rfl T.n_int (q_lt (qv 15) q_int))) (q_call1 D__law_draw hG hr rfl T.g__law_draw T.F__law_draw.kp T.b__law_draw (qa_cons (qv 0) (qa_cons q_int qa_nil))))))
      (qss_cons (qs_asg (qv 2) (qg_tup (n := 3) rfl (qgs_cons (qg_name (i := 7) sc__law_twice_right.nd rfl (by first | exact Or.inl rfl | exact Or.inr rfl)) (qgs_cons (qg_name (i := 8) sc__law_twice_right.nd rfl (by first | exact Or.inl rfl | exact Or.inr rfl)) (qgs_cons (qg_name (i := 9) sc__law_twice_right.nd rfl (by first | exact Or.inl rfl | exact Or.inr rfl)) qgs_nil)))))
      (qss_cons (qs_set (i := 10) sc__law_twice_right.nd rfl (Or.inl rfl) (q_tup (qa_cons (q_tuple rfl T.n_tuple (q_lc (own := [("_law_at", 16), ("_law_so", 17)]) (tg := .tp [.nm 16, .nm 17]) rfl sc__law_twice_right.nd (qi_zip2 rfl T.n_zip (qa_cons (qv 7) (qa_cons (qv 6) qa_nil))) (blkOk_by (own := [("_law_at", 16), ("_law_so", 17)]) (by rfl)) (fun _ _ _ _ _ => (pg_tup rfl (pgs_cons (pg_name (i := 16) sc__law_twice_right.nd rfl (by first | exact Or.inl rfl | exact Or.inr rfl)) (pgs_cons (pg_name (i := 17) sc__law_twice_right.nd rfl (by first | exact Or.inl rfl | exact Or.inr rfl)) pgs_nil)))) (fun _ _ _ _ _ _ => qts_nil) (fun _ _ _ _ _ _ => (q_add (qv 16) (qv 17))))) (qa_cons (qv 8) (qa_cons (qv 9) qa_nil)))))
      (qss_cons (qs_par (i := 11) (j := 12) rfl sc__law_twice_right.nd rfl rfl (by decide) rfl rfl (qa_cons (q_call1 D_behind hG hr rfl T.g_behind T.F_behind.kp T.b_behind (qa_cons (qv 1) (qa_cons (qv 2) (qa_cons (qv 3) qa_nil)))) (qa_cons (q_call1 D_behind hG hr rfl T.g_behind T.F_behind.kp T.b_behind (qa_cons (qv 4) (qa_cons (qv 10) (qa_cons (qv 3) qa_nil)))) qa_nil)) (by rfl))
      (qss_cons (qs_if (qw_pt (qw_or (qt_ne hr (q_slice (qv 12) (qo_some q_int) qo_none) (q_slice (qv 11) (qo_some q_int) qo_none)) (qw_or1 (qt_ne hr (q_tuple rfl T.n_tuple (q_lc (own := [("_law_at", 16), ("_law_size", 15)]) (tg := .tp [.nm 16, .nm 15]) rfl sc__law_twice_right.nd (qi_zip2 rfl T.n_zip (qa_cons (q_ixs (qv 12) q_int (fun _ _ => rfl)) (qa_cons (qv 5) qa_nil))) (blkOk_by (own := [("_law_at", 16), ("_law_size", 15)]) (by rfl)) (fun _ _ _ _ _ => (pg_tup rfl (pgs_cons (pg_name (i := 16) sc__law_twice_right.nd rfl (by first | exact Or.inl rfl | exact Or.inr rfl)) (pgs_cons (pg_name (i := 15) sc__law_twice_right.nd rfl (by first | exact Or.inl rfl | exact Or.inr rfl)) pgs_nil)))) (fun _ _ _ _ _ _ => qts_nil) (fun _ _ _ _ _ _ => (q_mod (qv 16) (qv 15))))) (q_ixs (qv 11) q_int (fun _ _ => rfl))))))
      (qss_one (qs_ret q_bl))
      qss_nil)
      (qss_cons (qs_if (qt_eq hr (q_ixs (qv 1) q_int (fun _ _ => rfl)) q_int)
      (qss_one (qs_ret q_bl))
      qss_nil)
      (qss_cons (qs_set (i := 13) sc__law_twice_right.nd rfl (Or.inl rfl) (q_tup (qa_cons (q_ixs (qv 1) q_int (fun _ _ => rfl)) (qa_cons (q_add (q_ixs (qv 1) q_int (fun _ _ => rfl)) q_int) qa_nil))))
      (qss_one (qs_ret (q_eq hr (q_call1 D_behind hG hr rfl T.g_behind T.F_behind.kp T.b_behind (qa_cons (qv 13) (qa_cons (q_tup (qa_cons (qv 7) (qa_cons (qv 8) (qa_cons (q_add (qv 9) (q_tup (qa_cons q_int qa_nil))) qa_nil)))) (qa_cons (qv 3) qa_nil)))) (q_add (q_slice (qv 11) qo_none (qo_some q_int)) (q_tup (qa_cons (q_add (q_ixs (qv 11) q_int (fun _ _ => rfl)) (q_tup (qa_cons q_int qa_nil))) qa_nil))))))))))))))), fun xs M Q h => ?_⟩
  obtain ⟨a0, a1, a2, a3, rfl, h⟩ := h
  rw [show startP ["_law_pen_here", "_law_board_here", "_law_moment_here", "_law_row", "_law_twice", "_law_sizes", "_law_more", "_law_stand", "_law_waiting", "_law_held", "_law_here", "_law_later", "_law_found", "_law_wider", "_law_wheel", "_law_size", "_law_at", "_law_so"] [a0, a1, a2, a3] = [some a0, some a1, some a2, some a3, none, none, none, none, none, none, none, none, none, none, none, none, none, none] from rfl]
  clear hE hr hG
  cases a0 <;> try exact h.elim
  rename_i p
  obtain ⟨ws, c, m, row, k, rfl, rfl, rfl, hb, hm, hr, hl, hfull, hk, hp, h⟩ := h
  have n6 := hb.n6
  have c4 := hb.c4
  rw [show encB ws c = .tup [.tup (ws.map encW), .int c] from rfl, show encM m = .tup [.tup (m.1.map PV.int), .tup (m.2.1.map PV.int), .tup (m.2.2.map PV.int)] from rfl]
  walk_at "pl2"
  have l1 : m.1.length = ws.length := hm.l1
  have l2 : m.2.1.length = ws.length := hm.l2
  have l3 : m.2.2.length = c := hm.l3
  have szl : ∀ {α : Type} (xs : List α), xs.length ≤ 12 → xs.length ≤ sizeLine := fun xs hx => by rw [sizeLine_eq]; omega
  have hwl : ∀ i, i < ws.length → 1 ≤ (ws.getD i []).length ∧ (ws.getD i []).length ≤ 4 := fun i hi => hb.w _ (List.mem_of_getElem? (wsD_at hi))
  refine ⟨_, rfl, szl _ (by rw [List.length_map]; omega), lc_ix ws.length (fun i => encW (twW (ws.getD i []))) (List.length_map _) (fun i x hi hx N hN => ?_) ?_⟩
  · rw [wsE_at hi] at hx
    cases hx
    have := hwl i hi
    simp only [encW]
    walk_at "pl2"
    rw [List.length_map]
    unfold twW at hN
    by_cases q : (ws.getD i []).length < 3
    · rw [decide_eq_true (by omega)]
      rw [if_pos q] at hN
      refine ⟨by decide, by decide, by omega, ?_⟩
      rw [show repP (1 + (if true = true then (1 : Int) else 0)).toNat ((ws.getD i []).map encS) = (ws.getD i [] ++ ws.getD i []).map encS by rw [List.map_append]; show (ws.getD i []).map encS ++ ((ws.getD i []).map encS ++ []) = _; rw [List.append_nil]]
      exact hN
    · rw [decide_eq_false (by omega)]
      rw [if_neg q] at hN
      refine ⟨by decide, by decide, by omega, ?_⟩
      rw [show repP (1 + (if false = true then (1 : Int) else 0)).toNat ((ws.getD i []).map encS) = (ws.getD i []).map encS by show (ws.getD i []).map encS ++ [] = _; rw [List.append_nil]]
      exact hN
  have e1 : PV.tup ((List.range ws.length).map fun i => encW (twW (ws.getD i []))) = .tup ((ws.map twW).map encW) := by
    rw [List.map_map]
    congr 1
    apply List.ext_getElem?
    intro t
    rw [List.getElem?_map, List.getElem?_map]
    by_cases ht : t < ws.length
    · rw [List.getElem?_range ht, wsD_at ht]; rfl
    · rw [List.getElem?_eq_none (by rw [List.length_range]; omega), List.getElem?_eq_none (by omega)]; rfl
  rw [e1]
  refine ⟨szl _ (by rw [List.length_map, List.length_range]; omega), by rw [sizeLine_eq]; decide, _, rfl, szl _ (by rw [List.length_map]; omega), lc_ix ws.length (fun i => .int (lenW ws i)) (List.length_map _) (fun i x hi hx N hN => ?_) ?_⟩
  · rw [wsE_at hi] at hx
    cases hx
    simp only [encW]
    walk_at "pl2"
    rw [List.length_map]
    exact hN
  have hsz : (List.range ws.length).map (fun i => PV.int (lenW ws i)) = (tab ws.length (lenW ws)).map PV.int := map_tab.symm
  rw [hsz]
  have hw4 : ∀ i, i < ws.length → 1 ≤ lenW ws i ∧ lenW ws i ≤ 4 := fun i hi => by have := hwl i hi; unfold lenW; omega
  refine ⟨_, rfl, szl _ (by rw [List.length_map, tab_len]; omega), lc_by (fun j acc M' => ∃ of : List Int, acc = of.map PV.int ∧ of.length = j ∧ (∀ i, i < j → of.getD i 0 = 0 ∨ (of.getD i 0 = lenW ws i ∧ lenW ws i < 3)) ∧ PenAt M' p (k + (j : Nat)) ∧ But p M M') ⟨[], rfl, rfl, by simp, hp.mono (by omega), .refl⟩ ?_ ?_⟩
  · rintro j x acc M1 hx ⟨of, rfl, g1, g2, g3, g4⟩ N hN
    have hj : j < ws.length := by have := (List.getElem?_eq_some_iff.mp hx).1; rw [List.length_map, tab_len] at this; exact this
    rw [tabI_at hj] at hx
    cases hx
    have h4 := hw4 j hj
    walk_at "pl2"
    have fin : ∀ (v : Int) M2, (v = 0 ∨ (v = lenW ws j ∧ lenW ws j < 3)) → PenAt M2 p (k + (j : Nat) + 1) → But p M1 M2 → N (of.map PV.int ++ [.int v]) M2 := fun v M2 hv p2 b2 => hN _ _ ⟨of ++ [v], by simp, by simp [g1], fun i hi => by
      rw [List.getD_eq_getElem?_getD, List.getElem?_append]
      by_cases hij : i < of.length
      · rw [if_pos hij]
        have := g2 i (by omega)
        rw [List.getD_eq_getElem?_getD] at this; exact this
      · rw [if_neg hij, show i - of.length = 0 by omega, show i = j by omega]; exact hv, p2.mono (by omega), g4.trans b2⟩
    by_cases q : lenW ws j < 3
    · rw [decide_eq_true q]
      refine ⟨?_, by decide, by decide, _, ?_, g3, fun r M2 r0 r1 p2 b2 => ?_⟩
      · exact .inl ⟨by omega, by omega⟩
      · omega
      rw [if_pos rfl]
      have hr2 : r = 0 ∨ r = 1 := by omega
      have : lenW ws j = 1 ∨ lenW ws j = 2 := by omega
      refine ⟨.inl ⟨by omega, by omega⟩, fin _ _ ?_ p2 b2⟩
      rcases hr2 with e2 | e2 <;> rw [e2]
      · exact .inl (by omega)
      · exact .inr ⟨by omega, q⟩
    · rw [decide_eq_false q]
      refine ⟨?_, by decide, by decide, _, ?_, g3, fun r M2 r0 r1 p2 b2 => ?_⟩
      · exact .inl ⟨by omega, by omega⟩
      · omega
      rw [if_neg (by decide)]
      have hr2 : r = 0 ∨ r = 1 := by omega
      rw [Int.mul_zero, Int.zero_mul]
      refine ⟨.inl ⟨by omega, by omega⟩, fin _ _ (.inl rfl) p2 b2⟩
  rintro acc M1 ⟨of, rfl, g1, g2, g3, g4⟩
  rw [List.length_map, tab_len] at g1 g2 g3
  refine ⟨_, _, asTL_tup, rfl, szl _ (by rw [List.length_map, zip2_len]; simp only [List.length_map]; omega), lc_ix ws.length (fun i => .int (m.1.getD i 0 + of.getD i 0)) (by rw [List.length_map, zip2_len]; simp only [List.length_map]; omega) (fun i x hi hx N hN => ?_) ?_⟩
  · cases zip2_at hx (mapI_at (by omega)) (mapI_at (by omega))
    walk_at "pl2"
    exact hN
  rw [show (List.range ws.length).map (fun i => PV.int (m.1.getD i 0 + of.getD i 0)) = (tab ws.length fun i => m.1.getD i 0 + of.getD i 0).map PV.int from map_tab.symm]
  refine ⟨szl _ (by rw [List.length_map, tab_len]; omega), by rw [sizeLine_eq]; decide, ws, c, m, row, rfl, rfl, rfl, hb, hm, hr, by omega, hfull, ?_⟩
  have hb' := tw_bd hb
  have al := tw_alike hb
  have hmo : ∀ i, i < ws.length → 0 ≤ m.1.getD i 0 ∧ m.1.getD i 0 < lenW ws i := fun i hi => hm.at1 i _ _ (getD_at (by omega)) (wsD_at hi)
  generalize hst' : (tab ws.length fun i => m.1.getD i 0 + of.getD i 0) = st' at *
  have hstD : ∀ i, i < ws.length → st'.getD i 0 = m.1.getD i 0 + of.getD i 0 := fun i hi => by rw [← hst', tab_getD hi]
  have hstL : st'.length = ws.length := by rw [← hst', tab_len]
  have hm' : Mo (ws.map twW) c (st', m.2.1, m.2.2) := by
    refine ⟨by rw [List.length_map]; exact hstL, by rw [List.length_map]; exact l2, l3, fun i s w hs hw => ?_, hm.wt1, hm.hd1⟩
    have hi : i < ws.length := by have := (List.getElem?_eq_some_iff.mp hw).1; rw [List.length_map] at this; exact this
    have hs : st'[i]? = some s := hs
    rw [getD_at (by omega), hstD i hi] at hs
    cases hs
    rw [List.getElem?_map, wsD_at hi] at hw
    cases hw
    have h0 := hmo i hi
    have h4 := hw4 i hi
    unfold lenW at *
    unfold twW
    rcases g2 i hi with e | ⟨e, e2⟩
    · rw [e]
      split
      · rw [List.length_append]; omega
      · omega
    · rw [e, if_pos (by omega), List.length_append]
      omega
  have hlk : Like ws m (st', m.2.1, m.2.2) := by
    refine ⟨rfl, rfl, fun i hi => ?_⟩
    show st'.getD i 0 % lenW ws i = _
    rw [hstD i hi]
    have h0 := hmo i hi
    rcases g2 i hi with e | ⟨e, e2⟩
    · rw [e, Int.add_zero, Int.emod_eq_of_lt h0.1 h0.2]
    · rw [e, Int.add_emod_right, Int.emod_eq_of_lt h0.1 h0.2]
  obtain ⟨f1, f2⟩ := like_gone hb hb' al row hm hm' hlk hr
  have hmg := Mo.gone hb hm hr
  have hmg' := Mo.gone hb' hm' (r := row) (by rw [List.length_map]; exact hr)
  refine ⟨ws.map twW, c, (st', m.2.1, m.2.2), row, rfl, rfl, rfl, hb', hm', by rw [List.length_map]; exact hr, by omega, by rw [f1]; exact hfull, ?_⟩
  have hcg := cup_gone (x := 5) hb row hm hr
  generalize hmE : (goneF ws m row).2 = mg at *
  generalize hmE' : (goneF (ws.map twW) (st', m.2.1, m.2.2) row).2 = mh at *
  have g1' : mg.1.length = ws.length := hmg.l1
  have hh1 : mh.1.length = ws.length := by have := hmg'.l1; rw [List.length_map] at this; exact this
  have fin : Fewer Q (.bl true) M1 := Fewer.of (h M1 (g3.mono (by omega)) g4)
  rw [show encM mh = .tup [.tup (mh.1.map PV.int), encS mh.2.1, encS mh.2.2] from rfl, show encM mg = .tup [.tup (mg.1.map PV.int), encS mg.2.1, encS mg.2.2] from rfl, f2.wt, f2.hd]
  walk_at "pl2"
  rw [cut_from (by decide), cut_from (by decide)]
  show pNe (.tup [encS mg.2.1, encS mg.2.2]) (.tup [encS mg.2.1, encS mg.2.2]) M1 _
  refine ne_same (D := 2) (Cm.tup fun x hx => ?_) (by decide) ?_
  · simp only [List.mem_cons, List.not_mem_nil, or_false] at hx
    rcases hx with rfl | rfl <;> exact encS_c
  walk_at "pl2"
  refine ⟨_, _, asTL_tup, rfl, szl _ (by rw [List.length_map, zip2_len]; simp only [List.length_map, tab_len]; omega), lc_ix ws.length (fun i => .int (mg.1.getD i 0)) (by rw [List.length_map, zip2_len]; simp only [List.length_map, tab_len]; omega) (fun i x hi hx N hN => ?_) ?_⟩
  · cases zip2_at hx (mapI_at (by omega)) (tabI_at hi)
    walk_at "pl2"
    rw [f2.at1 i hi]
    exact ⟨by have := hw4 i hi; omega, hN⟩
  rw [show (List.range ws.length).map (fun i => PV.int (mg.1.getD i 0)) = mg.1.map PV.int by rw [← map_tab, ← tab_of g1']]
  refine ⟨szl _ (by rw [List.length_map]; omega), ne_same (D := 1) encS_c (by decide) ?_⟩
  walk_at "pl2"
  by_cases hc4 : (c : Int) = 4
  · rw [decide_eq_true hc4]
    exact fin
  rw [decide_eq_false hc4]
  walk_at "pl2"
  have hbw : Bd ws (c + 1) := ⟨hb.n1, hb.n6, by omega, hb.w, hb.s, fun w hw s hs e he => by have := hb.e w hw s hs e he; omega⟩
  have hmw : Mo ws (c + 1) (m.1, m.2.1, m.2.2 ++ [5]) := ⟨l1, l2, by rw [List.length_append, l3]; rfl, hm.at1, hm.wt1, fun x hx => by
    rcases List.mem_append.mp hx with hx | hx
    · exact hm.hd1 x hx
    · rw [List.mem_singleton] at hx; omega⟩
  refine ⟨by rw [sizeLine_eq]; decide, by rw [sizeLine_eq]; decide, by rw [List.length_map, sizeLine_eq]; omega, by rw [sizeLine_eq]; decide, ws, c + 1, (m.1, m.2.1, m.2.2 ++ [5]), row, by unfold encB; rw [show (((c + 1 : Nat)) : Int) = (c : Int) + 1 by omega], by unfold encM encS; simp, rfl, hbw, hmw, hr, by omega, by rw [hcg]; exact hfull, ?_⟩
  rw [hcg, cut_to (by decide)]
  walk_at "pl2"
  have g3' : mg.2.2.length = c := hmg.l3
  refine ⟨by rw [sizeLine_eq]; decide, ?_⟩
  rw [show encS mg.2.2 = .tup (mg.2.2.map PV.int) from rfl, r_add_tup]
  refine ⟨by rw [List.length_map, List.length_singleton, sizeLine_eq]; omega, by rw [sizeLine_eq]; decide, by rw [sizeLine_eq]; show 2 + (0 + 1) ≤ 16777216; decide, ?_⟩
  rw [show PV.tup (List.take (Int.toNat 2) [PV.tup (mg.1.map PV.int), encS mg.2.1, PV.tup (mg.2.2.map PV.int)] ++ [PV.tup (mg.2.2.map PV.int ++ [PV.int 5])]) = encM (mg.1, mg.2.1, mg.2.2 ++ [5]) by unfold encM encS; simp]
  exact eq_same encM_c (by decide) fin
/-! ### law -/
abbrev sp_law : Sp' := sp1 fun x M Q _ => match x with
  | .scr ns => ns.length ≤ 63 ∧ ∀ M', Q (.bl true) M'
  | _ => False
theorem ok_law (T : Txt K mg) : FnP P w K mg base CX0 10 T.f_law T.fd_law ["_law_script"] sp_law := by
  have D__law_board : FnP P w K mg base CX0 9 T.f__law_board T.fd__law_board ["_law_pen_here", "_law_most"] sp__law_board := (ok__law_board T).mono (by decide)
  have D__law_cell_at : FnP P w K mg base CX0 9 T.f__law_cell_at T.fd__law_cell_at ["_law_script", "_law_k"] sp__law_cell_at := (ok__law_cell_at T).mono (by decide)
  have D__law_draw : FnP P w K mg base CX0 9 T.f__law_draw T.fd__law_draw ["_law_pen_here", "_law_many"] sp__law_draw := (ok__law_draw T).mono (by decide)
  have D__law_let_row : FnP P w K mg base CX0 9 T.f__law_let_row T.fd__law_let_row ["_law_pen_here", "_law_board_here", "_law_moment_here", "_law_most"] sp__law_let_row := (ok__law_let_row T).mono (by decide)
  have D__law_moment : FnP P w K mg base CX0 9 T.f__law_moment T.fd__law_moment ["_law_pen_here", "_law_board_here", "_law_most"] sp__law_moment := (ok__law_moment T).mono (by decide)
  have D__law_pen : FnP P w K mg base CX0 9 T.f__law_pen T.fd__law_pen ["_law_cell"] sp__law_pen := (ok__law_pen T).mono (by decide)
  have D__law_right : FnP P w K mg base CX0 9 T.f__law_right T.fd__law_right ["_law_pen_here", "_law_board_here", "_law_moment_here", "_law_row"] sp__law_right := (ok__law_right T).mono (by decide)
  have D__law_twice_right : FnP P w K mg base CX0 9 T.f__law_twice_right T.fd__law_twice_right ["_law_pen_here", "_law_board_here", "_law_moment_here", "_law_row"] sp__law_twice_right := (ok__law_twice_right T).mono (by decide)
  refine fnp_of T.F_law sc_law (fun xs M Q E h => sp1_len h) fun cdv A outer s H E B hG hr E' hE => ⟨_, qss_nox
    (qss_cons (qs_for PassesOwn.never rfl (qi_range1 rfl T.n_range (qa_cons (q_max2 rfl rfl T.n_max (qa_cons q_int (qa_cons (q_min2 rfl rfl T.n_min (qa_cons (q_len rfl T.n_len (qv 0)) (qa_cons q_int qa_nil))) qa_nil))) qa_nil)) (qg_name (i := 1) sc_law.nd rfl (by first | exact Or.inl rfl | exact Or.inr rfl))
      (qss_cons (qs_set (i := 2) sc_law.nd rfl (Or.inr rfl) (q_call1 D__law_pen hG hr rfl T.g__law_pen T.F__law_pen.kp T.b__law_pen (qa_cons (q_call1 D__law_cell_at hG hr rfl T.g__law_cell_at T.F__law_cell_at.kp T.b__law_cell_at (qa_cons (qv 0) (qa_cons (qv 1) qa_nil))) qa_nil)))
      (qss_one (qs_for PassesOwn.never rfl (qi_range1 rfl T.n_range (qa_cons q_int qa_nil)) (qg_name (i := 3) sc_law.nd rfl (by first | exact Or.inl rfl | exact Or.inr rfl))
      (qss_cons (qs_set (i := 4) sc_law.nd rfl (Or.inr rfl) (q_call1 D__law_board hG hr rfl T.g__law_board T.F__law_board.kp T.b__law_board (qa_cons (qv 2) (qa_cons q_int qa_nil))))
      (qss_cons (qs_set (i := 5) sc_law.nd rfl (Or.inl rfl) (q_call1 D__law_moment hG hr rfl T.g__law_moment T.F__law_moment.kp T.b__law_moment (qa_cons (qv 2) (qa_cons (qv 4) (qa_cons q_int qa_nil)))))
      (qss_cons (qs_set (i := 6) sc_law.nd rfl (Or.inl rfl) (q_ixs (q_call1 D__law_let_row hG hr rfl T.g__law_let_row T.F__law_let_row.kp T.b__law_let_row (qa_cons (qv 2) (qa_cons (qv 4) (qa_cons (qv 5) (qa_cons (q_call1 D__law_draw hG hr rfl T.g__law_draw T.F__law_draw.kp T.b__law_draw (qa_cons (qv 2) (qa_cons q_int qa_nil))) qa_nil))))) q_int (fun _ _ => rfl)))
      (qss_cons (qs_set (i := 7) sc_law.nd rfl (Or.inl rfl) (q_tuple rfl T.n_tuple (q_lc (own := [("_law_lap", 8)]) (tg := .nm 8) rfl sc_law.nd (qi_range1 rfl T.n_range (qa_cons q_int qa_nil)) (blkOk_by (own := [("_law_lap", 8)]) (by rfl)) (fun _ _ _ _ _ => (pg_name (i := 8) sc_law.nd rfl (by first | exact Or.inl rfl | exact Or.inr rfl))) (fun _ _ _ _ _ _ => qts_nil) (fun _ _ _ _ _ _ => (q_call1 D__law_draw hG hr rfl T.g__law_draw T.F__law_draw.kp T.b__law_draw (qa_cons (qv 2) (qa_cons (q_len rfl T.n_len (q_ixs (qv 4) q_int (fun _ _ => rfl))) qa_nil)))))))
      (qss_cons (qs_if (qw_pt (qw_or (qt_not (qt_val (q_call1 D__law_right hG hr rfl T.g__law_right T.F__law_right.kp T.b__law_right (qa_cons (qv 2) (qa_cons (qv 4) (qa_cons (qv 5) (qa_cons (qv 6) qa_nil))))))) (qw_or1 (qt_not (qt_val (q_call1 D__law_right hG hr rfl T.g__law_right T.F__law_right.kp T.b__law_right (qa_cons (qv 2) (qa_cons (qv 4) (qa_cons (qv 5) (qa_cons (qv 7) qa_nil))))))))))
      (qss_one (qs_ret q_bl))
      qss_nil)
      (qss_one (qs_if (qt_not (qt_val (q_call1 D__law_twice_right hG hr rfl T.g__law_twice_right T.F__law_twice_right.kp T.b__law_twice_right (qa_cons (qv 2) (qa_cons (qv 4) (qa_cons (qv 5) (qa_cons (qv 6) qa_nil)))))))
      (qss_one (qs_ret q_bl))
      qss_nil)))))))))))
      (qss_one (qs_ret q_bl))), fun xs M Q h => ?_⟩
  obtain ⟨a0, rfl, h⟩ := h
  rw [show startP ["_law_script", "_law_k", "_law_pen_here", "_law_turn", "_law_board_here", "_law_moment_here", "_law_row", "_law_other", "_law_lap"] [a0] = [some a0, none, none, none, none, none, none, none, none] from rfl]
  clear hE hr hG
  cases a0 <;> try exact h.elim
  rename_i ns
  obtain ⟨hl, h⟩ := h
  walk_at "pl2"
  refine ⟨by split <;> omega, by split <;> split <;> omega, ?_⟩
  refine for_by (fun i σ M' => ∃ v1 v2 v3 v4 v5 v6 v7 v8, σ = [some (.scr ns), v1, v2, v3, v4, v5, v6, v7, v8]) ⟨_, _, _, _, _, _, _, _, rfl⟩ ?_ ?_
  · rintro i x σ M2 hx ⟨v1, v2, v3, v4, v5, v6, v7, v8, rfl⟩ N hN
    obtain ⟨hi, rfl⟩ := rgP_at hx
    walk_at "pl2"
    refine ⟨by omega, fun cell p M3 hp0 b3 p3 => ⟨by decide, by decide, ?_⟩⟩
    refine for_by (fun j σ M' => PenAt M' p (3000 * (j : Nat)) ∧ ∃ v3 v4 v5 v6 v7 v8, σ = [some (.scr ns), some (PV.int (0 + (i : Nat))), some (.ref p), v3, v4, v5, v6, v7, v8]) ⟨p3.mono (by omega), _, _, _, _, _, _, rfl⟩ ?_ ?_
    · rintro j x σ M4 hx ⟨p4, v3, v4, v5, v6, v7, v8, rfl⟩ N' hN'
      obtain ⟨hj, rfl⟩ := rgP_at hx
      rw [show Int.toNat 3 = 3 from rfl] at hj
      walk_at "pl2"
      refine ⟨by decide, by decide, _, ?_, p4, fun v M5 hv p5 b5 => ?_⟩
      · omega
      obtain ⟨ws, c, rfl, hb⟩ := board_enc hv
      have n1 := hb.n1
      have n6 := hb.n6
      refine ⟨ws, c, _, rfl, hb, by decide, by decide, ?_, p5, fun m M6 hm hw1 hw2 p6 b6 => ⟨by decide, by decide, _, ?_, p6, fun r M7 r0 r1 p7 b7 => ⟨ws, c, m, _, rfl, rfl, hb, hm, r0, by omega, ?_, p7, fun row m' M8 hlet hrow hlen p8 b8 => ?_⟩⟩⟩
      · omega
      · omega
      · omega
      have hg : goneF ws m row = (row.length, m') := hlet
      walk_at "pl2"
      refine ⟨by decide, by decide, by rw [rgP_length, sizeLine_eq]; decide, ?_⟩
      refine lc_by (fun t acc M' => ∃ ot : List Nat, acc = ot.map (fun i => PV.int ((i : Nat) : Int)) ∧ ot.length = t ∧ (∀ i ∈ ot, i < ws.length) ∧ PenAt M' p (3000 * (j : Nat) + 1000 + 100 + 1 + r + (t : Nat)) ∧ But p M8 M') ⟨[], rfl, rfl, by simp, p8.mono (by omega), .refl⟩ ?_ ?_
      · rintro t x acc M9 hx ⟨ot, rfl, g1, g2, g3, g4⟩ N2 hN2
        obtain ⟨ht, rfl⟩ := rgP_at hx
        rw [show Int.toNat 4 = 4 from rfl] at ht
        rw [show encB ws c = .tup [.tup (ws.map encW), .int c] from rfl]
        walk_at "pl2"
        rw [List.length_map]
        refine ⟨by omega, by omega, _, ?_, g3, fun u M10 u0 u1 p10 b10 => hN2 _ _ ⟨ot ++ [u.toNat], ?_, by simp [g1], fun i hi => ?_, p10.mono (by omega), g4.trans b10⟩⟩
        · omega
        · rw [List.map_append, List.map_singleton, show ((u.toNat : Nat) : Int) = u by omega]
        · rcases List.mem_append.mp hi with hi | hi
          · exact g2 i hi
          · rw [List.mem_singleton] at hi; omega
      rintro acc M9 ⟨ot, rfl, g1, g2, g3, g4⟩
      rw [rgP_length, show Int.toNat 4 = 4 from rfl] at g1 g3
      refine ⟨by rw [List.length_map, sizeLine_eq]; omega, ws, c, m, row, _, rfl, rfl, rfl, hb, hm, hrow, by omega, ?_, g3, fun M10 p10 b10 => ⟨ws, c, m, ot, _, rfl, rfl, rfl, hb, hm, g2, by omega, ?_, p10, fun M11 p11 b11 => ?_⟩⟩
      · omega
      · omega
      walk_at "pl2"
      refine ⟨ws, c, m, row, _, rfl, rfl, rfl, hb, hm, hrow, by omega, by rw [hg], ?_, p11, fun M12 p12 b12 => ?_⟩
      · omega
      walk_at "pl2"
      exact hN' _ _ ⟨p12.mono (by omega), _, _, _, _, _, _, rfl⟩
    · rintro σ M4 ⟨p4, v3, v4, v5, v6, v7, v8, rfl⟩
      exact hN _ _ ⟨_, _, _, _, _, _, _, _, rfl⟩
  · rintro σ M2 ⟨v1, v2, v3, v4, v5, v6, v7, v8, rfl⟩
    exact Fewer.of (h _)
end
def txt_mk {K : PySem.W.Frag} {h : Heap} {mg : Str → Option Value} (X : K.In h) (G : h.Ns mainGlobals mg) {f0 : Addr} {od0 an0 : Option Addr} {sl0 : Array (Option Value)} {oc0 kV0 dc0 pm0 cd0 ct0 : Value} {f1 : Addr} {od1 an1 : Option Addr} {sl1 : Array (Option Value)} {oc1 kV1 dc1 pm1 cd1 ct1 : Value} {f2 : Addr} {od2 an2 : Option Addr} {sl2 : Array (Option Value)} {oc2 kV2 dc2 pm2 cd2 ct2 : Value} {f3 : Addr} {od3 an3 : Option Addr} {sl3 : Array (Option Value)} {oc3 kV3 dc3 pm3 cd3 ct3 : Value} {f4 : Addr} {od4 an4 : Option Addr} {sl4 : Array (Option Value)} {oc4 kV4 dc4 pm4 cd4 ct4 : Value} {f5 : Addr} {od5 an5 : Option Addr} {sl5 : Array (Option Value)} {oc5 kV5 dc5 pm5 cd5 ct5 : Value} {f6 : Addr} {od6 an6 : Option Addr} {sl6 : Array (Option Value)} {oc6 kV6 dc6 pm6 cd6 ct6 : Value} {f7 : Addr} {od7 an7 : Option Addr} {sl7 : Array (Option Value)} {oc7 kV7 dc7 pm7 cd7 ct7 : Value} {f8 : Addr} {od8 an8 : Option Addr} {sl8 : Array (Option Value)} {oc8 kV8 dc8 pm8 cd8 ct8 : Value} {f9 : Addr} {od9 an9 : Option Addr} {sl9 : Array (Option Value)} {oc9 kV9 dc9 pm9 cd9 ct9 : Value} {f10 : Addr} {od10 an10 : Option Addr} {sl10 : Array (Option Value)} {oc10 kV10 dc10 pm10 cd10 ct10 : Value} {f11 : Addr} {od11 an11 : Option Addr} {sl11 : Array (Option Value)} {oc11 kV11 dc11 pm11 cd11 ct11 : Value} {f12 : Addr} {od12 an12 : Option Addr} {sl12 : Array (Option Value)} {oc12 kV12 dc12 pm12 cd12 ct12 : Value} {f13 : Addr} {od13 an13 : Option Addr} {sl13 : Array (Option Value)} {oc13 kV13 dc13 pm13 cd13 ct13 : Value} {f14 : Addr} {od14 an14 : Option Addr} {sl14 : Array (Option Value)} {oc14 kV14 dc14 pm14 cd14 ct14 : Value} {f15 : Addr} {od15 an15 : Option Addr} {sl15 : Array (Option Value)} {oc15 kV15 dc15 pm15 cd15 ct15 : Value} {f16 : Addr} {od16 an16 : Option Addr} {sl16 : Array (Option Value)} {oc16 kV16 dc16 pm16 cd16 ct16 : Value} {f17 : Addr} {od17 an17 : Option Addr} {sl17 : Array (Option Value)} {oc17 kV17 dc17 pm17 cd17 ct17 : Value} {f18 : Addr} {od18 an18 : Option Addr} {sl18 : Array (Option Value)} {oc18 kV18 dc18 pm18 cd18 ct18 : Value} {f19 : Addr} {od19 an19 : Option Addr} {sl19 : Array (Option Value)} {oc19 kV19 dc19 pm19 cd19 ct19 : Value} {f20 : Addr} {od20 an20 : Option Addr} {sl20 : Array (Option Value)} {oc20 kV20 dc20 pm20 cd20 ct20 : Value} {f21 : Addr} {od21 an21 : Option Addr} {sl21 : Array (Option Value)} {oc21 kV21 dc21 pm21 cd21 ct21 : Value} {f22 : Addr} {od22 an22 : Option Addr} {sl22 : Array (Option Value)} {oc22 kV22 dc22 pm22 cd22 ct22 : Value} {f23 : Addr} {od23 an23 : Option Addr} {sl23 : Array (Option Value)} {oc23 kV23 dc23 pm23 cd23 ct23 : Value} {f24 : Addr} {od24 an24 : Option Addr} {sl24 : Array (Option Value)} {oc24 kV24 dc24 pm24 cd24 ct24 : Value} {f25 : Addr} {od25 an25 : Option Addr} {sl25 : Array (Option Value)} {oc25 kV25 dc25 pm25 cd25 ct25 : Value} {f26 : Addr} {od26 an26 : Option Addr} {sl26 : Array (Option Value)} {oc26 kV26 dc26 pm26 cd26 ct26 : Value} {f27 : Addr} {od27 an27 : Option Addr} {sl27 : Array (Option Value)} {oc27 kV27 dc27 pm27 cd27 ct27 : Value} {f28 : Addr} {od28 an28 : Option Addr} {sl28 : Array (Option Value)} {oc28 kV28 dc28 pm28 cd28 ct28 : Value} {f29 : Addr} {od29 an29 : Option Addr} {sl29 : Array (Option Value)} {oc29 kV29 dc29 pm29 cd29 ct29 : Value} {f30 : Addr} {od30 an30 : Option Addr} {sl30 : Array (Option Value)} {oc30 kV30 dc30 pm30 cd30 ct30 : Value} {f31 : Addr} {od31 an31 : Option Addr} {sl31 : Array (Option Value)} {oc31 kV31 dc31 pm31 cd31 ct31 : Value} {f32 : Addr} {od32 an32 : Option Addr} {sl32 : Array (Option Value)} {oc32 kV32 dc32 pm32 cd32 ct32 : Value} {f33 : Addr} {od33 an33 : Option Addr} {sl33 : Array (Option Value)} {oc33 kV33 dc33 pm33 cd33 ct33 : Value} {f34 : Addr} {od34 an34 : Option Addr} {sl34 : Array (Option Value)} {oc34 kV34 dc34 pm34 cd34 ct34 : Value} {f35 : Addr} {od35 an35 : Option Addr} {sl35 : Array (Option Value)} {oc35 kV35 dc35 pm35 cd35 ct35 : Value} {t_MOST_WHEELS : Tok} {t_MOST_CUPS : Tok} {t_MOST_STEPS : Tok} {t_MOST_ENDS : Tok}
    (a0 : PySem.W.nsIn K mainGlobals "is_whole" = some (some (.ref f0))) (l0 : K.lookup f0 = some ⟨oc0, od0, .func (PySem.W.fnOf "is_whole" "is_whole" (defArgs s_is_whole) (defBody s_is_whole) (defScope s_is_whole) .none kV0 dc0 pm0 an0 cd0 ct0), sl0⟩) (c0 : PySem.W.codeIn K cd0 "is_whole" = true) (k0 : PySem.W.keepIn K (.ref f0) = true)
    (a1 : PySem.W.nsIn K mainGlobals "is_among" = some (some (.ref f1))) (l1 : K.lookup f1 = some ⟨oc1, od1, .func (PySem.W.fnOf "is_among" "is_among" (defArgs s_is_among) (defBody s_is_among) (defScope s_is_among) .none kV1 dc1 pm1 an1 cd1 ct1), sl1⟩) (c1 : PySem.W.codeIn K cd1 "is_among" = true) (k1 : PySem.W.keepIn K (.ref f1) = true)
    (a2 : PySem.W.nsIn K mainGlobals "is_row" = some (some (.ref f2))) (l2 : K.lookup f2 = some ⟨oc2, od2, .func (PySem.W.fnOf "is_row" "is_row" (defArgs s_is_row) (defBody s_is_row) (defScope s_is_row) .none kV2 dc2 pm2 an2 cd2 ct2), sl2⟩) (c2 : PySem.W.codeIn K cd2 "is_row" = true) (k2 : PySem.W.keepIn K (.ref f2) = true)
    (a3 : PySem.W.nsIn K mainGlobals "is_step" = some (some (.ref f3))) (l3 : K.lookup f3 = some ⟨oc3, od3, .func (PySem.W.fnOf "is_step" "is_step" (defArgs s_is_step) (defBody s_is_step) (defScope s_is_step) .none kV3 dc3 pm3 an3 cd3 ct3), sl3⟩) (c3 : PySem.W.codeIn K cd3 "is_step" = true) (k3 : PySem.W.keepIn K (.ref f3) = true)
    (a4 : PySem.W.nsIn K mainGlobals "is_wheel" = some (some (.ref f4))) (l4 : K.lookup f4 = some ⟨oc4, od4, .func (PySem.W.fnOf "is_wheel" "is_wheel" (defArgs s_is_wheel) (defBody s_is_wheel) (defScope s_is_wheel) .none kV4 dc4 pm4 an4 cd4 ct4), sl4⟩) (c4 : PySem.W.codeIn K cd4 "is_wheel" = true) (k4 : PySem.W.keepIn K (.ref f4) = true)
    (a5 : PySem.W.nsIn K mainGlobals "is_board" = some (some (.ref f5))) (l5 : K.lookup f5 = some ⟨oc5, od5, .func (PySem.W.fnOf "is_board" "is_board" (defArgs s_is_board) (defBody s_is_board) (defScope s_is_board) .none kV5 dc5 pm5 an5 cd5 ct5), sl5⟩) (c5 : PySem.W.codeIn K cd5 "is_board" = true) (k5 : PySem.W.keepIn K (.ref f5) = true)
    (a6 : PySem.W.nsIn K mainGlobals "need_board" = some (some (.ref f6))) (l6 : K.lookup f6 = some ⟨oc6, od6, .func (PySem.W.fnOf "need_board" "need_board" (defArgs s_need_board) (defBody s_need_board) (defScope s_need_board) .none kV6 dc6 pm6 an6 cd6 ct6), sl6⟩) (c6 : PySem.W.codeIn K cd6 "need_board" = true) (k6 : PySem.W.keepIn K (.ref f6) = true)
    (a7 : PySem.W.nsIn K mainGlobals "is_stand_by" = some (some (.ref f7))) (l7 : K.lookup f7 = some ⟨oc7, od7, .func (PySem.W.fnOf "is_stand_by" "is_stand_by" (defArgs s_is_stand_by) (defBody s_is_stand_by) (defScope s_is_stand_by) .none kV7 dc7 pm7 an7 cd7 ct7), sl7⟩) (c7 : PySem.W.codeIn K cd7 "is_stand_by" = true) (k7 : PySem.W.keepIn K (.ref f7) = true)
    (a8 : PySem.W.nsIn K mainGlobals "are_counts" = some (some (.ref f8))) (l8 : K.lookup f8 = some ⟨oc8, od8, .func (PySem.W.fnOf "are_counts" "are_counts" (defArgs s_are_counts) (defBody s_are_counts) (defScope s_are_counts) .none kV8 dc8 pm8 an8 cd8 ct8), sl8⟩) (c8 : PySem.W.codeIn K cd8 "are_counts" = true) (k8 : PySem.W.keepIn K (.ref f8) = true)
    (a9 : PySem.W.nsIn K mainGlobals "is_moment_by" = some (some (.ref f9))) (l9 : K.lookup f9 = some ⟨oc9, od9, .func (PySem.W.fnOf "is_moment_by" "is_moment_by" (defArgs s_is_moment_by) (defBody s_is_moment_by) (defScope s_is_moment_by) .none kV9 dc9 pm9 an9 cd9 ct9), sl9⟩) (c9 : PySem.W.codeIn K cd9 "is_moment_by" = true) (k9 : PySem.W.keepIn K (.ref f9) = true)
    (a10 : PySem.W.nsIn K mainGlobals "is_moment" = some (some (.ref f10))) (l10 : K.lookup f10 = some ⟨oc10, od10, .func (PySem.W.fnOf "is_moment" "is_moment" (defArgs s_is_moment) (defBody s_is_moment) (defScope s_is_moment) .none kV10 dc10 pm10 an10 cd10 ct10), sl10⟩) (c10 : PySem.W.codeIn K cd10 "is_moment" = true) (k10 : PySem.W.keepIn K (.ref f10) = true)
    (a11 : PySem.W.nsIn K mainGlobals "need_moment" = some (some (.ref f11))) (l11 : K.lookup f11 = some ⟨oc11, od11, .func (PySem.W.fnOf "need_moment" "need_moment" (defArgs s_need_moment) (defBody s_need_moment) (defScope s_need_moment) .none kV11 dc11 pm11 an11 cd11 ct11), sl11⟩) (c11 : PySem.W.codeIn K cd11 "need_moment" = true) (k11 : PySem.W.keepIn K (.ref f11) = true)
    (a12 : PySem.W.nsIn K mainGlobals "is_wheel_of" = some (some (.ref f12))) (l12 : K.lookup f12 = some ⟨oc12, od12, .func (PySem.W.fnOf "is_wheel_of" "is_wheel_of" (defArgs s_is_wheel_of) (defBody s_is_wheel_of) (defScope s_is_wheel_of) .none kV12 dc12 pm12 an12 cd12 ct12), sl12⟩) (c12 : PySem.W.codeIn K cd12 "is_wheel_of" = true) (k12 : PySem.W.keepIn K (.ref f12) = true)
    (a13 : PySem.W.nsIn K mainGlobals "handled_by" = some (some (.ref f13))) (l13 : K.lookup f13 = some ⟨oc13, od13, .func (PySem.W.fnOf "handled_by" "handled_by" (defArgs s_handled_by) (defBody s_handled_by) (defScope s_handled_by) .none kV13 dc13 pm13 an13 cd13 ct13), sl13⟩) (c13 : PySem.W.codeIn K cd13 "handled_by" = true) (k13 : PySem.W.keepIn K (.ref f13) = true)
    (a14 : PySem.W.nsIn K mainGlobals "are_wheels" = some (some (.ref f14))) (l14 : K.lookup f14 = some ⟨oc14, od14, .func (PySem.W.fnOf "are_wheels" "are_wheels" (defArgs s_are_wheels) (defBody s_are_wheels) (defScope s_are_wheels) .none kV14 dc14 pm14 an14 cd14 ct14), sl14⟩) (c14 : PySem.W.codeIn K cd14 "are_wheels" = true) (k14 : PySem.W.keepIn K (.ref f14) = true)
    (a15 : PySem.W.nsIn K mainGlobals "need_row" = some (some (.ref f15))) (l15 : K.lookup f15 = some ⟨oc15, od15, .func (PySem.W.fnOf "need_row" "need_row" (defArgs s_need_row) (defBody s_need_row) (defScope s_need_row) .none kV15 dc15 pm15 an15 cd15 ct15), sl15⟩) (c15 : PySem.W.codeIn K cd15 "need_row" = true) (k15 : PySem.W.keepIn K (.ref f15) = true)
    (a16 : PySem.W.nsIn K mainGlobals "gone_by" = some (some (.ref f16))) (l16 : K.lookup f16 = some ⟨oc16, od16, .func (PySem.W.fnOf "gone_by" "gone_by" (defArgs s_gone_by) (defBody s_gone_by) (defScope s_gone_by) .none kV16 dc16 pm16 an16 cd16 ct16), sl16⟩) (c16 : PySem.W.codeIn K cd16 "gone_by" = true) (k16 : PySem.W.keepIn K (.ref f16) = true)
    (a17 : PySem.W.nsIn K mainGlobals "behind_by" = some (some (.ref f17))) (l17 : K.lookup f17 = some ⟨oc17, od17, .func (PySem.W.fnOf "behind_by" "behind_by" (defArgs s_behind_by) (defBody s_behind_by) (defScope s_behind_by) .none kV17 dc17 pm17 an17 cd17 ct17), sl17⟩) (c17 : PySem.W.codeIn K cd17 "behind_by" = true) (k17 : PySem.W.keepIn K (.ref f17) = true)
    (a18 : PySem.W.nsIn K mainGlobals "need_asked" = some (some (.ref f18))) (l18 : K.lookup f18 = some ⟨oc18, od18, .func (PySem.W.fnOf "need_asked" "need_asked" (defArgs s_need_asked) (defBody s_need_asked) (defScope s_need_asked) .none kV18 dc18 pm18 an18 cd18 ct18), sl18⟩) (c18 : PySem.W.codeIn K cd18 "need_asked" = true) (k18 : PySem.W.keepIn K (.ref f18) = true)
    (a19 : PySem.W.nsIn K mainGlobals "first_wrong" = some (some (.ref f19))) (l19 : K.lookup f19 = some ⟨oc19, od19, .func (PySem.W.fnOf "first_wrong" "first_wrong" (defArgs s_first_wrong) (defBody s_first_wrong) (defScope s_first_wrong) .none kV19 dc19 pm19 an19 cd19 ct19), sl19⟩) (c19 : PySem.W.codeIn K cd19 "first_wrong" = true) (k19 : PySem.W.keepIn K (.ref f19) = true)
    (a20 : PySem.W.nsIn K mainGlobals "behind" = some (some (.ref f20))) (l20 : K.lookup f20 = some ⟨oc20, od20, .func (PySem.W.fnOf "behind" "behind" (defArgs s_behind) (defBody s_behind) (defScope s_behind) .none kV20 dc20 pm20 an20 cd20 ct20), sl20⟩) (c20 : PySem.W.codeIn K cd20 "behind" = true) (k20 : PySem.W.keepIn K (.ref f20) = true)
    (a21 : PySem.W.nsIn K mainGlobals "_law_cell_at" = some (some (.ref f21))) (l21 : K.lookup f21 = some ⟨oc21, od21, .func (PySem.W.fnOf "_law_cell_at" "_law_cell_at" (defArgs s__law_cell_at) (defBody s__law_cell_at) (defScope s__law_cell_at) .none kV21 dc21 pm21 an21 cd21 ct21), sl21⟩) (c21 : PySem.W.codeIn K cd21 "_law_cell_at" = true) (k21 : PySem.W.keepIn K (.ref f21) = true)
    (a22 : PySem.W.nsIn K mainGlobals "_law_pen" = some (some (.ref f22))) (l22 : K.lookup f22 = some ⟨oc22, od22, .func (PySem.W.fnOf "_law_pen" "_law_pen" (defArgs s__law_pen) (defBody s__law_pen) (defScope s__law_pen) .none kV22 dc22 pm22 an22 cd22 ct22), sl22⟩) (c22 : PySem.W.codeIn K cd22 "_law_pen" = true) (k22 : PySem.W.keepIn K (.ref f22) = true)
    (a23 : PySem.W.nsIn K mainGlobals "_law_draw" = some (some (.ref f23))) (l23 : K.lookup f23 = some ⟨oc23, od23, .func (PySem.W.fnOf "_law_draw" "_law_draw" (defArgs s__law_draw) (defBody s__law_draw) (defScope s__law_draw) .none kV23 dc23 pm23 an23 cd23 ct23), sl23⟩) (c23 : PySem.W.codeIn K cd23 "_law_draw" = true) (k23 : PySem.W.keepIn K (.ref f23) = true)
    (a24 : PySem.W.nsIn K mainGlobals "_law_pick" = some (some (.ref f24))) (l24 : K.lookup f24 = some ⟨oc24, od24, .func (PySem.W.fnOf "_law_pick" "_law_pick" (defArgs s__law_pick) (defBody s__law_pick) (defScope s__law_pick) .none kV24 dc24 pm24 an24 cd24 ct24), sl24⟩) (c24 : PySem.W.codeIn K cd24 "_law_pick" = true) (k24 : PySem.W.keepIn K (.ref f24) = true)
    (a25 : PySem.W.nsIn K mainGlobals "_law_board" = some (some (.ref f25))) (l25 : K.lookup f25 = some ⟨oc25, od25, .func (PySem.W.fnOf "_law_board" "_law_board" (defArgs s__law_board) (defBody s__law_board) (defScope s__law_board) .none kV25 dc25 pm25 an25 cd25 ct25), sl25⟩) (c25 : PySem.W.codeIn K cd25 "_law_board" = true) (k25 : PySem.W.keepIn K (.ref f25) = true)
    (a26 : PySem.W.nsIn K mainGlobals "_law_moment" = some (some (.ref f26))) (l26 : K.lookup f26 = some ⟨oc26, od26, .func (PySem.W.fnOf "_law_moment" "_law_moment" (defArgs s__law_moment) (defBody s__law_moment) (defScope s__law_moment) .none kV26 dc26 pm26 an26 cd26 ct26), sl26⟩) (c26 : PySem.W.codeIn K cd26 "_law_moment" = true) (k26 : PySem.W.keepIn K (.ref f26) = true)
    (a27 : PySem.W.nsIn K mainGlobals "_law_handle" = some (some (.ref f27))) (l27 : K.lookup f27 = some ⟨oc27, od27, .func (PySem.W.fnOf "_law_handle" "_law_handle" (defArgs s__law_handle) (defBody s__law_handle) (defScope s__law_handle) .none kV27 dc27 pm27 an27 cd27 ct27), sl27⟩) (c27 : PySem.W.codeIn K cd27 "_law_handle" = true) (k27 : PySem.W.keepIn K (.ref f27) = true)
    (a28 : PySem.W.nsIn K mainGlobals "_law_ready" = some (some (.ref f28))) (l28 : K.lookup f28 = some ⟨oc28, od28, .func (PySem.W.fnOf "_law_ready" "_law_ready" (defArgs s__law_ready) (defBody s__law_ready) (defScope s__law_ready) .none kV28 dc28 pm28 an28 cd28 ct28), sl28⟩) (c28 : PySem.W.codeIn K cd28 "_law_ready" = true) (k28 : PySem.W.keepIn K (.ref f28) = true)
    (a29 : PySem.W.nsIn K mainGlobals "_law_let_row" = some (some (.ref f29))) (l29 : K.lookup f29 = some ⟨oc29, od29, .func (PySem.W.fnOf "_law_let_row" "_law_let_row" (defArgs s__law_let_row) (defBody s__law_let_row) (defScope s__law_let_row) .none kV29 dc29 pm29 an29 cd29 ct29), sl29⟩) (c29 : PySem.W.codeIn K cd29 "_law_let_row" = true) (k29 : PySem.W.keepIn K (.ref f29) = true)
    (a30 : PySem.W.nsIn K mainGlobals "_law_mixed" = some (some (.ref f30))) (l30 : K.lookup f30 = some ⟨oc30, od30, .func (PySem.W.fnOf "_law_mixed" "_law_mixed" (defArgs s__law_mixed) (defBody s__law_mixed) (defScope s__law_mixed) .none kV30 dc30 pm30 an30 cd30 ct30), sl30⟩) (c30 : PySem.W.codeIn K cd30 "_law_mixed" = true) (k30 : PySem.W.keepIn K (.ref f30) = true)
    (a31 : PySem.W.nsIn K mainGlobals "_law_moved" = some (some (.ref f31))) (l31 : K.lookup f31 = some ⟨oc31, od31, .func (PySem.W.fnOf "_law_moved" "_law_moved" (defArgs s__law_moved) (defBody s__law_moved) (defScope s__law_moved) .none kV31 dc31 pm31 an31 cd31 ct31), sl31⟩) (c31 : PySem.W.codeIn K cd31 "_law_moved" = true) (k31 : PySem.W.keepIn K (.ref f31) = true)
    (a32 : PySem.W.nsIn K mainGlobals "_law_named" = some (some (.ref f32))) (l32 : K.lookup f32 = some ⟨oc32, od32, .func (PySem.W.fnOf "_law_named" "_law_named" (defArgs s__law_named) (defBody s__law_named) (defScope s__law_named) .none kV32 dc32 pm32 an32 cd32 ct32), sl32⟩) (c32 : PySem.W.codeIn K cd32 "_law_named" = true) (k32 : PySem.W.keepIn K (.ref f32) = true)
    (a33 : PySem.W.nsIn K mainGlobals "_law_right" = some (some (.ref f33))) (l33 : K.lookup f33 = some ⟨oc33, od33, .func (PySem.W.fnOf "_law_right" "_law_right" (defArgs s__law_right) (defBody s__law_right) (defScope s__law_right) .none kV33 dc33 pm33 an33 cd33 ct33), sl33⟩) (c33 : PySem.W.codeIn K cd33 "_law_right" = true) (k33 : PySem.W.keepIn K (.ref f33) = true)
    (a34 : PySem.W.nsIn K mainGlobals "_law_twice_right" = some (some (.ref f34))) (l34 : K.lookup f34 = some ⟨oc34, od34, .func (PySem.W.fnOf "_law_twice_right" "_law_twice_right" (defArgs s__law_twice_right) (defBody s__law_twice_right) (defScope s__law_twice_right) .none kV34 dc34 pm34 an34 cd34 ct34), sl34⟩) (c34 : PySem.W.codeIn K cd34 "_law_twice_right" = true) (k34 : PySem.W.keepIn K (.ref f34) = true)
    (a35 : PySem.W.nsIn K mainGlobals "law" = some (some (.ref f35))) (l35 : K.lookup f35 = some ⟨oc35, od35, .func (PySem.W.fnOf "law" "law" (defArgs s_law) (defBody s_law) (defScope s_law) .none kV35 dc35 pm35 an35 cd35 ct35), sl35⟩) (c35 : PySem.W.codeIn K cd35 "law" = true) (k35 : PySem.W.keepIn K (.ref f35) = true)
    (c_MOST_WHEELS : PySem.W.nsIn K mainGlobals "MOST_WHEELS" = some (some (.int 6 t_MOST_WHEELS)))
    (c_MOST_CUPS : PySem.W.nsIn K mainGlobals "MOST_CUPS" = some (some (.int 4 t_MOST_CUPS)))
    (c_MOST_STEPS : PySem.W.nsIn K mainGlobals "MOST_STEPS" = some (some (.int 4 t_MOST_STEPS)))
    (c_MOST_ENDS : PySem.W.nsIn K mainGlobals "MOST_ENDS" = some (some (.int 3 t_MOST_ENDS)))
    (z_all : PySem.W.nsIn K mainGlobals "all" = some none)
    (z_bool : PySem.W.nsIn K mainGlobals "bool" = some none)
    (z_enumerate : PySem.W.nsIn K mainGlobals "enumerate" = some none)
    (z_int : PySem.W.nsIn K mainGlobals "int" = some none)
    (z_isinstance : PySem.W.nsIn K mainGlobals "isinstance" = some none)
    (z_len : PySem.W.nsIn K mainGlobals "len" = some none)
    (z_list : PySem.W.nsIn K mainGlobals "list" = some none)
    (z_max : PySem.W.nsIn K mainGlobals "max" = some none)
    (z_min : PySem.W.nsIn K mainGlobals "min" = some none)
    (z_range : PySem.W.nsIn K mainGlobals "range" = some none)
    (z_tuple : PySem.W.nsIn K mainGlobals "tuple" = some none)
    (z_zip : PySem.W.nsIn K mainGlobals "zip" = some none) : Txt K mg :=
  { f_is_whole := f0, fd_is_whole := _, F_is_whole := fun_mk (st := s_is_whole) l0 c0 k0, g_is_whole := PySem.W.mg_of X G a0, b_is_whole := (fun_mk (st := s_is_whole) l0 c0 k0).binds (ps := ["thing"]) fun _ _ _ _ _ _ us hl => match us, hl with | [_], _ => rfl,
    f_is_among := f1, fd_is_among := _, F_is_among := fun_mk (st := s_is_among) l1 c1 k1, g_is_among := PySem.W.mg_of X G a1, b_is_among := (fun_mk (st := s_is_among) l1 c1 k1).binds (ps := ["thing", "low", "high"]) fun _ _ _ _ _ _ us hl => match us, hl with | [_, _, _], _ => rfl,
    f_is_row := f2, fd_is_row := _, F_is_row := fun_mk (st := s_is_row) l2 c2 k2, g_is_row := PySem.W.mg_of X G a2, b_is_row := (fun_mk (st := s_is_row) l2 c2 k2).binds (ps := ["thing", "low", "high"]) fun _ _ _ _ _ _ us hl => match us, hl with | [_, _, _], _ => rfl,
    f_is_step := f3, fd_is_step := _, F_is_step := fun_mk (st := s_is_step) l3 c3 k3, g_is_step := PySem.W.mg_of X G a3, b_is_step := (fun_mk (st := s_is_step) l3 c3 k3).binds (ps := ["thing", "ends"]) fun _ _ _ _ _ _ us hl => match us, hl with | [_, _], _ => rfl,
    f_is_wheel := f4, fd_is_wheel := _, F_is_wheel := fun_mk (st := s_is_wheel) l4 c4 k4, g_is_wheel := PySem.W.mg_of X G a4, b_is_wheel := (fun_mk (st := s_is_wheel) l4 c4 k4).binds (ps := ["thing", "ends"]) fun _ _ _ _ _ _ us hl => match us, hl with | [_, _], _ => rfl,
    f_is_board := f5, fd_is_board := _, F_is_board := fun_mk (st := s_is_board) l5 c5 k5, g_is_board := PySem.W.mg_of X G a5, b_is_board := (fun_mk (st := s_is_board) l5 c5 k5).binds (ps := ["thing"]) fun _ _ _ _ _ _ us hl => match us, hl with | [_], _ => rfl,
    f_need_board := f6, fd_need_board := _, F_need_board := fun_mk (st := s_need_board) l6 c6 k6, g_need_board := PySem.W.mg_of X G a6, b_need_board := (fun_mk (st := s_need_board) l6 c6 k6).binds (ps := ["thing"]) fun _ _ _ _ _ _ us hl => match us, hl with | [_], _ => rfl,
    f_is_stand_by := f7, fd_is_stand_by := _, F_is_stand_by := fun_mk (st := s_is_stand_by) l7 c7 k7, g_is_stand_by := PySem.W.mg_of X G a7, b_is_stand_by := (fun_mk (st := s_is_stand_by) l7 c7 k7).binds (ps := ["board", "thing"]) fun _ _ _ _ _ _ us hl => match us, hl with | [_, _], _ => rfl,
    f_are_counts := f8, fd_are_counts := _, F_are_counts := fun_mk (st := s_are_counts) l8 c8 k8, g_are_counts := PySem.W.mg_of X G a8, b_are_counts := (fun_mk (st := s_are_counts) l8 c8 k8).binds (ps := ["thing", "many"]) fun _ _ _ _ _ _ us hl => match us, hl with | [_, _], _ => rfl,
    f_is_moment_by := f9, fd_is_moment_by := _, F_is_moment_by := fun_mk (st := s_is_moment_by) l9 c9 k9, g_is_moment_by := PySem.W.mg_of X G a9, b_is_moment_by := (fun_mk (st := s_is_moment_by) l9 c9 k9).binds (ps := ["board", "thing"]) fun _ _ _ _ _ _ us hl => match us, hl with | [_, _], _ => rfl,
    f_is_moment := f10, fd_is_moment := _, F_is_moment := fun_mk (st := s_is_moment) l10 c10 k10, g_is_moment := PySem.W.mg_of X G a10, b_is_moment := (fun_mk (st := s_is_moment) l10 c10 k10).binds (ps := ["board", "thing"]) fun _ _ _ _ _ _ us hl => match us, hl with | [_, _], _ => rfl,
    f_need_moment := f11, fd_need_moment := _, F_need_moment := fun_mk (st := s_need_moment) l11 c11 k11, g_need_moment := PySem.W.mg_of X G a11, b_need_moment := (fun_mk (st := s_need_moment) l11 c11 k11).binds (ps := ["board", "thing"]) fun _ _ _ _ _ _ us hl => match us, hl with | [_, _], _ => rfl,
    f_is_wheel_of := f12, fd_is_wheel_of := _, F_is_wheel_of := fun_mk (st := s_is_wheel_of) l12 c12 k12, g_is_wheel_of := PySem.W.mg_of X G a12, b_is_wheel_of := (fun_mk (st := s_is_wheel_of) l12 c12 k12).binds (ps := ["board", "thing"]) fun _ _ _ _ _ _ us hl => match us, hl with | [_, _], _ => rfl,
    f_handled_by := f13, fd_handled_by := _, F_handled_by := fun_mk (st := s_handled_by) l13 c13 k13, g_handled_by := PySem.W.mg_of X G a13, b_handled_by := (fun_mk (st := s_handled_by) l13 c13 k13).binds (ps := ["board", "moment", "wheel"]) fun _ _ _ _ _ _ us hl => match us, hl with | [_, _, _], _ => rfl,
    f_are_wheels := f14, fd_are_wheels := _, F_are_wheels := fun_mk (st := s_are_wheels) l14 c14 k14, g_are_wheels := PySem.W.mg_of X G a14, b_are_wheels := (fun_mk (st := s_are_wheels) l14 c14 k14).binds (ps := ["board", "thing"]) fun _ _ _ _ _ _ us hl => match us, hl with | [_, _], _ => rfl,
    f_need_row := f15, fd_need_row := _, F_need_row := fun_mk (st := s_need_row) l15 c15 k15, g_need_row := PySem.W.mg_of X G a15, b_need_row := (fun_mk (st := s_need_row) l15 c15 k15).binds (ps := ["board", "thing"]) fun _ _ _ _ _ _ us hl => match us, hl with | [_, _], _ => rfl,
    f_gone_by := f16, fd_gone_by := _, F_gone_by := fun_mk (st := s_gone_by) l16 c16 k16, g_gone_by := PySem.W.mg_of X G a16, b_gone_by := (fun_mk (st := s_gone_by) l16 c16 k16).binds (ps := ["board", "moment", "row"]) fun _ _ _ _ _ _ us hl => match us, hl with | [_, _, _], _ => rfl,
    f_behind_by := f17, fd_behind_by := _, F_behind_by := fun_mk (st := s_behind_by) l17 c17 k17, g_behind_by := PySem.W.mg_of X G a17, b_behind_by := (fun_mk (st := s_behind_by) l17 c17 k17).binds (ps := ["board", "moment", "row"]) fun _ _ _ _ _ _ us hl => match us, hl with | [_, _, _], _ => rfl,
    f_need_asked := f18, fd_need_asked := _, F_need_asked := fun_mk (st := s_need_asked) l18 c18 k18, g_need_asked := PySem.W.mg_of X G a18, b_need_asked := (fun_mk (st := s_need_asked) l18 c18 k18).binds (ps := ["board", "moment", "row"]) fun _ _ _ _ _ _ us hl => match us, hl with | [_, _, _], _ => rfl,
    f_first_wrong := f19, fd_first_wrong := _, F_first_wrong := fun_mk (st := s_first_wrong) l19 c19 k19, g_first_wrong := PySem.W.mg_of X G a19, b_first_wrong := (fun_mk (st := s_first_wrong) l19 c19 k19).binds (ps := ["board", "moment", "row"]) fun _ _ _ _ _ _ us hl => match us, hl with | [_, _, _], _ => rfl,
    f_behind := f20, fd_behind := _, F_behind := fun_mk (st := s_behind) l20 c20 k20, g_behind := PySem.W.mg_of X G a20, b_behind := (fun_mk (st := s_behind) l20 c20 k20).binds (ps := ["board", "moment", "row"]) fun _ _ _ _ _ _ us hl => match us, hl with | [_, _, _], _ => rfl,
    f__law_cell_at := f21, fd__law_cell_at := _, F__law_cell_at := fun_mk (st := s__law_cell_at) l21 c21 k21, g__law_cell_at := PySem.W.mg_of X G a21, b__law_cell_at := (fun_mk (st := s__law_cell_at) l21 c21 k21).binds (ps := ["_law_script", "_law_k"]) fun _ _ _ _ _ _ us hl => match us, hl with | [_, _], _ => rfl,
    f__law_pen := f22, fd__law_pen := _, F__law_pen := fun_mk (st := s__law_pen) l22 c22 k22, g__law_pen := PySem.W.mg_of X G a22, b__law_pen := (fun_mk (st := s__law_pen) l22 c22 k22).binds (ps := ["_law_cell"]) fun _ _ _ _ _ _ us hl => match us, hl with | [_], _ => rfl,
    f__law_draw := f23, fd__law_draw := _, F__law_draw := fun_mk (st := s__law_draw) l23 c23 k23, g__law_draw := PySem.W.mg_of X G a23, b__law_draw := (fun_mk (st := s__law_draw) l23 c23 k23).binds (ps := ["_law_pen_here", "_law_many"]) fun _ _ _ _ _ _ us hl => match us, hl with | [_, _], _ => rfl,
    f__law_pick := f24, fd__law_pick := _, F__law_pick := fun_mk (st := s__law_pick) l24 c24 k24, g__law_pick := PySem.W.mg_of X G a24, b__law_pick := (fun_mk (st := s__law_pick) l24 c24 k24).binds (ps := ["_law_pen_here", "_law_some"]) fun _ _ _ _ _ _ us hl => match us, hl with | [_, _], _ => rfl,
    f__law_board := f25, fd__law_board := _, F__law_board := fun_mk (st := s__law_board) l25 c25 k25, g__law_board := PySem.W.mg_of X G a25, b__law_board := (fun_mk (st := s__law_board) l25 c25 k25).binds (ps := ["_law_pen_here", "_law_most"]) fun _ _ _ _ _ _ us hl => match us, hl with | [_, _], _ => rfl,
    f__law_moment := f26, fd__law_moment := _, F__law_moment := fun_mk (st := s__law_moment) l26 c26 k26, g__law_moment := PySem.W.mg_of X G a26, b__law_moment := (fun_mk (st := s__law_moment) l26 c26 k26).binds (ps := ["_law_pen_here", "_law_board_here", "_law_most"]) fun _ _ _ _ _ _ us hl => match us, hl with | [_, _, _], _ => rfl,
    f__law_handle := f27, fd__law_handle := _, F__law_handle := fun_mk (st := s__law_handle) l27 c27 k27, g__law_handle := PySem.W.mg_of X G a27, b__law_handle := (fun_mk (st := s__law_handle) l27 c27 k27).binds (ps := ["_law_board_here", "_law_moment_here", "_law_wheel"]) fun _ _ _ _ _ _ us hl => match us, hl with | [_, _, _], _ => rfl,
    f__law_ready := f28, fd__law_ready := _, F__law_ready := fun_mk (st := s__law_ready) l28 c28 k28, g__law_ready := PySem.W.mg_of X G a28, b__law_ready := (fun_mk (st := s__law_ready) l28 c28 k28).binds (ps := ["_law_moment_here"]) fun _ _ _ _ _ _ us hl => match us, hl with | [_], _ => rfl,
    f__law_let_row := f29, fd__law_let_row := _, F__law_let_row := fun_mk (st := s__law_let_row) l29 c29 k29, g__law_let_row := PySem.W.mg_of X G a29, b__law_let_row := (fun_mk (st := s__law_let_row) l29 c29 k29).binds (ps := ["_law_pen_here", "_law_board_here", "_law_moment_here", "_law_most"]) fun _ _ _ _ _ _ us hl => match us, hl with | [_, _, _, _], _ => rfl,
    f__law_mixed := f30, fd__law_mixed := _, F__law_mixed := fun_mk (st := s__law_mixed) l30 c30 k30, g__law_mixed := PySem.W.mg_of X G a30, b__law_mixed := (fun_mk (st := s__law_mixed) l30 c30 k30).binds (ps := ["_law_pen_here", "_law_many"]) fun _ _ _ _ _ _ us hl => match us, hl with | [_, _], _ => rfl,
    f__law_moved := f31, fd__law_moved := _, F__law_moved := fun_mk (st := s__law_moved) l31 c31 k31, g__law_moved := PySem.W.mg_of X G a31, b__law_moved := (fun_mk (st := s__law_moved) l31 c31 k31).binds (ps := ["_law_some", "_law_order"]) fun _ _ _ _ _ _ us hl => match us, hl with | [_, _], _ => rfl,
    f__law_named := f32, fd__law_named := _, F__law_named := fun_mk (st := s__law_named) l32 c32 k32, g__law_named := PySem.W.mg_of X G a32, b__law_named := (fun_mk (st := s__law_named) l32 c32 k32).binds (ps := ["_law_board_here", "_law_order", "_law_cups"]) fun _ _ _ _ _ _ us hl => match us, hl with | [_, _, _], _ => rfl,
    f__law_right := f33, fd__law_right := _, F__law_right := fun_mk (st := s__law_right) l33 c33 k33, g__law_right := PySem.W.mg_of X G a33, b__law_right := (fun_mk (st := s__law_right) l33 c33 k33).binds (ps := ["_law_pen_here", "_law_board_here", "_law_moment_here", "_law_row"]) fun _ _ _ _ _ _ us hl => match us, hl with | [_, _, _, _], _ => rfl,
    f__law_twice_right := f34, fd__law_twice_right := _, F__law_twice_right := fun_mk (st := s__law_twice_right) l34 c34 k34, g__law_twice_right := PySem.W.mg_of X G a34, b__law_twice_right := (fun_mk (st := s__law_twice_right) l34 c34 k34).binds (ps := ["_law_pen_here", "_law_board_here", "_law_moment_here", "_law_row"]) fun _ _ _ _ _ _ us hl => match us, hl with | [_, _, _, _], _ => rfl,
    f_law := f35, fd_law := _, F_law := fun_mk (st := s_law) l35 c35 k35, g_law := PySem.W.mg_of X G a35, b_law := (fun_mk (st := s_law) l35 c35 k35).binds (ps := ["_law_script"]) fun _ _ _ _ _ _ us hl => match us, hl with | [_], _ => rfl,
    t_MOST_WHEELS := t_MOST_WHEELS, c_MOST_WHEELS := PySem.W.mg_of X G c_MOST_WHEELS,
    t_MOST_CUPS := t_MOST_CUPS, c_MOST_CUPS := PySem.W.mg_of X G c_MOST_CUPS,
    t_MOST_STEPS := t_MOST_STEPS, c_MOST_STEPS := PySem.W.mg_of X G c_MOST_STEPS,
    t_MOST_ENDS := t_MOST_ENDS, c_MOST_ENDS := PySem.W.mg_of X G c_MOST_ENDS,
    n_all := PySem.W.mg_none_of X G z_all,
    n_bool := PySem.W.mg_none_of X G z_bool,
    n_enumerate := PySem.W.mg_none_of X G z_enumerate,
    n_int := PySem.W.mg_none_of X G z_int,
    n_isinstance := PySem.W.mg_none_of X G z_isinstance,
    n_len := PySem.W.mg_none_of X G z_len,
    n_list := PySem.W.mg_none_of X G z_list,
    n_max := PySem.W.mg_none_of X G z_max,
    n_min := PySem.W.mg_none_of X G z_min,
    n_range := PySem.W.mg_none_of X G z_range,
    n_tuple := PySem.W.mg_none_of X G z_tuple,
    n_zip := PySem.W.mg_none_of X G z_zip }
theorem all_mk {l : PySem.W.OpenLaw} {w : World} {K : PySem.W.Frag} {h : Heap} {mg : Str → Option Value} {fa : Addr} (hfa : mg "law" = some (.ref fa)) (T : Txt K mg) :
    ∃ fd : FuncData, (∀ (s : Shared) (v : Value), BindsTo s fd ⟨[v], []⟩ [("_law_script", v)]) ∧ ∀ base : Heap, K.In base → base.Ns mainGlobals mg → FnP l.prog w K mg base CX0 10 fa fd ["_law_script"] sp_law := by
  have e := hfa.symm.trans T.g_law
  cases e
  obtain ⟨oc, od, kV, doc, pm, an, cdv, ct, osl, efd, lk, hcd⟩ := T.F_law.ex
  exact ⟨T.fd_law, fun s v => by rw [efd]; exact .of_eq rfl, fun base _ _ => ok_law T⟩
theorem law_end : ∀ (ns : List Int) (Q : QV) (E : XQ), ns.length ≤ 63 → (∀ M, Q (.bl true) M) → sp_law [.scr ns] (fun _ => none) Q E := fun ns Q E hl h => sp1_app.mpr ⟨hl, h⟩
end MB.K08
open PySem PySem.W PyProof.Rows in
set_option maxRecDepth 100000 in
set_option maxHeartbeats 0 in
theorem PySem.Challenge.cw_marblefall_k08_whole_boards_called_other_holds : PySem.Challenge.rw_marblefall_k08_whole_boards_called_other.Holds := by
  w_on; o_law; k_head; (case hw => w_witness2)
  k_fill
  refine PL.walk_p (l := PySem.Challenge.rw_marblefall_k08_whole_boards_called_other) (n := 63) (k := 10) (x := "_law_script") (CX := fun _ => L2.CX0) (sp := MB.K08.sp_law) (by decide +kernel) rfl (by decide) rfl ⟨rfl, by decide, by decide⟩ (fun w h Y => PySem.W.kIn_of Y) ?F MB.K08.law_end (fun _ _ _ _ _ h => h)
  case F =>
    intro w mg fa h KX G hmg
    refine' MB.K08.all_mk (h := h) hmg (MB.K08.txt_mk KX G ?a0 ?l0 ?c0 ?k0 ?a1 ?l1 ?c1 ?k1 ?a2 ?l2 ?c2 ?k2 ?a3 ?l3 ?c3 ?k3 ?a4 ?l4 ?c4 ?k4 ?a5 ?l5 ?c5 ?k5 ?a6 ?l6 ?c6 ?k6 ?a7 ?l7 ?c7 ?k7 ?a8 ?l8 ?c8 ?k8 ?a9 ?l9 ?c9 ?k9 ?a10 ?l10 ?c10 ?k10 ?a11 ?l11 ?c11 ?k11 ?a12 ?l12 ?c12 ?k12 ?a13 ?l13 ?c13 ?k13 ?a14 ?l14 ?c14 ?k14 ?a15 ?l15 ?c15 ?k15 ?a16 ?l16 ?c16 ?k16 ?a17 ?l17 ?c17 ?k17 ?a18 ?l18 ?c18 ?k18 ?a19 ?l19 ?c19 ?k19 ?a20 ?l20 ?c20 ?k20 ?a21 ?l21 ?c21 ?k21 ?a22 ?l22 ?c22 ?k22 ?a23 ?l23 ?c23 ?k23 ?a24 ?l24 ?c24 ?k24 ?a25 ?l25 ?c25 ?k25 ?a26 ?l26 ?c26 ?k26 ?a27 ?l27 ?c27 ?k27 ?a28 ?l28 ?c28 ?k28 ?a29 ?l29 ?c29 ?k29 ?a30 ?l30 ?c30 ?k30 ?a31 ?l31 ?c31 ?k31 ?a32 ?l32 ?c32 ?k32 ?a33 ?l33 ?c33 ?k33 ?a34 ?l34 ?c34 ?k34 ?a35 ?l35 ?c35 ?k35 ?c_MOST_WHEELS ?c_MOST_CUPS ?c_MOST_STEPS ?c_MOST_ENDS ?z_all ?z_bool ?z_enumerate ?z_int ?z_isinstance ?z_len ?z_list ?z_max ?z_min ?z_range ?z_tuple ?z_zip)
    (case a0 => k_is)
    (case l0 => k_is)
    (case c0 => k_is)
    (case k0 => k_is)
    (case a1 => k_is)
    (case l1 => k_is)
    (case c1 => k_is)
    (case k1 => k_is)
    (case a2 => k_is)
    (case l2 => k_is)
    (case c2 => k_is)
    (case k2 => k_is)
    (case a3 => k_is)
    (case l3 => k_is)
    (case c3 => k_is)
    (case k3 => k_is)
    (case a4 => k_is)
    (case l4 => k_is)
    (case c4 => k_is)
    (case k4 => k_is)
    (case a5 => k_is)
    (case l5 => k_is)
    (case c5 => k_is)
    (case k5 => k_is)
    (case a6 => k_is)
    (case l6 => k_is)
    (case c6 => k_is)
    (case k6 => k_is)
    (case a7 => k_is)
    (case l7 => k_is)
    (case c7 => k_is)
    (case k7 => k_is)
    (case a8 => k_is)
    (case l8 => k_is)
    (case c8 => k_is)
    (case k8 => k_is)
    (case a9 => k_is)
    (case l9 => k_is)
    (case c9 => k_is)
    (case k9 => k_is)
    (case a10 => k_is)
    (case l10 => k_is)
    (case c10 => k_is)
    (case k10 => k_is)
    (case a11 => k_is)
    (case l11 => k_is)
    (case c11 => k_is)
    (case k11 => k_is)
    (case a12 => k_is)
    (case l12 => k_is)
    (case c12 => k_is)
    (case k12 => k_is)
    (case a13 => k_is)
    (case l13 => k_is)
    (case c13 => k_is)
    (case k13 => k_is)
    (case a14 => k_is)
    (case l14 => k_is)
    (case c14 => k_is)
    (case k14 => k_is)
    (case a15 => k_is)
    (case l15 => k_is)
    (case c15 => k_is)
    (case k15 => k_is)
    (case a16 => k_is)
    (case l16 => k_is)
    (case c16 => k_is)
    (case k16 => k_is)
    (case a17 => k_is)
    (case l17 => k_is)
    (case c17 => k_is)
    (case k17 => k_is)
    (case a18 => k_is)
    (case l18 => k_is)
    (case c18 => k_is)
    (case k18 => k_is)
    (case a19 => k_is)
    (case l19 => k_is)
    (case c19 => k_is)
    (case k19 => k_is)
    (case a20 => k_is)
    (case l20 => k_is)
    (case c20 => k_is)
    (case k20 => k_is)
    (case a21 => k_is)
    (case l21 => k_is)
    (case c21 => k_is)
    (case k21 => k_is)
    (case a22 => k_is)
    (case l22 => k_is)
    (case c22 => k_is)
    (case k22 => k_is)
    (case a23 => k_is)
    (case l23 => k_is)
    (case c23 => k_is)
    (case k23 => k_is)
    (case a24 => k_is)
    (case l24 => k_is)
    (case c24 => k_is)
    (case k24 => k_is)
    (case a25 => k_is)
    (case l25 => k_is)
    (case c25 => k_is)
    (case k25 => k_is)
    (case a26 => k_is)
    (case l26 => k_is)
    (case c26 => k_is)
    (case k26 => k_is)
    (case a27 => k_is)
    (case l27 => k_is)
    (case c27 => k_is)
    (case k27 => k_is)
    (case a28 => k_is)
    (case l28 => k_is)
    (case c28 => k_is)
    (case k28 => k_is)
    (case a29 => k_is)
    (case l29 => k_is)
    (case c29 => k_is)
    (case k29 => k_is)
    (case a30 => k_is)
    (case l30 => k_is)
    (case c30 => k_is)
    (case k30 => k_is)
    (case a31 => k_is)
    (case l31 => k_is)
    (case c31 => k_is)
    (case k31 => k_is)
    (case a32 => k_is)
    (case l32 => k_is)
    (case c32 => k_is)
    (case k32 => k_is)
    (case a33 => k_is)
    (case l33 => k_is)
    (case c33 => k_is)
    (case k33 => k_is)
    (case a34 => k_is)
    (case l34 => k_is)
    (case c34 => k_is)
    (case k34 => k_is)
    (case a35 => k_is)
    (case l35 => k_is)
    (case c35 => k_is)
    (case k35 => k_is)
    (case c_MOST_WHEELS => k_is)
    (case c_MOST_CUPS => k_is)
    (case c_MOST_STEPS => k_is)
    (case c_MOST_ENDS => k_is)
    (case z_all => k_is)
    (case z_bool => k_is)
    (case z_enumerate => k_is)
    (case z_int => k_is)
    (case z_isinstance => k_is)
    (case z_len => k_is)
    (case z_list => k_is)
    (case z_max => k_is)
    (case z_min => k_is)
    (case z_range => k_is)
    (case z_tuple => k_is)
    (case z_zip => k_is)
