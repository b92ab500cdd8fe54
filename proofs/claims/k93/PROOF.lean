import PyProof.Rows.All
import Wide.All
import OpenK.AllK
import Wide.FinOn
import HandS.ForMost
import HandS.Deep
import HandS.IsInst
import HandS.Wide
import HandS.SortInts
import HandS.SetFor
import HandS.Style
import HandS.RevRange
import KE.SortData
import KE.DataMinMax
import HandS.SortOrd
import HandS.SortKw
import PySem.Challenge.RW_bumpedrows_k93_paths_and_sums_with_signs
set_option Elab.async false
set_option linter.all false
set_option maxRecDepth 100000
set_option maxHeartbeats 4000000
/-! DL1: data in the heap, worlds, kinds of slots, the frame's state. -/
namespace DL
open PySem PySem.Spec PyProof.Rows L2

abbrev D := PyData

/-! ### data read in the heap, through cells that A lets -/
mutual
inductive DR (H : Hp) (A : Addr → Prop) : V → D → Prop
  | non : DR H A .non .none
  | bl (b : Bool) : DR H A (.bl b) (.bool b)
  | int (i : Int) : DR H A (.int i) (.int i)
  | str (x : Str) : DR H A (.str x) (.str x)
  | lst {a : Addr} {xs : List V} {ds : List D} : A a → H a = some (.lst xs) → DRs H A xs ds → DR H A (.ref a) (.list ds)
  | tup {a : Addr} {xs : List V} {ds : List D} : A a → H a = some (.tup xs) → DRs H A xs ds → DR H A (.ref a) (.tuple ds)
inductive DRs (H : Hp) (A : Addr → Prop) : List V → List D → Prop
  | nil : DRs H A [] []
  | cons {v : V} {d : D} {vs : List V} {ds : List D} : DR H A v d → DRs H A vs ds → DRs H A (v :: vs) (d :: ds)
end

theorem upd_keep {H : Hp} {p b : Addr} {o o' : HO} (e : H b = some o) (h : b ≠ p) : upd H p o' b = some o := (upd_ne h).trans e
section
variable {H H' : Hp} {A A' : Addr → Prop}
mutual
theorem DR.to (k : ∀ a o, H a = some o → A a → H' a = some o ∧ A' a) : ∀ {v : V} {d : D}, DR H A v d → DR H' A' v d
  | _, _, .non => .non
  | _, _, .bl b => .bl b
  | _, _, .int i => .int i
  | _, _, .str x => .str x
  | _, _, .lst ha hr hs => .lst (k _ _ hr ha).2 (k _ _ hr ha).1 (DRs.to k hs)
  | _, _, .tup ha hr hs => .tup (k _ _ hr ha).2 (k _ _ hr ha).1 (DRs.to k hs)
theorem DRs.to (k : ∀ a o, H a = some o → A a → H' a = some o ∧ A' a) : ∀ {vs : List V} {ds : List D}, DRs H A vs ds → DRs H' A' vs ds
  | _, _, .nil => .nil
  | _, _, .cons h hs => .cons (DR.to k h) (DRs.to k hs)
end
mutual
theorem DR.dp {K : PySem.W.Frag} : ∀ {v : V} {d : D}, DR H A v d → Dp K H v d
  | _, _, .non => .non
  | _, _, .bl b => .bl b
  | _, _, .int i => .int i
  | _, _, .str x => .str x
  | _, _, .lst ha hr hs => .lst (.inl (.inl hr)) (DRs.dp hs)
  | _, _, .tup ha hr hs => .tup (.inl (.inl hr)) (DRs.dp hs)
theorem DRs.dp {K : PySem.W.Frag} : ∀ {vs : List V} {ds : List D}, DRs H A vs ds → DpAll K H vs ds
  | _, _, .nil => .nil
  | _, _, .cons h hs => .cons (DR.dp h) (DRs.dp hs)
end
theorem DRs.length : ∀ {vs : List V} {ds : List D}, DRs H A vs ds → vs.length = ds.length
  | _, _, .nil => rfl
  | _, _, .cons _ hs => by rw [List.length_cons, List.length_cons, hs.length]
theorem DRs.get : ∀ {vs : List V} {ds : List D} {i : Nat} {d : D}, DRs H A vs ds → ds[i]? = some d → ∃ v, vs[i]? = some v ∧ DR H A v d
  | _, _, _, _, .nil, h => by simp at h
  | _, _, 0, _, .cons h _, e => by simp at e; subst e; exact ⟨_, rfl, h⟩
  | _, _, i + 1, _, .cons _ hs, e => by
    obtain ⟨v, h1, h2⟩ := DRs.get (i := i) hs (by simpa using e)
    exact ⟨v, by simpa using h1, h2⟩
theorem DRs.getV : ∀ {vs : List V} {ds : List D} {i : Nat} {v : V}, DRs H A vs ds → vs[i]? = some v → ∃ d, ds[i]? = some d ∧ DR H A v d
  | _, _, _, _, .nil, h => by simp at h
  | _, _, 0, _, .cons h _, e => by simp at e; subst e; exact ⟨_, rfl, h⟩
  | _, _, i + 1, _, .cons _ hs, e => by
    obtain ⟨v, h1, h2⟩ := DRs.getV (i := i) hs (by simpa using e)
    exact ⟨v, by simpa using h1, h2⟩
theorem DRs.append : ∀ {vs us : List V} {ds es : List D}, DRs H A vs ds → DRs H A us es → DRs H A (vs ++ us) (ds ++ es)
  | _, _, _, _, .nil, h => h
  | _, _, _, _, .cons h hs, k => .cons h (DRs.append hs k)
theorem DRs.one {v : V} {d : D} (h : DR H A v d) : DRs H A [v] [d] := .cons h .nil
theorem DRs.take : ∀ {vs : List V} {ds : List D} (n : Nat), DRs H A vs ds → DRs H A (vs.take n) (ds.take n)
  | _, _, 0, _ => .nil
  | _, _, _ + 1, .nil => .nil
  | _, _, n + 1, .cons h hs => .cons h (DRs.take n hs)
theorem DRs.drop : ∀ {vs : List V} {ds : List D} (n : Nat), DRs H A vs ds → DRs H A (vs.drop n) (ds.drop n)
  | _, _, 0, h => h
  | _, _, _ + 1, .nil => .nil
  | _, _, n + 1, .cons h hs => DRs.drop n hs
theorem DRs.set {v : V} {d : D} (h : DR H A v d) : ∀ {vs : List V} {ds : List D} (n : Nat), DRs H A vs ds → DRs H A (vs.set n v) (ds.set n d)
  | _, _, _, .nil => .nil
  | _, _, 0, .cons _ hs => .cons h hs
  | _, _, n + 1, .cons k hs => .cons k (DRs.set h n hs)
theorem DRs.dropLast : ∀ {vs : List V} {ds : List D}, DRs H A vs ds → DRs H A vs.dropLast ds.dropLast
  | _, _, .nil => .nil
  | _, _, .cons h .nil => .nil
  | _, _, .cons h (.cons h2 hs) => .cons h (DRs.dropLast (.cons h2 hs))
theorem DRs.reverse : ∀ {vs : List V} {ds : List D}, DRs H A vs ds → DRs H A vs.reverse ds.reverse
  | _, _, .nil => .nil
  | _, _, .cons h hs => by rw [List.reverse_cons, List.reverse_cons]; exact (DRs.reverse hs).append (.one h)
theorem DRs.erase : ∀ {vs : List V} {ds : List D} (n : Nat), DRs H A vs ds → DRs H A (vs.eraseIdx n) (ds.eraseIdx n)
  | _, _, _, .nil => .nil
  | _, _, 0, .cons _ hs => hs
  | _, _, n + 1, .cons k hs => .cons k (DRs.erase n hs)
theorem DRs.ints : ∀ {vs : List V} {ns : List Int}, DRs H A vs (ns.map PyData.int) → vs = ns.map V.int
  | _, [], .nil => rfl
  | _, n :: ns, .cons h hs => by
    cases h
    rw [DRs.ints hs]; rfl
theorem DRs.ofInts : ∀ (ns : List Int), DRs H A (ns.map V.int) (ns.map PyData.int)
  | [] => .nil
  | n :: ns => .cons (.int n) (DRs.ofInts ns)
theorem DRs.bools : ∀ {vs : List V} {ns : List Bool}, DRs H A vs (ns.map PyData.bool) → vs = ns.map V.bl
  | _, [], .nil => rfl
  | _, n :: ns, .cons h hs => by
    cases h
    rw [DRs.bools hs]; rfl
theorem DR.int_inv {v : V} {i : Int} (h : DR H A v (.int i)) : v = .int i := by cases h; rfl
theorem DR.bl_inv {v : V} {b : Bool} (h : DR H A v (.bool b)) : v = .bl b := by cases h; rfl
theorem DR.str_inv {v : V} {x : Str} (h : DR H A v (.str x)) : v = .str x := by cases h; rfl
theorem DR.non_inv {v : V} (h : DR H A v .none) : v = .non := by cases h; rfl
theorem DR.lst_inv {v : V} {ds : List D} (h : DR H A v (.list ds)) : ∃ a xs, v = .ref a ∧ A a ∧ H a = some (.lst xs) ∧ DRs H A xs ds := by
  cases h with
  | lst h1 h2 h3 => exact ⟨_, _, rfl, h1, h2, h3⟩
theorem DR.tup_inv {v : V} {ds : List D} (h : DR H A v (.tuple ds)) : ∃ a xs, v = .ref a ∧ A a ∧ H a = some (.tup xs) ∧ DRs H A xs ds := by
  cases h with
  | tup h1 h2 h3 => exact ⟨_, _, rfl, h1, h2, h3⟩
end

/-! ### what a run of a mirror gives -/
/-- an exception: the number of its class, its fields -/
structure Xc where
  c : Nat
  fs : List D
inductive Out (W : Type) (α : Type) where
  | st
  | ok (a : α) (w : W)
  | ex (e : Xc) (w : W)
def Out.bind {W α β : Type} : Out W α → (α → W → Out W β) → Out W β
  | .st, _ => .st
  | .ok a w, f => f a w
  | .ex e w, _ => .ex e w
/-- a denotation of an expression -/
abbrev EF (W : Type) := List D → W → Out W D
/-- of an argument list -/
abbrev AF (W : Type) := List D → W → Out W (List D)

/-! ### worlds -/
structure Wld (W : Type) where
  rel : W → Hp → Prop
  fp : Addr → Prop
  ad : V
  tr : ∀ w H a, rel w H → fp a → H a ≠ none
  loc : ∀ w H H', rel w H → (∀ a, fp a → H' a = H a) → rel w H'
def W0 : Wld Unit := ⟨fun _ _ => True, fun _ => False, .non, fun _ _ _ _ h => h.elim, fun _ _ _ _ _ => trivial⟩

/-- where the body of a def stands: its world, the heap at its entry, the cells that it may not see -/
structure Base (W : Type) where
  wd : Wld W
  H0 : Hp
  F0 : Addr → Prop
  xe : XK
  cl : Nat → Addr × List Str

/-- the cells that data may have -/
def Al {W : Type} (B : Base W) (F : Addr → Prop) (nw : Bool) (a : Addr) : Prop := ¬ F a ∧ (nw = true → B.H0 a = none)

/-- what tracked cells keep -/
def KeepE {W : Type} (B : Base W) (H H' : Hp) : Prop := ∀ a o, H a = some o → ¬ B.wd.fp a → H' a = some o
def Keep (F : Addr → Prop) (H : Hp) (F' : Addr → Prop) (H' : Hp) : Prop := ∀ a o, H a = some o → ¬ F a → H' a = some o ∧ ¬ F' a

/-- kinds of slots: unknown; shared data; a list of one's own; a list of lists of one's own; an item of such a one (of slot i); the world's -/
inductive SK where
  | u | s (nw : Bool) | o (nw : Bool) | o2 (nw : Bool) | b (i : Nat) | f
  deriving DecidableEq

/-- the lists at as hold dss -/
inductive Chs (H : Hp) (A : Addr → Prop) : List Addr → List D → Prop
  | nil : Chs H A [] []
  | cons {a : Addr} {as : List Addr} {xs : List V} {ds : List D} {dss : List D} : H a = some (.lst xs) → DRs H A xs ds → Chs H A as dss → Chs H A (a :: as) (.list ds :: dss)
theorem Chs.length {H : Hp} {A : Addr → Prop} : ∀ {as : List Addr} {dss : List D}, Chs H A as dss → as.length = dss.length
  | _, _, .nil => rfl
  | _, _, .cons _ _ hs => by rw [List.length_cons, List.length_cons, hs.length]
theorem Chs.to {H H' : Hp} {A A' : Addr → Prop} (k : ∀ a o, H a = some o → A a → H' a = some o ∧ A' a) : ∀ {as : List Addr} {dss : List D}, (∀ a ∈ as, ∀ o, H a = some o → H' a = some o) → Chs H A as dss → Chs H' A' as dss
  | _, _, _, .nil => .nil
  | _, _, c, .cons h1 h2 h3 => .cons (c _ List.mem_cons_self _ h1) (h2.to k) (Chs.to k (fun a m => c a (List.mem_cons_of_mem _ m)) h3)
theorem Chs.get {H : Hp} {A : Addr → Prop} : ∀ {as : List Addr} {dss : List D} {i : Nat} {a : Addr}, Chs H A as dss → as[i]? = some a → ∃ xs ds, dss[i]? = some (.list ds) ∧ H a = some (.lst xs) ∧ DRs H A xs ds
  | _, _, _, _, .nil, e => by simp at e
  | _, _, 0, _, .cons h1 h2 _, e => by simp at e; subst e; exact ⟨_, _, rfl, h1, h2⟩
  | _, _, i + 1, _, .cons _ _ h3, e => by
    obtain ⟨xs, ds, q1, q2⟩ := Chs.get (i := i) h3 (by simpa using e)
    exact ⟨xs, ds, by simpa using q1, q2⟩
theorem Chs.getD {H : Hp} {A : Addr → Prop} : ∀ {as : List Addr} {dss : List D} {i : Nat} {d : D}, Chs H A as dss → dss[i]? = some d → ∃ a xs ds, d = .list ds ∧ as[i]? = some a ∧ H a = some (.lst xs) ∧ DRs H A xs ds
  | _, _, _, _, .nil, e => by simp at e
  | _, _, 0, _, .cons h1 h2 _, e => by simp at e; subst e; exact ⟨_, _, _, rfl, rfl, h1, h2⟩
  | _, _, i + 1, _, .cons _ _ h3, e => by
    obtain ⟨a, xs, ds, q0, q1, q2⟩ := Chs.getD (i := i) h3 (by simpa using e)
    exact ⟨a, xs, ds, q0, by simpa using q1, q2⟩
theorem Chs.append {H : Hp} {A : Addr → Prop} : ∀ {as bs : List Addr} {ds es : List D}, Chs H A as ds → Chs H A bs es → Chs H A (as ++ bs) (ds ++ es)
  | _, _, _, _, .nil, h => h
  | _, _, _, _, .cons h1 h2 h3, k => .cons h1 h2 (Chs.append h3 k)
/-- one of them is changed -/
theorem Chs.put {H : Hp} {A : Addr → Prop} {p : Addr} {ys : List V} {es : List D} (hp : ¬ A p) (he : DRs H A ys es) : ∀ {as : List Addr} {dss : List D} {i : Nat}, as.Nodup → Chs H A as dss → as[i]? = some p → Chs (upd H p (.lst ys)) A as (dss.set i (.list es))
  | _, _, _, _, .nil, e => by simp at e
  | a :: as, _, 0, nd, .cons h1 h2 h3, e => by
    simp at e; subst e
    have nd' := List.nodup_cons.mp nd
    have kk : ∀ b o, H b = some o → A b → upd H a (.lst ys) b = some o ∧ A b := fun b o e ha => ⟨upd_keep e (fun z => hp (by rw [← z]; exact ha)), ha⟩
    exact .cons upd_same (he.to kk) (h3.to kk fun c hc o e => upd_keep e (fun z => nd'.1 (by rw [← z]; exact hc)))
  | a :: as, _, i + 1, nd, .cons h1 h2 h3, e => by
    have nd' := List.nodup_cons.mp nd
    have e' : as[i]? = some p := by simpa using e
    have kk : ∀ b o, H b = some o → A b → upd H p (.lst ys) b = some o ∧ A b := fun b o e ha => ⟨upd_keep e (fun z => hp (by rw [← z]; exact ha)), ha⟩
    refine .cons ?_ (h2.to kk) (Chs.put hp he nd'.2 h3 e')
    rw [upd_ne]
    · exact h1
    · rintro rfl
      exact nd'.1 (List.mem_of_getElem? e')

section
variable {W : Type} (B : Base W)
def Slot (F : Addr → Prop) (H : Hp) (ow : Nat → List Addr) (i : Nat) : SK → Option (Option V) → D → Prop
  | .u, _, _ => ow i = []
  | .s nw, sv, d => ow i = [] ∧ ∃ v, sv = some (some v) ∧ DR H (Al B F nw) v d
  | .o nw, sv, d => ∃ a xs ds, ow i = [a] ∧ sv = some (some (.ref a)) ∧ d = .list ds ∧ H a = some (.lst xs) ∧ DRs H (Al B F nw) xs ds
  | .o2 nw, sv, d => ∃ a as dss, ow i = a :: as ∧ sv = some (some (.ref a)) ∧ d = .list dss ∧ H a = some (.lst (as.map V.ref)) ∧ Chs H (Al B F nw) as dss
  | .b j, sv, d => ow i = [] ∧ ∃ (k : Nat) (a : Addr), d = .int k ∧ sv = some (some (.ref a)) ∧ (ow j)[k + 1]? = some a
  | .f, sv, _ => ow i = [] ∧ sv = some (some B.wd.ad)

/-- the frame's state -/
structure OK (Γ : List SK) (F : Addr → Prop) (env : List D) (σ : L2.St) (w : W) (H : Hp) (ow : Nat → List Addr) : Prop where
  wr : B.wd.rel w H
  fpF : ∀ a, B.wd.fp a → F a
  dom : ∀ a, F a → H a ≠ none
  k0 : ∀ a o, B.H0 a = some o → ¬ B.wd.fp a → H a = some o
  f0 : ∀ a, B.H0 a ≠ none → (F a ↔ B.F0 a)
  ls : σ.length = Γ.length
  le : env.length = Γ.length
  own : ∀ i a, a ∈ ow i → F a ∧ ¬ B.wd.fp a ∧ B.H0 a = none
  nd : ∀ i, (ow i).Nodup
  dj : ∀ i j a, a ∈ ow i → a ∈ ow j → i = j
  out : ∀ i, Γ.length ≤ i → ow i = []
  sl : ∀ i k, Γ[i]? = some k → Slot B F H ow i k σ[i]? (env.getD i .none)
end
end DL

namespace DL
open PySem PySem.Spec PyProof.Rows L2

section
variable {W : Type} {B : Base W} {Γ : List SK} {F F' : Addr → Prop} {env : List D} {σ : L2.St} {w w' : W} {H H' H1 H2 : Hp} {ow ow' : Nat → List Addr}

theorem KeepE.refl (H : Hp) : KeepE B H H := fun _ _ e _ => e
theorem KeepE.trans (a : KeepE B H H1) (b : KeepE B H1 H2) : KeepE B H H2 := fun c o e n => b c o (a c o e n) n
theorem KeepE.same (h : L2.Same H H') : KeepE B H H' := fun a o e _ => h a o e
theorem KeepE.new {p : Addr} {o : HO} (h : H p = none) : KeepE B H (upd H p o) := fun a u e _ => upd_keep e (ne_of_none e h)
theorem KeepE.mut {p : Addr} {o : HO} (k : KeepE B H H') (h : H p = none) : KeepE B H (upd H' p o) := fun a u e n => upd_keep (k a u e n) (ne_of_none e h)
theorem Keep.refl (F : Addr → Prop) (H : Hp) : Keep F H F H := fun _ _ e n => ⟨e, n⟩
theorem Keep.trans {F1 F2 : Addr → Prop} (a : Keep F H F1 H1) (b : Keep F1 H1 F2 H2) : Keep F H F2 H2 := fun c o e n => let ⟨e1, n1⟩ := a c o e n; b c o e1 n1
theorem KeepE.keep (k : KeepE B H H') (h : ∀ a, B.wd.fp a → F a) : Keep F H F H' := fun a o e n => ⟨k a o e (fun z => n (h a z)), n⟩

theorem OK.alFp (ok : OK B Γ F env σ w H ow) {nw : Bool} {a : Addr} (h : Al B F nw a) : ¬ B.wd.fp a := fun z => h.1 (ok.fpF a z)
/-- data stays through what expressions do -/
theorem OK.dr (ok : OK B Γ F env σ w H ow) (k : KeepE B H1 H2) {nw : Bool} {v : V} {d : D} (h : DR H1 (Al B F nw) v d) : DR H2 (Al B F nw) v d :=
  h.to fun a o e ha => ⟨k a o e (ok.alFp ha), ha⟩
theorem OK.drs (ok : OK B Γ F env σ w H ow) (k : KeepE B H1 H2) {nw : Bool} {v : List V} {d : List D} (h : DRs H1 (Al B F nw) v d) : DRs H2 (Al B F nw) v d :=
  h.to fun a o e ha => ⟨k a o e (ok.alFp ha), ha⟩

theorem Al.mono {nw nw' : Bool} {a : Addr} (h : nw' = true → nw = true) (x : Al B F nw a) : Al B F nw' a := ⟨x.1, fun z => x.2 (h z)⟩
theorem DR.nw {nw nw' : Bool} {v : V} {d : D} (h : nw' = true → nw = true) (x : DR H (Al B F nw) v d) : DR H (Al B F nw') v d := x.to fun _ _ e ha => ⟨e, ha.mono h⟩
theorem DRs.nw {nw nw' : Bool} {v : List V} {d : List D} (h : nw' = true → nw = true) (x : DRs H (Al B F nw) v d) : DRs H (Al B F nw') v d := x.to fun _ _ e ha => ⟨e, ha.mono h⟩

/-- a slot in another heap, under other eyes -/
theorem Slot.to {i : Nat} {k : SK} {sv : Option (Option V)} {d : D} (kp : ∀ a o, H a = some o → ¬ F a → H' a = some o ∧ ¬ F' a) (ko : ∀ a ∈ ow i, ∀ o, H a = some o → H' a = some o) (h : Slot B F H ow i k sv d) : Slot B F' H' ow i k sv d := by
  have ka : ∀ {nw : Bool} a o, H a = some o → Al B F nw a → H' a = some o ∧ Al B F' nw a := fun a o e ha => ⟨(kp a o e ha.1).1, (kp a o e ha.1).2, ha.2⟩
  cases k with
  | u => exact h
  | s nw => obtain ⟨h0, v, h1, h2⟩ := h; exact ⟨h0, v, h1, h2.to ka⟩
  | o nw =>
    obtain ⟨a, xs, ds, h0, h1, h2, h3, h4⟩ := h
    exact ⟨a, xs, ds, h0, h1, h2, ko a (by rw [h0]; simp) _ h3, h4.to ka⟩
  | o2 nw =>
    obtain ⟨a, as, dss, h0, h1, h2, h3, h4⟩ := h
    exact ⟨a, as, dss, h0, h1, h2, ko a (by rw [h0]; simp) _ h3, h4.to ka fun b hb o e => ko b (by rw [h0]; simp [hb]) o e⟩
  | b j => exact h
  | f => exact h

theorem OK.ext (ok : OK B Γ F env σ w H ow) (k : KeepE B H H') (r : B.wd.rel w' H') : OK B Γ F env σ w' H' ow where
  wr := r
  fpF := ok.fpF
  dom := fun a fa => by
    intro z
    by_cases hp : B.wd.fp a
    · exact B.wd.tr w' H' a r hp z
    · cases e : H a with
      | none => exact ok.dom a fa e
      | some o => rw [k a o e hp] at z; cases z
  k0 := fun a o e n => k a o (ok.k0 a o e n) n
  f0 := ok.f0
  ls := ok.ls
  le := ok.le
  own := ok.own
  nd := ok.nd
  dj := ok.dj
  out := ok.out
  sl := fun i kd e => (ok.sl i kd e).to (fun a o e n => ⟨k a o e (fun z => n (ok.fpF a z)), n⟩) fun a ha o e => k a o e (ok.own i a ha).2.1

theorem OK.rel_ext (ok : OK B Γ F env σ w H ow) (h : L2.Same H H') : B.wd.rel w H' := B.wd.loc w H H' ok.wr fun a ha => by
  cases e : H a with
  | none => exact absurd e (B.wd.tr w H a ok.wr ha)
  | some o => exact h a o e
/-- a new object -/
theorem OK.new (ok : OK B Γ F env σ w H ow) {p : Addr} {o : HO} (h : H p = none) : OK B Γ F env σ w (upd H p o) ow :=
  ok.ext (.new h) (ok.rel_ext fun a u e => upd_keep e (ne_of_none e h))
theorem OK.same (ok : OK B Γ F env σ w H ow) (h : L2.Same H H') : OK B Γ F env σ w H' ow := ok.ext (.same h) (ok.rel_ext h)
/-- what is free behind is free before -/
theorem OK.free (ok : OK B Γ F env σ w H ow) (k : KeepE B H H') (r : B.wd.rel w' H') {p : Addr} (h : H' p = none) : H p = none := by
  cases e : H p with
  | none => rfl
  | some o =>
    by_cases hp : B.wd.fp p
    · exact absurd h (B.wd.tr w' H' p r hp)
    · rw [k p o e hp] at h; cases h
theorem OK.free0 (ok : OK B Γ F env σ w H ow) {p : Addr} (h : H p = none) : B.H0 p = none := by
  cases e : B.H0 p with
  | none => rfl
  | some o =>
    by_cases hp : B.wd.fp p
    · exact absurd h (B.wd.tr w H p ok.wr hp)
    · rw [ok.k0 p o e hp] at h; cases h
theorem OK.nF (ok : OK B Γ F env σ w H ow) {p : Addr} (h : H p = none) : ¬ F p := fun z => ok.dom p z h
theorem OK.al (ok : OK B Γ F env σ w H ow) {p : Addr} (h : H p = none) (nw : Bool) : Al B F nw p := ⟨ok.nF h, fun _ => ok.free0 h⟩

/-- one more cell is hidden -/
def Plus (F : Addr → Prop) (p : Addr) : Addr → Prop := fun a => F a ∨ a = p
theorem OK.plus (ok : OK B Γ F env σ w H ow) (k : KeepE B H H') (r : B.wd.rel w' H') {p : Addr} (h : H p = none) (h' : H' p ≠ none) : OK B Γ (Plus F p) env σ w' H' ow := by
  have ok' := ok.ext k r
  refine ⟨r, fun a z => .inl (ok.fpF a z), fun a z => ?_, ok'.k0, fun a z => ?_, ok.ls, ok.le, fun i a z => ⟨.inl (ok.own i a z).1, (ok.own i a z).2⟩, ok.nd, ok.dj, ok.out, fun i kd e => ?_⟩
  · rcases z with z | z
    · exact ok'.dom a z
    · rw [z]; exact h'
  · have hap : a ≠ p := fun e => z (by rw [e]; exact ok.free0 h)
    rw [← ok.f0 a z]
    exact ⟨fun q => q.elim id fun q => absurd q hap, .inl⟩
  · exact (ok.sl i kd e).to (fun a o e n => ⟨k a o e (fun z => n (ok.fpF a z)), fun q => q.elim n fun q => by rw [q, h] at e; cases e⟩) fun a ha o e => k a o e (ok.own i a ha).2.1

/-- one slot gets another value; cells of its own may change -/
theorem OK.put (ok : OK B Γ F env σ w H ow) {i : Nat} {kd : SK} {d : D} {sv : Option V} {on : List Addr} (hi : i < Γ.length) (hb : ∀ j : Nat, Γ[j]? = some (SK.b i) → on = ow i)
    (kp : ∀ a o, H a = some o → ¬ F a → H' a = some o ∧ ¬ F' a) (ko : ∀ j, j ≠ i → ∀ a ∈ ow j, ∀ o, H a = some o → H' a = some o ∧ F' a) (r : B.wd.rel w' H')
    (fpF : ∀ a, B.wd.fp a → F' a) (dom : ∀ a, F' a → H' a ≠ none) (k0 : ∀ a o, B.H0 a = some o → ¬ B.wd.fp a → H' a = some o) (f0 : ∀ a, B.H0 a ≠ none → (F' a ↔ B.F0 a))
    (on1 : ∀ a ∈ on, F' a ∧ ¬ B.wd.fp a ∧ B.H0 a = none) (on2 : on.Nodup) (on3 : ∀ j, j ≠ i → ∀ a ∈ on, a ∉ ow j)
    (new : Slot B F' H' (fun j => if j = i then on else ow j) i kd (some sv) d) :
    OK B (Γ.set i kd) F' (env.set i d) (σ.set i sv) w' H' (fun j => if j = i then on else ow j) where
  wr := r
  fpF := fpF
  dom := dom
  k0 := k0
  f0 := f0
  ls := by rw [List.length_set, List.length_set, ok.ls]
  le := by rw [List.length_set, List.length_set, ok.le]
  own := fun j a ha => by
    by_cases hj : j = i
    · rw [if_pos hj] at ha; exact on1 a ha
    · rw [if_neg hj] at ha
      obtain ⟨o1, o2, o3⟩ := ok.own j a ha
      cases e : H a with
      | none => exact absurd e (ok.dom a o1)
      | some o => exact ⟨(ko j hj a ha o e).2, o2, o3⟩
  nd := fun j => by
    by_cases hj : j = i
    · simp only [if_pos hj]; exact on2
    · simp only [if_neg hj]; exact ok.nd j
  dj := fun j l a hj hl => by
    by_cases h1 : j = i <;> by_cases h2 : l = i
    · rw [h1, h2]
    · rw [if_pos h1] at hj; rw [if_neg h2] at hl; exact absurd hl (on3 l h2 a hj)
    · rw [if_neg h1] at hj; rw [if_pos h2] at hl; exact absurd hj (on3 j h1 a hl)
    · rw [if_neg h1] at hj; rw [if_neg h2] at hl; exact ok.dj j l a hj hl
  out := fun j hj => by
    rw [List.length_set] at hj
    have : j ≠ i := by omega
    simp only [if_neg this]
    exact ok.out j hj
  sl := fun j k e => by
    by_cases hj : j = i
    · subst hj
      rw [List.getElem?_set_self hi] at e
      have e1 : kd = k := Option.some.inj e
      subst e1
      rw [List.getElem?_set_self (by rw [ok.ls]; exact hi)]
      have e2 : (env.set j d).getD j .none = d := by
        rw [List.getD_eq_getElem?_getD, List.getElem?_set_self (by rw [ok.le]; exact hi)]; rfl
      rw [e2]
      exact new
    · rw [List.getElem?_set_ne (Ne.symm hj)] at e
      rw [List.getElem?_set_ne (Ne.symm hj)]
      have e2 : (env.set i d).getD j .none = env.getD j .none := by
        rw [List.getD_eq_getElem?_getD, List.getElem?_set_ne (Ne.symm hj), ← List.getD_eq_getElem?_getD]
      rw [e2]
      have q := (ok.sl j k e).to kp fun a ha o e => (ko j hj a ha o e).1
      cases k with
      | b l =>
        obtain ⟨h0, h1⟩ := q
        refine ⟨by show (if j = i then on else ow j) = []; rw [if_neg hj]; exact h0, ?_⟩
        show ∃ (k : Nat) (a : Addr), _ ∧ _ ∧ (if l = i then on else ow l)[k + 1]? = some a
        by_cases hl : l = i
        · rw [if_pos hl, hb j (by rw [e, hl]), ← hl]
          exact h1
        · rw [if_neg hl]
          exact h1
      | u => show (if j = i then on else ow j) = []; rw [if_neg hj]; exact q
      | s nw => obtain ⟨h0, h1⟩ := q; exact ⟨by show (if j = i then on else ow j) = []; rw [if_neg hj]; exact h0, h1⟩
      | f => obtain ⟨h0, h1⟩ := q; exact ⟨by show (if j = i then on else ow j) = []; rw [if_neg hj]; exact h0, h1⟩
      | o nw => obtain ⟨a, xs, ds, h0, h1⟩ := q; exact ⟨a, xs, ds, by show (if j = i then on else ow j) = _; rw [if_neg hj]; exact h0, h1⟩
      | o2 nw => obtain ⟨a, xs, ds, h0, h1⟩ := q; exact ⟨a, xs, ds, by show (if j = i then on else ow j) = _; rw [if_neg hj]; exact h0, h1⟩

/-! ### weaker kinds -/
def leK : SK → SK → Bool
  | _, .u => true
  | .s a, .s b => !b || a
  | .o a, .s b => !b || a
  | .o2 a, .s b => !b || a
  | .o a, .o b => !b || a
  | .o2 a, .o2 b => !b || a
  | .b i, .b j => i == j
  | .f, .f => true
  | _, _ => false
def isOwn : SK → Bool
  | .o _ => true
  | .o2 _ => true
  | _ => false
def leL : List SK → List SK → Bool
  | [], [] => true
  | a :: as, b :: bs => leK a b && leL as bs
  | _, _ => false
def bOk (Γ : List SK) : Bool := Γ.all fun k => match k with
  | .b j => (match Γ[j]? with | some (.o2 _) => true | _ => false)
  | _ => true
def leΓ (Γ Γ' : List SK) : Bool := leL Γ Γ' && bOk Γ'
theorem leL_len : ∀ {Γ Γ' : List SK}, leL Γ Γ' = true → Γ.length = Γ'.length
  | [], [], _ => rfl
  | a :: as, b :: bs, h => by
    have h' : (leK a b && leL as bs) = true := h
    rw [Bool.and_eq_true] at h'
    rw [List.length_cons, List.length_cons, leL_len h'.2]
  | [], _ :: _, h => by cases h
  | _ :: _, [], h => by cases h
theorem leL_get : ∀ {Γ Γ' : List SK} {i : Nat} {k' : SK}, leL Γ Γ' = true → Γ'[i]? = some k' → ∃ k, Γ[i]? = some k ∧ leK k k' = true
  | a :: as, b :: bs, 0, k', h, e => by
    have h' : (leK a b && leL as bs) = true := h
    rw [Bool.and_eq_true] at h'
    have : b = k' := by simpa using e
    subst this
    exact ⟨a, rfl, h'.1⟩
  | a :: as, b :: bs, i + 1, k', h, e => by
    have h' : (leK a b && leL as bs) = true := h
    rw [Bool.and_eq_true] at h'
    obtain ⟨k, e1, e2⟩ := leL_get (i := i) h'.2 (by simpa using e)
    exact ⟨k, by simpa using e1, e2⟩
  | [], [], i, k', _, e => by simp at e
  | [], _ :: _, _, _, h, _ => by cases h
  | _ :: _, [], _, _, h, _ => by cases h

theorem Chs.all {H : Hp} {A A' : Addr → Prop} (k : ∀ a o, H a = some o → A a → A' a) : ∀ {as : List Addr} {dss : List D}, (∀ a ∈ as, A' a) → Chs H A as dss → DRs H A' (as.map V.ref) dss
  | _, _, _, .nil => .nil
  | _, _, h, .cons h1 h2 h3 => .cons (.lst (h _ List.mem_cons_self) h1 (h2.to fun a o e ha => ⟨e, k a o e ha⟩)) (Chs.all k (fun a m => h a (List.mem_cons_of_mem _ m)) h3)

theorem OK.weak (ok : OK B Γ F env σ w H ow) {Γ' : List SK} (h : leΓ Γ Γ' = true) : ∃ F' ow', Keep F H F' H ∧ OK B Γ' F' env σ w H ow' := by
  unfold leΓ at h
  rw [Bool.and_eq_true] at h
  obtain ⟨h, hbk⟩ := h
  have len := leL_len h
  refine ⟨fun a => F a ∧ ∀ i, a ∈ ow i → ∃ k, Γ'[i]? = some k ∧ isOwn k = true, fun i => match Γ'[i]? with | some k => if isOwn k then ow i else [] | none => [], fun a o e n => ⟨e, fun z => n z.1⟩, ?_⟩
  have owE : ∀ i a, a ∈ (match Γ'[i]? with | some k => if isOwn k then ow i else [] | none => []) → a ∈ ow i ∧ ∃ k, Γ'[i]? = some k ∧ isOwn k = true := fun i a ha => by
    cases e : Γ'[i]? with
    | none => rw [e] at ha; simp at ha
    | some k =>
      rw [e] at ha
      by_cases hk : isOwn k = true
      · simp only [hk, if_true] at ha; exact ⟨ha, k, rfl, hk⟩
      · simp [hk] at ha
  have nin : ∀ {nw nw' : Bool} {a : Addr}, (nw' = true → nw = true) → Al B F nw a → Al B (fun a => F a ∧ ∀ i, a ∈ ow i → ∃ k, Γ'[i]? = some k ∧ isOwn k = true) nw' a := fun g ha => ⟨fun z => ha.1 z.1, fun z => ha.2 (g z)⟩
  have ownAl : ∀ {i : Nat} {k : SK} {nw : Bool} {a : Addr}, Γ'[i]? = some k → isOwn k = false → a ∈ ow i → Al B (fun a => F a ∧ ∀ i, a ∈ ow i → ∃ k, Γ'[i]? = some k ∧ isOwn k = true) nw a := fun {i k nw a} e hk ha => by
    refine ⟨fun z => ?_, fun _ => (ok.own i a ha).2.2⟩
    obtain ⟨k2, e2, h2⟩ := z.2 i ha
    rw [e] at e2
    cases e2
    rw [hk] at h2
    cases h2
  have gb : ∀ {a b : Bool}, (!b || a) = true → b = true → a = true := fun {a b} h hb => by subst hb; simpa using h
  refine ⟨ok.wr, fun a z => ⟨ok.fpF a z, fun i ha => absurd z (ok.own i a ha).2.1⟩, fun a z => ok.dom a z.1, ok.k0, fun a z => ?_, ok.ls.trans len, ok.le.trans len, fun i a ha => ?_, fun i => ?_, fun i j a hi hj => ?_, fun i hi => ?_, fun i k' e => ?_⟩
  · rw [← ok.f0 a z]
    exact ⟨fun q => q.1, fun q => ⟨q, fun i ha => absurd (ok.own i a ha).2.2 z⟩⟩
  · obtain ⟨h1, k, h2, h3⟩ := owE i a ha
    refine ⟨⟨(ok.own i a h1).1, fun j hj => ?_⟩, (ok.own i a h1).2⟩
    rw [ok.dj j i a hj h1]
    exact ⟨k, h2, h3⟩
  · show (match Γ'[i]? with | some k => if isOwn k then ow i else [] | none => []).Nodup
    cases e : Γ'[i]? with
    | none => exact List.nodup_nil
    | some k =>
      by_cases hk : isOwn k = true
      · simp only [hk, if_true]; exact ok.nd i
      · simp [hk]
  · exact ok.dj i j a (owE i a hi).1 (owE j a hj).1
  · show (match Γ'[i]? with | some k => if isOwn k then ow i else [] | none => []) = []
    rw [List.getElem?_eq_none hi]
  · obtain ⟨k, e1, hk⟩ := leL_get h e
    have q := ok.sl i k e1
    have owF : isOwn k' = false → (match Γ'[i]? with | some k => if isOwn k then ow i else [] | none => []) = [] := fun z => by rw [e]; simp [z]
    have owT : isOwn k' = true → (match Γ'[i]? with | some k => if isOwn k then ow i else [] | none => []) = ow i := fun z => by rw [e]; simp [z]
    cases k' with
    | u => exact owF rfl
    | s b =>
      refine ⟨owF rfl, ?_⟩
      cases k with
      | s a => obtain ⟨h0, v, h1, h2⟩ := q; exact ⟨v, h1, h2.to fun c o e ha => ⟨e, nin (gb hk) ha⟩⟩
      | o a =>
        obtain ⟨p, xs, ds, h0, h1, h2, h3, h4⟩ := q
        rw [h2]
        exact ⟨.ref p, h1, .lst (ownAl e rfl (by rw [h0]; simp)) h3 (h4.to fun c o e ha => ⟨e, nin (gb hk) ha⟩)⟩
      | o2 a =>
        obtain ⟨p, as, dss, h0, h1, h2, h3, h4⟩ := q
        rw [h2]
        exact ⟨.ref p, h1, .lst (ownAl e rfl (by rw [h0]; simp)) h3 (h4.all (fun c o e ha => nin (gb hk) ha) fun c hc => ownAl e rfl (by rw [h0]; simp [hc]))⟩
      | u => cases hk
      | b _ => cases hk
      | f => cases hk
    | o b =>
      cases k with
      | o a =>
        obtain ⟨p, xs, ds, h0, h1, h2, h3, h4⟩ := q
        exact ⟨p, xs, ds, (owT rfl).trans h0, h1, h2, h3, h4.to fun c o e ha => ⟨e, nin (gb hk) ha⟩⟩
      | u => cases hk
      | s _ => cases hk
      | o2 _ => cases hk
      | b _ => cases hk
      | f => cases hk
    | o2 b =>
      cases k with
      | o2 a =>
        obtain ⟨p, as, dss, h0, h1, h2, h3, h4⟩ := q
        exact ⟨p, as, dss, (owT rfl).trans h0, h1, h2, h3, h4.to (fun c o e ha => ⟨e, nin (gb hk) ha⟩) fun c _ o e => e⟩
      | u => cases hk
      | s _ => cases hk
      | o _ => cases hk
      | b _ => cases hk
      | f => cases hk
    | b j =>
      cases k with
      | b j' =>
        have ej : j' = j := eq_of_beq hk
        subst ej
        obtain ⟨h0, h1⟩ := q
        refine ⟨owF rfl, ?_⟩
        have hm : SK.b j' ∈ Γ' := List.mem_of_getElem? e
        have hb2 := List.all_eq_true.mp hbk _ hm
        have e3 : (match Γ'[j']? with | some k => if isOwn k then ow j' else [] | none => []) = ow j' := by
          cases e4 : Γ'[j']? with
          | none => simp only [e4] at hb2; cases hb2
          | some k =>
            simp only [e4] at hb2
            cases k <;> first | rfl | cases hb2
        show ∃ (k : Nat) (a : Addr), _ ∧ _ ∧ (match Γ'[j']? with | some k => if isOwn k then ow j' else [] | none => [])[k + 1]? = some a
        rw [e3]
        exact h1
      | u => cases hk
      | s _ => cases hk
      | o _ => cases hk
      | o2 _ => cases hk
      | f => cases hk
    | f =>
      cases k with
      | f => exact ⟨owF rfl, q.2⟩
      | u => cases hk
      | s _ => cases hk
      | o _ => cases hk
      | o2 _ => cases hk
      | b _ => cases hk
end
end DL

namespace DL
open PySem PySem.Spec PyProof.Rows L2

/-! ### what is known of a value: read, at least; a list whose items are open; open data -/
inductive FK where
  | dp | lv (nw : Bool) | ok (nw : Bool)
  deriving DecidableEq
/-- what a run asks: nothing where it is stuck -/
def Res {W α : Type} (o : Out W α) (P : α → W → Prop) (E : Xc → W → Prop) : Prop :=
  match o with
  | .st => True
  | .ok a w => P a w
  | .ex e w => E e w
theorem Res.mono {W α : Type} {o : Out W α} {P P' : α → W → Prop} {E E' : Xc → W → Prop} (h : Res o P E) (hp : ∀ a w, P a w → P' a w) (he : ∀ e w, E e w → E' e w) : Res o P' E' := by
  cases o with
  | st => trivial
  | ok a w => exact hp _ _ h
  | ex e w => exact he _ _ h
theorem Res.bind {W α β : Type} {o : Out W α} {k : α → W → Out W β} {P : α → W → Prop} {E : Xc → W → Prop} {P' : β → W → Prop} {E' : Xc → W → Prop} (h : Res o P E) (hp : ∀ a w, P a w → Res (k a w) P' E') (he : ∀ e w, E e w → E' e w) : Res (o.bind k) P' E' := by
  cases o with
  | st => trivial
  | ok a w => exact hp _ _ h
  | ex e w => exact he _ _ h
section
variable {W : Type} (B : Base W)
def RO (F : Addr → Prop) (H : Hp) : FK → V → D → Prop
  | .dp, v, d => DR H (fun a => ¬ B.wd.fp a) v d
  | .lv nw, v, d => ∃ a xs ds, v = .ref a ∧ d = .list ds ∧ ¬ B.wd.fp a ∧ H a = some (.lst xs) ∧ DRs H (Al B F nw) xs ds
  | .ok nw, v, d => DR H (Al B F nw) v d
/-- the topmost object is new (a list of one's own) -/
def TopF (H H' : Hp) (v : V) (d : D) : Prop := ∀ p, v = .ref p → H p = none ∧ ∀ ds, d = .list ds → ∃ xs, H' p = some (.lst xs)
def XR (F : Addr → Prop) (e : Xc) (C : Value) (a : Option Addr) (H' : Hp) : Prop :=
  C = .ref (B.cl e.c).1 ∧ ∃ d vs, a = some d ∧ H' d = some (.xd ((B.cl e.c).2.zip vs)) ∧ DRs H' (Al B F false) vs e.fs ∧ vs.length = (B.cl e.c).2.length

/-- the wish for an exception -/
def XP (F : Addr → Prop) (H : Hp) (w : W) (e : Xc) : Prop := ∀ C a H', KeepE B H H' → B.wd.rel w H' → XR B F e C a H' → B.xe C a H'
def SE (Γ : List SK) (fl : FK) (ft : Bool) (t : TE) (f : EF W) : Prop :=
  ∀ (env : List D) (w : W), Res (f env w)
    (fun d w' => ∀ (F : Addr → Prop) (σ : L2.St) (H : Hp) (ow : Nat → List Addr), OK B Γ F env σ w H ow → ∀ Q : VK, (∀ v H', KeepE B H H' → OK B Γ F env σ w' H' ow → RO B F H' fl v d → (ft = true → TopF H H' v d) → Q v H') → t σ H Q)
    (fun e w' => ∀ (F : Addr → Prop) (σ : L2.St) (H : Hp) (ow : Nat → List Addr), OK B Γ F env σ w H ow → XP B F H w' e → ∀ Q : VK, t σ H Q)
/-- a test (an optional int): no cells -/
def SX {α : Type} (Γ : List SK) (t : L2.St → Hp → (α → Hp → Prop) → Prop) (f : List D → W → Out W α) : Prop :=
  ∀ (env : List D) (w : W), Res (f env w)
    (fun b w' => ∀ (F : Addr → Prop) (σ : L2.St) (H : Hp) (ow : Nat → List Addr), OK B Γ F env σ w H ow → ∀ Q : α → Hp → Prop, (∀ H', KeepE B H H' → OK B Γ F env σ w' H' ow → Q b H') → t σ H Q)
    (fun e w' => ∀ (F : Addr → Prop) (σ : L2.St) (H : Hp) (ow : Nat → List Addr), OK B Γ F env σ w H ow → XP B F H w' e → ∀ Q : α → Hp → Prop, t σ H Q)
abbrev ST (Γ : List SK) (t : TT) (f : List D → W → Out W Bool) : Prop := SX B Γ t f
abbrev SO (Γ : List SK) (t : TO) (f : List D → W → Out W (Option Int)) : Prop := SX B Γ t f
/-- arguments -/
def AR (F : Addr → Prop) (H : Hp) : FK → List V → List D → Prop
  | .ok nw, vs, ds => DRs H (Al B F nw) vs ds
  | _, vs, ds => DRs H (fun a => ¬ B.wd.fp a) vs ds
def SA (Γ : List SK) (fl : FK) (t : TA) (f : AF W) : Prop :=
  ∀ (env : List D) (w : W), Res (f env w)
    (fun ds w' => ∀ (F : Addr → Prop) (σ : L2.St) (H : Hp) (ow : Nat → List Addr), OK B Γ F env σ w H ow → ∀ Q : List V → Hp → Prop, (∀ vs H', KeepE B H H' → OK B Γ F env σ w' H' ow → AR B F H' fl vs ds → Q vs H') → t σ H Q)
    (fun e w' => ∀ (F : Addr → Prop) (σ : L2.St) (H : Hp) (ow : Nat → List Addr), OK B Γ F env σ w H ow → XP B F H w' e → ∀ Q : List V → Hp → Prop, t σ H Q)
end

section
variable {W : Type} {B : Base W} {Γ : List SK} {F : Addr → Prop} {env : List D} {σ : L2.St} {w w' : W} {H H' H1 H2 : Hp} {ow : Nat → List Addr}
theorem XP.at {e : Xc} (x : XP B F H w e) (k : KeepE B H H1) : XP B F H1 w e := fun C a H' k1 r xr => x C a H' (k.trans k1) r xr
theorem OK.dpE (k : KeepE B H1 H2) {v : V} {d : D} (h : DR H1 (fun a => ¬ B.wd.fp a) v d) : DR H2 (fun a => ¬ B.wd.fp a) v d := h.to fun a o e ha => ⟨k a o e ha, ha⟩
theorem OK.dpsE (k : KeepE B H1 H2) {v : List V} {d : List D} (h : DRs H1 (fun a => ¬ B.wd.fp a) v d) : DRs H2 (fun a => ¬ B.wd.fp a) v d := h.to fun a o e ha => ⟨k a o e ha, ha⟩
theorem OK.ro (ok : OK B Γ F env σ w H ow) (k : KeepE B H1 H2) : ∀ {fl : FK} {v : V} {d : D}, RO B F H1 fl v d → RO B F H2 fl v d
  | .dp, _, _, h => OK.dpE k h
  | .lv nw, _, _, ⟨a, xs, ds, h0, h1, h2, h3, h4⟩ => ⟨a, xs, ds, h0, h1, h2, k a _ h3 h2, ok.drs k h4⟩
  | .ok nw, _, _, h => ok.dr k h
theorem OK.ar (ok : OK B Γ F env σ w H ow) (k : KeepE B H1 H2) : ∀ {fl : FK} {v : List V} {d : List D}, AR B F H1 fl v d → AR B F H2 fl v d
  | .dp, _, _, h => OK.dpsE k h
  | .lv nw, _, _, h => OK.dpsE k h
  | .ok nw, _, _, h => ok.drs k h
theorem OK.toDp (ok : OK B Γ F env σ w H ow) : ∀ {fl : FK} {v : V} {d : D}, RO B F H1 fl v d → DR H1 (fun a => ¬ B.wd.fp a) v d
  | .dp, _, _, h => h
  | .lv nw, _, _, ⟨a, xs, ds, h0, h1, h2, h3, h4⟩ => by rw [h0, h1]; exact .lst h2 h3 (h4.to fun a o e ha => ⟨e, ok.alFp ha⟩)
  | .ok nw, _, _, h => h.to fun a o e ha => ⟨e, ok.alFp ha⟩
def lvOf : FK → Option Bool
  | .dp => none
  | .lv nw => some nw
  | .ok nw => some nw
theorem OK.toLv (ok : OK B Γ F env σ w H ow) {nw : Bool} : ∀ {fl : FK} {v : V} {ds : List D}, lvOf fl = some nw → RO B F H1 fl v (.list ds) → ∃ a xs, v = .ref a ∧ ¬ B.wd.fp a ∧ H1 a = some (.lst xs) ∧ DRs H1 (Al B F nw) xs ds
  | .lv nw', v, ds, e, ⟨a, xs, ds', h0, h1, h2, h3, h4⟩ => by cases e; cases h1; exact ⟨a, xs, h0, h2, h3, h4⟩
  | .ok nw', v, ds, e, h => by
    cases e
    obtain ⟨a, xs, h0, h1, h2, h3⟩ := DR.lst_inv (show DR H1 (Al B F nw) v (.list ds) from h)
    exact ⟨a, xs, h0, ok.alFp h1, h2, h3⟩
/-- scalars have no cells -/
def scalD : D → Bool
  | .none => true
  | .bool _ => true
  | .int _ => true
  | .str _ => true
  | _ => false
theorem DR.scal {A A' : Addr → Prop} {v : V} {d : D} (h : DR H A v d) (s : scalD d = true) : DR H' A' v d := by
  cases h with
  | non => exact .non
  | bl b => exact .bl b
  | int i => exact .int i
  | str x => exact .str x
  | lst _ _ _ => cases s
  | tup _ _ _ => cases s
theorem DR.noref {A : Addr → Prop} {v : V} {d : D} (h : DR H A v d) (s : scalD d = true) {p : Addr} : v ≠ .ref p := by
  rintro rfl
  cases h <;> cases s
theorem topF_scal {A : Addr → Prop} {v : V} {d : D} (h : DR H A v d) (s : scalD d = true) : TopF H1 H2 v d := fun p e => absurd e (h.noref s)

def leF : FK → FK → Bool
  | _, .dp => true
  | .lv a, .lv b => !b || a
  | .ok a, .ok b => !b || a
  | _, _ => false
theorem imp_b {a b : Bool} (h : (!b || a) = true) : b = true → a = true := fun hb => by subst hb; simpa using h
theorem OK.leRO (ok : OK B Γ F env σ w H ow) : ∀ {f f' : FK} {v : V} {d : D}, leF f f' = true → RO B F H1 f v d → RO B F H1 f' v d
  | f, .dp, _, _, _, h => ok.toDp h
  | .lv a, .lv b, _, _, e, ⟨p, xs, ds, h0, h1, h2, h3, h4⟩ => ⟨p, xs, ds, h0, h1, h2, h3, h4.nw (imp_b e)⟩
  | .ok a, .ok b, _, _, e, h => DR.nw (imp_b e) h
  | .dp, .lv _, _, _, e, _ => nomatch e
  | .dp, .ok _, _, _, e, _ => nomatch e
  | .lv _, .ok _, _, _, e, _ => nomatch e
  | .ok _, .lv _, _, _, e, _ => nomatch e
/-- less is said -/
theorem se_le {fl fl' : FK} {ft ft' : Bool} {t : TE} {f : EF W} (h : SE B Γ fl ft t f) (h1 : leF fl fl' = true) (h2 : (!ft' || ft) = true) : SE B Γ fl' ft' t f := fun env w =>
  (h env w).mono (fun d w' q F σ H ow ok Q k => q F σ H ow ok Q fun v H' k1 k2 k3 k4 => k v H' k1 k2 (k2.leRO h1 k3) fun z => k4 (imp_b h2 z)) fun _ _ q => q

/-! ### names and constants -/
def lf {W α : Type} : Option α → W → Out W α
  | none, _ => .st
  | some a, w => .ok a w
theorem Res.lf {W α : Type} {o : Option α} {w : W} {P : α → W → Prop} {E : Xc → W → Prop} (h : ∀ a, o = some a → P a w) : Res (DL.lf o w) P E := by
  cases o with
  | none => trivial
  | some a => exact h a rfl
def fVar {W : Type} (i : Nat) : EF W := fun env w => .ok (env.getD i .none) w
def fC {W : Type} (d : D) : EF W := fun _ w => .ok d w
theorem se_var {i : Nat} {nw : Bool} (h : Γ[i]? = some (.s nw)) : SE B Γ (.ok nw) false (tVar i) (fVar i) := fun env w F σ H ow ok Q k =>
  let ⟨_, v, e, r⟩ := ok.sl i _ h
  ⟨v, e, k v H (.refl H) ok r fun z => nomatch z⟩
/-- a list of one's own, read -/
theorem se_varO {i : Nat} {nw : Bool} (h : Γ[i]? = some (.o nw)) : SE B Γ (.lv nw) false (tVar i) (fVar i) := fun env w F σ H ow ok Q k => by
  obtain ⟨a, xs, ds, h0, h1, h2, h3, h4⟩ := ok.sl i _ h
  exact ⟨.ref a, h1, k _ H (.refl H) ok ⟨a, xs, ds, rfl, h2, (ok.own i a (by rw [h0]; simp)).2.1, h3, h4⟩ fun z => nomatch z⟩
theorem se_varO2 {i : Nat} {nw : Bool} (h : Γ[i]? = some (.o2 nw)) : SE B Γ .dp false (tVar i) (fVar i) := fun env w F σ H ow ok Q k => by
  obtain ⟨a, as, dss, h0, h1, h2, h3, h4⟩ := ok.sl i _ h
  refine ⟨.ref a, h1, k _ H (.refl H) ok ?_ fun z => nomatch z⟩
  rw [h2]
  exact .lst (ok.own i a (by rw [h0]; simp)).2.1 h3 (h4.all (fun c o e ha => ok.alFp ha) fun c hc => (ok.own i c (by rw [h0]; simp [hc])).2.1)
/-- an item of such a one -/
def gVarB (x y : D) : Option D := match x, y with
  | .list ds, .int k => ds[k.toNat]?
  | _, _ => none
def fVarB {W : Type} (j i : Nat) : EF W := fun env w => lf (gVarB (env.getD j .none) (env.getD i .none)) w
theorem se_varB {i j : Nat} {nw : Bool} (h : Γ[i]? = some (.b j)) (h2 : Γ[j]? = some (.o2 nw)) : SE B Γ (.lv nw) false (tVar i) (fVarB j i) := fun env w => Res.lf fun d e F σ H ow ok Q kk => by
  obtain ⟨_, k, a, e1, e2, e3⟩ := ok.sl i _ h
  obtain ⟨p, as, dss, h0, h1, h2, h3, h4⟩ := ok.sl j _ h2
  rw [h0] at e3
  have e3' : as[k]? = some a := by simpa using e3
  obtain ⟨xs, ds, q1, q2, q3⟩ := h4.get e3'
  rw [h2, e1] at e
  have e' : dss[((k : Int)).toNat]? = some d := e
  rw [Int.toNat_natCast, q1] at e'
  cases e'
  exact ⟨.ref a, e2, kk _ H (.refl H) ok ⟨a, xs, ds, rfl, rfl, (ok.own j a (by rw [h0]; simp [List.mem_of_getElem? e3'])).2.1, q2, q3⟩ fun z => nomatch z⟩
theorem se_int {i : Int} : SE B Γ (.ok true) true (tC (.int i)) (fC (.int i)) := fun env w F σ H ow ok Q k => k _ H (.refl H) ok (.int i) fun _ p e => nomatch e
theorem se_bl {i : Bool} : SE B Γ (.ok true) true (tC (.bl i)) (fC (.bool i)) := fun env w F σ H ow ok Q k => k _ H (.refl H) ok (.bl i) fun _ p e => nomatch e
theorem se_str {i : Str} : SE B Γ (.ok true) true (tC (.str i)) (fC (.str i)) := fun env w F σ H ow ok Q k => k _ H (.refl H) ok (.str i) fun _ p e => nomatch e
theorem se_non : SE B Γ (.ok true) true (tC .non) (fC .none) := fun env w F σ H ow ok Q k => k _ H (.refl H) ok .non fun _ p e => nomatch e

/-! ### operations by values -/
/-- a two-place operation -/
def R2S (B : Base W) (Γ : List SK) (fa fb fl : FK) (ft : Bool) (r : V → V → Hp → VK → Prop) (g : D → D → Option D) : Prop :=
  ∀ {F : Addr → Prop} {env : List D} {σ : L2.St} {w : W} {H : Hp} {ow : Nat → List Addr} {v1 v2 : V} {x y d : D} {Q : VK}, OK B Γ F env σ w H ow → RO B F H fa v1 x → RO B F H fb v2 y → g x y = some d →
    (∀ v H', L2.Same H H' → RO B F H' fl v d → (ft = true → TopF H H' v d) → Q v H') → r v1 v2 H Q
def R1S (B : Base W) (Γ : List SK) (fa fl : FK) (ft : Bool) (r : V → Hp → VK → Prop) (g : D → Option D) : Prop :=
  ∀ {F : Addr → Prop} {env : List D} {σ : L2.St} {w : W} {H : Hp} {ow : Nat → List Addr} {v1 : V} {x d : D} {Q : VK}, OK B Γ F env σ w H ow → RO B F H fa v1 x → g x = some d →
    (∀ v H', L2.Same H H' → RO B F H' fl v d → (ft = true → TopF H H' v d) → Q v H') → r v1 H Q
def fBin {W : Type} (g : D → D → Option D) (a b : EF W) : EF W := fun env w => (a env w).bind fun x w => (b env w).bind fun y w => lf (g x y) w
def fUn {W : Type} (g : D → Option D) (a : EF W) : EF W := fun env w => (a env w).bind fun x w => lf (g x) w
theorem TopF.back (ok : OK B Γ F env σ w H ow) (k : KeepE B H H1) (r : B.wd.rel w' H1) {v : V} {d : D} (h : TopF H1 H2 v d) : TopF H H2 v d := fun p e => ⟨ok.free k r (h p e).1, (h p e).2⟩

variable {fa fb fl : FK} {xa xb ft : Bool} {ta tb : TE} {a b : EF W}
theorem se_bin2 {r : V → V → Hp → VK → Prop} {g : D → D → Option D} {t : TE} (ht : t = fun σ H Q => ta σ H fun x H1 => tb σ H1 fun y H2 => r x y H2 Q) (hr : R2S B Γ fa fb fl ft r g) (ha : SE B Γ fa xa ta a) (hb : SE B Γ fb xb tb b) : SE B Γ fl ft t (fBin g a b) := by
  subst ht
  intro env w
  refine Res.bind (ha env w) (fun x w1 qa => Res.bind (hb env w1) (fun y w2 qb => Res.lf fun d eg F σ H ow ok Q k => ?_) fun e w2 qb F σ H ow ok xp Q => ?_) fun e w1 qa F σ H ow ok xp Q => qa F σ H ow ok xp _
  · refine qa F σ H ow ok _ fun v1 H1 k1 ok1 r1 _ => qb F σ H1 ow ok1 _ fun v2 H2 k2 ok2 r2 _ => ?_
    refine hr ok2 (ok2.ro k2 r1) r2 eg fun v H3 s3 r3 t3 => ?_
    exact k v H3 (k1.trans (k2.trans (KeepE.same s3))) (ok2.same s3) r3 fun z => TopF.back ok (k1.trans k2) ok2.wr (t3 z)
  · exact qa F σ H ow ok _ fun v1 H1 k1 ok1 r1 _ => qb F σ H1 ow ok1 (xp.at k1) _
theorem se_op {r : R2} {g : D → D → Option D} (hr : R2S B Γ fa fb fl ft r g) (ha : SE B Γ fa xa ta a) (hb : SE B Γ fb xb tb b) : SE B Γ fl ft (tOp r ta tb) (fBin g a b) := se_bin2 rfl hr ha hb
theorem se_call2 {r : List V → Hp → VK → Prop} {g : D → D → Option D} (hr : R2S B Γ fa fb fl ft (fun x y => r [x, y]) g) (ha : SE B Γ fa xa ta a) (hb : SE B Γ fb xb tb b) : SE B Γ fl ft (tCB r (tCons ta (tCons tb tNil))) (fBin g a b) := se_bin2 rfl hr ha hb
theorem se_un1 {r : V → Hp → VK → Prop} {g : D → Option D} {t : TE} (ht : t = fun σ H Q => ta σ H fun x H1 => r x H1 Q) (hr : R1S B Γ fa fl ft r g) (ha : SE B Γ fa xa ta a) : SE B Γ fl ft t (fUn g a) := by
  subst ht
  intro env w
  refine Res.bind (ha env w) (fun x w1 qa => Res.lf fun d eg F σ H ow ok Q k => ?_) fun e w1 qa F σ H ow ok xp Q => qa F σ H ow ok xp _
  refine qa F σ H ow ok _ fun v1 H1 k1 ok1 r1 _ => ?_
  refine hr ok1 r1 eg fun v H3 s3 r3 t3 => ?_
  exact k v H3 (k1.trans (KeepE.same s3)) (ok1.same s3) r3 fun z => TopF.back ok k1 ok1.wr (t3 z)
theorem se_un {r : V → Hp → VK → Prop} {g : D → Option D} (hr : R1S B Γ fa fl ft r g) (ha : SE B Γ fa xa ta a) : SE B Γ fl ft (tUn r ta) (fUn g a) := se_un1 rfl (r := r) hr ha
theorem se_call1 {r : List V → Hp → VK → Prop} {g : D → Option D} (hr : R1S B Γ fa fl ft (fun x => r [x]) g) (ha : SE B Γ fa xa ta a) : SE B Γ fl ft (tCB r (tCons ta tNil)) (fUn g a) := se_un1 rfl (r := fun x => r [x]) hr ha

/-! ### tests -/
def bD : D → Option Bool
  | .bool b => some b
  | _ => none
def gB {W : Type} (a : EF W) : List D → W → Out W Bool := fun env w => (a env w).bind fun x w => lf (bD x) w
theorem bD_some {x : D} {b : Bool} (h : bD x = some b) : x = .bool b := by
  cases x <;> first | (cases h; rfl) | cases h
theorem st_val {t : TT} (ht : t = fun σ H Q => ta σ H fun x H1 => ∃ c, x = .bl c ∧ Q c H1) (ha : SE B Γ fa xa ta a) : ST B Γ t (gB a) := by
  subst ht
  intro env w
  refine Res.bind (ha env w) (fun x w1 qa => Res.lf fun c eg F σ H ow ok Q k => ?_) fun e w1 qa F σ H ow ok xp Q => qa F σ H ow ok xp _
  have e := bD_some eg
  subst e
  exact qa F σ H ow ok _ fun v1 H1 k1 ok1 r1 _ => ⟨c, (ok1.toDp r1).bl_inv, k H1 k1 ok1⟩
theorem st_test (ha : SE B Γ fa xa ta a) : ST B Γ (tTest ta) (gB a) := st_val rfl ha
theorem st_b (ha : SE B Γ fa xa ta a) : ST B Γ (tB ta) (gB a) := st_val rfl ha
/-- truth -/
def truD : D → Option Bool
  | .none => some false
  | .bool b => some b
  | .int i => some (i != 0)
  | .list ds => some (!ds.isEmpty)
  | .tuple ds => some (!ds.isEmpty)
  | _ => none
def gT {W : Type} (a : EF W) : List D → W → Out W Bool := fun env w => (a env w).bind fun x w => lf (truD x) w
theorem DRs.isEmpty {A : Addr → Prop} {vs : List V} {ds : List D} (h : DRs H A vs ds) : vs.isEmpty = ds.isEmpty := by cases h <;> rfl
theorem tru_of {K : PySem.W.Frag} {A : Addr → Prop} {v : V} {d : D} {c : Bool} (h : DR H A v d) (e : truD d = some c) : TruV K v H c := by
  cases h with
  | non => cases e; exact rfl
  | bl b => cases e; exact rfl
  | int i => cases e; exact rfl
  | str x => cases e
  | lst h1 h2 h3 => cases e; exact .inl ⟨_, .inl (.inl h2), by rw [h3.isEmpty]⟩
  | tup h1 h2 h3 => cases e; exact .inr (.inl ⟨_, .inl (.inl h2), by rw [h3.isEmpty]⟩)
theorem st_truth {K : PySem.W.Frag} (ha : SE B Γ fa xa ta a) : ST B Γ (fun σ H Q => ta σ H fun x H' => ∃ k, TruV K x H' k ∧ Q k H') (gT a) := by
  intro env w
  refine Res.bind (ha env w) (fun x w1 qa => Res.lf fun c eg F σ H ow ok Q k => ?_) fun e w1 qa F σ H ow ok xp Q => qa F σ H ow ok xp _
  exact qa F σ H ow ok _ fun v1 H1 k1 ok1 r1 _ => ⟨c, tru_of (ok1.toDp r1) eg, k H1 k1 ok1⟩
variable {t u : TT} {p q : List D → W → Out W Bool}
def gNot {W : Type} (p : List D → W → Out W Bool) : List D → W → Out W Bool := fun env w => (p env w).bind fun b w => .ok (!b) w
def gAnd {W : Type} (p q : List D → W → Out W Bool) : List D → W → Out W Bool := fun env w => (p env w).bind fun b w => match b with | true => q env w | false => .ok false w
def gOr {W : Type} (p q : List D → W → Out W Bool) : List D → W → Out W Bool := fun env w => (p env w).bind fun b w => match b with | true => .ok true w | false => q env w
theorem st_not (hp : ST B Γ t p) : ST B Γ (tNot t) (gNot p) := fun env w =>
  Res.bind (hp env w) (fun x w1 qa F σ H ow ok Q k => qa F σ H ow ok _ fun H1 k1 ok1 => k H1 k1 ok1) fun e w1 qa F σ H ow ok xp Q => qa F σ H ow ok xp _
theorem st_and (hp : ST B Γ t p) (hq : ST B Γ u q) : ST B Γ (tAnd t u) (gAnd p q) := fun env w => by
  refine Res.bind (hp env w) (fun x w1 qa => ?_) fun e w1 qa F σ H ow ok xp Q => qa F σ H ow ok xp _
  cases x with
  | false => exact fun F σ H ow ok Q k => qa F σ H ow ok _ fun H1 k1 ok1 => k H1 k1 ok1
  | true => exact (hq env w1).mono (fun y w2 qb F σ H ow ok Q k => qa F σ H ow ok _ fun H1 k1 ok1 => qb F σ H1 ow ok1 _ fun H2 k2 ok2 => k H2 (k1.trans k2) ok2) fun e w2 qb F σ H ow ok xp Q => qa F σ H ow ok _ fun H1 k1 ok1 => qb F σ H1 ow ok1 (xp.at k1) _
theorem st_or (hp : ST B Γ t p) (hq : ST B Γ u q) : ST B Γ (tOr t u) (gOr p q) := fun env w => by
  refine Res.bind (hp env w) (fun x w1 qa => ?_) fun e w1 qa F σ H ow ok xp Q => qa F σ H ow ok xp _
  cases x with
  | true => exact fun F σ H ow ok Q k => qa F σ H ow ok _ fun H1 k1 ok1 => k H1 k1 ok1
  | false => exact (hq env w1).mono (fun y w2 qb F σ H ow ok Q k => qa F σ H ow ok _ fun H1 k1 ok1 => qb F σ H1 ow ok1 _ fun H2 k2 ok2 => k H2 (k1.trans k2) ok2) fun e w2 qb F σ H ow ok xp Q => qa F σ H ow ok _ fun H1 k1 ok1 => qb F σ H1 ow ok1 (xp.at k1) _

/-! ### and, or, not as values; a if t else b -/
def fNot {W : Type} (a : EF W) : EF W := fun env w => (a env w).bind fun x w => (lf (bD x) w).bind fun b w => .ok (.bool (!b)) w
def fAnd {W : Type} (a b : EF W) : EF W := fun env w => (a env w).bind fun x w => (lf (bD x) w).bind fun c w => match c with | true => b env w | false => .ok (.bool false) w
def fOr {W : Type} (a b : EF W) : EF W := fun env w => (a env w).bind fun x w => (lf (bD x) w).bind fun c w => match c with | true => .ok (.bool true) w | false => b env w
def fIf {W : Type} (p : List D → W → Out W Bool) (a b : EF W) : EF W := fun env w => (p env w).bind fun c w => match c with | true => a env w | false => b env w
theorem Res.bindlf {W α β : Type} {o : Option α} {w : W} {k : α → W → Out W β} {P' : β → W → Prop} {E' : Xc → W → Prop} (hp : ∀ a, o = some a → Res (k a w) P' E') : Res ((DL.lf o w).bind k) P' E' := by
  cases o with
  | none => trivial
  | some a => exact hp a rfl
theorem se_not (ha : SE B Γ fa xa ta a) : SE B Γ (.ok true) true (tNotV ta) (fNot a) := fun env w => by
  refine Res.bind (ha env w) (fun x w1 qa => Res.bindlf fun c eg F σ H ow ok Q k => ?_) fun e w1 qa F σ H ow ok xp Q => qa F σ H ow ok xp _
  have e := bD_some eg
  subst e
  exact qa F σ H ow ok _ fun v1 H1 k1 ok1 r1 _ => ⟨c, (ok1.toDp r1).bl_inv, k _ H1 k1 ok1 (.bl _) fun _ p e => nomatch e⟩
theorem se_and (ha : SE B Γ fa xa ta a) (hb : SE B Γ (.ok true) true tb b) : SE B Γ (.ok true) true (tAndV ta tb) (fAnd a b) := fun env w => by
  refine Res.bind (ha env w) (fun x w1 qa => Res.bindlf fun c eg => ?_) fun e w1 qa F σ H ow ok xp Q => qa F σ H ow ok xp _
  have e := bD_some eg
  subst e
  cases c with
  | false => exact fun F σ H ow ok Q k => qa F σ H ow ok _ fun v1 H1 k1 ok1 r1 _ => ⟨false, (ok1.toDp r1).bl_inv, k _ H1 k1 ok1 (.bl _) fun _ p e => nomatch e⟩
  | true => exact (hb env w1).mono (fun y w2 qb F σ H ow ok Q k => qa F σ H ow ok _ fun v1 H1 k1 ok1 r1 _ => ⟨true, (ok1.toDp r1).bl_inv, qb F σ H1 ow ok1 _ fun v2 H2 k2 ok2 r2 t2 => k v2 H2 (k1.trans k2) ok2 r2 fun z => TopF.back ok k1 ok1.wr (t2 z)⟩) fun e w2 qb F σ H ow ok xp Q => qa F σ H ow ok _ fun v1 H1 k1 ok1 r1 _ => ⟨true, (ok1.toDp r1).bl_inv, qb F σ H1 ow ok1 (xp.at k1) _⟩
theorem se_or (ha : SE B Γ fa xa ta a) (hb : SE B Γ (.ok true) true tb b) : SE B Γ (.ok true) true (tOrV ta tb) (fOr a b) := fun env w => by
  refine Res.bind (ha env w) (fun x w1 qa => Res.bindlf fun c eg => ?_) fun e w1 qa F σ H ow ok xp Q => qa F σ H ow ok xp _
  have e := bD_some eg
  subst e
  cases c with
  | true => exact fun F σ H ow ok Q k => qa F σ H ow ok _ fun v1 H1 k1 ok1 r1 _ => ⟨true, (ok1.toDp r1).bl_inv, k _ H1 k1 ok1 (.bl _) fun _ p e => nomatch e⟩
  | false => exact (hb env w1).mono (fun y w2 qb F σ H ow ok Q k => qa F σ H ow ok _ fun v1 H1 k1 ok1 r1 _ => ⟨false, (ok1.toDp r1).bl_inv, qb F σ H1 ow ok1 _ fun v2 H2 k2 ok2 r2 t2 => k v2 H2 (k1.trans k2) ok2 r2 fun z => TopF.back ok k1 ok1.wr (t2 z)⟩) fun e w2 qb F σ H ow ok xp Q => qa F σ H ow ok _ fun v1 H1 k1 ok1 r1 _ => ⟨false, (ok1.toDp r1).bl_inv, qb F σ H1 ow ok1 (xp.at k1) _⟩
theorem se_if (hp : ST B Γ t p) (ha : SE B Γ fl ft ta a) (hb : SE B Γ fl ft tb b) : SE B Γ fl ft (tIf t ta tb) (fIf p a b) := fun env w => by
  refine Res.bind (hp env w) (fun c w1 qa => ?_) fun e w1 qa F σ H ow ok xp Q => qa F σ H ow ok xp _
  cases c with
  | true => exact (ha env w1).mono (fun y w2 qb F σ H ow ok Q k => qa F σ H ow ok _ fun H1 k1 ok1 => iteT (qb F σ H1 ow ok1 _ fun v2 H2 k2 ok2 r2 t2 => k v2 H2 (k1.trans k2) ok2 r2 fun z => TopF.back ok k1 ok1.wr (t2 z))) fun e w2 qb F σ H ow ok xp Q => qa F σ H ow ok _ fun H1 k1 ok1 => iteT (qb F σ H1 ow ok1 (xp.at k1) _)
  | false => exact (hb env w1).mono (fun y w2 qb F σ H ow ok Q k => qa F σ H ow ok _ fun H1 k1 ok1 => iteF (qb F σ H1 ow ok1 _ fun v2 H2 k2 ok2 r2 t2 => k v2 H2 (k1.trans k2) ok2 r2 fun z => TopF.back ok k1 ok1.wr (t2 z))) fun e w2 qb F σ H ow ok xp Q => qa F σ H ow ok _ fun H1 k1 ok1 => iteF (qb F σ H1 ow ok1 (xp.at k1) _)

/-! ### arguments, displays -/
variable {tr : TA} {fr : AF W}
def aNil {W : Type} : AF W := fun _ w => .ok [] w
def aCons {W : Type} (a : EF W) (r : AF W) : AF W := fun env w => (a env w).bind fun x w => (r env w).bind fun xs w => .ok (x :: xs) w
theorem sa_nil : SA B Γ fl tNil aNil := fun env w F σ H ow ok Q k => k [] H (.refl H) ok (by cases fl <;> exact .nil)
theorem sa_cons {nw nw' : Bool} (ha : SE B Γ (.ok nw') xa ta a) (hr : SA B Γ (.ok nw) tr fr) (h : (!nw || nw') = true) : SA B Γ (.ok nw) (tCons ta tr) (aCons a fr) := fun env w => by
  refine Res.bind (ha env w) (fun x w1 qa => Res.bind (hr env w1) (fun y w2 qb F σ H ow ok Q k => ?_) fun e w2 qb F σ H ow ok xp Q => ?_) fun e w1 qa F σ H ow ok xp Q => qa F σ H ow ok xp _
  · exact qa F σ H ow ok _ fun v1 H1 k1 ok1 r1 _ => qb F σ H1 ow ok1 _ fun vs H2 k2 ok2 r2 => k (v1 :: vs) H2 (k1.trans k2) ok2 (.cons (ok2.dr k2 (DR.nw (imp_b h) r1)) r2)
  · exact qa F σ H ow ok _ fun v1 H1 k1 ok1 r1 _ => qb F σ H1 ow ok1 (xp.at k1) _
theorem sa_consD (ha : SE B Γ fa xa ta a) (hr : SA B Γ .dp tr fr) : SA B Γ .dp (tCons ta tr) (aCons a fr) := fun env w => by
  refine Res.bind (ha env w) (fun x w1 qa => Res.bind (hr env w1) (fun y w2 qb F σ H ow ok Q k => ?_) fun e w2 qb F σ H ow ok xp Q => ?_) fun e w1 qa F σ H ow ok xp Q => qa F σ H ow ok xp _
  · exact qa F σ H ow ok _ fun v1 H1 k1 ok1 r1 _ => qb F σ H1 ow ok1 _ fun vs H2 k2 ok2 r2 => k (v1 :: vs) H2 (k1.trans k2) ok2 (.cons (OK.dpE k2 (ok1.toDp r1)) r2)
  · exact qa F σ H ow ok _ fun v1 H1 k1 ok1 r1 _ => qb F σ H1 ow ok1 (xp.at k1) _
/-- a list's length is small -/
def sm (n : Nat) : Bool := Nat.ble n 100000
theorem sm_le {n : Nat} (h : sm n = true) : n ≤ sizeLine := Nat.le_trans (Nat.le_of_ble_eq_true h) (by decide)
theorem sm_lt {n : Nat} (h : sm n = true) : n < sizeLine := Nat.lt_of_le_of_lt (Nat.le_of_ble_eq_true h) (by decide)
def ifs {α : Type} (b : Bool) (a : α) : Option α := match b with | true => some a | false => none
theorem ifs_some {α : Type} {b : Bool} {a c : α} (h : ifs b a = some c) : b = true ∧ a = c := by
  cases b with
  | true => exact ⟨rfl, Option.some.inj h⟩
  | false => cases h
def fLst {W : Type} (r : AF W) : EF W := fun env w => (r env w).bind fun xs w => lf (ifs (sm xs.length) (.list xs)) w
def fTup {W : Type} (r : AF W) : EF W := fun env w => (r env w).bind fun xs w => lf (ifs (sm xs.length) (.tuple xs)) w
theorem new_lst (ok : OK B Γ F env σ w H ow) {nw : Bool} {xs : List V} {ds : List D} (h : DRs H (Al B F nw) xs ds) {p : Addr} (hp : H p = none) : DR (upd H p (.lst xs)) (Al B F nw) (.ref p) (.list ds) ∧ TopF H (upd H p (.lst xs)) (.ref p) (.list ds) :=
  ⟨.lst (ok.al hp nw) upd_same (ok.drs (KeepE.new hp) h), fun q e => by cases e; exact ⟨hp, fun _ _ => ⟨_, upd_same⟩⟩⟩
theorem new_tup (ok : OK B Γ F env σ w H ow) {nw : Bool} {xs : List V} {ds : List D} (h : DRs H (Al B F nw) xs ds) {p : Addr} (hp : H p = none) : DR (upd H p (.tup xs)) (Al B F nw) (.ref p) (.tuple ds) ∧ TopF H (upd H p (.tup xs)) (.ref p) (.tuple ds) :=
  ⟨.tup (ok.al hp nw) upd_same (ok.drs (KeepE.new hp) h), fun q e => by cases e; exact ⟨hp, fun _ e => nomatch e⟩⟩
theorem se_lst {nw : Bool} (hr : SA B Γ (.ok nw) tr fr) : SE B Γ (.ok nw) true (tLst tr) (fLst fr) := fun env w => by
  refine Res.bind (hr env w) (fun ds w1 qa => Res.lf fun d eg F σ H ow ok Q k => ?_) fun e w1 qa F σ H ow ok xp Q => qa F σ H ow ok xp _
  obtain ⟨e1, e2⟩ := ifs_some eg
  subst e2
  refine qa F σ H ow ok _ fun vs H1 k1 ok1 r1 => ⟨by rw [DRs.length r1]; exact sm_le e1, fun p hp => ?_⟩
  obtain ⟨r2, t2⟩ := new_lst ok1 r1 hp
  exact k _ _ (k1.trans (.new hp)) (ok1.new hp) r2 fun _ => TopF.back ok k1 ok1.wr t2
theorem se_tup {nw : Bool} (hr : SA B Γ (.ok nw) tr fr) : SE B Γ (.ok nw) true (tTup tr) (fTup fr) := fun env w => by
  refine Res.bind (hr env w) (fun ds w1 qa => Res.lf fun d eg F σ H ow ok Q k => ?_) fun e w1 qa F σ H ow ok xp Q => qa F σ H ow ok xp _
  obtain ⟨e1, e2⟩ := ifs_some eg
  subst e2
  refine qa F σ H ow ok _ fun vs H1 k1 ok1 r1 => ⟨by rw [DRs.length r1]; exact sm_le e1, fun p hp => ?_⟩
  obtain ⟨r2, t2⟩ := new_tup ok1 r1 hp
  exact k _ _ (k1.trans (.new hp)) (ok1.new hp) r2 fun _ => TopF.back ok k1 ok1.wr t2
/-- new data that holds no lists within is new through and through -/
def flatD : D → Bool
  | .list ds => ds.all scalD
  | .tuple ds => ds.all scalD
  | _ => true
def fFlat {W : Type} (a : EF W) : EF W := fun env w => (a env w).bind fun x w => lf (ifs (flatD x) x) w
theorem DRs.scal {A A' : Addr → Prop} : ∀ {vs : List V} {ds : List D}, DRs H A vs ds → ds.all scalD = true → DRs H' A' vs ds
  | _, _, .nil, _ => .nil
  | _, _, .cons h hs, s => by
    rw [List.all_cons, Bool.and_eq_true] at s
    exact .cons (h.scal s.1) (hs.scal s.2)
theorem se_flat {nw : Bool} (ha : SE B Γ (.ok nw) true ta a) : SE B Γ (.ok true) true ta (fFlat a) := fun env w => by
  refine Res.bind (ha env w) (fun x w1 qa => Res.lf fun d eg F σ H ow ok Q k => ?_) fun e w1 qa F σ H ow ok xp Q => qa F σ H ow ok xp _
  obtain ⟨e1, e2⟩ := ifs_some eg
  subst e2
  refine qa F σ H ow ok _ fun v H1 k1 ok1 r1 t1 => k v H1 k1 ok1 ?_ t1
  have tt := t1 rfl
  cases (show DR H1 (Al B F nw) v x from r1) with
  | non => exact .non
  | bl b => exact .bl b
  | int i => exact .int i
  | str x => exact .str x
  | lst h1 h2 h3 => exact .lst ⟨h1.1, fun _ => ok.free0 (tt _ rfl).1⟩ h2 (h3.scal e1)
  | tup h1 h2 h3 => exact .tup ⟨h1.1, fun _ => ok.free0 (tt _ rfl).1⟩ h2 (h3.scal e1)
/-- a scalar, whatever it came from -/
def fScal {W : Type} (a : EF W) : EF W := fun env w => (a env w).bind fun x w => lf (ifs (scalD x) x) w
theorem se_scal (ha : SE B Γ fa xa ta a) : SE B Γ (.ok true) true ta (fScal a) := fun env w => by
  refine Res.bind (ha env w) (fun x w1 qa => Res.lf fun d eg F σ H ow ok Q k => ?_) fun e w1 qa F σ H ow ok xp Q => qa F σ H ow ok xp _
  obtain ⟨e1, e2⟩ := ifs_some eg
  subst e2
  exact qa F σ H ow ok _ fun v H1 k1 ok1 r1 t1 => k v H1 k1 ok1 ((ok1.toDp r1).scal e1) fun _ => topF_scal (ok1.toDp r1) e1
end
end DL

namespace DL
open PySem PySem.Spec PyProof.Rows L2

section
variable {W : Type} {B : Base W} {Γ : List SK} {F : Addr → Prop} {env : List D} {σ : L2.St} {w w' : W} {H H' H1 H2 : Hp} {ow : Nat → List Addr}
variable {fa fb fl : FK} {xa xb ft : Bool} {ta tb : TE} {a b : EF W}

/-! ### ints -/
def gInt (f : Int → Int → Int) : D → D → Option D
  | .int i, .int j => some (.int (f i j))
  | _, _ => none
def gIntC (c : Int → Int → Bool) (f : Int → Int → Int) : D → D → Option D
  | .int i, .int j => ifs (c i j) (.int (f i j))
  | _, _ => none
def gCmp (p : Int → Int → Bool) : D → D → Option D
  | .int i, .int j => some (.bool (p i j))
  | _, _ => none
theorem gInt_some {f : Int → Int → Int} {x y d : D} (h : gInt f x y = some d) : ∃ i j, x = .int i ∧ y = .int j ∧ d = .int (f i j) := by
  unfold gInt at h
  split at h
  · cases h; exact ⟨_, _, rfl, rfl, rfl⟩
  · cases h
theorem gIntC_some {c : Int → Int → Bool} {f : Int → Int → Int} {x y d : D} (h : gIntC c f x y = some d) : ∃ i j, x = .int i ∧ y = .int j ∧ c i j = true ∧ d = .int (f i j) := by
  unfold gIntC at h
  split at h
  · obtain ⟨e1, e2⟩ := ifs_some h; exact ⟨_, _, rfl, rfl, e1, e2.symm⟩
  · cases h
theorem gCmp_some {f : Int → Int → Bool} {x y d : D} (h : gCmp f x y = some d) : ∃ i j, x = .int i ∧ y = .int j ∧ d = .bool (f i j) := by
  unfold gCmp at h
  split at h
  · cases h; exact ⟨_, _, rfl, rfl, rfl⟩
  · cases h
theorem q_scal {fl : FK} {nw : Bool} {v : V} {d : D} {Q : VK} (ok : OK B Γ F env σ w H ow) (h : DR H (fun _ => True) v d) (s : scalD d = true) (k : ∀ v H', L2.Same H H' → RO B F H' (.ok true) v d → (true = true → TopF H H' v d) → Q v H') : Q v H :=
  k v H (.refl H) (h.scal s) fun _ => topF_scal h s
theorem r2_int {f : Int → Int → Int} : R2S B Γ fa fb (.ok true) true (rI0 fun i j => .int (f i j)) (gInt f) := by
  intro F env σ w H ow v1 v2 x y d Q ok h1 h2 e k
  obtain ⟨i, j, rfl, rfl, rfl⟩ := gInt_some e
  exact ⟨i, j, (ok.toDp h1).int_inv, (ok.toDp h2).int_inv, k _ H (.refl H) (.int _) fun _ p e => nomatch e⟩
theorem r2_cmp {f : Int → Int → Bool} : R2S B Γ fa fb (.ok true) true (rI0 fun i j => .bl (f i j)) (gCmp f) := by
  intro F env σ w H ow v1 v2 x y d Q ok h1 h2 e k
  obtain ⟨i, j, rfl, rfl, rfl⟩ := gCmp_some e
  exact ⟨i, j, (ok.toDp h1).int_inv, (ok.toDp h2).int_inv, k _ H (.refl H) (.bl _) fun _ p e => nomatch e⟩
theorem r2_intC {C : Int → Int → Prop} {c : Int → Int → Bool} {f : Int → Int → Int} (hc : ∀ i j, c i j = true → C i j) : R2S B Γ fa fb (.ok true) true (rI C fun i j => .int (f i j)) (gIntC c f) := by
  intro F env σ w H ow v1 v2 x y d Q ok h1 h2 e k
  obtain ⟨i, j, rfl, rfl, e1, rfl⟩ := gIntC_some e
  exact ⟨i, j, (ok.toDp h1).int_inv, (ok.toDp h2).int_inv, hc i j e1, k _ H (.refl H) (.int _) fun _ p e => nomatch e⟩
abbrev dAdd := gInt fun i j => i + j
abbrev dSub := gInt fun i j => i - j
def cMul (i j : Int) : Bool := Nat.ble i.natAbs 18446744073709551615 || Nat.ble j.natAbs 18446744073709551615
abbrev dMul := gIntC cMul fun i j => i * j
theorem cMul_ok (i j : Int) (h : cMul i j = true) : CMul i j := by
  unfold cMul at h
  rw [Bool.or_eq_true] at h
  have e : (2 : Int) ^ 64 = 18446744073709551616 := by decide
  unfold CMul
  rw [e]
  rcases h with h | h
  · have := Nat.le_of_ble_eq_true h
    left; omega
  · have := Nat.le_of_ble_eq_true h
    right; omega
/-- great factors -/
def cMulW (i j : Int) : Bool := Nat.blt i.natAbs (2 ^ 100000) && Nat.blt j.natAbs (2 ^ 100000)
abbrev dMulW := gIntC cMulW fun i j => i * j
theorem cMulW_ok (i j : Int) (h : cMulW i j = true) : CMulW i j := by
  unfold cMulW at h
  rw [Bool.and_eq_true] at h
  exact wide_mul (Nat.le_of_ble_eq_true h.1) (Nat.le_of_ble_eq_true h.2) (by decide) (by decide) (by decide)
def cDiv (_ j : Int) : Bool := match j with
  | .ofNat n => Nat.blt 0 n && Nat.blt n (2 ^ 9000)
  | _ => false
abbrev dDiv := gIntC cDiv fun i j => i / j
theorem cDiv_ok (i j : Int) (h : cDiv i j = true) : CDivW i j := by
  cases j with
  | ofNat n =>
    have h' : (Nat.blt 0 n && Nat.blt n (2 ^ 9000)) = true := h
    rw [Bool.and_eq_true] at h'
    refine wide_div (b := 9000) ?_ (Nat.le_of_ble_eq_true h'.2) (by decide) (by decide)
    have : 0 < n := Nat.le_of_ble_eq_true h'.1
    show (0 : Int) < (n : Int)
    omega
  | negSucc n => cases h
def cMod (_ j : Int) : Bool := match j with
  | .ofNat n => Nat.blt 0 n
  | _ => false
abbrev dMod := gIntC cMod fun i j => i % j
theorem cMod_ok (i j : Int) (h : cMod i j = true) : (0 : Int) < j := by
  cases j with
  | ofNat n =>
    have : 0 < n := Nat.le_of_ble_eq_true h
    show (0 : Int) < (n : Int)
    omega
  | negSucc n => cases h
abbrev dLt := gCmp fun i j => decide (i < j)
abbrev dLe := gCmp fun i j => decide (i ≤ j)
abbrev dGt := gCmp fun i j => decide (j < i)
abbrev dGe := gCmp fun i j => decide (j ≤ i)
theorem r2_add : R2S B Γ fa fb (.ok true) true (rI0 fun i j => .int (i + j)) dAdd := r2_int
theorem r2_sub : R2S B Γ fa fb (.ok true) true (rI0 fun i j => .int (i - j)) dSub := r2_int
theorem r2_mul : R2S B Γ fa fb (.ok true) true (rI CMul fun i j => .int (i * j)) dMul := r2_intC cMul_ok
theorem r2_mulW : R2S B Γ fa fb (.ok true) true (rI CMulW fun i j => .int (i * j)) dMulW := r2_intC cMulW_ok
theorem r2_div : R2S B Γ fa fb (.ok true) true (rI CDivW fun i j => .int (i / j)) dDiv := r2_intC cDiv_ok
theorem r2_mod : R2S B Γ fa fb (.ok true) true (rI (fun _ j => 0 < j) fun i j => .int (i % j)) dMod := r2_intC cMod_ok
theorem r2_lt : R2S B Γ fa fb (.ok true) true (rI0 fun i j => .bl (decide (i < j))) dLt := r2_cmp
theorem r2_le : R2S B Γ fa fb (.ok true) true (rI0 fun i j => .bl (decide (i ≤ j))) dLe := r2_cmp
theorem r2_gt : R2S B Γ fa fb (.ok true) true (rI0 fun i j => .bl (decide (j < i))) dGt := r2_cmp
theorem r2_ge : R2S B Γ fa fb (.ok true) true (rI0 fun i j => .bl (decide (j ≤ i))) dGe := r2_cmp
def dNeg : D → Option D
  | .int i => some (.int (-i))
  | _ => none
theorem r1_neg : R1S B Γ fa (.ok true) true (rU fun i => .int (-i)) dNeg := by
  intro F env σ w H ow v1 x d Q ok h1 e k
  cases x <;> first | (cases e; done) | skip
  all_goals first | cases e | skip
  exact ⟨_, (ok.toDp h1).int_inv, k _ H (.refl H) (.int _) fun _ p e => nomatch e⟩

/-! ### == -/
/-- of two ints, two bools, two texts, a None beside one of them -/
def gEq : D → D → Option Bool
  | .int i, .int j => some (i == j)
  | .bool a, .bool b => some (a == b)
  | .str x, .str y => some (decide (x = y))
  | .none, .none => some true
  | .none, .int _ => some false
  | .int _, .none => some false
  | .none, .bool _ => some false
  | .bool _, .none => some false
  | .none, .str _ => some false
  | .str _, .none => some false
  | .int _, .str _ => some false
  | .str _, .int _ => some false
  | .bool _, .str _ => some false
  | .str _, .bool _ => some false
  | _, _ => none
def dEqS (x y : D) : Option D := match gEq x y with | some b => some (.bool b) | none => none
def dNeS (x y : D) : Option D := match gEq x y with | some b => some (.bool (!b)) | none => none
theorem gEq_ok {A : Addr → Prop} {v1 v2 : V} {x y : D} {b : Bool} (h1 : DR H A v1 x) (h2 : DR H A v2 y) (e : gEq x y = some b) : scal v1 v2 = true ∧ decide (v1 = v2) = b := by
  cases h1 <;> cases h2 <;> first | (cases e; done) | skip
  all_goals (simp only [gEq, Option.some.injEq] at e; subst e; refine ⟨rfl, ?_⟩)
  all_goals first | rfl | skip
  · rw [Bool.eq_iff_iff]; simp
  · rw [Bool.eq_iff_iff]; simp
  · rw [Bool.eq_iff_iff]; simp
theorem r2_eqS : R2S B Γ fa fb (.ok true) true rEq dEqS := by
  intro F env σ w H ow v1 v2 x y d Q ok h1 h2 e k
  unfold dEqS at e
  cases eb : gEq x y with
  | none => rw [eb] at e; cases e
  | some b =>
    rw [eb] at e; cases e
    obtain ⟨q1, q2⟩ := gEq_ok (ok.toDp h1) (ok.toDp h2) eb
    exact ⟨q1, by rw [q2]; exact k _ H (.refl H) (.bl _) fun _ p e => nomatch e⟩
theorem r2_neS : R2S B Γ fa fb (.ok true) true rNe dNeS := by
  intro F env σ w H ow v1 v2 x y d Q ok h1 h2 e k
  unfold dNeS at e
  cases eb : gEq x y with
  | none => rw [eb] at e; cases e
  | some b =>
    rw [eb] at e; cases e
    obtain ⟨q1, q2⟩ := gEq_ok (ok.toDp h1) (ok.toDp h2) eb
    exact ⟨q1, by rw [q2]; exact k _ H (.refl H) (.bl _) fun _ p e => nomatch e⟩
/-- data without texts, of small depth -/
def shp : Nat → D → Bool
  | _, .none => true
  | _, .bool _ => true
  | _, .int _ => true
  | k + 1, .list ds => ds.all (shp k)
  | k + 1, .tuple ds => ds.all (shp k)
  | _, _ => false
theorem shp_all {k : Nat} (ih : ∀ d, shp k d = true → d.canLay0 = true ∧ d.depth ≤ k + 1) : ∀ ds : List D, ds.all (shp k) = true → PyData.canLayAll0 ds = true ∧ PyData.depthAll ds ≤ k + 1
  | [], _ => ⟨by simp only [PyData.canLayAll0], by simp [PyData.depthAll]⟩
  | d :: ds, h => by
    rw [List.all_cons, Bool.and_eq_true] at h
    obtain ⟨a1, a2⟩ := ih d h.1
    obtain ⟨b1, b2⟩ := shp_all ih ds h.2
    exact ⟨by simp [PyData.canLayAll0, a1, b1], by simp only [PyData.depthAll]; omega⟩
theorem shp_ok : ∀ (k : Nat) (d : D), shp k d = true → d.canLay0 = true ∧ d.depth ≤ k + 1
  | 0, d, h => by
    cases d <;> first | (cases h; done) | exact ⟨by simp only [PyData.canLay0], by simp [PyData.depth]⟩
  | k + 1, d, h => by
    cases d with
    | none => exact ⟨by simp only [PyData.canLay0], by simp [PyData.depth]⟩
    | bool _ => exact ⟨by simp only [PyData.canLay0], by simp [PyData.depth]⟩
    | int _ => exact ⟨by simp only [PyData.canLay0], by simp [PyData.depth]⟩
    | str _ => cases h
    | list ds =>
      obtain ⟨b1, b2⟩ := shp_all (shp_ok k) ds h
      exact ⟨by simp [PyData.canLay0, b1], by simp only [PyData.depth]; omega⟩
    | tuple ds =>
      obtain ⟨b1, b2⟩ := shp_all (shp_ok k) ds h
      exact ⟨by simp [PyData.canLay0, b1], by simp only [PyData.depth]; omega⟩
    | dict _ => cases h
def shp8 (d : D) : Bool := shp 8 d
theorem shp8_ok {d : D} (h : shp8 d = true) : SeqAt.shaped d = true := by
  obtain ⟨a, b⟩ := shp_ok 8 d h
  unfold SeqAt.shaped
  rw [a, decide_eq_true (by omega)]; rfl
/-- equal data -/
def eqF : Nat → D → D → Bool
  | _, .int i, .int j => i == j
  | _, .none, .none => true
  | _, .bool a, .bool b => a == b
  | _, .bool a, .int j => (if a then 1 else 0) == j
  | _, .int i, .bool b => i == (if b then 1 else 0)
  | _, .str x, .str y => x == y
  | k + 1, .list xs, .list ys => go (eqF k) xs ys
  | k + 1, .tuple xs, .tuple ys => go (eqF k) xs ys
  | _, _, _ => false
where go (e : D → D → Bool) : List D → List D → Bool
  | [], [] => true
  | x :: xs, y :: ys => match e x y with | true => go e xs ys | false => false
  | _, _ => false
theorem eqF_go {k : Nat} (ih : ∀ x y, shp k x = true → shp k y = true → eqF k x y = PyData.eqv x y) : ∀ xs ys : List D, xs.all (shp k) = true → ys.all (shp k) = true → eqF.go (eqF k) xs ys = PyData.eqvAll xs ys
  | [], [], _, _ => by simp only [eqF.go, PyData.eqvAll]
  | x :: xs, y :: ys, h1, h2 => by
    rw [List.all_cons, Bool.and_eq_true] at h1 h2
    simp only [eqF.go, PyData.eqvAll, ih x y h1.1 h2.1, eqF_go ih xs ys h1.2 h2.2]
    cases PyData.eqv x y <;> rfl
  | [], _ :: _, _, _ => by simp only [eqF.go, PyData.eqvAll]
  | _ :: _, [], _, _ => by simp only [eqF.go, PyData.eqvAll]
theorem eqF_ok : ∀ (k : Nat) (x y : D), shp k x = true → shp k y = true → eqF k x y = PyData.eqv x y
  | 0, x, y, h1, h2 => by
    cases x <;> cases y <;> first | (cases h1; done) | (cases h2; done) | (simp only [eqF, PyData.eqv])
  | k + 1, x, y, h1, h2 => by
    cases x <;> cases y <;> first | (cases h1; done) | (cases h2; done) | (simp only [eqF, PyData.eqv]; done) | skip
    · simp only [eqF, PyData.eqv]; exact eqF_go (eqF_ok k) _ _ h1 h2
    · simp only [eqF, PyData.eqv]; exact eqF_go (eqF_ok k) _ _ h1 h2
def dEq (x y : D) : Option D := ifs (shp8 x && shp8 y) (.bool (eqF 8 x y))
def dNe (x y : D) : Option D := ifs (shp8 x && shp8 y) (.bool (!eqF 8 x y))
theorem r2_eq {K : PySem.W.Frag} : R2S B Γ fa fb (.ok true) true (rEqD K) dEq := by
  intro F env σ w H ow v1 v2 x y d Q ok h1 h2 e k
  obtain ⟨e1, rfl⟩ := ifs_some e
  rw [Bool.and_eq_true] at e1
  refine ⟨x, y, (ok.toDp h1).dp, (ok.toDp h2).dp, shp8_ok e1.1, shp8_ok e1.2, ?_⟩
  rw [← eqF_ok 8 x y e1.1 e1.2]
  exact k _ H (.refl H) (.bl _) fun _ p e => nomatch e
theorem r2_ne {K : PySem.W.Frag} : R2S B Γ fa fb (.ok true) true (rNeD K) dNe := by
  intro F env σ w H ow v1 v2 x y d Q ok h1 h2 e k
  obtain ⟨e1, rfl⟩ := ifs_some e
  rw [Bool.and_eq_true] at e1
  refine ⟨x, y, (ok.toDp h1).dp, (ok.toDp h2).dp, shp8_ok e1.1, shp8_ok e1.2, ?_⟩
  rw [← eqF_ok 8 x y e1.1 e1.2]
  exact k _ H (.refl H) (.bl _) fun _ p e => nomatch e
/-- in a list -/
def dIn (x y : D) : Option D := match y with
  | .list ds => ifs (shp8 x && shp8 y) (.bool (ds.any fun z => eqF 8 z x))
  | _ => none
def dNotIn (x y : D) : Option D := match y with
  | .list ds => ifs (shp8 x && shp8 y) (.bool (!ds.any fun z => eqF 8 z x))
  | _ => none
theorem shp_up : ∀ (k : Nat) (d : D), shp k d = true → shp (k + 1) d = true
  | 0, d, h => by cases d <;> first | (cases h; done) | rfl
  | k + 1, d, h => by
    cases d with
    | none => rfl
    | bool _ => rfl
    | int _ => rfl
    | str _ => cases h
    | dict _ => cases h
    | list ds => exact List.all_eq_true.mpr fun z hz => shp_up k z (List.all_eq_true.mp (show ds.all (shp k) = true from h) z hz)
    | tuple ds => exact List.all_eq_true.mpr fun z hz => shp_up k z (List.all_eq_true.mp (show ds.all (shp k) = true from h) z hz)
theorem shp8_item {ds : List D} (h : shp8 (.list ds) = true) {z : D} (hz : z ∈ ds) : shp 8 z = true := shp_up 7 z (List.all_eq_true.mp (show ds.all (shp 7) = true from h) z hz)
theorem any_eqF {x : D} {ds : List D} (h1 : shp8 x = true) (h2 : shp8 (.list ds) = true) : (ds.any fun z => PyData.eqv z x) = ds.any fun z => eqF 8 z x := by
  rw [Bool.eq_iff_iff, List.any_eq_true, List.any_eq_true]
  constructor
  · rintro ⟨z, hz, e⟩
    exact ⟨z, hz, by rw [eqF_ok 8 z x (shp8_item h2 hz) h1]; exact e⟩
  · rintro ⟨z, hz, e⟩
    exact ⟨z, hz, by rw [← eqF_ok 8 z x (shp8_item h2 hz) h1]; exact e⟩
theorem r2_in {K : PySem.W.Frag} : R2S B Γ fa fb (.ok true) true (rInD K) dIn := by
  intro F env σ w H ow v1 v2 x y d Q ok h1 h2 e k
  cases y <;> first | (cases e; done) | skip
  rename_i ds
  obtain ⟨e1, rfl⟩ := ifs_some (show ifs _ _ = some d from e)
  rw [Bool.and_eq_true] at e1
  refine ⟨x, ds, (ok.toDp h1).dp, (ok.toDp h2).dp, shp8_ok e1.1, shp8_ok e1.2, ?_⟩
  rw [any_eqF e1.1 e1.2]
  exact k _ H (.refl H) (.bl _) fun _ p e => nomatch e
theorem r2_notIn {K : PySem.W.Frag} : R2S B Γ fa fb (.ok true) true (rNotInD K) dNotIn := by
  intro F env σ w H ow v1 v2 x y d Q ok h1 h2 e k
  cases y <;> first | (cases e; done) | skip
  rename_i ds
  obtain ⟨e1, rfl⟩ := ifs_some (show ifs _ _ = some d from e)
  rw [Bool.and_eq_true] at e1
  refine ⟨x, ds, (ok.toDp h1).dp, (ok.toDp h2).dp, shp8_ok e1.1, shp8_ok e1.2, ?_⟩
  rw [any_eqF e1.1 e1.2]
  exact k _ H (.refl H) (.bl _) fun _ p e => nomatch e
/-- is None -/
def dIsN (x : D) : Option D := match x with | .none => some (.bool true) | _ => some (.bool false)
theorem DR.none_iff {A : Addr → Prop} {v : V} {x : D} (h : DR H A v x) : dIsN x = some (.bool (decide (v = .non))) := by
  cases h <;> rfl
def dBin1 (g : D → Option D) (x _y : D) : Option D := g x
def dNotN (x : D) : Option D := match x with | .none => some (.bool false) | _ => some (.bool true)
theorem DR.notnone_iff {A : Addr → Prop} {v : V} {x : D} (h : DR H A v x) : dNotN x = some (.bool (!decide (v = .non))) := by
  cases h <;> rfl
def gIsN (x y : D) : Option D := match y with | .none => dIsN x | _ => none
def gNotN (x y : D) : Option D := match y with | .none => dNotN x | _ => none
theorem r2_isN : R2S B Γ fa fb (.ok true) true (fun x y H Q => y = .non ∧ Q (.bl (decide (x = .non))) H) gIsN := by
  intro F env σ w H ow v1 v2 x y d Q ok h1 h2 e k
  cases y <;> first | (cases e; done) | skip
  have e' := (ok.toDp h1).none_iff.symm.trans (show dIsN x = some d from e)
  cases e'
  exact ⟨(ok.toDp h2).non_inv, k _ H (.refl H) (.bl _) fun _ p e => nomatch e⟩
theorem r2_notN : R2S B Γ fa fb (.ok true) true (fun x y H Q => y = .non ∧ Q (.bl (!decide (x = .non))) H) gNotN := by
  intro F env σ w H ow v1 v2 x y d Q ok h1 h2 e k
  cases y <;> first | (cases e; done) | skip
  have e' := (ok.toDp h1).notnone_iff.symm.trans (show dNotN x = some d from e)
  cases e'
  exact ⟨(ok.toDp h2).non_inv, k _ H (.refl H) (.bl _) fun _ p e => nomatch e⟩

/-! ### items, parts -/
/-- the item at an index of any sign -/
def atD (ds : List D) (i : Int) : Option D := match i with
  | .ofNat n => ds[n]?
  | .negSucc n => let m := ds.length; if Nat.blt n m then ds[m - (n + 1)]? else none
theorem atD_atI {α : Type} {ds : List D} {xs : List α} (hl : xs.length = ds.length) {i : Int} {d : D} (h : atD ds i = some d) : ∃ j : Nat, ds[j]? = some d ∧ ∀ v, xs[j]? = some v → atI xs i = some v := by
  cases i with
  | ofNat n => exact ⟨n, h, fun v e => atI_nat e⟩
  | negSucc n =>
    have h' : (if Nat.blt n ds.length then ds[ds.length - (n + 1)]? else none) = some d := h
    by_cases hb : Nat.blt n ds.length = true
    · rw [if_pos hb] at h'
      have hlt : n < ds.length := Nat.le_of_ble_eq_true hb
      refine ⟨ds.length - (n + 1), h', fun v e => ?_⟩
      unfold atI ixN
      have e1 : ¬ (0 : Int) ≤ Int.negSucc n := by omega
      rw [if_neg e1, if_pos (by omega)]
      have e2 : (Int.negSucc n + (xs.length : Int)).toNat = ds.length - (n + 1) := by rw [hl]; omega
      rw [e2]
      exact e
    · rw [if_neg hb] at h'; cases h'
def dIxL (x y : D) : Option D := match x, y with
  | .list ds, .int i => atD ds i
  | _, _ => none
def dIxT (x y : D) : Option D := match x, y with
  | .tuple ds, .int i => atD ds i
  | _, _ => none
theorem r2_ixL {K : PySem.W.Frag} {nw : Bool} (hf : lvOf fa = some nw) : R2S B Γ fa fb (.ok nw) false (rIxL K) dIxL := by
  intro F env σ w H ow v1 v2 x y d Q ok h1 h2 e k
  cases x <;> first | (cases e; done) | skip
  cases y <;> first | (cases e; done) | skip
  rename_i ds i
  obtain ⟨a, xs, rfl, n1, n2, n3⟩ := ok.toLv hf h1
  obtain ⟨j, e1, e2⟩ := atD_atI (xs := xs) n3.length (show atD ds i = some d from e)
  obtain ⟨v, q1, q2⟩ := n3.get e1
  exact ⟨a, xs, i, v, rfl, (ok.toDp h2).int_inv, SqL.of n2, e2 v q1, k v H (.refl H) q2 fun z => nomatch z⟩
theorem r2_ixLD {K : PySem.W.Frag} : R2S B Γ fa fb .dp false (rIxL K) dIxL := by
  intro F env σ w H ow v1 v2 x y d Q ok h1 h2 e k
  cases x <;> first | (cases e; done) | skip
  cases y <;> first | (cases e; done) | skip
  rename_i ds i
  obtain ⟨a, xs, rfl, n1, n2, n3⟩ := (ok.toDp h1).lst_inv
  obtain ⟨j, e1, e2⟩ := atD_atI (xs := xs) n3.length (show atD ds i = some d from e)
  obtain ⟨v, q1, q2⟩ := n3.get e1
  exact ⟨a, xs, i, v, rfl, (ok.toDp h2).int_inv, SqL.of n2, e2 v q1, k v H (.refl H) q2 fun z => nomatch z⟩
theorem r2_ixT {K : PySem.W.Frag} {nw : Bool} : R2S B Γ (.ok nw) fb (.ok nw) false (rIxT K) dIxT := by
  intro F env σ w H ow v1 v2 x y d Q ok h1 h2 e k
  cases x <;> first | (cases e; done) | skip
  cases y <;> first | (cases e; done) | skip
  rename_i ds i
  obtain ⟨a, xs, rfl, n1, n2, n3⟩ := DR.tup_inv (show DR H (Al B F nw) v1 (.tuple ds) from h1)
  obtain ⟨j, e1, e2⟩ := atD_atI (xs := xs) n3.length (show atD ds i = some d from e)
  obtain ⟨v, q1, q2⟩ := n3.get e1
  exact ⟨a, xs, i, v, rfl, (ok.toDp h2).int_inv, SqT.of n2, e2 v q1, k v H (.refl H) q2 fun z => nomatch z⟩

def gPart {W : Type} (a : EF W) : List D → W → Out W (Option Int) := fun env w => (a env w).bind fun x w => match x with | .int i => .ok (some i) w | _ => .st
def gNoPart {W : Type} : List D → W → Out W (Option Int) := fun _ w => .ok none w
theorem so_none : SO B Γ tNoPart gNoPart := fun env w F σ H ow ok Q k => k H (.refl H) ok
theorem so_some (ha : SE B Γ fa xa ta a) : SO B Γ (tPart ta) (gPart a) := fun env w => by
  refine Res.bind (ha env w) (fun x w1 qa => ?_) fun e w1 qa F σ H ow ok xp Q => qa F σ H ow ok xp _
  cases x with
  | int i => exact fun F σ H ow ok Q k => qa F σ H ow ok _ fun v1 H1 k1 ok1 r1 _ => ⟨i, (ok1.toDp r1).int_inv, k H1 k1 ok1⟩
  | _ => trivial
def cutD (xs : List D) (lo hi : Option Int) : List D := (xs.drop (HT.sIx xs.length 0 lo)).take (HT.sIx xs.length xs.length hi - HT.sIx xs.length 0 lo)
theorem DRs.cut {A : Addr → Prop} {vs : List V} {ds : List D} (h : DRs H A vs ds) (lo hi : Option Int) : DRs H A (cutV vs lo hi) (cutD ds lo hi) := by
  unfold cutV cutD
  rw [h.length]
  exact (h.drop _).take _
def gSl (x : D) (lo hi : Option Int) : Option D := match x with
  | .list ds => some (.list (cutD ds lo hi))
  | _ => none
def fSl {W : Type} (a : EF W) (p q : List D → W → Out W (Option Int)) : EF W := fun env w => (a env w).bind fun x w => (p env w).bind fun lo w => (q env w).bind fun hi w => lf (gSl x lo hi) w
theorem se_sl {K : PySem.W.Frag} {nw : Bool} {tl th : TO} {p q : List D → W → Out W (Option Int)} (hf : lvOf fa = some nw) (ha : SE B Γ fa xa ta a) (hl : SO B Γ tl p) (hh : SO B Γ th q) : SE B Γ (.ok nw) true (tSl (rSlL K) ta tl th) (fSl a p q) := fun env w => by
  refine Res.bind (ha env w) (fun x w1 qa => Res.bind (hl env w1) (fun lo w2 ql => Res.bind (hh env w2) (fun hi w3 qh => Res.lf fun d eg F σ H ow ok Q k => ?_) fun e w3 qh F σ H ow ok xp Q => ?_) fun e w2 ql F σ H ow ok xp Q => ?_) fun e w1 qa F σ H ow ok xp Q => qa F σ H ow ok xp _
  · refine qa F σ H ow ok _ fun v1 H1 k1 ok1 r1 _ => ql F σ H1 ow ok1 _ fun H2 k2 ok2 => qh F σ H2 ow ok2 _ fun H3 k3 ok3 => ?_
    cases x <;> first | (cases eg; done) | skip
    cases eg
    have r3 := ok3.ro (k2.trans k3) r1
    obtain ⟨p, xs, rfl, n1, n2, n3⟩ := ok3.toLv hf r3
    refine ⟨p, xs, rfl, SqL.of n2, fun p' hp => ?_⟩
    obtain ⟨r4, t4⟩ := new_lst ok3 (n3.cut lo hi) hp
    have kk := k1.trans (k2.trans k3)
    exact k _ _ (kk.trans (.new hp)) (ok3.new hp) r4 fun _ => TopF.back ok kk ok3.wr t4
  · exact qa F σ H ow ok _ fun v1 H1 k1 ok1 r1 _ => ql F σ H1 ow ok1 _ fun H2 k2 ok2 => qh F σ H2 ow ok2 (xp.at (k1.trans k2)) _
  · exact qa F σ H ow ok _ fun v1 H1 k1 ok1 r1 _ => ql F σ H1 ow ok1 (xp.at k1) _

/-! ### lists: +, *, copies -/
def dCat (x y : D) : Option D := match x, y with
  | .list ds, .list es => ifs (sm (ds.length + es.length)) (.list (ds ++ es))
  | _, _ => none
theorem r2_cat {n1 n2 nw : Bool} (hf : lvOf fa = some n1) (hg : lvOf fb = some n2) (h1 : (!nw || n1) = true) (h2 : (!nw || n2) = true) : R2S B Γ fa fb (.ok nw) true rCat dCat := by
  intro F env σ w H ow v1 v2 x y d Q ok a1 a2 e k
  cases x <;> first | (cases e; done) | skip
  cases y <;> first | (cases e; done) | skip
  obtain ⟨e1, rfl⟩ := ifs_some (show ifs _ _ = some d from e)
  obtain ⟨a, xs, rfl, _, b2, b3⟩ := ok.toLv hf a1
  obtain ⟨b, ys, rfl, _, c2, c3⟩ := ok.toLv hg a2
  refine ⟨a, b, xs, ys, rfl, rfl, b2, c2, by rw [b3.length, c3.length]; exact sm_le e1, fun p hp => ?_⟩
  obtain ⟨r, t⟩ := new_lst ok ((b3.nw (imp_b h1)).append (c3.nw (imp_b h2))) hp
  exact k _ _ (fun b o e => upd_keep e (ne_of_none e hp)) r fun _ => t
def repD (ds : List D) : Nat → List D
  | 0 => []
  | n + 1 => ds ++ repD ds n
theorem repD_eq (ds : List D) (n : Nat) : repD ds n = (List.replicate n ds).flatten := by
  induction n with
  | zero => rfl
  | succ n ih => rw [List.replicate_succ, List.flatten_cons, ← ih]; rfl
def dRep (x y : D) : Option D := match x, y with
  | .list ds, .int i => match i with
    | .ofNat n => ifs (sm n && sm (ds.length * n)) (.list (repD ds n))
    | .negSucc n => ifs (sm n) (.list [])
  | _, _ => none
theorem DRs.rep {A : Addr → Prop} {vs : List V} {ds : List D} (h : DRs H A vs ds) : ∀ n, DRs H A (List.replicate n vs).flatten (repD ds n)
  | 0 => .nil
  | n + 1 => by rw [List.replicate_succ, List.flatten_cons]; exact h.append (h.rep n)
def gLen : D → Option D
  | .list ds => some (.int ds.length)
  | .tuple ds => some (.int ds.length)
  | .str s => ifs (sm s.length) (.int s.length)
  | _ => none
theorem r1_len {K : PySem.W.Frag} : R1S B Γ fa (.ok true) true (fun x H Q => ∃ y n, [x] = [y] ∧ LenV K y H n ∧ Q (.int n) H) gLen := by
  intro F env σ w H ow v1 x d Q ok h1 e k
  have h := ok.toDp h1
  cases x <;> first | (cases e; done) | skip
  · obtain ⟨e1, rfl⟩ := ifs_some (show ifs _ _ = some d from e)
    rename_i s
    have ev := h.str_inv
    subst ev
    exact ⟨_, s.length, rfl, ⟨sm_le e1, rfl⟩, k _ H (.refl H) (.int _) fun _ p e => nomatch e⟩
  · cases e
    obtain ⟨a, xs, rfl, _, b2, b3⟩ := h.lst_inv
    exact ⟨_, xs.length, rfl, .inl ⟨xs, SqL.of b2, rfl⟩, by rw [b3.length]; exact k _ H (.refl H) (.int _) fun _ p e => nomatch e⟩
  · cases e
    obtain ⟨a, xs, rfl, _, b2, b3⟩ := h.tup_inv
    exact ⟨_, xs.length, rfl, .inr ⟨xs, SqT.of b2, rfl⟩, by rw [b3.length]; exact k _ H (.refl H) (.int _) fun _ p e => nomatch e⟩
/-- list(x) -/
def gList : D → Option D
  | .list ds => some (.list ds)
  | _ => none
theorem r1_list {K : PySem.W.Frag} {nw : Bool} (hf : lvOf fa = some nw) : R1S B Γ fa (.ok nw) true (fun x H Q => ∃ p ys, [x] = [.ref p] ∧ (SqL K H p ys ∨ SqT K H p ys) ∧ ∀ l, H l = none → Q (.ref l) (upd H l (.lst ys))) gList := by
  intro F env σ w H ow v1 x d Q ok h1 e k
  cases x <;> first | (cases e; done) | skip
  cases e
  obtain ⟨a, xs, rfl, _, b2, b3⟩ := ok.toLv hf h1
  refine ⟨a, xs, rfl, .inl (SqL.of b2), fun p hp => ?_⟩
  obtain ⟨r, t⟩ := new_lst ok b3 hp
  exact k _ _ (fun b o e => upd_keep e (ne_of_none e hp)) r fun _ => t
def gListT : D → Option D
  | .tuple ds => some (.list ds)
  | _ => none
/-- int(x), abs(x) -/
def gInt1 : D → Option D
  | .int i => some (.int i)
  | .bool b => some (.int (match b with | true => 1 | false => 0))
  | _ => none
theorem r1_int1 : R1S B Γ fa (.ok true) true (fun x H Q => (∃ i, [x] = [V.int i] ∧ Q (.int i) H) ∨ ∃ k : Bool, [x] = [V.bl k] ∧ Q (.int (if k then 1 else 0)) H) gInt1 := by
  intro F env σ w H ow v1 x d Q ok h1 e k
  have h := ok.toDp h1
  cases x <;> first | (cases e; done) | skip
  · cases e
    rename_i b
    have ev := h.bl_inv
    subst ev
    cases b with
    | true => exact .inr ⟨true, rfl, k _ H (.refl H) (.int _) fun _ p e => nomatch e⟩
    | false => exact .inr ⟨false, rfl, k _ H (.refl H) (.int _) fun _ p e => nomatch e⟩
  · cases e
    have ev := h.int_inv
    subst ev
    exact .inl ⟨_, rfl, k _ H (.refl H) (.int _) fun _ p e => nomatch e⟩
def gAbs : D → Option D
  | .int i => some (.int (if i < 0 then -i else i))
  | _ => none
theorem r1_abs : R1S B Γ fa (.ok true) true (fun x H Q => ∃ i, [x] = [V.int i] ∧ Q (.int (if i < 0 then -i else i)) H) gAbs := by
  intro F env σ w H ow v1 x d Q ok h1 e k
  have h := ok.toDp h1
  cases x <;> first | (cases e; done) | skip
  cases e
  have ev := h.int_inv
  subst ev
  exact ⟨_, rfl, k _ H (.refl H) (.int _) fun _ p e => nomatch e⟩
/-- max(i, j), min(i, j) -/
abbrev dMax2 := gInt fun i j => if j > i then j else i
abbrev dMin2 := gInt fun i j => if j < i then j else i
theorem r2_max2 : R2S B Γ fa fb (.ok true) true (fun x y H Q => ∃ i j, [x, y] = [V.int i, V.int j] ∧ Q (.int (if j > i then j else i)) H) dMax2 := by
  intro F env σ w H ow v1 v2 x y d Q ok h1 h2 e k
  obtain ⟨i, j, rfl, rfl, rfl⟩ := gInt_some e
  have e1 := (ok.toDp h1).int_inv
  have e2 := (ok.toDp h2).int_inv
  subst e1 e2
  exact ⟨i, j, rfl, k _ H (.refl H) (.int _) fun _ p e => nomatch e⟩
theorem r2_min2 : R2S B Γ fa fb (.ok true) true (fun x y H Q => ∃ i j, [x, y] = [V.int i, V.int j] ∧ Q (.int (if j < i then j else i)) H) dMin2 := by
  intro F env σ w H ow v1 v2 x y d Q ok h1 h2 e k
  obtain ⟨i, j, rfl, rfl, rfl⟩ := gInt_some e
  have e1 := (ok.toDp h1).int_inv
  have e2 := (ok.toDp h2).int_inv
  subst e1 e2
  exact ⟨i, j, rfl, k _ H (.refl H) (.int _) fun _ p e => nomatch e⟩

/-! ### of lists of ints -/
def toInts : List D → Option (List Int)
  | [] => some []
  | .int i :: ds => match toInts ds with | some r => some (i :: r) | none => none
  | _ :: _ => none
theorem toInts_some : ∀ {ds : List D} {ns : List Int}, toInts ds = some ns → ds = ns.map PyData.int
  | [], ns, h => by cases h; rfl
  | .int i :: ds, ns, h => by
    unfold toInts at h
    cases e : toInts ds with
    | none => rw [e] at h; cases h
    | some r => rw [e] at h; cases h; rw [toInts_some e]; rfl
  | .none :: _, _, h => by cases h
  | .bool _ :: _, _, h => by cases h
  | .str _ :: _, _, h => by cases h
  | .list _ :: _, _, h => by cases h
  | .tuple _ :: _, _, h => by cases h
  | .dict _ :: _, _, h => by cases h
theorem toInts_map : ∀ ns : List Int, toInts (ns.map PyData.int) = some ns
  | [] => rfl
  | n :: ns => by
    show (match toInts (ns.map PyData.int) with | some r => some (n :: r) | none => none) = _
    rw [toInts_map ns]
def toBools : List D → Option (List Bool)
  | [] => some []
  | .bool i :: ds => match toBools ds with | some r => some (i :: r) | none => none
  | _ :: _ => none
theorem toBools_some : ∀ {ds : List D} {ns : List Bool}, toBools ds = some ns → ds = ns.map PyData.bool
  | [], ns, h => by cases h; rfl
  | .bool i :: ds, ns, h => by
    unfold toBools at h
    cases e : toBools ds with
    | none => rw [e] at h; cases h
    | some r => rw [e] at h; cases h; rw [toBools_some e]; rfl
  | .none :: _, _, h => by cases h
  | .int _ :: _, _, h => by cases h
  | .str _ :: _, _, h => by cases h
  | .list _ :: _, _, h => by cases h
  | .tuple _ :: _, _, h => by cases h
  | .dict _ :: _, _, h => by cases h
def sumI : List Int → Int
  | [] => 0
  | n :: ns => n + sumI ns
theorem sumI_eq : ∀ ns : List Int, sumI ns = ns.sum
  | [] => rfl
  | n :: ns => by rw [List.sum_cons, ← sumI_eq ns]; rfl
def gSum : D → Option D
  | .list ds => match toInts ds with | some ns => some (.int (sumI ns)) | none => none
  | _ => none
theorem OK.intsL {K : PySem.W.Frag} (ok : OK B Γ F env σ w H ow) {v : V} {ds : List D} {ns : List Int} (h : RO B F H fa v (.list ds)) (e : toInts ds = some ns) : ∃ a, v = .ref a ∧ SqL K H a (ns.map V.int) := by
  obtain ⟨a, xs, rfl, _, b2, b3⟩ := (ok.toDp h).lst_inv
  rw [toInts_some e] at b3
  rw [b3.ints] at b2
  exact ⟨a, rfl, SqL.of b2⟩
theorem r1_sum {K : PySem.W.Frag} : R1S B Γ fa (.ok true) true (fun x => rSum K [x]) gSum := by
  intro F env σ w H ow v1 x d Q ok h1 e k
  cases x <;> first | (cases e; done) | skip
  rename_i ds
  unfold gSum at e
  simp only at e
  cases en : toInts ds with
  | none => rw [en] at e; cases e
  | some ns =>
    rw [en] at e; cases e
    obtain ⟨a, rfl, hs⟩ := ok.intsL (K := K) h1 en
    exact ⟨a, ns, rfl, hs, by rw [← sumI_eq]; exact k _ H (.refl H) (.int _) fun _ p e => nomatch e⟩
def maxI : Int → List Int → Int
  | m, [] => m
  | m, n :: ns => match Int.decLt m n with | .isTrue _ => maxI n ns | .isFalse _ => maxI m ns
def minI : Int → List Int → Int
  | m, [] => m
  | m, n :: ns => match Int.decLt n m with | .isTrue _ => minI n ns | .isFalse _ => minI m ns
theorem maxI_spec : ∀ (ns : List Int) (m : Int), maxI m ns ∈ m :: ns ∧ ∀ y ∈ m :: ns, y ≤ maxI m ns
  | [], m => by simp [maxI]
  | n :: ns, m => by
    unfold maxI
    cases Int.decLt m n with
    | isTrue h =>
      obtain ⟨a, b⟩ := maxI_spec ns n
      refine ⟨List.mem_cons_of_mem _ a, fun y hy => ?_⟩
      rcases List.mem_cons.mp hy with rfl | hy
      · exact Int.le_trans (Int.le_of_lt h) (b n List.mem_cons_self)
      · exact b y hy
    | isFalse h =>
      obtain ⟨a, b⟩ := maxI_spec ns m
      refine ⟨?_, fun y hy => ?_⟩
      · rcases List.mem_cons.mp a with e | e
        · simp only; rw [e]; exact List.mem_cons_self
        · exact List.mem_cons_of_mem _ (List.mem_cons_of_mem _ e)
      · rcases List.mem_cons.mp hy with rfl | hy
        · exact b _ List.mem_cons_self
        · rcases List.mem_cons.mp hy with rfl | hy
          · exact Int.le_trans (Int.not_lt.mp h) (b m List.mem_cons_self)
          · exact b y (List.mem_cons_of_mem _ hy)
theorem minI_spec : ∀ (ns : List Int) (m : Int), minI m ns ∈ m :: ns ∧ ∀ y ∈ m :: ns, minI m ns ≤ y
  | [], m => by simp [minI]
  | n :: ns, m => by
    unfold minI
    cases Int.decLt n m with
    | isTrue h =>
      obtain ⟨a, b⟩ := minI_spec ns n
      refine ⟨List.mem_cons_of_mem _ a, fun y hy => ?_⟩
      rcases List.mem_cons.mp hy with rfl | hy
      · exact Int.le_trans (b n List.mem_cons_self) (Int.le_of_lt h)
      · exact b y hy
    | isFalse h =>
      obtain ⟨a, b⟩ := minI_spec ns m
      refine ⟨?_, fun y hy => ?_⟩
      · rcases List.mem_cons.mp a with e | e
        · simp only; rw [e]; exact List.mem_cons_self
        · exact List.mem_cons_of_mem _ (List.mem_cons_of_mem _ e)
      · rcases List.mem_cons.mp hy with rfl | hy
        · exact b _ List.mem_cons_self
        · rcases List.mem_cons.mp hy with rfl | hy
          · exact Int.le_trans (b m List.mem_cons_self) (Int.not_lt.mp h)
          · exact b y (List.mem_cons_of_mem _ hy)
def gMax : D → Option D
  | .list ds => match toInts ds with | some (n :: ns) => some (.int (maxI n ns)) | _ => none
  | _ => none
def gMin : D → Option D
  | .list ds => match toInts ds with | some (n :: ns) => some (.int (minI n ns)) | _ => none
  | _ => none
theorem r1_max {K : PySem.W.Frag} : R1S B Γ fa (.ok true) true (fun x => rMax K [x]) gMax := by
  intro F env σ w H ow v1 x d Q ok h1 e k
  cases x <;> first | (cases e; done) | skip
  rename_i ds
  unfold gMax at e
  simp only at e
  cases en : toInts ds with
  | none => rw [en] at e; cases e
  | some ns =>
    rw [en] at e
    cases ns with
    | nil => cases e
    | cons n ns =>
      cases e
      obtain ⟨a, rfl, hs⟩ := ok.intsL (K := K) h1 en
      refine ⟨a, _, rfl, hs, by simp, fun m hm hy => ?_⟩
      obtain ⟨q1, q2⟩ := maxI_spec ns n
      have em : m = maxI n ns := Int.le_antisymm (q2 m hm) (hy _ q1)
      rw [em]
      exact k _ H (.refl H) (.int _) fun _ p e => nomatch e
theorem r1_min {K : PySem.W.Frag} : R1S B Γ fa (.ok true) true (fun x => rMin K [x]) gMin := by
  intro F env σ w H ow v1 x d Q ok h1 e k
  cases x <;> first | (cases e; done) | skip
  rename_i ds
  unfold gMin at e
  simp only at e
  cases en : toInts ds with
  | none => rw [en] at e; cases e
  | some ns =>
    rw [en] at e
    cases ns with
    | nil => cases e
    | cons n ns =>
      cases e
      obtain ⟨a, rfl, hs⟩ := ok.intsL (K := K) h1 en
      refine ⟨a, _, rfl, hs, by simp, fun m hm hy => ?_⟩
      obtain ⟨q1, q2⟩ := minI_spec ns n
      have em : m = minI n ns := Int.le_antisymm (hy _ q1) (q2 m hm)
      rw [em]
      exact k _ H (.refl H) (.int _) fun _ p e => nomatch e
def allB : List Bool → Bool
  | [] => true
  | true :: bs => allB bs
  | false :: _ => false
def anyB : List Bool → Bool
  | [] => false
  | true :: _ => true
  | false :: bs => anyB bs
theorem allB_eq : ∀ bs : List Bool, allB bs = bs.all id
  | [] => rfl
  | true :: bs => by rw [List.all_cons, ← allB_eq bs]; rfl
  | false :: bs => by rw [List.all_cons]; rfl
theorem anyB_eq : ∀ bs : List Bool, anyB bs = bs.any id
  | [] => rfl
  | true :: bs => by rw [List.any_cons]; rfl
  | false :: bs => by rw [List.any_cons, ← anyB_eq bs]; rfl
def gAll : D → Option D
  | .list ds => match toBools ds with | some ns => some (.bool (allB ns)) | _ => none
  | _ => none
def gAny : D → Option D
  | .list ds => match toBools ds with | some ns => some (.bool (anyB ns)) | _ => none
  | _ => none
theorem OK.boolsL {K : PySem.W.Frag} (ok : OK B Γ F env σ w H ow) {v : V} {ds : List D} {ns : List Bool} (h : RO B F H fa v (.list ds)) (e : toBools ds = some ns) : ∃ a, v = .ref a ∧ SqL K H a (ns.map V.bl) := by
  obtain ⟨a, xs, rfl, _, b2, b3⟩ := (ok.toDp h).lst_inv
  rw [toBools_some e] at b3
  rw [b3.bools] at b2
  exact ⟨a, rfl, SqL.of b2⟩
theorem r1_all {K : PySem.W.Frag} : R1S B Γ fa (.ok true) true (fun x => rAll K [x]) gAll := by
  intro F env σ w H ow v1 x d Q ok h1 e k
  cases x <;> first | (cases e; done) | skip
  rename_i ds
  unfold gAll at e
  simp only at e
  cases en : toBools ds with
  | none => rw [en] at e; cases e
  | some ns =>
    rw [en] at e; cases e
    obtain ⟨a, rfl, hs⟩ := ok.boolsL (K := K) h1 en
    exact ⟨a, ns, rfl, hs, by rw [← allB_eq]; exact k _ H (.refl H) (.bl _) fun _ p e => nomatch e⟩
theorem r1_any {K : PySem.W.Frag} : R1S B Γ fa (.ok true) true (fun x => rAny K [x]) gAny := by
  intro F env σ w H ow v1 x d Q ok h1 e k
  cases x <;> first | (cases e; done) | skip
  rename_i ds
  unfold gAny at e
  simp only at e
  cases en : toBools ds with
  | none => rw [en] at e; cases e
  | some ns =>
    rw [en] at e; cases e
    obtain ⟨a, rfl, hs⟩ := ok.boolsL (K := K) h1 en
    exact ⟨a, ns, rfl, hs, by rw [← anyB_eq]; exact k _ H (.refl H) (.bl _) fun _ p e => nomatch e⟩
/-- sorted, ints -/
def insI (n : Int) : List Int → List Int
  | [] => [n]
  | m :: ms => match Int.decLt m n with | .isTrue _ => m :: insI n ms | .isFalse _ => n :: m :: ms
def srtI : List Int → List Int
  | [] => []
  | n :: ns => insI n (srtI ns)
theorem insI_perm (n : Int) : ∀ ms : List Int, (insI n ms).Perm (n :: ms)
  | [] => .refl _
  | m :: ms => by
    unfold insI
    cases Int.decLt m n with
    | isTrue _ => exact ((insI_perm n ms).cons m).trans (.swap n m ms)
    | isFalse _ => exact .refl _
theorem insI_sorted (n : Int) : ∀ ms : List Int, ms.Pairwise (· ≤ ·) → (insI n ms).Pairwise (· ≤ ·)
  | [], _ => by simp [insI]
  | m :: ms, h => by
    unfold insI
    have h' := List.pairwise_cons.mp h
    cases Int.decLt m n with
    | isTrue hl =>
      refine List.pairwise_cons.mpr ⟨fun y hy => ?_, insI_sorted n ms h'.2⟩
      rcases List.mem_cons.mp ((insI_perm n ms).mem_iff.mp hy) with rfl | hy
      · exact Int.le_of_lt hl
      · exact h'.1 y hy
    | isFalse hl =>
      refine List.pairwise_cons.mpr ⟨fun y hy => ?_, h⟩
      rcases List.mem_cons.mp hy with rfl | hy
      · exact Int.not_lt.mp hl
      · exact Int.le_trans (Int.not_lt.mp hl) (h'.1 y hy)
theorem srtI_perm : ∀ ns : List Int, (srtI ns).Perm ns
  | [] => .refl _
  | n :: ns => (insI_perm n _).trans ((srtI_perm ns).cons n)
theorem srtI_sorted : ∀ ns : List Int, (srtI ns).Pairwise (· ≤ ·)
  | [] => List.Pairwise.nil
  | n :: ns => insI_sorted n _ (srtI_sorted ns)
theorem srtI_uniq {ns ms : List Int} (p : ms.Perm ns) (s : ms.Pairwise (· ≤ ·)) : ms = srtI ns :=
  List.Perm.eq_of_pairwise (fun a b _ _ h1 h2 => Int.le_antisymm h1 h2) s (srtI_sorted ns) (p.trans (srtI_perm ns).symm)
def gSort : D → Option D
  | .list ds => match toInts ds with | some ns => some (.list ((srtI ns).map PyData.int)) | _ => none
  | _ => none
theorem new_ints (ok : OK B Γ F env σ w H ow) (ns : List Int) {p : Addr} (hp : H p = none) : DR (upd H p (.lst (ns.map V.int))) (Al B F true) (.ref p) (.list (ns.map PyData.int)) ∧ TopF H (upd H p (.lst (ns.map V.int))) (.ref p) (.list (ns.map PyData.int)) := new_lst ok (DRs.ofInts ns) hp
theorem r1_sort {K : PySem.W.Frag} : R1S B Γ fa (.ok true) true (fun x => rSortedI K [x]) gSort := by
  intro F env σ w H ow v1 x d Q ok h1 e k
  cases x <;> first | (cases e; done) | skip
  rename_i ds
  unfold gSort at e
  simp only at e
  cases en : toInts ds with
  | none => rw [en] at e; cases e
  | some ns =>
    rw [en] at e; cases e
    obtain ⟨a, rfl, hs⟩ := ok.intsL (K := K) h1 en
    refine ⟨a, ns, rfl, hs, fun ns' p hp hq hn => ?_⟩
    rw [srtI_uniq hp hq]
    obtain ⟨r, t⟩ := new_ints ok (srtI ns) hn
    exact k _ _ (fun b o e => upd_keep e (ne_of_none e hn)) r fun _ => t
end
end DL

namespace DL
open PySem PySem.Spec PyProof.Rows L2

section
variable {W : Type} {B : Base W} {Γ Γ' : List SK} {F F' : Addr → Prop} {env env' : List D} {σ σ' : L2.St} {w w' : W} {H H' H1 H2 : Hp} {ow : Nat → List Addr}
variable {fa fb fl : FK} {xa xb ft : Bool} {ta tb : TE} {a b : EF W} {nw str : Bool}

/-! ### what is walked -/
def ItOK (J : It) (A : Addr → Prop) (c : List Addr) (H : Hp) (ds : List D) : Prop :=
  ∀ H1, (∀ a o, (A a ∨ a ∈ c) → H a = some o → H1 a = some o) →
    (∀ (i : Nat) d, ds[i]? = some d → J.go i H1 ∧ ∀ x H2, J.yld i H1 x H2 → L2.Same H1 H2 ∧ DR H2 (fun b => (A b ∧ H b ≠ none) ∨ H1 b = none) x d) ∧ J.stop ds.length H1
def SI (B : Base W) (Γ : List SK) (nw str : Bool) (wi : TI) (f : AF W) : Prop :=
  ∀ (env : List D) (w : W), Res (f env w)
    (fun ds w' => ∀ (F : Addr → Prop) (σ : L2.St) (H : Hp) (ow : Nat → List Addr), OK B Γ F env σ w H ow → ∀ R : It → Hp → Prop, (∀ J H' c, KeepE B H H' → OK B Γ F env σ w' H' ow → (∀ a ∈ c, ¬ B.wd.fp a ∧ (str = true → ¬ F a)) → ItOK J (Al B F nw) c H' ds → R J H') → wi σ H R)
    (fun e w' => ∀ (F : Addr → Prop) (σ : L2.St) (H : Hp) (ow : Nat → List Addr), OK B Γ F env σ w H ow → XP B F H w' e → ∀ R : It → Hp → Prop, wi σ H R)
def strOf : FK → Bool
  | .ok _ => true
  | _ => false
theorem OK.toLv' (ok : OK B Γ F env σ w H ow) {nw : Bool} : ∀ {fl : FK} {v : V} {ds : List D}, lvOf fl = some nw → RO B F H1 fl v (.list ds) → ∃ a xs, v = .ref a ∧ (¬ B.wd.fp a ∧ (strOf fl = true → ¬ F a)) ∧ H1 a = some (.lst xs) ∧ DRs H1 (Al B F nw) xs ds
  | .lv nw', v, ds, e, ⟨a, xs, ds', h0, h1, h2, h3, h4⟩ => by cases e; cases h1; exact ⟨a, xs, h0, ⟨h2, fun z => nomatch z⟩, h3, h4⟩
  | .ok nw', v, ds, e, h => by
    cases e
    obtain ⟨a, xs, h0, h1, h2, h3⟩ := DR.lst_inv (show DR H1 (Al B F nw) v (.list ds) from h)
    exact ⟨a, xs, h0, ⟨ok.alFp h1, fun _ => h1.1⟩, h2, h3⟩
def unL : D → Option (List D)
  | .list ds => some ds
  | _ => none
def unT : D → Option (List D)
  | .tuple ds => some ds
  | _ => none
theorem unL_some {x : D} {ds : List D} (h : unL x = some ds) : x = .list ds := by cases x <;> first | (cases h; rfl) | cases h
theorem unT_some {x : D} {ds : List D} (h : unT x = some ds) : x = .tuple ds := by cases x <;> first | (cases h; rfl) | cases h
def iL {W : Type} (a : EF W) : AF W := fun env w => (a env w).bind fun x w => lf (unL x) w
theorem DRs.drw {A : Addr → Prop} {vs : List V} {ds : List D} (h : DRs H A vs ds) {i : Nat} {v : V} {d : D} (e1 : vs[i]? = some v) (e2 : ds[i]? = some d) : DR H A v d := by
  obtain ⟨u, q1, q2⟩ := h.get e2
  rw [e1] at q1
  cases q1
  exact q2
theorem DR.old {A : Addr → Prop} {v : V} {d : D} (h : DR H A v d) (k : ∀ a o, A a → H a = some o → H1 a = some o) : DR H1 (fun b => (A b ∧ H b ≠ none) ∨ H1 b = none) v d :=
  h.to fun a o e ha => ⟨k a o ha e, .inl ⟨ha, by rw [e]; simp⟩⟩
theorem si_list {K : PySem.W.Frag} (hf : lvOf fa = some nw) (ha : SE B Γ fa xa ta a) : SI B Γ nw (strOf fa) (iList K ta) (iL a) := fun env w => by
  refine Res.bind (ha env w) (fun x w1 qa => Res.lf fun ds eg F σ H ow ok R k => ?_) fun e w1 qa F σ H ow ok xp Q => qa F σ H ow ok xp _
  have e := unL_some eg
  subst e
  refine qa F σ H ow ok _ fun v1 H1 k1 ok1 r1 _ => ?_
  obtain ⟨p, xs, rfl, n1, n2, n3⟩ := ok1.toLv' hf r1
  refine ⟨p, rfl, ⟨xs, SqL.of n2⟩, k _ H1 [p] k1 ok1 (fun a ha => by rw [List.mem_singleton.mp ha]; exact n1) fun H2 st => ?_⟩
  have e2 : H2 p = some (.lst xs) := st p _ (.inr (by simp)) n2
  refine ⟨fun i d e => ?_, ⟨xs, SqL.of e2, Nat.le_of_eq n3.length⟩⟩
  obtain ⟨v, q1, q2⟩ := n3.get e
  refine ⟨⟨xs, v, SqL.of e2, q1⟩, fun x H3 y => ?_⟩
  obtain ⟨rfl, y⟩ := y
  have ex := y xs (SqL.of e2)
  exact ⟨.refl _, (n3.drw ex e).old fun a o h e => st a o (.inl h) e⟩
theorem si_tup {K : PySem.W.Frag} (ha : SE B Γ (.ok nw) xa ta a) : SI B Γ nw true (iTup K ta) (fun env w => (a env w).bind fun x w => lf (unT x) w) := fun env w => by
  refine Res.bind (ha env w) (fun x w1 qa => Res.lf fun ds eg F σ H ow ok R k => ?_) fun e w1 qa F σ H ow ok xp Q => qa F σ H ow ok xp _
  have e := unT_some eg
  subst e
  refine qa F σ H ow ok _ fun v1 H1 k1 ok1 r1 _ => ?_
  obtain ⟨p, xs, rfl, n1, n2, n3⟩ := DR.tup_inv (show DR H1 (Al B F nw) v1 (.tuple ds) from r1)
  refine ⟨p, rfl, ⟨xs, SqT.of n2⟩, k _ H1 [p] k1 ok1 (fun a ha => by rw [List.mem_singleton.mp ha]; exact ⟨ok1.alFp n1, fun _ => n1.1⟩) fun H2 st => ?_⟩
  have e2 : H2 p = some (.tup xs) := st p _ (.inr (by simp)) n2
  refine ⟨fun i d e => ?_, ⟨xs, SqT.of e2, Nat.le_of_eq n3.length⟩⟩
  obtain ⟨v, q1, q2⟩ := n3.get e
  refine ⟨⟨xs, v, SqT.of e2, q1⟩, fun x H3 y => ?_⟩
  obtain ⟨rfl, y⟩ := y
  have ex := y xs (SqT.of e2)
  exact ⟨.refl _, (n3.drw ex e).old fun a o h e => st a o (.inl h) e⟩
/-- ints from lo on -/
def rgF : Nat → Int → List D
  | 0, _ => []
  | n + 1, lo => .int lo :: rgF n (lo + 1)
theorem rgF_get : ∀ (n : Nat) (lo : Int) (i : Nat) (d : D), (rgF n lo)[i]? = some d → i < n ∧ d = .int (lo + i)
  | 0, lo, i, d, h => by simp [rgF] at h
  | n + 1, lo, 0, d, h => by
    simp [rgF] at h; subst h
    exact ⟨Nat.succ_pos _, by rw [show lo + ((0 : Nat) : Int) = lo by omega]⟩
  | n + 1, lo, i + 1, d, h => by
    have h' : (rgF n (lo + 1))[i]? = some d := by simpa [rgF] using h
    obtain ⟨a, b⟩ := rgF_get n (lo + 1) i d h'
    refine ⟨by omega, b.trans ?_⟩
    congr 1; omega
theorem rgF_len : ∀ (n : Nat) (lo : Int), (rgF n lo).length = n
  | 0, _ => rfl
  | n + 1, lo => by show (rgF n (lo + 1)).length + 1 = _; rw [rgF_len n]
def smI (i : Int) : Bool := Nat.ble i.natAbs 1000000
theorem smI_ok {i : Int} (h : smI i = true) : -(2 ^ 62) ≤ i ∧ i < 2 ^ 62 := by
  have := Nat.le_of_ble_eq_true h
  omega
def rg1 : D → Option (List D)
  | .int j => ifs (smI j) (rgF j.toNat 0)
  | _ => none
def rg2 : D → D → Option (List D)
  | .int i, .int j => ifs (smI i && smI j) (rgF (j - i).toNat i)
  | _, _ => none
theorem itr_ok {A : Addr → Prop} {lo : Int} {n : Nat} : ItOK (Itr lo n) A [] H (rgF n lo) := fun H1 _ =>
  ⟨fun i d e => by
    obtain ⟨a, b⟩ := rgF_get n lo i d e
    refine ⟨a, fun x H2 y => ?_⟩
    obtain ⟨rfl, rfl⟩ := y
    rw [b]
    exact ⟨.refl _, .int _⟩, Nat.le_of_eq (rgF_len n lo).symm⟩
def iR1 {W : Type} (a : EF W) : AF W := fun env w => (a env w).bind fun x w => lf (rg1 x) w
theorem si_rg1 (ha : SE B Γ fa xa ta a) : SI B Γ true true (iRng1 (tCons ta tNil)) (iR1 a) := fun env w => by
  refine Res.bind (ha env w) (fun x w1 qa => Res.lf fun ds eg F σ H ow ok R k => ?_) fun e w1 qa F σ H ow ok xp Q => qa F σ H ow ok xp _
  cases x <;> first | (cases eg; done) | skip
  obtain ⟨e1, rfl⟩ := ifs_some (show ifs _ _ = some ds from eg)
  rename_i j
  refine qa F σ H ow ok _ fun v1 H1 k1 ok1 r1 _ => ?_
  obtain ⟨b1, b2⟩ := smI_ok e1
  have ev := (ok1.toDp r1).int_inv
  subst ev
  exact ⟨j, rfl, b1, b2, k _ H1 [] k1 ok1 (fun _ h => by cases h) itr_ok⟩
def iR2 {W : Type} (a b : EF W) : AF W := fun env w => (a env w).bind fun x w => (b env w).bind fun y w => lf (rg2 x y) w
theorem si_rg2 (ha : SE B Γ fa xa ta a) (hb : SE B Γ fb xb tb b) : SI B Γ true true (iRng2 (tCons ta (tCons tb tNil))) (iR2 a b) := fun env w => by
  refine Res.bind (ha env w) (fun x w1 qa => Res.bind (hb env w1) (fun y w2 qb => Res.lf fun ds eg F σ H ow ok R k => ?_) fun e w2 qb F σ H ow ok xp Q => ?_) fun e w1 qa F σ H ow ok xp Q => qa F σ H ow ok xp _
  · cases x <;> first | (cases eg; done) | skip
    cases y <;> first | (cases eg; done) | skip
    obtain ⟨e1, rfl⟩ := ifs_some (show ifs _ _ = some ds from eg)
    rename_i i j
    rw [Bool.and_eq_true] at e1
    obtain ⟨b1, b2⟩ := smI_ok e1.1
    obtain ⟨b3, b4⟩ := smI_ok e1.2
    refine qa F σ H ow ok _ fun v1 H1 k1 ok1 r1 _ => qb F σ H1 ow ok1 _ fun v2 H2 k2 ok2 r2 _ => ?_
    have ev := (ok1.toDp r1).int_inv
    subst ev
    have ev := (ok2.toDp r2).int_inv
    subst ev
    exact ⟨i, j, rfl, ⟨b1, b2, b3, b4⟩, k _ H2 [] (k1.trans k2) ok2 (fun _ h => by cases h) itr_ok⟩
  · exact qa F σ H ow ok _ fun v1 H1 k1 ok1 r1 _ => qb F σ H1 ow ok1 (xp.at k1) _
/-- a range with a step -/
def rgC : Nat → Int → Int → List D
  | 0, _, _ => []
  | n + 1, lo, c => .int lo :: rgC n (lo + c) c
theorem rgC_get : ∀ (n : Nat) (lo c : Int) (i : Nat) (d : D), (rgC n lo c)[i]? = some d → i < n ∧ d = .int (lo + i * c)
  | 0, lo, c, i, d, h => by simp [rgC] at h
  | n + 1, lo, c, 0, d, h => by
    simp [rgC] at h; subst h
    exact ⟨Nat.succ_pos _, by rw [show lo + ((0 : Nat) : Int) * c = lo by simp]⟩
  | n + 1, lo, c, i + 1, d, h => by
    have h' : (rgC n (lo + c) c)[i]? = some d := by simpa [rgC] using h
    obtain ⟨a, b⟩ := rgC_get n (lo + c) c i d h'
    refine ⟨by omega, b.trans ?_⟩
    congr 1
    have : ((i + 1 : Nat) : Int) * c = (i : Int) * c + c := by rw [show ((i + 1 : Nat) : Int) = (i : Int) + 1 by omega, Int.add_mul, Int.one_mul]
    omega
theorem rgC_len : ∀ (n : Nat) (lo c : Int), (rgC n lo c).length = n
  | 0, _, _ => rfl
  | n + 1, lo, c => by show (rgC n (lo + c) c).length + 1 = _; rw [rgC_len n]
def okRg (i j c : Int) (n : Nat) : Bool := decide (c ≠ 0) && Nat.blt c.natAbs 1073741824 && Builtin.Range.small i j c && decide (Builtin.Range.rangeSize i j c = (n : Int))
theorem okRg_ok {i j c : Int} {n : Nat} (h : okRg i j c n = true) : RgC i j c n := by
  unfold okRg at h
  simp only [Bool.and_eq_true, decide_eq_true_eq] at h
  exact ⟨h.1.1.1, Nat.le_of_ble_eq_true h.1.1.2, h.1.2, h.2⟩
/-- steps of -1: the usual case -/
def rg3 : D → D → D → Option (List D)
  | .int i, .int j, .int c => match decide (c = -1) with
    | true => ifs (smI i && smI j) (rgC (i - j).toNat i (-1))
    | false => let n := (Builtin.Range.rangeSize i j c).toNat; ifs (okRg i j c n) (rgC n i c)
  | _, _, _ => none
theorem itc_ok {A : Addr → Prop} {lo c : Int} {n : Nat} : ItOK (Itc lo c n) A [] H (rgC n lo c) := fun H1 _ =>
  ⟨fun i d e => by
    obtain ⟨a, b⟩ := rgC_get n lo c i d e
    refine ⟨a, fun x H2 y => ?_⟩
    obtain ⟨rfl, rfl⟩ := y
    rw [b]
    exact ⟨.refl _, .int _⟩, Nat.le_of_eq (rgC_len n lo c).symm⟩
def iR3 {W : Type} (a b c : EF W) : AF W := fun env w => (a env w).bind fun x w => (b env w).bind fun y w => (c env w).bind fun z w => lf (rg3 x y z) w
theorem rg3_ok {x y z : D} {ds : List D} (h : rg3 x y z = some ds) : ∃ i j c n, x = .int i ∧ y = .int j ∧ z = .int c ∧ RgC i j c n ∧ ds = rgC n i c := by
  cases x <;> first | (cases h; done) | skip
  cases y <;> first | (cases h; done) | skip
  cases z <;> first | (cases h; done) | skip
  rename_i i j c
  unfold rg3 at h
  simp only at h
  by_cases hc : c = -1
  · rw [decide_eq_true hc] at h
    obtain ⟨e1, e2⟩ := ifs_some h
    rw [Bool.and_eq_true] at e1
    obtain ⟨b1, b2⟩ := smI_ok e1.1
    obtain ⟨b3, b4⟩ := smI_ok e1.2
    subst hc
    exact ⟨i, j, -1, _, rfl, rfl, rfl, RgC.neg b1 b2 b3 b4, e2.symm⟩
  · rw [decide_eq_false hc] at h
    obtain ⟨e1, e2⟩ := ifs_some h
    exact ⟨i, j, c, _, rfl, rfl, rfl, okRg_ok e1, e2.symm⟩
theorem si_rg3 {fc : FK} {xc : Bool} {tc : TE} {c : EF W} (ha : SE B Γ fa xa ta a) (hb : SE B Γ fb xb tb b) (hc : SE B Γ fc xc tc c) : SI B Γ true true (iRng3 (tCons ta (tCons tb (tCons tc tNil)))) (iR3 a b c) := fun env w => by
  refine Res.bind (ha env w) (fun x w1 qa => Res.bind (hb env w1) (fun y w2 qb => Res.bind (hc env w2) (fun z w3 qc => Res.lf fun ds eg F σ H ow ok R k => ?_) fun e w3 qc F σ H ow ok xp Q => ?_) fun e w2 qb F σ H ow ok xp Q => ?_) fun e w1 qa F σ H ow ok xp Q => qa F σ H ow ok xp _
  · obtain ⟨i, j, c, n, rfl, rfl, rfl, hr, rfl⟩ := rg3_ok eg
    refine qa F σ H ow ok _ fun v1 H1 k1 ok1 r1 _ => qb F σ H1 ow ok1 _ fun v2 H2 k2 ok2 r2 _ => qc F σ H2 ow ok2 _ fun v3 H3 k3 ok3 r3 _ => ?_
    have ev := (ok1.toDp r1).int_inv
    subst ev
    have ev := (ok2.toDp r2).int_inv
    subst ev
    have ev := (ok3.toDp r3).int_inv
    subst ev
    exact ⟨i, j, c, n, rfl, hr, k _ H3 [] (k1.trans (k2.trans k3)) ok3 (fun _ h => by cases h) itc_ok⟩
  · exact qa F σ H ow ok _ fun v1 H1 k1 ok1 r1 _ => qb F σ H1 ow ok1 _ fun v2 H2 k2 ok2 r2 _ => qc F σ H2 ow ok2 (xp.at (k1.trans k2)) _
  · exact qa F σ H ow ok _ fun v1 H1 k1 ok1 r1 _ => qb F σ H1 ow ok1 (xp.at k1) _
/-- enumerate -/
def enF : Nat → List D → List D
  | _, [] => []
  | n, d :: ds => .tuple [.int n, d] :: enF (n + 1) ds
theorem enF_get : ∀ (ds : List D) (n i : Nat) (d : D), (enF n ds)[i]? = some d → ∃ e, ds[i]? = some e ∧ d = .tuple [.int ((n + i : Nat) : Int), e]
  | [], n, i, d, h => by simp [enF] at h
  | e :: ds, n, 0, d, h => by simp [enF] at h; exact ⟨e, rfl, h.symm⟩
  | e :: ds, n, i + 1, d, h => by
    have h' : (enF (n + 1) ds)[i]? = some d := by simpa [enF] using h
    obtain ⟨e', q1, q2⟩ := enF_get ds (n + 1) i d h'
    refine ⟨e', by simpa using q1, q2.trans ?_⟩
    rw [show n + 1 + i = n + (i + 1) by omega]
theorem enF_len : ∀ (ds : List D) (n : Nat), (enF n ds).length = ds.length
  | [], _ => rfl
  | e :: ds, n => by show (enF (n + 1) ds).length + 1 = _; rw [enF_len ds]; rfl
def iEn {W : Type} (a : EF W) : AF W := fun env w => (a env w).bind fun x w => lf (match x with | .list ds => some (enF 0 ds) | _ => none) w
theorem si_enum {K : PySem.W.Frag} (hf : lvOf fa = some nw) (ha : SE B Γ fa xa ta a) : SI B Γ nw (strOf fa) (iEnum K (tCons ta tNil)) (iEn a) := fun env w => by
  refine Res.bind (ha env w) (fun x w1 qa => Res.lf fun ds eg F σ H ow ok R k => ?_) fun e w1 qa F σ H ow ok xp Q => qa F σ H ow ok xp _
  cases x <;> first | (cases eg; done) | skip
  cases eg
  rename_i es
  refine qa F σ H ow ok _ fun v1 H1 k1 ok1 r1 _ => ?_
  obtain ⟨p, xs, rfl, n1, n2, n3⟩ := ok1.toLv' hf r1
  refine ⟨p, xs, rfl, SqL.of n2, k _ H1 [p] k1 ok1 (fun a ha => by rw [List.mem_singleton.mp ha]; exact n1) fun H2 st => ?_⟩
  have e2 : H2 p = some (.lst xs) := st p _ (.inr (by simp)) n2
  refine ⟨fun i d e => ?_, ⟨xs, SqL.of e2, by rw [enF_len]; exact Nat.le_of_eq n3.length⟩⟩
  obtain ⟨d', q0, rfl⟩ := enF_get es 0 i d e
  obtain ⟨v, q1, q2⟩ := n3.get q0
  refine ⟨⟨xs, v, SqL.of e2, q1⟩, fun x H3 y => ?_⟩
  obtain ⟨T, x', rfl, hT, rfl, y⟩ := y
  have ex := y xs (SqL.of e2)
  have old := (n3.drw ex q0).old (H1 := H2) fun a o h e => st a o (.inl h) e
  refine ⟨fun b o e => upd_keep e (ne_of_none e hT), .tup (.inr hT) upd_same ?_⟩
  rw [Nat.zero_add]
  refine .cons (.int _) (.one (old.to fun a o e ha => ⟨upd_keep e (ne_of_none e hT), ha⟩))
/-- zip -/
def zpF : List D → List D → List D
  | d :: ds, e :: es => .tuple [d, e] :: zpF ds es
  | _, _ => []
theorem zpF_get : ∀ (ds es : List D) (i : Nat) (d : D), (zpF ds es)[i]? = some d → ∃ x y, ds[i]? = some x ∧ es[i]? = some y ∧ d = .tuple [x, y]
  | [], es, i, d, h => by simp [zpF] at h
  | _ :: _, [], i, d, h => by simp [zpF] at h
  | x :: ds, y :: es, 0, d, h => by simp [zpF] at h; exact ⟨x, y, rfl, rfl, h.symm⟩
  | x :: ds, y :: es, i + 1, d, h => by
    have h' : (zpF ds es)[i]? = some d := by simpa [zpF] using h
    obtain ⟨x', y', q1, q2, q3⟩ := zpF_get ds es i d h'
    exact ⟨x', y', by simpa using q1, by simpa using q2, q3⟩
theorem zpF_len : ∀ (ds es : List D), ds.length ≤ (zpF ds es).length ∨ es.length ≤ (zpF ds es).length
  | [], es => .inl (Nat.zero_le _)
  | _ :: _, [] => .inr (Nat.zero_le _)
  | x :: ds, y :: es => by
    rcases zpF_len ds es with h | h
    · exact .inl (Nat.succ_le_succ h)
    · exact .inr (Nat.succ_le_succ h)
def iZp {W : Type} (a b : EF W) : AF W := fun env w => (a env w).bind fun x w => (b env w).bind fun y w => lf (match x, y with | .list ds, .list es => some (zpF ds es) | _, _ => none) w
theorem si_zip {K : PySem.W.Frag} {n1 n2 : Bool} (hf : lvOf fa = some n1) (hg : lvOf fb = some n2) (ha : SE B Γ fa xa ta a) (hb : SE B Γ fb xb tb b) : SI B Γ (n1 && n2) (strOf fa && strOf fb) (iZip K (tCons ta (tCons tb tNil))) (iZp a b) := fun env w => by
  refine Res.bind (ha env w) (fun x w1 qa => Res.bind (hb env w1) (fun y w2 qb => Res.lf fun ds eg F σ H ow ok R k => ?_) fun e w2 qb F σ H ow ok xp Q => ?_) fun e w1 qa F σ H ow ok xp Q => qa F σ H ow ok xp _
  · cases x <;> first | (cases eg; done) | skip
    cases y <;> first | (cases eg; done) | skip
    cases eg
    rename_i d1 d2
    refine qa F σ H ow ok _ fun v1 H1 k1 ok1 r1 _ => qb F σ H1 ow ok1 _ fun v2 H2 k2 ok2 r2 _ => ?_
    obtain ⟨p, xs, rfl, m1, m2, m3⟩ := ok2.toLv' hf (ok2.ro k2 r1)
    obtain ⟨q, ys, rfl, l1, l2, l3⟩ := ok2.toLv' hg r2
    have b1 : (n1 && n2) = true → n1 = true := fun z => (Bool.and_eq_true_iff.mp z).1
    have b2 : (n1 && n2) = true → n2 = true := fun z => (Bool.and_eq_true_iff.mp z).2
    refine ⟨p, q, xs, ys, rfl, SqL.of m2, SqL.of l2, k _ H2 [p, q] (k1.trans k2) ok2 (fun a ha => ?_) fun H3 st => ?_⟩
    · rcases List.mem_cons.mp ha with rfl | ha
      · exact ⟨m1.1, fun z => m1.2 (Bool.and_eq_true_iff.mp z).1⟩
      · rw [List.mem_singleton.mp ha]; exact ⟨l1.1, fun z => l1.2 (Bool.and_eq_true_iff.mp z).2⟩
    have e2 : H3 p = some (.lst xs) := st p _ (.inr (by simp)) m2
    have e3 : H3 q = some (.lst ys) := st q _ (.inr (by simp)) l2
    refine ⟨fun i d e => ?_, ⟨xs, ys, SqL.of e2, SqL.of e3, by rw [m3.length, l3.length]; exact zpF_len d1 d2⟩⟩
    obtain ⟨x', y', q0, q1, rfl⟩ := zpF_get d1 d2 i d e
    obtain ⟨v, q2, q3⟩ := m3.get q0
    obtain ⟨u, q4, q5⟩ := l3.get q1
    refine ⟨⟨xs, ys, v, u, SqL.of e2, SqL.of e3, q2, q4⟩, fun x H4 y => ?_⟩
    obtain ⟨T, x1, y1, rfl, hT, rfl, y1', y2'⟩ := y
    have old1 := (DR.nw b1 (m3.drw (y1' xs (SqL.of e2)) q0)).old (H1 := H3) fun a o h e => st a o (.inl h) e
    have old2 := (DR.nw b2 (l3.drw (y2' ys (SqL.of e3)) q1)).old (H1 := H3) fun a o h e => st a o (.inl h) e
    exact ⟨fun b o e => upd_keep e (ne_of_none e hT), .tup (.inr hT) upd_same (.cons (old1.to fun a o e ha => ⟨upd_keep e (ne_of_none e hT), ha⟩) (.one (old2.to fun a o e ha => ⟨upd_keep e (ne_of_none e hT), ha⟩)))⟩
  · exact qa F σ H ow ok _ fun v1 H1 k1 ok1 r1 _ => qb F σ H1 ow ok1 (xp.at k1) _
/-- reversed(list) -/
def iRv {W : Type} (a : EF W) : AF W := fun env w => (a env w).bind fun x w => lf (match x with | .list ds => some ds.reverse | _ => none) w
theorem si_rev {K : PySem.W.Frag} (hf : lvOf fa = some nw) (ha : SE B Γ fa xa ta a) : SI B Γ nw (strOf fa) (iRev K (tCons ta tNil)) (iRv a) := fun env w => by
  refine Res.bind (ha env w) (fun x w1 qa => Res.lf fun ds eg F σ H ow ok R k => ?_) fun e w1 qa F σ H ow ok xp Q => qa F σ H ow ok xp _
  cases x <;> first | (cases eg; done) | skip
  cases eg
  rename_i es
  refine qa F σ H ow ok _ fun v1 H1 k1 ok1 r1 _ => ?_
  obtain ⟨p, xs, rfl, n1, n2, n3⟩ := ok1.toLv' hf r1
  refine ⟨p, xs, rfl, SqL.of n2, k _ H1 [p] k1 ok1 (fun a ha => by rw [List.mem_singleton.mp ha]; exact n1) fun H2 st => ?_⟩
  have e2 : H2 p = some (.lst xs) := st p _ (.inr (by simp)) n2
  refine ⟨fun i d e => ?_, by show xs.length ≤ es.reverse.length; rw [List.length_reverse]; exact Nat.le_of_eq n3.length⟩
  have hi : i < es.length := by
    have := (List.getElem?_eq_some_iff.mp e).1
    rwa [List.length_reverse] at this
  have e' : es[es.length - 1 - i]? = some d := by rw [List.getElem?_reverse hi] at e; exact e
  obtain ⟨v, q1, q2⟩ := n3.get e'
  have hl := n3.length
  refine ⟨⟨by omega, xs, v, SqL.of e2, by rw [hl]; exact q1⟩, fun x H3 y => ?_⟩
  obtain ⟨rfl, y⟩ := y
  have ex := y xs (SqL.of e2)
  rw [hl] at ex
  exact ⟨.refl _, (n3.drw ex e').old fun a o h e => st a o (.inl h) e⟩

/-! ### targets -/
/-- a slot that may be overwritten -/
def plain : Option SK → Bool
  | some .u => true
  | some (.s _) => true
  | some (.b _) => true
  | _ => false
theorem plain_ow (ok : OK B Γ F env σ w H ow) {i : Nat} (h : plain Γ[i]? = true) : ow i = [] ∧ i < Γ.length ∧ ∀ j : Nat, Γ[j]? ≠ some (SK.b i) := by
  have nb : ∀ j : Nat, Γ[j]? = some (SK.b i) → ow i ≠ [] := fun j e z => by
    obtain ⟨_, k, a, _, _, q⟩ := ok.sl j _ e
    rw [z] at q; simp at q
  cases e : Γ[i]? with
  | none => rw [e] at h; cases h
  | some k =>
    have lt := (List.getElem?_eq_some_iff.mp e).1
    have o : ow i = [] := by
      cases k with
      | u => exact ok.sl i _ e
      | s _ => exact (ok.sl i _ e).1
      | b _ => exact (ok.sl i _ e).1
      | o _ => rw [e] at h; cases h
      | o2 _ => rw [e] at h; cases h
      | f => rw [e] at h; cases h
    exact ⟨o, lt, fun j e2 => nb j e2 o⟩
/-- shared data stored -/
theorem OK.store (ok : OK B Γ F env σ w H ow) {i : Nat} {nw : Bool} {v : V} {d : D} (h : plain Γ[i]? = true) (r : DR H (Al B F nw) v d) : OK B (Γ.set i (.s nw)) F (env.set i d) (σ.set i (some v)) w H ow := by
  obtain ⟨o, lt, nb⟩ := plain_ow ok h
  have eo : (fun j => if j = i then [] else ow j) = ow := by
    funext j
    by_cases hj : j = i
    · rw [if_pos hj, hj, o]
    · rw [if_neg hj]
  have q := ok.put (i := i) (kd := .s nw) (d := d) (sv := some v) (on := []) (F' := F) (H' := H) (w' := w) lt (fun j e => absurd e (nb j)) (fun a o e n => ⟨e, n⟩) (fun j _ a ha o e => ⟨e, (ok.own j a ha).1⟩) ok.wr ok.fpF ok.dom ok.k0 ok.f0 (fun _ h => by cases h) List.nodup_nil (fun _ _ _ h => by cases h) ⟨if_pos rfl, v, rfl, r⟩
  rw [eo] at q
  exact q
def STg (B : Base W) (g : TG) (Γ Γ' : List SK) (nw : Bool) (is : List Nat) (fg : D → List D → Option (List D)) : Prop :=
  ∀ {F : Addr → Prop} {env : List D} {σ : L2.St} {w : W} {H : Hp} {ow : Nat → List Addr} {v : V} {d : D} {env' : List D} {Q : L2.St → Hp → Prop}, OK B Γ F env σ w H ow → DR H (Al B F nw) v d → fg d env = some env' →
    (∀ σ', OK B Γ' F env' σ' w H ow → (∀ j, j ∉ is → σ'[j]? = σ[j]?) → σ'.length = σ.length → Q σ' H) → g v σ H Q
def STgs (B : Base W) (g : TGs) (Γ Γ' : List SK) (nw : Bool) (is : List Nat) (fg : List D → List D → Option (List D)) : Prop :=
  ∀ {F : Addr → Prop} {env : List D} {σ : L2.St} {w : W} {H : Hp} {ow : Nat → List Addr} {v : List V} {d : List D} {env' : List D} {Q : L2.St → Hp → Prop}, OK B Γ F env σ w H ow → DRs H (Al B F nw) v d → fg d env = some env' →
    (∀ σ', OK B Γ' F env' σ' w H ow → (∀ j, j ∉ is → σ'[j]? = σ[j]?) → σ'.length = σ.length → Q σ' H) → g v σ H Q
def tgN (i : Nat) (d : D) (env : List D) : Option (List D) := some (env.set i d)
theorem stg_name {i : Nat} (h : plain Γ[i]? = true) : STg B (gName i) Γ (Γ.set i (.s nw)) nw [i] (tgN i) := by
  intro F env σ w H ow v d env' Q ok r e k
  cases e
  exact k _ (ok.store h r) (fun j hj => List.getElem?_set_ne (fun z => hj (by rw [z]; simp))) List.length_set
def tgNil (ds env : List D) : Option (List D) := match ds with | [] => some env | _ => none
def tgCons (f : D → List D → Option (List D)) (g : List D → List D → Option (List D)) (ds env : List D) : Option (List D) := match ds with | d :: ds => (match f d env with | some env' => g ds env' | none => none) | [] => none
def tgTup (g : List D → List D → Option (List D)) (d : D) (env : List D) : Option (List D) := match d with | .tuple ds => g ds env | _ => none
theorem stgs_nil : STgs B gNil Γ Γ nw [] tgNil := by
  intro F env σ w H ow v d env' Q ok r e k
  cases d with
  | nil =>
    cases e
    cases r
    exact ⟨rfl, k σ ok (fun _ _ => rfl) rfl⟩
  | cons _ _ => cases e
theorem stgs_cons {g : TG} {gs : TGs} {Γ1 : List SK} {is js : List Nat} {f : D → List D → Option (List D)} {fs : List D → List D → Option (List D)} (h : STg B g Γ Γ1 nw is f) (hs : STgs B gs Γ1 Γ' nw js fs) : STgs B (gCons g gs) Γ Γ' nw (is ++ js) (tgCons f fs) := by
  intro F env σ w H ow v d env' Q ok r e k
  cases r with
  | nil => cases e
  | cons r1 r2 =>
    rename_i d1 vs ds
    have e' : (match f d1 env with | some env' => fs ds env' | none => none) = some env' := e
    cases e1 : f d1 env with
    | none => rw [e1] at e'; cases e'
    | some env1 =>
      rw [e1] at e'
      exact ⟨_, _, rfl, h ok r1 e1 fun σ1 ok1 q1 l1 => hs ok1 r2 e' fun σ2 ok2 q2 l2 => k σ2 ok2 (fun j hj => by
        rw [List.mem_append, not_or] at hj
        rw [q2 j hj.2, q1 j hj.1]) (l2.trans l1)⟩
theorem stg_tup {K : PySem.W.Frag} {gs : TGs} {n : Nat} {is : List Nat} {fs : List D → List D → Option (List D)} (hs : STgs B gs Γ Γ' nw is fs) (hl : ∀ ds env env', fs ds env = some env' → ds.length = n) : STg B (gTup K n gs) Γ Γ' nw is (tgTup fs) := by
  intro F env σ w H ow v d env' Q ok r e k
  cases d <;> first | (cases e; done) | skip
  rename_i ds
  obtain ⟨p, xs, rfl, _, h2, h3⟩ := r.tup_inv
  have e' : fs ds env = some env' := e
  exact ⟨p, xs, rfl, SqT.of h2, h3.length.trans (hl _ _ _ e'), hs ok h3 e' k⟩
theorem tgNil_len (ds env env' : List D) (h : tgNil ds env = some env') : ds.length = 0 := by
  cases ds with
  | nil => rfl
  | cons _ _ => cases h
theorem tgCons_len {f : D → List D → Option (List D)} {g : List D → List D → Option (List D)} {n : Nat} (hg : ∀ ds env env', g ds env = some env' → ds.length = n) (ds env env' : List D) (h : tgCons f g ds env = some env') : ds.length = n + 1 := by
  cases ds with
  | nil => cases h
  | cons d ds =>
    have h' : (match f d env with | some env' => g ds env' | none => none) = some env' := h
    cases e : f d env with
    | none => rw [e] at h'; cases h'
    | some e1 => rw [e] at h'; rw [List.length_cons, hg _ _ _ h']

/-! ### comprehensions -/
def Base.nox (B : Base W) : Base W := { B with xe := fun _ _ _ => False }
theorem OK.nox (ok : OK B Γ F env σ w H ow) : OK B.nox Γ F env σ w H ow := ⟨ok.wr, ok.fpF, ok.dom, ok.k0, ok.f0, ok.ls, ok.le, ok.own, ok.nd, ok.dj, ok.out, fun i k e => by
  have q := ok.sl i k e
  cases k <;> exact q⟩
theorem OK.unnox (ok : OK B.nox Γ F env σ w H ow) : OK B Γ F env σ w H ow := ⟨ok.wr, ok.fpF, ok.dom, ok.k0, ok.f0, ok.ls, ok.le, ok.own, ok.nd, ok.dj, ok.out, fun i k e => by
  have q := ok.sl i k e
  cases k <;> exact q⟩
def wipeΓ (Γ : List SK) : List Nat → List SK
  | [] => Γ
  | v :: vs => (wipeΓ Γ vs).set v .u
def plains (Γ : List SK) (vs : List Nat) : Bool := vs.all fun i => plain Γ[i]?
theorem wipeΓ_len (Γ : List SK) : ∀ vs, (wipeΓ Γ vs).length = Γ.length
  | [] => rfl
  | v :: vs => by unfold wipeΓ; rw [List.length_set, wipeΓ_len Γ vs]
theorem wipeΓ_get : ∀ (vs : List Nat) (i : Nat) (k : SK), (wipeΓ Γ vs)[i]? = some k → (i ∈ vs ∧ k = .u) ∨ (i ∉ vs ∧ Γ[i]? = some k)
  | [], i, k, h => .inr ⟨by simp, h⟩
  | v :: vs, i, k, h => by
    unfold wipeΓ at h
    by_cases hi : v = i
    · subst hi
      by_cases hl : v < (wipeΓ Γ vs).length
      · rw [List.getElem?_set_self hl] at h; cases h; exact .inl ⟨by simp, rfl⟩
      · rw [List.getElem?_eq_none (by rw [List.length_set]; omega)] at h; cases h
    · rw [List.getElem?_set_ne hi] at h
      rcases wipeΓ_get vs i k h with ⟨a, b⟩ | ⟨a, b⟩
      · exact .inl ⟨List.mem_cons_of_mem _ a, b⟩
      · exact .inr ⟨by simp [a, Ne.symm hi], b⟩
theorem wipe_get {σ : L2.St} : ∀ (vs : List Nat) (i : Nat), i ∉ vs → (wipe σ vs)[i]? = σ[i]?
  | [], i, _ => rfl
  | v :: vs, i, h => by
    unfold wipe
    rw [List.getElem?_set_ne (fun z => h (by simp [z]))]
    exact wipe_get vs i fun z => h (List.mem_cons_of_mem _ z)
theorem wipe_in {σ : L2.St} : ∀ (vs : List Nat) (i : Nat), i ∈ vs → i < σ.length → (wipe σ vs)[i]? = some none
  | v :: vs, i, h, hl => by
    unfold wipe
    by_cases hi : v = i
    · subst hi
      rw [List.getElem?_set_self (by rw [wipe_length]; exact hl)]
    · rw [List.getElem?_set_ne hi]
      rcases List.mem_cons.mp h with e | h
      · exact absurd e.symm hi
      · exact wipe_in vs i h hl
theorem wipe_eq {σ σ' : L2.St} {vs : List Nat} (hl : σ'.length = σ.length) (h : ∀ j, j ∉ vs → σ'[j]? = σ[j]?) : wipe σ' vs = wipe σ vs := by
  apply List.ext_getElem?
  intro i
  by_cases hi : i ∈ vs
  · by_cases hlt : i < σ.length
    · rw [wipe_in vs i hi (by omega), wipe_in vs i hi hlt]
    · rw [List.getElem?_eq_none (by rw [wipe_length]; omega), List.getElem?_eq_none (by rw [wipe_length]; omega)]
  · rw [wipe_get vs i hi, wipe_get vs i hi, h i hi]
theorem OK.wipe (ok : OK B Γ F env σ w H ow) {vs : List Nat} (h : plains Γ vs = true) : OK B (wipeΓ Γ vs) F env (wipe σ vs) w H ow := by
  have po : ∀ i, i ∈ vs → ow i = [] := fun i hi => (plain_ow ok (List.all_eq_true.mp h i hi)).1
  refine ⟨ok.wr, ok.fpF, ok.dom, ok.k0, ok.f0, by rw [wipe_length, wipeΓ_len, ok.ls], by rw [wipeΓ_len, ok.le], ok.own, ok.nd, ok.dj, fun i hi => ok.out i (by rw [wipeΓ_len] at hi; exact hi), fun i k e => ?_⟩
  rcases wipeΓ_get vs i k e with ⟨a, rfl⟩ | ⟨a, b⟩
  · exact po i a
  · rw [wipe_get vs i a]; exact ok.sl i k b
def lcGo {W : Type} (fg : D → List D → Option (List D)) (p : List D → W → Out W Bool) (f : EF W) (env : List D) : List D → W → Out W (List D)
  | [], w => .ok [] w
  | d :: ds, w => match fg d env with
    | none => .st
    | some env' => (p env' w).bind fun b w => match b with
      | true => (f env' w).bind fun y w => (lcGo fg p f env ds w).bind fun ys w => .ok (y :: ys) w
      | false => lcGo fg p f env ds w
def noX {W α : Type} : Out W α → Out W α
  | .ex _ _ => .st
  | o => o
def fLc {W : Type} (fi : AF W) (fg : D → List D → Option (List D)) (p : List D → W → Out W Bool) (f : EF W) : EF W := fun env w => (fi env w).bind fun ds w => (noX (lcGo fg p f env ds w)).bind fun ys w => lf (ifs (sm ds.length) (.list ys)) w
theorem bind_ok {W α β : Type} {o : Out W α} {k : α → W → Out W β} {b : β} {w : W} (h : o.bind k = .ok b w) : ∃ a w1, o = .ok a w1 ∧ k a w1 = .ok b w := by
  cases o with
  | st => cases h
  | ok a w1 => exact ⟨a, w1, rfl, h⟩
  | ex e w1 => cases h
theorem Res.ok {W α : Type} {o : Out W α} {P : α → W → Prop} {E : Xc → W → Prop} {a : α} {w : W} (h : Res o P E) (e : o = .ok a w) : P a w := by rw [e] at h; exact h
/-- what is yielded is let -/
theorem OK.yld {F1 : Addr → Prop} {ok0 : True} (ok : OK B Γ F1 env σ w H1 ow) (kp : ∀ a o, H a = some o → ¬ F a → ¬ F1 a) {v : V} {d : D} {Hx : Hp} (h : DR Hx (fun b => (Al B F nw b ∧ H b ≠ none) ∨ H1 b = none) v d) : DR Hx (Al B F1 nw) v d :=
  h.to fun a o e ha => ⟨e, by
    rcases ha with ⟨h1, h2⟩ | h1
    · cases e2 : H a with
      | none => exact absurd e2 h2
      | some o2 => exact ⟨kp a o2 e2 h1.1, h1.2⟩
    · exact ok.al h1 nw⟩
def allIn (is vs : List Nat) : Bool := is.all fun i => vs.contains i
theorem allIn_ok {is vs : List Nat} (h : allIn is vs = true) {j : Nat} (hj : j ∉ vs) : j ∉ is := fun z => hj (by simpa using List.all_eq_true.mp h j z)
theorem se_lc {wi : TI} {g : TG} {tt : TT} {te : TE} {vs is : List Nat} {Γe : List SK} {ni : Bool} {fi : AF W} {fg : D → List D → Option (List D)} {p : List D → W → Out W Bool} {f : EF W}
    (hi : SI B Γ ni str wi fi) (hv : plains Γ vs = true) (hg : STg B.nox g (wipeΓ Γ vs) Γe ni is fg) (his : allIn is vs = true) (ht : ST B.nox Γe tt p) (he : SE B.nox Γe (.ok nw) xa te f) : SE B Γ (.ok nw) true (tLc wi g tt te vs) (fLc fi fg p f) := fun env w => by
  refine Res.bind (hi env w) (fun ds w1 qi => ?_) fun e w1 qi F σ H ow ok xp Q => qi F σ H ow ok xp _
  cases ego : lcGo fg p f env ds w1 with
  | st => trivial
  | ex _ _ => trivial
  | ok ys w2 =>
    show Res ((Out.ok ys w2).bind _) _ _
    show Res (lf (ifs (sm ds.length) (PyData.list ys)) w2) _ _
    refine Res.lf fun d eg F σ H ow ok Q k => ?_
    obtain ⟨esm, rfl⟩ := ifs_some eg
    refine qi F σ H ow ok _ fun J H1 c k1 ok1 hc itk D0 hD => ?_
    have nD : ∀ a o, H1 a = some o → a ≠ D0 := fun a o e => ne_of_none e hD
    have kN : KeepE B H1 (upd H1 D0 (.lst [])) := .new hD
    refine ⟨fun i m Hi => m = ds.length - i ∧ i ≤ ds.length ∧ ∃ wi ys1 ys2 acc, lcGo fg p f env (ds.drop i) wi = .ok ys2 w2 ∧ ys = ys1 ++ ys2 ∧ KeepE B H1 Hi ∧ B.wd.rel wi Hi ∧ Hi D0 = some (.lst acc) ∧ DRs Hi (Al B (Plus F D0) nw) acc ys1 ∧ ys1.length ≤ i,
      ⟨ds.length, by simp, Nat.zero_le _, w1, [], ys, [], ego, rfl, kN, (ok1.new hD).wr, upd_same, .nil, Nat.le_refl _⟩, fun i m Hi hW => ?_⟩
    obtain ⟨rfl, hil, wi', ys1, ys2, acc, e1, e2, kH, rl, hAcc, hDr, hlen⟩ := hW
    have stab : ∀ a o, (Al B F ni a ∨ a ∈ c) → H1 a = some o → Hi a = some o := fun a o h e => kH a o e (h.elim (fun z => ok1.alFp z) fun z => (hc a z).1)
    obtain ⟨item, stop⟩ := itk Hi stab
    have okP : OK B Γ (Plus F D0) env σ wi' Hi ow := ok1.plus kH rl hD (by rw [hAcc]; simp)
    by_cases hlt : i < ds.length
    · have ed : ds[i]? = some ds[i] := List.getElem?_eq_getElem hlt
      obtain ⟨go, yl⟩ := item i _ ed
      rw [List.drop_eq_getElem_cons hlt] at e1
      unfold lcGo at e1
      cases efg : fg ds[i] env with
      | none => rw [efg] at e1; cases e1
      | some env' =>
        rw [efg] at e1
        obtain ⟨b, w3, eb, e1⟩ := bind_ok e1
        refine .inr ⟨go, fun H' => ∃ wi ys1 ys2 acc, lcGo fg p f env (ds.drop (i + 1)) wi = .ok ys2 w2 ∧ ys = ys1 ++ ys2 ∧ KeepE B H1 H' ∧ B.wd.rel wi H' ∧ H' D0 = some (.lst acc) ∧ DRs H' (Al B (Plus F D0) nw) acc ys1 ∧ ys1.length ≤ i + 1,
          fun H' hN => ⟨ds.length - (i + 1), by omega, rfl, hlt, hN⟩, fun x H' hy => ?_⟩
        obtain ⟨sm1, hx⟩ := yl x H' hy
        have okY : OK B Γ (Plus F D0) env σ wi' H' ow := okP.same sm1
        have hx' : DR H' (Al B (Plus F D0) ni) x ds[i] := by
          refine hx.to fun a o e ha => ⟨e, ?_⟩
          rcases ha with ⟨h1, h2⟩ | h1
          · exact ⟨fun z => z.elim h1.1 fun z => by rw [z] at h2; exact h2 hD, h1.2⟩
          · exact okP.al h1 ni
        have okW : OK B.nox (wipeΓ Γ vs) (Plus F D0) env (wipe σ vs) wi' H' ow := (okY.wipe hv).nox
        refine hg okW hx' efg fun σ2 ok2 out2 len2 => ⟨?_, ?_⟩
        · refine (wipe_eq len2 fun j hj => out2 j (allIn_ok his hj)).trans ?_
          exact wipe_eq (by rw [wipe_length]) fun j hj => wipe_get vs j hj
        · refine (ht env' wi').ok eb (Plus F D0) σ2 H' ow ok2 _ fun H3 k3 ok3 => ?_
          have nfD : ¬ B.wd.fp D0 := fun z => B.wd.tr w1 H1 D0 ok1.wr z hD
          have kS : KeepE B Hi H3 := (KeepE.same sm1).trans k3
          cases b with
          | false =>
            refine iteF ⟨w3, ys1, ys2, acc, e1, e2, kH.trans kS, ok3.wr, kS D0 _ hAcc nfD, okP.drs kS hDr, by omega⟩
          | true =>
            obtain ⟨y, w4, ef, e1⟩ := bind_ok e1
            obtain ⟨ys3, w5, er, e1⟩ := bind_ok e1
            cases e1
            refine iteT ((he env' w3).ok ef (Plus F D0) σ2 H3 ow ok3 _ fun v H4 k4 ok4 r4 _ => ?_)
            have kT : KeepE B Hi H4 := kS.trans k4
            have hD4 : H4 D0 = some (.lst acc) := kT D0 _ hAcc nfD
            have up : ∀ {A : Addr → Prop} {u : V} {e : D} {ys : List V} {es : List D}, DRs H4 (Al B (Plus F D0) nw) ys es → DRs (upd H4 D0 (.lst (acc ++ [v]))) (Al B (Plus F D0) nw) ys es := fun {A u e ys es} h =>
              h.to fun a o e ha => ⟨upd_keep e fun z => ha.1 (.inr z), ha⟩
            refine ⟨acc, hD4, by rw [hDr.length]; have := sm_lt esm; omega, w4, ys1 ++ [y], ys3, acc ++ [v], er, by rw [e2, List.append_assoc]; rfl, (kH.trans kT).mut hD, ?_, upd_same, ?_, by rw [List.length_append, List.length_singleton]; omega⟩
            · exact B.wd.loc w4 H4 _ ok4.wr fun a fa => upd_ne fun z => nfD (by rw [← z]; exact fa)
            · exact up (A := fun _ => True) (u := v) (e := y) ((okP.drs kT hDr).append (.one r4))
    · have ei : i = ds.length := by omega
      subst ei
      rw [List.drop_length] at e1
      cases e1
      rw [List.append_nil] at e2
      subst e2
      refine .inl ⟨stop, k (.ref D0) Hi (k1.trans kH) (ok1.ext kH rl) (.lst (ok1.al hD nw) hAcc (hDr.to fun a o e ha => ⟨e, fun z => ha.1 (.inl z), ha.2⟩)) fun _ q e => ?_⟩
      cases e
      exact ⟨ok.free k1 ok1.wr hD, fun _ _ => ⟨acc, hAcc⟩⟩
end
end DL

namespace DL
open PySem PySem.Spec PyProof.Rows L2

/-! ### no list within itself -/
theorem dsz_mem {ds : List D} {d : D} (h : d ∈ ds) : sizeOf d < sizeOf ds := List.sizeOf_lt_of_mem h
mutual
theorem DR.fun {H : Hp} {A A' : Addr → Prop} : ∀ {v : V} {d d' : D}, DR H A v d → DR H A' v d' → d = d'
  | _, _, _, .non, h => by cases h; rfl
  | _, _, _, .bl b, h => by cases h; rfl
  | _, _, _, .int i, h => by cases h; rfl
  | _, _, _, .str x, h => by cases h; rfl
  | _, _, _, .lst _ e1 h1, h => by
    cases h with
    | lst _ e2 h2 => rw [e1] at e2; cases e2; rw [DRs.fun h1 h2]
    | tup _ e2 _ => rw [e1] at e2; cases e2
  | _, _, _, .tup _ e1 h1, h => by
    cases h with
    | lst _ e2 _ => rw [e1] at e2; cases e2
    | tup _ e2 h2 => rw [e1] at e2; cases e2; rw [DRs.fun h1 h2]
theorem DRs.fun {H : Hp} {A A' : Addr → Prop} : ∀ {v : List V} {d d' : List D}, DRs H A v d → DRs H A' v d' → d = d'
  | _, _, _, .nil, h => by cases h; rfl
  | _, _, _, .cons a b, h => by
    cases h with
    | cons a' b' => rw [DR.fun a a', DRs.fun b b']
end
mutual
theorem DR.avoid {H : Hp} {A : Addr → Prop} {p : Addr} {D0 : D} {A0 : Addr → Prop} (h0 : DR H A0 (.ref p) D0) : ∀ {v : V} {d : D}, DR H A v d → sizeOf d < sizeOf D0 → DR H (fun a => A a ∧ a ≠ p) v d
  | _, _, .non, _ => .non
  | _, _, .bl b, _ => .bl b
  | _, _, .int i, _ => .int i
  | _, _, .str x, _ => .str x
  | _, _, .lst (a := a) (ds := ds) ha e h, z => .lst ⟨ha, fun q => by
      subst q
      have := DR.fun h0 (.lst ha e h)
      rw [this] at z
      exact absurd z (Nat.lt_irrefl _)⟩ e (DRs.avoid h0 h (Nat.lt_trans (by simp) z))
  | _, _, .tup (a := a) (ds := ds) ha e h, z => .tup ⟨ha, fun q => by
      subst q
      have := DR.fun h0 (.tup ha e h)
      rw [this] at z
      exact absurd z (Nat.lt_irrefl _)⟩ e (DRs.avoid h0 h (Nat.lt_trans (by simp) z))
theorem DRs.avoid {H : Hp} {A : Addr → Prop} {p : Addr} {D0 : D} {A0 : Addr → Prop} (h0 : DR H A0 (.ref p) D0) : ∀ {v : List V} {d : List D}, DRs H A v d → sizeOf d < sizeOf D0 → DRs H (fun a => A a ∧ a ≠ p) v d
  | _, _, .nil, _ => .nil
  | _, _, .cons h hs, z => .cons (DR.avoid h0 h (Nat.lt_trans (by simp; omega) z)) (DRs.avoid h0 hs (Nat.lt_trans (by simp; omega) z))
end
theorem DRs.acyc {W : Type} {B : Base W} {F : Addr → Prop} {H : Hp} {nw : Bool} {p : Addr} {xs : List V} {ds : List D} (e : H p = some (.lst xs)) (h : DRs H (Al B F nw) xs ds) : DRs H (Al B (Plus F p) nw) xs ds :=
  (DRs.avoid (DR.lst (A := fun _ => True) trivial e (h.to fun a o e _ => ⟨e, trivial⟩)) h (by simp)).to fun a o e ha => ⟨e, fun z => z.elim ha.1.1 ha.2, ha.1.2⟩

/-- how a block ends -/
inductive Fl where
  | nx (env : List D) | rt (d : D) | bk (env : List D) | ct (env : List D)
abbrev SF (W : Type) := List D → W → Out W Fl
/-- the kinds of slots at each of these ends; what is returned -/
structure Po where
  nx : List SK
  bk : List SK
  ct : List SK
  nw : Bool
  ft : Bool
section
variable {W : Type} (B : Base W)
structure Ext (F : Addr → Prop) (w : W) (H : Hp) : Prop where
  wr : B.wd.rel w H
  fpF : ∀ a, B.wd.fp a → F a
  dom : ∀ a, F a → H a ≠ none
  k0 : ∀ a o, B.H0 a = some o → ¬ B.wd.fp a → H a = some o
  f0 : ∀ a, B.H0 a ≠ none → (F a ↔ B.F0 a)
def RTop (H : Hp) (v : V) (d : D) : Prop := ∀ p, v = .ref p → B.H0 p = none ∧ ∀ ds, d = .list ds → ∃ xs, H p = some (.lst xs)
def SEnd (P : Po) (F : Addr → Prop) (H : Hp) (w' : W) (D : Ends) : Fl → Prop
  | .nx env' => ∀ F' σ' H' ow', Keep F H F' H' → OK B P.nx F' env' σ' w' H' ow' → D.nx σ' H'
  | .bk env' => ∀ F' σ' H' ow', Keep F H F' H' → OK B P.bk F' env' σ' w' H' ow' → D.bk σ' H'
  | .ct env' => ∀ F' σ' H' ow', Keep F H F' H' → OK B P.ct F' env' σ' w' H' ow' → D.ct σ' H'
  | .rt d => ∀ v F' H', Keep F H F' H' → Ext B F' w' H' → DR H' (Al B F' P.nw) v d → (P.ft = true → RTop B H' v d) → D.rt v H'
def XS (F : Addr → Prop) (H : Hp) (w' : W) (e : Xc) : Prop := ∀ C a F' H', Keep F H F' H' → Ext B F' w' H' → XR B F' e C a H' → B.xe C a H'
def SS (Γ : List SK) (P : Po) (t : TS) (f : SF W) : Prop :=
  ∀ (env : List D) (w : W), Res (f env w)
    (fun r w' => ∀ (F : Addr → Prop) (σ : L2.St) (H : Hp) (ow : Nat → List Addr), OK B Γ F env σ w H ow → ∀ D : Ends, SEnd B P F H w' D r → t D σ H)
    (fun e w' => ∀ (F : Addr → Prop) (σ : L2.St) (H : Hp) (ow : Nat → List Addr), OK B Γ F env σ w H ow → XS B F H w' e → ∀ D : Ends, t D σ H)
end

section
variable {W : Type} {B : Base W} {Γ Γ' Γ1 : List SK} {F F' F1 : Addr → Prop} {env env' : List D} {σ σ' : L2.St} {w w' : W} {H H' H1 H2 : Hp} {ow : Nat → List Addr} {P P1 : Po}
variable {fa fb fl : FK} {xa xb ft : Bool} {ta tb te : TE} {a b f : EF W} {nw : Bool} {t u : TS} {s r : SF W}

theorem OK.exts (ok : OK B Γ F env σ w H ow) : Ext B F w H := ⟨ok.wr, ok.fpF, ok.dom, ok.k0, ok.f0⟩
theorem XS.xp (ok : OK B Γ F env σ w H ow) {e : Xc} (x : XS B F H w' e) : XP B F H w' e := fun C a H' k r xr => x C a F H' (k.keep ok.fpF) (ok.ext k r).exts xr
theorem XS.at {e : Xc} (x : XS B F H w e) (k : Keep F H F1 H1) : XS B F1 H1 w e := fun C a F' H' k1 r xr => x C a F' H' (k.trans k1) r xr
theorem SEnd.at {D : Ends} : ∀ {r : Fl}, SEnd B P F H w D r → Keep F H F1 H1 → SEnd B P F1 H1 w D r
  | .nx _, h, k => fun F' σ' H' ow' k1 ok => h F' σ' H' ow' (k.trans k1) ok
  | .bk _, h, k => fun F' σ' H' ow' k1 ok => h F' σ' H' ow' (k.trans k1) ok
  | .ct _, h, k => fun F' σ' H' ow' k1 ok => h F' σ' H' ow' (k.trans k1) ok
  | .rt _, h, k => fun v F' H' k1 r q1 q2 => h v F' H' (k.trans k1) r q1 q2
/-- less is known at the start -/
theorem ss_weak (h : SS B Γ1 P t s) (hl : leΓ Γ Γ1 = true) : SS B Γ P t s := fun env w =>
  (h env w).mono (fun r w' q F σ H ow ok D k => by
    obtain ⟨F1, ow1, kp, ok1⟩ := ok.weak hl
    exact q F1 σ H ow1 ok1 D (k.at kp)) fun e w' q F σ H ow ok x D => by
    obtain ⟨F1, ow1, kp, ok1⟩ := ok.weak hl
    exact q F1 σ H ow1 ok1 (x.at kp) D
def lePo (P Q : Po) : Bool := leΓ P.nx Q.nx && leΓ P.bk Q.bk && leΓ P.ct Q.ct && (!Q.nw || P.nw) && (!Q.ft || P.ft)
theorem ss_post (h : SS B Γ P1 t s) (hl : leΓ P1.nx P.nx = true) (e1 : P1.bk = P.bk) (e2 : P1.ct = P.ct) (e3 : P1.nw = P.nw) (e4 : P1.ft = P.ft) : SS B Γ P t s := fun env w =>
  (h env w).mono (fun r w' q F σ H ow ok D k => q F σ H ow ok D (by
    cases r with
    | nx e =>
      intro F' σ' H' ow' kp ok'
      obtain ⟨F2, ow2, kp2, ok2⟩ := OK.weak ok' hl
      exact k F2 σ' H' ow2 (kp.trans kp2) ok2
    | bk e => intro F' σ' H' ow' kp ok'; rw [e1] at ok'; exact k F' σ' H' ow' kp ok'
    | ct e => intro F' σ' H' ow' kp ok'; rw [e2] at ok'; exact k F' σ' H' ow' kp ok'
    | rt d => intro v F' H' kp x q1 q2; rw [e3] at q1; rw [e4] at q2; exact k v F' H' kp x q1 q2)) fun _ _ q => q

/-! ### blocks -/
def fNil {W : Type} : SF W := fun env w => .ok (.nx env) w
def fSeq {W : Type} (s r : SF W) : SF W := fun env w => (s env w).bind fun x w => match x with
  | .nx env' => r env' w
  | y => .ok y w
theorem ss_nil (h : P.nx = Γ) : SS B Γ P tNext fNil := fun env w F σ H ow ok D k => k F σ H ow (.refl F H) (h ▸ ok)
theorem ss_cons (h1 : SS B Γ { P with nx := Γ1 } t s) (h2 : SS B Γ1 P u r) : SS B Γ P (tSeq t u) (fSeq s r) := fun env w => by
  refine Res.bind (h1 env w) (fun x w1 q1 => ?_) fun e w1 q1 F σ H ow ok x D => q1 F σ H ow ok x _
  cases x with
  | nx env' =>
    exact (h2 env' w1).mono (fun y w2 q2 F σ H ow ok D k => q1 F σ H ow ok _ fun F' σ' H' ow' kp ok' => q2 F' σ' H' ow' ok' D (k.at kp)) fun e w2 q2 F σ H ow ok x D => q1 F σ H ow ok _ fun F' σ' H' ow' kp ok' => q2 F' σ' H' ow' ok' (x.at kp) D
  | rt d => exact fun F σ H ow ok D k => q1 F σ H ow ok _ k
  | bk e => exact fun F σ H ow ok D k => q1 F σ H ow ok _ k
  | ct e => exact fun F σ H ow ok D k => q1 F σ H ow ok _ k
theorem ss_pass (h : P.nx = Γ) : SS B Γ P tNext fNil := ss_nil h
def fBrk {W : Type} : SF W := fun env w => .ok (.bk env) w
def fCnt {W : Type} : SF W := fun env w => .ok (.ct env) w
theorem ss_break (h : P.bk = Γ) : SS B Γ P tBreak fBrk := fun env w F σ H ow ok D k => k F σ H ow (.refl F H) (h ▸ ok)
theorem ss_cont (h : P.ct = Γ) : SS B Γ P tCont fCnt := fun env w F σ H ow ok D k => k F σ H ow (.refl F H) (h ▸ ok)
def fDrop {W : Type} (a : EF W) : SF W := fun env w => (a env w).bind fun _ w => .ok (.nx env) w
theorem ss_drop (ha : SE B Γ fa xa te a) (h : P.nx = Γ) : SS B Γ P (tDrop te) (fDrop a) := fun env w => by
  refine Res.bind (ha env w) (fun x w1 qa F σ H ow ok D k => ?_) fun e w1 qa F σ H ow ok x D => qa F σ H ow ok (x.xp ok) _
  exact qa F σ H ow ok _ fun v H' kE ok' _ _ => k F σ H' ow (kE.keep ok.fpF) (h ▸ ok')
def fRet {W : Type} (a : EF W) : SF W := fun env w => (a env w).bind fun d w => .ok (.rt d) w
theorem ss_ret (ha : SE B Γ (.ok nw) xa te a) (h1 : (!P.nw || nw) = true) (h2 : (!P.ft || xa) = true) : SS B Γ P (tRet te) (fRet a) := fun env w => by
  refine Res.bind (ha env w) (fun x w1 qa F σ H ow ok D k => ?_) fun e w1 qa F σ H ow ok x D => qa F σ H ow ok (x.xp ok) _
  exact qa F σ H ow ok _ fun v H' kE ok' r tp => k v F H' (kE.keep ok.fpF) ok'.exts (DR.nw (imp_b h1) r) fun z p e => ⟨ok.free0 (tp (imp_b h2 z) p e).1, (tp (imp_b h2 z) p e).2⟩
/-- a list of one's own is handed back -/
theorem leK_refl : ∀ k : SK, leK k k = true := fun k => by
  cases k <;> simp [leK]
theorem leL_refl : ∀ Γ : List SK, leL Γ Γ = true
  | [] => rfl
  | k :: Γ => by show (leK k k && leL Γ Γ) = true; rw [leK_refl, leL_refl Γ]; rfl
theorem leL_set : ∀ {Γ : List SK} {i : Nat} {k k' : SK}, Γ[i]? = some k → leK k k' = true → leL Γ (Γ.set i k') = true
  | [], i, k, k', h, _ => by simp at h
  | a :: Γ, 0, k, k', h, e => by
    have : a = k := by simpa using h
    subst this
    show (leK a k' && leL Γ Γ) = true
    rw [e, leL_refl]; rfl
  | a :: Γ, i + 1, k, k', h, e => by
    show (leK a a && leL Γ (Γ.set i k')) = true
    rw [leK_refl, leL_set (by simpa using h) e]; rfl
theorem ss_retO {i : Nat} {k : SK} (h : Γ[i]? = some k) (hk : leK k (.s nw) = true) (ho : isOwn k = true) (hb : bOk (Γ.set i (.s nw)) = true) (h1 : (!P.nw || nw) = true) : SS B Γ P (tRet (tVar i)) (fRet (fVar i)) := fun env w F σ H ow ok D kk => by
  have hl : leΓ Γ (Γ.set i (.s nw)) = true := by unfold leΓ; rw [leL_set h hk, hb]; rfl
  obtain ⟨F1, ow1, kp, ok1⟩ := ok.weak hl
  have hi : i < Γ.length := (List.getElem?_eq_some_iff.mp h).1
  obtain ⟨_, v, e, r⟩ := ok1.sl i (.s nw) (List.getElem?_set_self hi)
  refine ⟨v, e, kk v F1 H kp ok1.exts (DR.nw (imp_b h1) r) fun _ p ep => ?_⟩
  subst ep
  have q := ok.sl i k h
  cases k with
  | o n =>
    obtain ⟨a, xs, ds, h0, h1, h2, h3, h4⟩ := q
    rw [e] at h1
    cases h1
    exact ⟨(ok.own i p (by rw [h0]; simp)).2.2, fun _ _ => ⟨xs, h3⟩⟩
  | o2 n =>
    obtain ⟨a, as, ds, h0, h1, h2, h3, h4⟩ := q
    rw [e] at h1
    cases h1
    exact ⟨(ok.own i p (by rw [h0]; simp)).2.2, fun _ _ => ⟨_, h3⟩⟩
  | u => cases ho
  | s _ => cases ho
  | b _ => cases ho
  | f => cases ho
def fRetN {W : Type} : SF W := fun _ w => .ok (.rt .none) w
theorem ss_retN : SS B Γ P tRetN fRetN := fun env w F σ H ow ok D k => k .non F H (.refl F H) ok.exts .non fun _ p e => nomatch e
def fIfS {W : Type} (p : List D → W → Out W Bool) (s r : SF W) : SF W := fun env w => (p env w).bind fun b w => match b with
  | true => s env w
  | false => r env w
theorem ss_if {tc : TT} {p : List D → W → Out W Bool} (hp : ST B Γ tc p) (h1 : SS B Γ P t s) (h2 : SS B Γ P u r) : SS B Γ P (tIfS tc t u) (fIfS p s r) := fun env w => by
  refine Res.bind (hp env w) (fun b w1 qp => ?_) fun e w1 qa F σ H ow ok x D => qa F σ H ow ok (x.xp ok) _
  cases b with
  | true => exact (h1 env w1).mono (fun y w2 q F σ H ow ok D k => qp F σ H ow ok _ fun H1 k1 ok1 => iteT (q F σ H1 ow ok1 D (k.at (k1.keep ok.fpF)))) fun e w2 q F σ H ow ok x D => qp F σ H ow ok _ fun H1 k1 ok1 => iteT (q F σ H1 ow ok1 (x.at (k1.keep ok.fpF)) D)
  | false => exact (h2 env w1).mono (fun y w2 q F σ H ow ok D k => qp F σ H ow ok _ fun H1 k1 ok1 => iteF (q F σ H1 ow ok1 D (k.at (k1.keep ok.fpF)))) fun e w2 q F σ H ow ok x D => qp F σ H ow ok _ fun H1 k1 ok1 => iteF (q F σ H1 ow ok1 (x.at (k1.keep ok.fpF)) D)

/-! ### assignments -/
def fAsg {W : Type} (a : EF W) (g : D → List D → Option (List D)) : SF W := fun env w => (a env w).bind fun d w => (lf (g d env) w).bind fun env' w => .ok (.nx env') w
theorem ss_asg {g : TG} {is : List Nat} {fg : D → List D → Option (List D)} (ha : SE B Γ (.ok nw) xa te a) (hg : STg B g Γ P.nx nw is fg) : SS B Γ P (tAsg te g) (fAsg a fg) := fun env w => by
  refine Res.bind (ha env w) (fun d w1 qa => Res.bindlf fun env' eg F σ H ow ok D k => ?_) fun e w1 qa F σ H ow ok x D => qa F σ H ow ok (x.xp ok) _
  refine qa F σ H ow ok _ fun v H1 k1 ok1 r1 _ => hg ok1 r1 eg fun σ2 ok2 _ _ => k F σ2 H1 ow (k1.keep ok.fpF) ok2
/-- a new list of one's own -/
def fOwn {W : Type} (a : EF W) (i : Nat) : SF W := fun env w => (a env w).bind fun d w => (lf (unL d) w).bind fun ds w => .ok (.nx (env.set i (.list ds))) w
theorem ss_own {i : Nat} (ha : SE B Γ (.ok nw) true te a) (hp : plain Γ[i]? = true) (hn : P.nx = Γ.set i (.o nw)) : SS B Γ P (tAsg te (gName i)) (fOwn a i) := fun env w => by
  refine Res.bind (ha env w) (fun d w1 qa => Res.bindlf fun ds eg F σ H ow ok D k => ?_) fun e w1 qa F σ H ow ok x D => qa F σ H ow ok (x.xp ok) _
  have ed := unL_some eg
  subst ed
  refine qa F σ H ow ok _ fun v H1 k1 ok1 r1 tp => ?_
  obtain ⟨p, xs, rfl, l1, l2, l3⟩ := DR.lst_inv (show DR H1 (Al B F nw) v (.list ds) from r1)
  obtain ⟨hp0, hp1⟩ := tp rfl p rfl
  have okP := ok.plus k1 ok1.wr hp0 (by rw [l2]; simp)
  obtain ⟨o, lt, nb⟩ := plain_ow ok hp
  have nfp : ¬ B.wd.fp p := ok1.alFp l1
  have noOw : ∀ j, p ∉ ow j := fun j z => ok.dom p (ok.own j p z).1 hp0
  have items : DRs H1 (Al B (Plus F p) nw) xs ds := DRs.acyc l2 l3
  have q := okP.put (i := i) (kd := .o nw) (d := .list ds) (sv := some (.ref p)) (on := [p]) (F' := Plus F p) (H' := H1) (w' := w1) lt (fun j e => absurd e (nb j)) (fun a o e n => ⟨e, n⟩) (fun j _ a ha o e => ⟨e, (okP.own j a ha).1⟩) okP.wr okP.fpF okP.dom okP.k0 okP.f0
    (fun a ha => by rw [List.mem_singleton.mp ha]; exact ⟨.inr rfl, nfp, ok.free0 hp0⟩) (by simp) (fun j _ a ha => by rw [List.mem_singleton.mp ha]; exact noOw j) ⟨p, xs, ds, if_pos rfl, rfl, rfl, l2, items⟩
  refine k (Plus F p) _ H1 _ (fun a o e n => ⟨k1 a o e fun z => n (ok.fpF a z), fun z => z.elim n fun z => ?_⟩) (by rw [hn]; exact q)
  rw [z, hp0] at e
  cases e
end
end DL

namespace DL
open PySem PySem.Spec PyProof.Rows L2

section
variable {W : Type} {B : Base W} {Γ Γ' Γ1 : List SK} {F F' F1 : Addr → Prop} {env env' : List D} {σ σ' : L2.St} {w w' : W} {H H' H1 H2 : Hp} {ow : Nat → List Addr} {P P1 : Po}
variable {fa fb fl : FK} {xa xb ft : Bool} {ta tb te : TE} {a b f : EF W} {nw : Bool} {t u : TS} {s r : SF W}

theorem set_same {α : Type} {l : List α} {i : Nat} {x : α} (h : l[i]? = some x) : l.set i x = l := by
  apply List.ext_getElem?
  intro j
  by_cases hj : j = i
  · subst hj; rw [List.getElem?_set_self (List.getElem?_eq_some_iff.mp h).1, h]
  · rw [List.getElem?_set_ne (Ne.symm hj)]
theorem ow_same {ow : Nat → List Addr} {i : Nat} {on : List Addr} (h : ow i = on) : (fun j => if j = i then on else ow j) = ow := by
  funext j
  by_cases hj : j = i
  · rw [if_pos hj, hj, h]
  · rw [if_neg hj]
/-- a list of one's own changes -/
theorem OK.mut (ok : OK B Γ F env σ w H ow) {i : Nat} {p : Addr} {xs' : List V} {ds' : List D} (h : Γ[i]? = some (.o nw)) (h0 : ow i = [p]) (hσ : σ[i]? = some (some (.ref p))) (new : DRs H (Al B F nw) xs' ds') :
    OK B Γ F (env.set i (.list ds')) σ w (upd H p (.lst xs')) ow ∧ Keep F H F (upd H p (.lst xs')) := by
  obtain ⟨o1, o2, o3⟩ := ok.own i p (by rw [h0]; simp)
  have kp : Keep F H F (upd H p (.lst xs')) := fun a o e n => ⟨upd_keep e fun z => n (by rw [z]; exact o1), n⟩
  have hi : i < Γ.length := (List.getElem?_eq_some_iff.mp h).1
  have q := ok.put (i := i) (kd := .o nw) (d := .list ds') (sv := some (.ref p)) (on := [p]) (F' := F) (H' := upd H p (.lst xs')) (w' := w) hi (fun _ _ => h0.symm) kp
    (fun j hj a ha o e => ⟨upd_keep e fun z => hj (ok.dj j i a ha (by rw [h0, z]; simp)), (ok.own j a ha).1⟩)
    (B.wd.loc w H _ ok.wr fun a fa => upd_ne fun z => o2 (by rw [← z]; exact fa)) ok.fpF (fun a fa => by
      by_cases hap : a = p
      · rw [hap, upd_same]; simp
      · rw [upd_ne hap]; exact ok.dom a fa)
    (fun a o e n => upd_keep (ok.k0 a o e n) fun z => by rw [z, o3] at e; cases e) ok.f0
    (fun a ha => by rw [List.mem_singleton.mp ha]; exact ⟨o1, o2, o3⟩) (by simp) (fun j hj a ha z => by rw [List.mem_singleton.mp ha] at z; exact hj (ok.dj j i p z (by rw [h0]; simp)))
    ⟨p, xs', ds', if_pos rfl, rfl, rfl, upd_same, new.to fun a o e ha => ⟨upd_keep e fun z => ha.1 (by rw [z]; exact o1), ha⟩⟩
  rw [set_same h, set_same hσ, ow_same h0] at q
  exact ⟨q, kp⟩

/-! ### methods that change a list of one's own -/
def RM (B : Base W) (Γ : List SK) (nw : Bool) (fa : FK) (r : V → List V → Hp → VK → Prop) (g : List D → List D → Option (List D)) : Prop :=
  ∀ {F : Addr → Prop} {env : List D} {σ : L2.St} {w : W} {H : Hp} {ow : Nat → List Addr} {l : Addr} {xs vs : List V} {ds es ds' : List D} {Q : VK}, OK B Γ F env σ w H ow → H l = some (.lst xs) → DRs H (Al B F nw) xs ds → AR B F H fa vs es → g ds es = some ds' →
    (∀ xs', DRs H (Al B F nw) xs' ds' → Q .non (upd H l (.lst xs'))) → r (.ref l) vs H Q
def gM (g : List D → List D → Option (List D)) (d : D) (es : List D) : Option (List D) := match d with | .list ds => g ds es | _ => none
def fMeth {W : Type} (g : List D → List D → Option (List D)) (i : Nat) (args : AF W) : SF W := fun env w => (args env w).bind fun es w => (lf (gM g (env.getD i .none) es) w).bind fun ds' w => .ok (.nx (env.set i (.list ds'))) w
theorem ss_meth {K : PySem.W.Frag} {i : Nat} {rm : V → List V → Hp → VK → Prop} {g : List D → List D → Option (List D)} {t : TA} {args : AF W} (h : Γ[i]? = some (.o nw)) (hm : RM B Γ nw fa rm g) (ha : SA B Γ fa t args) (hP : P.nx = Γ) :
    SS B Γ P (tDrop (tBM K "list" rm (tVar i) t)) (fMeth g i args) := fun env w => by
  refine Res.bind (ha env w) (fun es w1 qa => Res.bindlf fun ds' eg F σ H ow ok D k => ?_) fun e w1 qa F σ H ow ok x D => ?_
  · obtain ⟨p, xs, ds, h0, h1, h2, h3, h4⟩ := ok.sl i _ h
    rw [h2] at eg
    refine ⟨.ref p, h1, .inl ⟨rfl, xs, SqL.of h3⟩, qa F σ H ow ok _ fun vs H1 k1 ok1 r1 => ?_⟩
    obtain ⟨o1, o2, o3⟩ := ok.own i p (by rw [h0]; simp)
    refine hm ok1 (k1 p _ h3 o2) (ok.drs k1 h4) r1 eg fun xs' r2 => ?_
    obtain ⟨ok2, kp⟩ := ok1.mut h h0 h1 r2
    exact k F σ _ ow ((k1.keep ok.fpF).trans kp) (hP ▸ ok2)
  · obtain ⟨p, xs, ds, h0, h1, h2, h3, h4⟩ := ok.sl i _ h
    exact ⟨.ref p, h1, .inl ⟨rfl, xs, SqL.of h3⟩, qa F σ H ow ok (x.xp ok) _⟩
theorem ss_meth0 {K : PySem.W.Frag} {i : Nat} {rm : V → List V → Hp → VK → Prop} {g : List D → List D → Option (List D)} (h : Γ[i]? = some (.o nw)) (hm : RM B Γ nw (.ok true) rm g) (hP : P.nx = Γ) :
    SS B Γ P (tDrop (tBM0 K "list" rm (tVar i))) (fMeth g i aNil) := fun env w => by
  refine Res.bindlf fun ds' eg F σ H ow ok D k => ?_
  obtain ⟨p, xs, ds, h0, h1, h2, h3, h4⟩ := ok.sl i _ h
  rw [h2] at eg
  refine ⟨.ref p, h1, .inl ⟨rfl, xs, SqL.of h3⟩, ?_⟩
  refine hm ok h3 h4 .nil eg fun xs' r2 => ?_
  obtain ⟨ok2, kp⟩ := ok.mut h h0 h1 r2
  exact k F σ _ ow kp (hP ▸ ok2)
def mApp (ds es : List D) : Option (List D) := match es with | [e] => ifs (sm ds.length) (ds ++ [e]) | _ => none
theorem rm_append {nw : Bool} : RM B Γ nw (.ok nw) rAppend mApp := by
  intro F env σ w H ow l xs vs ds es ds' Q ok h1 h2 h3 e k
  cases es with
  | nil => cases e
  | cons d es =>
    cases es with
    | cons _ _ => cases e
    | nil =>
      obtain ⟨e1, rfl⟩ := ifs_some (show ifs _ _ = some ds' from e)
      have h3' : DRs H (Al B F nw) vs [d] := h3
      cases h3' with
      | cons ha hb =>
        cases hb
        exact ⟨l, xs, _, rfl, rfl, h1, by rw [h2.length]; exact sm_lt e1, k _ (h2.append (.one ha))⟩
def mExt (ds es : List D) : Option (List D) := match es with | [.list fs] => ifs (sm (ds.length + fs.length)) (ds ++ fs) | _ => none
theorem rm_extend {nw : Bool} : RM B Γ nw (.ok nw) rExtend mExt := by
  intro F env σ w H ow l xs vs ds es ds' Q ok h1 h2 h3 e k
  cases es with
  | nil => cases e
  | cons d es =>
    cases es with
    | cons _ _ => cases d <;> cases e
    | nil =>
      cases d <;> first | (cases e; done) | skip
      rename_i fs
      obtain ⟨e1, rfl⟩ := ifs_some (show ifs _ _ = some ds' from e)
      have h3' : DRs H (Al B F nw) vs [.list fs] := h3
      cases h3' with
      | cons ha hb =>
        cases hb
        obtain ⟨b, zs, rfl, b1, b2, b3⟩ := ha.lst_inv
        exact ⟨l, b, xs, zs, rfl, rfl, h1, b2, by rw [h2.length, b3.length]; exact sm_le e1, k _ (h2.append b3)⟩
def mRev (ds es : List D) : Option (List D) := match es with | [] => some ds.reverse | _ => none
theorem rm_reverse {nw : Bool} {fa : FK} : RM B Γ nw fa rReverse mRev := by
  intro F env σ w H ow l xs vs ds es ds' Q ok h1 h2 h3 e k
  cases es with
  | cons _ _ => cases e
  | nil =>
    cases e
    have hv : vs = [] := by
      cases fa <;> (cases h3; rfl)
    subst hv
    exact ⟨l, xs, rfl, rfl, h1, k _ h2.reverse⟩

/-! ### x[i] = e, x[i] op= e -/
def ixD (n : Nat) (i : Int) : Option Nat := match i with
  | .ofNat j => ifs (Nat.blt j n) j
  | .negSucc m => ifs (Nat.blt m n) (n - (m + 1))
theorem ixD_ixN {n : Nat} {i : Int} {j : Nat} (h : ixD n i = some j) : ixN n i = some j := by
  cases i with
  | ofNat m =>
    obtain ⟨e1, rfl⟩ := ifs_some (show ifs _ _ = some j from h)
    have : m < n := Nat.le_of_ble_eq_true e1
    unfold ixN
    rw [if_pos (by show (0 : Int) ≤ (m : Int); omega), if_pos (by show (m : Int) < n; omega)]
    rfl
  | negSucc m =>
    obtain ⟨e1, rfl⟩ := ifs_some (show ifs _ _ = some j from h)
    have : m < n := Nat.le_of_ble_eq_true e1
    unfold ixN
    rw [if_neg (by omega), if_pos (by omega)]
    congr 1
    omega
def gSet (d i e : D) : Option (List D) := match d, i with
  | .list ds, .int k => match ixD ds.length k with | some j => some (ds.set j e) | none => none
  | _, _ => none
theorem gSet_some {d i e : D} {ds' : List D} (h : gSet d i e = some ds') : ∃ ds k j, d = .list ds ∧ i = .int k ∧ ixN ds.length k = some j ∧ ds' = ds.set j e := by
  cases d <;> first | (cases h; done) | skip
  cases i <;> first | (cases h; done) | skip
  rename_i ds k
  have h' : (match ixD ds.length k with | some j => some (ds.set j e) | none => none) = some ds' := h
  cases ej : ixD ds.length k with
  | none => rw [ej] at h'; cases h'
  | some j => rw [ej] at h'; cases h'; exact ⟨ds, k, j, rfl, rfl, ixD_ixN ej, rfl⟩
def fSet {W : Type} (i : Nat) (ix a : EF W) : SF W := fun env w => (a env w).bind fun e w => (ix env w).bind fun k w => (lf (gSet (env.getD i .none) k e) w).bind fun ds' w => .ok (.nx (env.set i (.list ds'))) w
theorem ss_setL {i : Nat} {n1 : Bool} (h : Γ[i]? = some (.o nw)) (ha : SE B Γ (.ok n1) xa ta a) (hn : (!nw || n1) = true) (hb : SE B Γ fb xb tb b) (hP : P.nx = Γ) : SS B Γ P (tAsg ta (gSub (tVar i) tb rSetL)) (fSet i b a) := fun env w => by
  refine Res.bind (ha env w) (fun e w1 qa => Res.bind (hb env w1) (fun k w2 qb => Res.bindlf fun ds' eg F σ H ow ok D kk => ?_) fun e w2 qb F σ H ow ok x D => ?_) fun e w1 qa F σ H ow ok x D => qa F σ H ow ok (x.xp ok) _
  · obtain ⟨p, xs, ds, h0, h1, h2, h3, h4⟩ := ok.sl i _ h
    obtain ⟨o1, o2, o3⟩ := ok.own i p (by rw [h0]; simp)
    rw [h2] at eg
    obtain ⟨ds0, k', j, q1, rfl, q2, rfl⟩ := gSet_some eg
    cases q1
    refine qa F σ H ow ok _ fun v H1 k1 ok1 r1 _ => ⟨.ref p, h1, qb F σ H1 ow ok1 _ fun u H2 k2 ok2 r2 _ => ?_⟩
    have ev := (ok2.toDp r2).int_inv
    subst ev
    have kT := k1.trans k2
    refine ⟨p, xs, k', j, rfl, rfl, kT p _ h3 o2, by rw [h4.length]; exact q2, ?_⟩
    obtain ⟨ok3, kp⟩ := ok2.mut h h0 h1 ((ok.drs kT h4).set (DR.nw (imp_b hn) (ok2.dr k2 r1)) j)
    exact kk F σ _ ow ((kT.keep ok.fpF).trans kp) (hP ▸ ok3)
  · obtain ⟨p, xs, ds, h0, h1, h2, h3, h4⟩ := ok.sl i _ h
    exact qa F σ H ow ok _ fun v H1 k1 ok1 r1 _ => ⟨.ref p, h1, qb F σ H1 ow ok1 ((x.xp ok).at k1) _⟩
theorem pget_list {X : Cx} : PGet X (rIxL X.K) := by
  intro pins s σ H x y v u Q I rx ry h
  obtain ⟨p, xs, i, z, rfl, rfl, hq, he, q⟩ := h
  cases rx
  obtain ⟨t, rfl⟩ := ry
  obtain ⟨its, r, pl, hz⟩ := I.list hq
  obtain ⟨j, h1, h2, h3, h4, h5⟩ := atI_get he
  obtain ⟨w, ew, rw'⟩ := r.get h2
  have hl := r.length
  have hn := line63
  have fin : EP X pins σ Q w s := ⟨z, H, I, rw', q⟩
  by_cases h0 : 0 ≤ i
  · have hj : i.toNat = j := by
      rw [seqIndex_of h0 h5] at h1
      exact Option.some.inj h1
    exact wpAny_getItem_list pl.isList h0 (by omega) (by rw [hj]; simpa using ew) fin
  · have hj : (i + (its.toArray.size : Int)).toNat = j := by
      rw [seqIndex_neg (by omega) h4] at h1
      rw [List.size_toArray, ← hl]
      exact Option.some.inj h1
    exact wpAny_getItem_list_neg pl.isList (by omega) (by rw [List.size_toArray] <;> omega) (by omega) (by rw [hj]; simpa using ew) fin
/-- x[i] op= e, ints -/
def fSetA {W : Type} (i : Nat) (op : Int → Int → Int) (ix a : EF W) : SF W := fun env w => (ix env w).bind fun k w => (lf (dIxL (env.getD i .none) k) w).bind fun old w => (a env w).bind fun e w => (lf (gInt op old e) w).bind fun z w => (lf (gSet (env.getD i .none) k z) w).bind fun ds' w => .ok (.nx (env.set i (.list ds'))) w
theorem ss_setA {K : PySem.W.Frag} {i : Nat} {op : Int → Int → Int} (h : Γ[i]? = some (.o nw)) (ha : SE B Γ fa xa ta a) (hb : SE B Γ fb xb tb b) (hP : P.nx = Γ) : SS B Γ P (tAugS (tVar i) tb ta (rIxL K) (ipI op) rSetL) (fSetA i op b a) := fun env w => by
  refine Res.bind (hb env w) (fun k w1 qb => Res.bindlf fun old eo => Res.bind (ha env w1) (fun e w2 qa => Res.bindlf fun z ez => Res.bindlf fun ds' eg F σ H ow ok D kk => ?_) fun e w2 qa F σ H ow ok x D => ?_) fun e w1 qb F σ H ow ok x D => ?_
  · obtain ⟨p, xs, ds, h0, h1, h2, h3, h4⟩ := ok.sl i _ h
    obtain ⟨o1, o2, o3⟩ := ok.own i p (by rw [h0]; simp)
    rw [h2] at eg eo
    obtain ⟨ds0, k', j, q1, rfl, q2, rfl⟩ := gSet_some eg
    cases q1
    obtain ⟨i1, i2, rfl, rfl, rfl⟩ := gInt_some ez
    refine ⟨.ref p, h1, qb F σ H ow ok _ fun u H1 k1 ok1 r1 _ => ?_⟩
    have ev := (ok1.toDp r1).int_inv
    subst ev
    have h4' := ok.drs k1 h4
    obtain ⟨j', e1, e2⟩ := atD_atI (xs := xs) h4'.length (show atD ds k' = some (.int i1) from eo)
    obtain ⟨v, q3, q4⟩ := h4'.get e1
    have ev := DR.int_inv q4
    subst ev
    refine ⟨p, xs, k', .int i1, rfl, rfl, SqL.of (k1 p _ h3 o2), e2 _ q3, qa F σ H1 ow ok1 _ fun y H2 k2 ok2 r2 _ => ?_⟩
    have ev := (ok2.toDp r2).int_inv
    subst ev
    have kT := k1.trans k2
    refine ⟨i1, i2, rfl, rfl, p, xs, k', j, rfl, rfl, kT p _ h3 o2, by rw [h4.length]; exact q2, ?_⟩
    obtain ⟨ok3, kp⟩ := ok2.mut h h0 h1 ((ok.drs kT h4).set (DR.int _) j)
    exact kk F σ _ ow ((kT.keep ok.fpF).trans kp) (hP ▸ ok3)
  · obtain ⟨p, xs, ds, h0, h1, h2, h3, h4⟩ := ok.sl i _ h
    obtain ⟨o1, o2, o3⟩ := ok.own i p (by rw [h0]; simp)
    rw [h2] at eo
    cases k <;> first | (cases eo; done) | skip
    rename_i k'
    refine ⟨.ref p, h1, qb F σ H ow ok _ fun u H1 k1 ok1 r1 _ => ?_⟩
    have ev := (ok1.toDp r1).int_inv
    subst ev
    have h4' := ok.drs k1 h4
    obtain ⟨j', e1, e2⟩ := atD_atI (xs := xs) h4'.length (show atD ds k' = some old from eo)
    obtain ⟨v, q3, q4⟩ := h4'.get e1
    exact ⟨p, xs, k', v, rfl, rfl, SqL.of (k1 p _ h3 o2), e2 _ q3, qa F σ H1 ow ok1 ((x.xp ok).at k1) _⟩
  · obtain ⟨p, xs, ds, h0, h1, h2, h3, h4⟩ := ok.sl i _ h
    exact ⟨.ref p, h1, qb F σ H ow ok (x.xp ok) _⟩
/-- x op= e, ints -/
def fAug {W : Type} (i : Nat) (op : Int → Int → Int) (a : EF W) : SF W := fun env w => (a env w).bind fun e w => (lf (gInt op (env.getD i .none) e) w).bind fun z w => .ok (.nx (env.set i z)) w
theorem ss_aug {i : Nat} {op : Int → Int → Int} {n0 : Bool} (h : Γ[i]? = some (.s n0)) (ha : SE B Γ fa xa ta a) (hP : P.nx = Γ.set i (.s true)) : SS B Γ P (tAug i ta (ipI op)) (fAug i op a) := fun env w => by
  refine Res.bind (ha env w) (fun e w1 qa => Res.bindlf fun z ez F σ H ow ok D kk => ?_) fun e w1 qa F σ H ow ok x D => ?_
  · obtain ⟨_, v, e1, r0⟩ := ok.sl i _ h
    obtain ⟨i1, i2, q1, rfl, rfl⟩ := gInt_some ez
    rw [q1] at r0
    have ev := DR.int_inv r0
    subst ev
    refine ⟨.int i1, e1, qa F σ H ow ok _ fun y H1 k1 ok1 r1 _ => ?_⟩
    have ev := (ok1.toDp r1).int_inv
    subst ev
    exact ⟨i1, i2, rfl, rfl, kk F _ H1 ow (k1.keep ok.fpF) (hP ▸ ok1.store (by rw [h]; rfl) (DR.int _))⟩
  · obtain ⟨_, v, e1, r0⟩ := ok.sl i _ h
    exact ⟨v, e1, qa F σ H ow ok (x.xp ok) _⟩

/-! ### loops -/
def forGo {W : Type} (fg : D → List D → Option (List D)) (fb : SF W) : List D → List D → W → Out W Fl
  | [], env, w => .ok (.nx env) w
  | d :: ds, env, w => match fg d env with
    | none => .st
    | some env1 => (fb env1 w).bind fun r w => match r with
      | .nx e => forGo fg fb ds e w
      | .ct e => forGo fg fb ds e w
      | .bk e => .ok (.nx e) w
      | .rt v => .ok (.rt v) w
def fFor {W : Type} (fi : AF W) (fg : D → List D → Option (List D)) (fb : SF W) : SF W := fun env w => (fi env w).bind fun ds w => forGo fg fb ds env w
/-- what an outcome wishes -/
def Wish (B : Base W) (P : Po) (F : Addr → Prop) (H : Hp) (D : Ends) (o : Out W Fl) : Prop := match o with
  | .st => False
  | .ok r w' => SEnd B P F H w' D r
  | .ex e w' => XS B F H w' e
theorem ss_wish (h : ∀ env w F σ H ow, OK B Γ F env σ w H ow → ∀ D, Wish B P F H D (s env w) → t D σ H) : SS B Γ P t s := fun env w => by
  cases e : s env w with
  | st => trivial
  | ok r w' => exact fun F σ H ow ok D k => h env w F σ H ow ok D (by rw [e]; exact k)
  | ex x w' => exact fun F σ H ow ok k D => h env w F σ H ow ok D (by rw [e]; exact k)
theorem Wish.at {D : Ends} {o : Out W Fl} (h : Wish B P F H D o) (k : Keep F H F1 H1) : Wish B P F1 H1 D o := by
  cases o with
  | st => exact h
  | ok r w' => exact SEnd.at h k
  | ex e w' => exact XS.at h k
/-- a block as it is asked for -/
theorem SS.use (h : SS B Γ P t s) (ok : OK B Γ F env σ w H ow) {D : Ends} (k : Wish B P F H D (s env w)) : t D σ H := by
  have q := h env w
  cases e : s env w with
  | st => rw [e] at k; exact k.elim
  | ok r w' => rw [e] at k q; exact q F σ H ow ok D k
  | ex x w' => rw [e] at k q; exact q F σ H ow ok k D
theorem SI.use {wi : TI} {fi : AF W} {str : Bool} (h : SI B Γ nw str wi fi) (ok : OK B Γ F env σ w H ow) {R : It → Hp → Prop} (k : match fi env w with
    | .st => False
    | .ok ds w' => ∀ J H' c, KeepE B H H' → OK B Γ F env σ w' H' ow → (∀ a ∈ c, ¬ B.wd.fp a ∧ (str = true → ¬ F a)) → ItOK J (Al B F nw) c H' ds → R J H'
    | .ex e w' => XP B F H w' e) : wi σ H R := by
  have q := h env w
  cases e : fi env w with
  | st => rw [e] at k; exact k.elim
  | ok r w' => rw [e] at k q; exact q F σ H ow ok R k
  | ex x w' => rw [e] at k q; exact q F σ H ow ok k R
theorem ST.use {α : Type} {tc : L2.St → Hp → (α → Hp → Prop) → Prop} {p : List D → W → Out W α} (h : SX B Γ tc p) (ok : OK B Γ F env σ w H ow) {Q : α → Hp → Prop} (k : match p env w with
    | .st => False
    | .ok b w' => ∀ H', KeepE B H H' → OK B Γ F env σ w' H' ow → Q b H'
    | .ex e w' => XP B F H w' e) : tc σ H Q := by
  have q := h env w
  cases e : p env w with
  | st => rw [e] at k; exact k.elim
  | ok r w' => rw [e] at k q; exact q F σ H ow ok Q k
  | ex x w' => rw [e] at k q; exact q F σ H ow ok k Q
theorem ss_for {wi : TI} {g : TG} {Γb : List SK} {is : List Nat} {ni : Bool} {fi : AF W} {fg : D → List D → Option (List D)} {fb : SF W} {tbd : TS}
    (hi : SI B Γ ni true wi fi) (hg : STg B g Γ Γb ni is fg) (hb : SS B Γb { P with nx := Γ, bk := Γ, ct := Γ } tbd fb) (hP : P.nx = Γ) : SS B Γ P (tFor wi g tbd) (fFor fi fg fb) := by
  refine ss_wish fun env w F σ H ow ok D wi' => hi.use ok ?_
  unfold fFor at wi'
  cases efi : fi env w with
  | st => rw [efi] at wi'; exact wi'
  | ex e w1 => rw [efi] at wi'; exact XS.xp ok wi'
  | ok ds w1 =>
    rw [efi] at wi'
    have wi2 : Wish B P F H D (forGo fg fb ds env w1) := wi'
    clear wi'
    generalize ho : forGo fg fb ds env w1 = o at wi2
    intro J H1 c k1 ok1 hc itk
    have kp1 : Keep F H F H1 := k1.keep ok.fpF
    refine ⟨fun i m σ Hi => m = ds.length - i ∧ i ≤ ds.length ∧ ∃ F' env' w' ow', forGo fg fb (ds.drop i) env' w' = o ∧ Keep F H1 F' Hi ∧ OK B Γ F' env' σ w' Hi ow', ⟨ds.length, by simp, Nat.zero_le _, F, env, w1, ow, ho, .refl _ _, ok1⟩, fun i m σi Hi hW => ?_⟩
    obtain ⟨rfl, hil, F', env', w', ow', e1, kp, okI⟩ := hW
    have wi3 : Wish B P F' Hi D (forGo fg fb (ds.drop i) env' w') := by rw [e1]; exact (wi2.at kp1).at kp
    have stab : ∀ a o, (Al B F ni a ∨ a ∈ c) → H1 a = some o → Hi a = some o := fun a o h e => (kp a o e (h.elim (fun z => z.1) fun z => (hc a z).2 rfl)).1
    obtain ⟨item, stop⟩ := itk Hi stab
    by_cases hlt : i < ds.length
    · have ed : ds[i]? = some ds[i] := List.getElem?_eq_getElem hlt
      obtain ⟨go, yl⟩ := item i _ ed
      rw [List.drop_eq_getElem_cons hlt] at e1 wi3
      refine .inr ⟨go, fun σ2 H2 => ∃ F' env' w' ow', forGo fg fb (ds.drop (i + 1)) env' w' = o ∧ Keep F H1 F' H2 ∧ OK B Γ F' env' σ2 w' H2 ow', fun σ2 H2 hN => ⟨ds.length - (i + 1), by omega, rfl, hlt, hN⟩, fun x H' hy => ?_⟩
      obtain ⟨sm1, hx⟩ := yl x H' hy
      unfold forGo at e1 wi3
      cases efg : fg ds[i] env' with
      | none => rw [efg] at wi3; exact wi3.elim
      | some env2 =>
        rw [efg] at e1 wi3
        simp only at e1 wi3
        have okY : OK B Γ F' env' σi w' H' ow' := okI.same sm1
        have kY : Keep F' Hi F' H' := (KeepE.same (B := B) sm1).keep okI.fpF
        have hx' : DR H' (Al B F' ni) x ds[i] := hx.to fun a o e ha => ⟨e, by
          rcases ha with ⟨h1, h2⟩ | h1
          · cases e2 : H1 a with
            | none => exact absurd e2 h2
            | some o2 => exact ⟨(kp a o2 e2 h1.1).2, h1.2⟩
          · exact okI.al h1 ni⟩
        refine hg okY hx' efg fun σ2 ok2 _ _ => hb.use ok2 ?_
        cases efb : fb env2 w' with
        | st => rw [efb] at wi3; exact wi3
        | ex e w2 => rw [efb] at wi3; exact XS.at wi3 kY
        | ok r w2 =>
          rw [efb] at wi3 e1
          cases r with
          | nx e => exact fun F3 σ3 H3 ow3 k3 ok3 => ⟨F3, e, w2, ow3, e1, (kp.trans kY).trans k3, ok3⟩
          | ct e => exact fun F3 σ3 H3 ow3 k3 ok3 => ⟨F3, e, w2, ow3, e1, (kp.trans kY).trans k3, ok3⟩
          | bk e => exact fun F3 σ3 H3 ow3 k3 ok3 => wi3 F3 σ3 H3 ow3 (kY.trans k3) (hP ▸ ok3)
          | rt v => exact SEnd.at (show SEnd B P F' Hi w2 D (.rt v) from wi3) kY
    · have ei : i = ds.length := by omega
      subst ei
      rw [List.drop_length] at wi3
      exact .inl ⟨stop, wi3 F' σi Hi ow' (.refl _ _) (hP ▸ okI)⟩
def whGo {W : Type} (p : List D → W → Out W Bool) (fb : SF W) : Nat → List D → W → Out W Fl
  | 0, _, _ => .st
  | n + 1, env, w => (p env w).bind fun b w => match b with
    | false => .ok (.nx env) w
    | true => (fb env w).bind fun r w => match r with
      | .nx e => whGo p fb n e w
      | .ct e => whGo p fb n e w
      | .bk e => .ok (.nx e) w
      | .rt v => .ok (.rt v) w
theorem ss_while {tc : TT} {p : List D → W → Out W Bool} {fb : SF W} {tbd : TS} (n : Nat) (hp : ST B Γ tc p) (hb : SS B Γ { P with nx := Γ, bk := Γ, ct := Γ } tbd fb) (hP : P.nx = Γ) : SS B Γ P (tWhile tc tbd) (whGo p fb n) := by
  refine ss_wish fun env w F σ H ow ok D wi => ?_
  generalize ho : whGo p fb n env w = o at wi
  refine ⟨fun m σ Hi => ∃ F' env' w' ow', whGo p fb m env' w' = o ∧ Keep F H F' Hi ∧ OK B Γ F' env' σ w' Hi ow', ⟨n, F, env, w, ow, ho, .refl _ _, ok⟩, fun m σi Hi hW => ?_⟩
  obtain ⟨F', env', w', ow', e1, kp, okI⟩ := hW
  have wi3 : Wish B P F' Hi D (whGo p fb m env' w') := by rw [e1]; exact wi.at kp
  cases m with
  | zero => exact wi3.elim
  | succ m =>
    refine ST.use hp okI ?_
    unfold whGo at wi3 e1
    cases ep : p env' w' with
    | st => rw [ep] at wi3; exact wi3
    | ex e w2 => rw [ep] at wi3; exact XS.xp okI wi3
    | ok b w2 =>
      rw [ep] at wi3 e1
      intro H' k2 ok2
      have kE := k2.keep okI.fpF
      cases b with
      | false => exact iteF (SEnd.at (show SEnd B P F' Hi w2 D (.nx env') from wi3) kE F' σi H' ow' (.refl _ _) (hP ▸ ok2))
      | true =>
        refine iteT ⟨fun σ3 H3 => ∃ F' env' w' ow', whGo p fb m env' w' = o ∧ Keep F H F' H3 ∧ OK B Γ F' env' σ3 w' H3 ow', fun σ' H' hN => ⟨m, Nat.lt_succ_self m, hN⟩, hb.use ok2 ?_⟩
        have wi4 : Wish B P F' Hi D ((fb env' w2).bind fun r w => match r with
          | .nx e => whGo p fb m e w
          | .ct e => whGo p fb m e w
          | .bk e => .ok (.nx e) w
          | .rt v => .ok (.rt v) w) := wi3
        have e2 : ((fb env' w2).bind fun r w => match r with
          | .nx e => whGo p fb m e w
          | .ct e => whGo p fb m e w
          | .bk e => .ok (.nx e) w
          | .rt v => .ok (.rt v) w) = o := e1
        cases efb : fb env' w2 with
        | st => rw [efb] at wi4; exact wi4
        | ex e w3 => rw [efb] at wi4; exact XS.at wi4 kE
        | ok r w3 =>
          rw [efb] at wi4 e2
          cases r with
          | nx e => exact fun F3 σ3 H3 ow3 k3 ok3 => ⟨F3, e, w3, ow3, e2, (kp.trans kE).trans k3, ok3⟩
          | ct e => exact fun F3 σ3 H3 ow3 k3 ok3 => ⟨F3, e, w3, ow3, e2, (kp.trans kE).trans k3, ok3⟩
          | bk e => exact fun F3 σ3 H3 ow3 k3 ok3 => wi4 F3 σ3 H3 ow3 (kE.trans k3) (hP ▸ ok3)
          | rt v => exact SEnd.at (show SEnd B P F' Hi w3 D (.rt v) from wi4) kE
end
end DL

namespace DL
open PySem PySem.Spec PyProof.Rows L2

section
variable {W : Type} {B : Base W} {Γ Γ' Γ1 : List SK} {F F' F1 : Addr → Prop} {env env' : List D} {σ σ' : L2.St} {w w' : W} {H H' H1 H2 : Hp} {ow : Nat → List Addr} {P P1 : Po}
variable {fa fb fl : FK} {xa xb ft : Bool} {ta tb te : TE} {a b f : EF W} {nw : Bool} {t u : TS} {s r : SF W}

/-- the arguments: the world's own, or data -/
def Args (wd : Wld W) (F : Addr → Prop) (H : Hp) : List Bool → List V → List D → Prop
  | [], [], [] => True
  | true :: ks, v :: vs, _ :: ds => v = wd.ad ∧ Args wd F H ks vs ds
  | false :: ks, v :: vs, d :: ds => DR H (fun a => ¬ F a) v d ∧ Args wd F H ks vs ds
  | _, _, _ => False
theorem Args.length {wd : Wld W} {F : Addr → Prop} {H : Hp} : ∀ {ks : List Bool} {vs : List V} {ds : List D}, Args wd F H ks vs ds → vs.length = ks.length ∧ ds.length = ks.length
  | [], [], [], _ => ⟨rfl, rfl⟩
  | true :: ks, v :: vs, _ :: ds, h => by
    obtain ⟨a, b⟩ := Args.length h.2
    simp [a, b]
  | false :: ks, v :: vs, d :: ds, h => by
    obtain ⟨a, b⟩ := Args.length h.2
    simp [a, b]
  | [], [], _ :: _, h => h.elim
  | [], _ :: _, _, h => h.elim
  | true :: _, [], _, h => h.elim
  | false :: _, [], _, h => h.elim
  | true :: _, _ :: _, [], h => h.elim
  | false :: _, _ :: _, [], h => h.elim
/-- THE PROMISE: it hands back what the mirror m gives -/
def spW (wd : Wld W) (ks : List Bool) (nw ft : Bool) (m : List D → W → Out W D) : Sp := fun vs H Q _ =>
  ∃ (F : Addr → Prop) (w : W) (ds : List D), wd.rel w H ∧ (∀ a, wd.fp a → F a) ∧ (∀ a, F a → H a ≠ none) ∧ Args wd F H ks vs ds ∧
    match m ds w with
    | .ok d w' => ∀ v H', (∀ a o, H a = some o → ¬ wd.fp a → H' a = some o) → wd.rel w' H' → DR H' (fun a => ¬ F a ∧ (nw = true → H a = none)) v d →
        (ft = true → ∀ p, v = .ref p → H p = none ∧ ∀ ds, d = .list ds → ∃ xs, H' p = some (.lst xs)) → Q v H'
    | _ => False

def runDef {W : Type} (n : Nat) (fb : SF W) (ds : List D) (w : W) : Out W D := (fb (ds ++ List.replicate (n - ds.length) .none) w).bind fun r w => match r with
  | .nx _ => .ok .none w
  | .rt d => .ok d w
  | _ => .st
def kindsOf (ks : List Bool) (n : Nat) : List SK := ks.map (fun k => if k then .f else .s false) ++ List.replicate (n - ks.length) .u
theorem args_slot {B : Base W} {F : Addr → Prop} (hF : F = B.F0) (hd : ∀ a, F a → B.H0 a ≠ none) : ∀ {ks : List Bool} {vs : List V} {ds : List D}, Args B.wd F B.H0 ks vs ds → ∀ (i : Nat) (k : SK) (n m : Nat) (ow : Nat → List Addr), (∀ j, ow j = []) →
    (ks.map (fun k => if k then SK.f else .s false) ++ List.replicate n SK.u)[i]? = some k → Slot B F B.H0 ow i k (vs.map some ++ List.replicate m Option.none)[i]? ((ds ++ List.replicate m PyData.none).getD i PyData.none)
  | ks, vs, ds, h, i, k, n, m, ow, ho, e => by
    obtain ⟨l1, l2⟩ := h.length
    by_cases hi : i < ks.length
    · rw [List.getElem?_append_left (by simpa using hi)] at e
      rw [List.getElem?_append_left (by rw [List.length_map]; omega), List.getD_eq_getElem?_getD, List.getElem?_append_left (by omega)]
      have go : ∀ {ks : List Bool} {vs : List V} {ds : List D}, Args B.wd F B.H0 ks vs ds → ∀ (j : Nat) (k : SK), (ks.map (fun k => if k then SK.f else .s false))[j]? = some k → Slot B F B.H0 ow i k (vs.map some)[j]? (ds[j]?.getD .none) := by
        intro ks
        induction ks with
        | nil => intro vs ds h j k e; simp at e
        | cons b ks ih =>
          intro vs ds h j k e
          cases vs with
          | nil => cases b <;> exact h.elim
          | cons v vs =>
            cases ds with
            | nil => cases b <;> exact h.elim
            | cons d ds =>
              cases j with
              | zero =>
                cases b with
                | true =>
                  have : SK.f = k := by simpa using e
                  subst this
                  exact ⟨ho i, by rw [← h.1]; rfl⟩
                | false =>
                  have : SK.s false = k := by simpa using e
                  subst this
                  exact ⟨ho i, v, rfl, h.1.to fun a o e ha => ⟨e, ha, fun z => nomatch z⟩⟩
              | succ j =>
                have e' : (ks.map (fun k => if k then SK.f else .s false))[j]? = some k := by simpa using e
                cases b with
                | true => exact ih h.2 j k e'
                | false => exact ih h.2 j k e'
      exact go h i k e
    · rw [List.getElem?_append_right (by simpa using hi)] at e
      have : k = .u := by
        rw [List.getElem?_replicate] at e
        split at e
        · exact (Option.some.inj e).symm
        · cases e
      subst this
      exact ho i
/-- the state at a def's entry -/
theorem ok_start {B : Base W} {ks : List Bool} {vs : List V} {ds : List D} {N : List Str} {w : W} (h : Args B.wd B.F0 B.H0 ks vs ds) (hN : ks.length ≤ N.length) (wr : B.wd.rel w B.H0) (fpF : ∀ a, B.wd.fp a → B.F0 a) (dom : ∀ a, B.F0 a → B.H0 a ≠ none) :
    OK B (kindsOf ks N.length) B.F0 (ds ++ List.replicate (N.length - ds.length) PyData.none) (L2.start N vs) w B.H0 (fun _ => []) := by
  obtain ⟨l1, l2⟩ := h.length
  refine ⟨wr, fpF, dom, fun a o e _ => e, fun a _ => Iff.rfl, ?_, ?_, fun i a z => (by cases z), fun i => List.nodup_nil, fun i j a z => (by cases z), fun i _ => rfl, fun i k e => ?_⟩
  · unfold L2.start kindsOf; simp only [List.length_append, List.length_map, List.length_replicate]; omega
  · unfold kindsOf; simp only [List.length_append, List.length_map, List.length_replicate]; omega
  · unfold L2.start
    rw [l1, l2]
    exact args_slot rfl dom h i k (N.length - ks.length) (N.length - ks.length) _ (fun _ => rfl) e

/-- THE RULE for a def that raises nothing -/
theorem fn_mk {P' : Program} {wo : World} {K : PySem.W.Frag} {mg : Str → Option Value} {base : Heap} {x qual : Str} {st : Stmt} {f : Addr} {fd : FuncData} {N ps : List Str} {k : Nat} {wd : Wld W} {ks : List Bool} {nw ft : Bool} {fb : SF W} (FF : Fun K x qual st f fd) (S : FnScope N ps (defScope st)) (hks : ks.length = ps.length)
    (hbody : ∀ (cdv : Value) (A : Around) (outer : List Env) (s : Shared) (H : Hp) (E : XK), Room k (A.deeper (envOfC qual (defScope st) s.heap.objs.size f cdv)) →
      ∃ t, PSs (cxOf CX0 P' wo K mg base N qual (defScope st) f cdv A outer s H E).nox (defBody st) t ∧ ∀ (B : Base W), B.wd = wd → ∃ Γe Γb Γc, SS B (kindsOf ks N.length) ⟨Γe, Γb, Γc, nw, ft⟩ t fb) :
    FnOk P' wo K mg base CX0 (k + 1) f fd ps (spW wd ks nw ft (runDef N.length fb)) := by
  have hpl : ps.length ≤ N.length := by have := congrArg List.length S.pre; rw [List.length_take] at this; omega
  refine FF.ok S (fun vs H Q E h => ?_) fun cdv A outer s H vs Q E hr h => ?_
  · obtain ⟨F, w, ds, _, _, _, h, _⟩ := h
    rw [h.length.1, hks]
  · obtain ⟨F, w, ds, wr, fpF, dom, ha, hm⟩ := h
    obtain ⟨t, hp, hs⟩ := hbody cdv A outer s H E hr
    refine ⟨t, hp, ?_⟩
    obtain ⟨Γe, Γb, Γc, hs⟩ := hs ⟨wd, H, F, fun _ _ _ => True, fun _ => (0, [])⟩ rfl
    have ok0 := ok_start (B := ⟨wd, H, F, fun _ _ _ => True, fun _ => (0, [])⟩) (N := N) ha (by omega) wr fpF dom
    refine hs.use ok0 ?_
    unfold runDef at hm
    cases efb : fb (ds ++ List.replicate (N.length - ds.length) .none) w with
    | st => rw [efb] at hm; exact hm
    | ex e w2 => rw [efb] at hm; exact hm.elim
    | ok r w2 =>
      rw [efb] at hm
      have back : ∀ {F' : Addr → Prop} {H' : Hp} {n : Bool} {v : V} {d : D}, Ext ⟨wd, H, F, fun _ _ _ => True, fun _ => (0, [])⟩ F' w2 H' → DR H' (Al ⟨wd, H, F, fun _ _ _ => True, fun _ => (0, [])⟩ F' n) v d → DR H' (fun a => ¬ F a ∧ (n = true → H a = none)) v d := fun {F' H' n v d} x h =>
        h.to fun a o e ha => ⟨e, fun z => by
          have q := x.f0 a (dom a z)
          exact ha.1 (q.mpr z), ha.2⟩
      cases r with
      | nx e =>
        intro F' σ' H' ow' kp ok'
        exact hm .non H' (fun a o e n => ok'.k0 a o e n) ok'.wr .non fun _ p e => nomatch e
      | rt d =>
        intro v F' H' kp x r tp
        exact hm v H' x.k0 x.wr (back x r) tp
      | bk e => exact hm.elim
      | ct e => exact hm.elim

/-! ### calls -/
def ksF (n : Nat) : List Bool := List.replicate n false
theorem args_of {wd : Wld W} {F : Addr → Prop} {H : Hp} : ∀ {vs : List V} {ds : List D}, DRs H (fun a => ¬ F a) vs ds → ∀ n, ds.length = n → Args wd F H (ksF n) vs ds
  | _, _, .nil, 0, _ => trivial
  | _, _, .cons h hs, n + 1, e => ⟨h, args_of hs n (by simpa using e)⟩
  | _, _, .nil, n + 1, e => by simp at e
  | _, _, .cons _ _, 0, e => by simp at e
/-- f(e, ..), a def of data alone, seen from any world -/
def fCall {W : Type} (n : Nat) (m : List D → Unit → Out Unit D) (args : AF W) : EF W := fun env w => (args env w).bind fun ds w => match Nat.beq ds.length n with
  | true => (match m ds () with | .ok d _ => .ok d w | _ => .st)
  | false => .st
theorem se_call {n : Nat} {n0 : Bool} {m : List D → Unit → Out Unit D} {t : TA} {args : AF W} {E : XK} (ha : SA B Γ (.ok n0) t args) : SE B Γ (.ok nw) ft (tCall (spW W0 (ksF n) nw ft m) [] E t) (fCall n m args) := fun env w => by
  refine Res.bind (ha env w) (fun ds w1 qa => ?_) fun e w1 qa F σ H ow ok xp Q => qa F σ H ow ok xp _
  cases en : Nat.beq ds.length n with
  | false => trivial
  | true =>
    cases em : m ds () with
    | st => trivial
    | ex _ _ => trivial
    | ok d w2 =>
      intro F σ H ow ok Q k
      refine qa F σ H ow ok _ fun vs H1 k1 ok1 r1 => ?_
      show spW W0 (ksF n) nw ft m (vs ++ []) H1 Q E
      rw [List.append_nil]
      refine ⟨F, (), ds, trivial, fun _ z => z.elim, ok1.dom, args_of ((show DRs H1 (Al B F n0) vs ds from r1).to fun a o e h => ⟨e, h.1⟩) n (Nat.eq_of_beq_eq_true en), ?_⟩
      rw [em]
      intro v H' kk _ r tp
      have s1 : L2.Same H1 H' := fun a o e => kk a o e fun z => z
      exact k v H' (k1.trans (KeepE.same s1)) (ok1.same s1) (r.to fun a o e h => ⟨e, h.1, fun z => ok1.free0 (h.2 z)⟩) fun z p e => ⟨ok.free k1 ok1.wr (tp z p e).1, (tp z p e).2⟩
/-- arguments of one's own lent; what comes back is new -/
theorem se_callD {n : Nat} {m : List D → Unit → Out Unit D} {t : TA} {args : AF W} {E : XK} (ha : SA B Γ .dp t args) : SE B Γ (.ok true) ft (tCall (spW W0 (ksF n) true ft m) [] E t) (fCall n m args) := fun env w => by
  refine Res.bind (ha env w) (fun ds w1 qa => ?_) fun e w1 qa F σ H ow ok xp Q => qa F σ H ow ok xp _
  cases en : Nat.beq ds.length n with
  | false => trivial
  | true =>
    cases em : m ds () with
    | st => trivial
    | ex _ _ => trivial
    | ok d w2 =>
      intro F σ H ow ok Q k
      refine qa F σ H ow ok _ fun vs H1 k1 ok1 r1 => ?_
      show spW W0 (ksF n) true ft m (vs ++ []) H1 Q E
      rw [List.append_nil]
      refine ⟨fun _ => False, (), ds, trivial, fun _ z => z, fun _ z => z.elim, args_of ((show DRs H1 (fun a => ¬ B.wd.fp a) vs ds from r1).to fun a o e h => ⟨e, fun z => z⟩) n (Nat.eq_of_beq_eq_true en), ?_⟩
      rw [em]
      intro v H' kk _ r tp
      have s1 : L2.Same H1 H' := fun a o e => kk a o e fun z => z
      exact k v H' (k1.trans (KeepE.same s1)) (ok1.same s1) (r.to fun a o e h => ⟨e, ok1.al (h.2 rfl) true⟩) fun z p e => ⟨ok.free k1 ok1.wr (tp z p e).1, (tp z p e).2⟩
/-- f(feed, e, ..) -/
def fCallW {W : Type} (n : Nat) (m : List D → W → Out W D) (args : AF W) : EF W := fun env w => (args env w).bind fun ds w => match Nat.beq ds.length n with
  | true => (match m (.none :: ds) w with | .ok d w => .ok d w | _ => .st)
  | false => .st
theorem se_callW {n i : Nat} {n0 : Bool} {m : List D → W → Out W D} {t : TA} {args : AF W} {E : XK} {wd : Wld W} (hw : B.wd = wd) (hi : Γ[i]? = some .f) (ha : SA B Γ (.ok n0) t args) : SE B Γ (.ok nw) ft (tCall (spW wd (true :: ksF n) nw ft m) [] E (tCons (tVar i) t)) (fCallW n m args) := fun env w => by
  subst hw
  refine Res.bind (ha env w) (fun ds w1 qa => ?_) fun e w1 qa F σ H ow ok xp Q => ?_
  · cases en : Nat.beq ds.length n with
    | false => trivial
    | true =>
      cases em : m (.none :: ds) w1 with
      | st => simp only [em]; trivial
      | ex _ _ => simp only [em]; trivial
      | ok d w2 =>
        simp only [em]
        intro F σ H ow ok Q k
        refine ⟨B.wd.ad, (ok.sl i _ hi).2, qa F σ H ow ok _ fun vs H1 k1 ok1 r1 => ?_⟩
        show spW B.wd (true :: ksF n) nw ft m ((B.wd.ad :: vs) ++ []) H1 Q E
        rw [List.append_nil]
        refine ⟨F, w1, .none :: ds, ok1.wr, ok1.fpF, ok1.dom, ⟨rfl, args_of ((show DRs H1 (Al B F n0) vs ds from r1).to fun a o e h => ⟨e, h.1⟩) n (Nat.eq_of_beq_eq_true en)⟩, ?_⟩
        rw [em]
        intro v H' kk rl r tp
        have k2 : KeepE B H1 H' := kk
        exact k v H' (k1.trans k2) (ok1.ext k2 rl) (r.to fun a o e h => ⟨e, h.1, fun z => ok1.free0 (h.2 z)⟩) fun z p e => ⟨ok.free k1 ok1.wr (tp z p e).1, (tp z p e).2⟩
  · exact ⟨B.wd.ad, (ok.sl i _ hi).2, qa F σ H ow ok xp _⟩
/-- a promise said otherwise -/
theorem spW_eq {wd : Wld W} {ks : List Bool} {nw ft : Bool} {m m' : List D → W → Out W D} (h : ∀ ds w d w', ds.length = ks.length → m' ds w = .ok d w' → m ds w = .ok d w') {vs : List V} {H : Hp} {Q : VK} {E : XK} (q : spW wd ks nw ft m' vs H Q E) : spW wd ks nw ft m vs H Q E := by
  obtain ⟨F, w, ds, a1, a2, a3, a4, a5⟩ := q
  refine ⟨F, w, ds, a1, a2, a3, a4, ?_⟩
  cases e : m' ds w with
  | st => rw [e] at a5; exact a5.elim
  | ex _ _ => rw [e] at a5; exact a5.elim
  | ok d w' => rw [e] at a5; rw [h ds w d w' a4.length.2 e]; exact a5
end
end DL

namespace DL
open PySem PySem.Spec PyProof.Rows L2

/-! ### the world of the draws: the list [items, place, store, seed] -/
structure Fd where
  p : Int
  b : Int
  s : Int
def fdOk (n : Nat) (w : Fd) : Prop := 0 ≤ w.p ∧ w.p ≤ n ∧ 0 ≤ w.b ∧ 0 ≤ w.s ∧ w.s < 2147483648
def fdV (al : Addr) (w : Fd) : List V := [.ref al, .int w.p, .int w.b, .int w.s]
def FdW (af al : Addr) (ns : List Int) : Wld Fd where
  rel := fun w H => H af = some (.lst (fdV al w)) ∧ H al = some (.lst (ns.map V.int)) ∧ fdOk ns.length w
  fp := fun a => a = af ∨ a = al
  ad := .ref af
  tr := fun w H a h z => by
    rcases z with rfl | rfl
    · rw [h.1]; simp
    · rw [h.2.1]; simp
  loc := fun w H H' h k => ⟨(k af (.inl rfl)).trans h.1, (k al (.inr rfl)).trans h.2.1, h.2.2⟩

section
variable {af al : Addr} {ns : List Int} {B : Base Fd} {Γ Γ' Γ1 : List SK} {F F' F1 : Addr → Prop} {env env' : List D} {σ σ' : L2.St} {w w' : Fd} {H H' H1 H2 : Hp} {ow : Nat → List Addr} {P P1 : Po}
variable {fa fb fl : FK} {xa xb ft : Bool} {ta tb te : TE} {a b f : EF Fd} {nw : Bool} {t u : TS} {s r : SF Fd}

def fdGet (k : Int) (w : Fd) : Option Int := if k = 1 then some w.p else if k = 2 then some w.b else if k = 3 then some w.s else none
def fdPut (k z : Int) (w : Fd) : Option Fd := if k = 1 then some { w with p := z } else if k = 2 then some { w with b := z } else if k = 3 then some { w with s := z } else none
def fFd (k : Int) : EF Fd := fun _ w => lf ((fdGet k w).map PyData.int) w
theorem fd_at {k i : Int} (h : fdGet k w = some i) : atI (fdV al w) k = some (.int i) := by
  unfold fdGet at h
  by_cases h1 : k = 1
  · subst h1; cases h; rfl
  · by_cases h2 : k = 2
    · subst h2; cases h; rfl
    · by_cases h3 : k = 3
      · subst h3; cases h; rfl
      · rw [if_neg h1, if_neg h2, if_neg h3] at h; cases h
theorem se_fd {K : PySem.W.Frag} {i : Nat} {k : Int} (hw : B.wd = FdW af al ns) (hi : Γ[i]? = some .f) : SE B Γ (.ok true) true (tOp (rIxL K) (tVar i) (tC (.int k))) (fFd k) := fun env w => Res.lf fun d e F σ H ow ok Q kk => by
  have wr : (FdW af al ns).rel w H := by rw [← hw]; exact ok.wr
  have hs := (ok.sl i _ hi).2
  rw [hw] at hs
  cases eg : fdGet k w with
  | none => rw [eg] at e; cases e
  | some z =>
    rw [eg] at e
    cases e
    exact ⟨.ref af, hs, af, _, k, .int z, rfl, rfl, SqL.of wr.1, fd_at eg, kk _ H (.refl H) ok (.int z) fun _ p e => nomatch e⟩
/-- len(feed[0]) -/
def fFdLen (ns : List Int) : EF Fd := fun _ w => .ok (.int ns.length) w
theorem se_fdLen {K : PySem.W.Frag} {i : Nat} (hw : B.wd = FdW af al ns) (hi : Γ[i]? = some .f) :
    SE B Γ (.ok true) true (tCB (fun xs H Q => ∃ x n, xs = [x] ∧ LenV K x H n ∧ Q (.int n) H) (tCons (tOp (rIxL K) (tVar i) (tC (.int 0))) tNil)) (fFdLen ns) := fun env w F σ H ow ok Q kk => by
  have wr : (FdW af al ns).rel w H := by rw [← hw]; exact ok.wr
  have hs := (ok.sl i _ hi).2
  rw [hw] at hs
  refine ⟨.ref af, hs, af, _, 0, .ref al, rfl, rfl, SqL.of wr.1, rfl, _, ns.length, rfl, .inl ⟨_, SqL.of wr.2.1, by rw [List.length_map]⟩, kk _ H (.refl H) ok (.int _) fun _ p e => nomatch e⟩
/-- feed[0][feed[1]] -/
def fFdItem (ns : List Int) : EF Fd := fun _ w => lf ((atD (ns.map PyData.int) w.p)) w
theorem se_fdItem {K : PySem.W.Frag} {i : Nat} (hw : B.wd = FdW af al ns) (hi : Γ[i]? = some .f) :
    SE B Γ (.ok true) true (tOp (rIxL K) (tOp (rIxL K) (tVar i) (tC (.int 0))) (tOp (rIxL K) (tVar i) (tC (.int 1)))) (fFdItem ns) := fun env w => Res.lf fun d e F σ H ow ok Q kk => by
  have wr : (FdW af al ns).rel w H := by rw [← hw]; exact ok.wr
  have hs := (ok.sl i _ hi).2
  rw [hw] at hs
  obtain ⟨j, e1, e2⟩ := atD_atI (xs := ns.map V.int) (by rw [List.length_map, List.length_map]) e
  rw [List.getElem?_map] at e1
  cases ej : ns[j]? with
  | none => rw [ej] at e1; cases e1
  | some z =>
    rw [ej] at e1
    cases e1
    exact ⟨.ref af, hs, af, _, 0, .ref al, rfl, rfl, SqL.of wr.1, rfl, .ref af, hs, af, _, 1, .int w.p, rfl, rfl, SqL.of wr.1, rfl, al, _, w.p, .int z, rfl, rfl, SqL.of wr.2.1, e2 _ (by rw [List.getElem?_map, ej]; rfl), kk _ H (.refl H) ok (.int z) fun _ p e => nomatch e⟩
/-- feed[k] = e -/
def okFd (n : Nat) (w : Fd) : Bool := decide (0 ≤ w.p ∧ w.p ≤ n ∧ 0 ≤ w.b ∧ 0 ≤ w.s ∧ w.s < 2147483648)
def gFdPut (n : Nat) (k : Int) (d : D) (w : Fd) : Option Fd := match d with
  | .int z => (match fdPut k z w with | some w' => ifs (okFd n w') w' | none => none)
  | _ => none
def fFdSet (n : Nat) (k : Int) (a : EF Fd) : SF Fd := fun env w => (a env w).bind fun d w => match gFdPut n k d w with
  | some w' => .ok (.nx env) w'
  | none => .st
theorem fd_set {k z : Int} (h : fdPut k z w = some w') : ∃ j, ixN (fdV al w).length k = some j ∧ (fdV al w).set j (.int z) = fdV al w' := by
  unfold fdPut at h
  by_cases h1 : k = 1
  · subst h1; cases h; exact ⟨1, rfl, rfl⟩
  · by_cases h2 : k = 2
    · subst h2; cases h; exact ⟨2, rfl, rfl⟩
    · by_cases h3 : k = 3
      · subst h3; cases h; exact ⟨3, rfl, rfl⟩
      · rw [if_neg h1, if_neg h2, if_neg h3] at h; cases h
theorem gFdPut_some {n : Nat} {k : Int} {d : D} (h : gFdPut n k d w = some w') : ∃ z, d = .int z ∧ fdPut k z w = some w' ∧ fdOk n w' := by
  cases d <;> first | (cases h; done) | skip
  rename_i z
  have h' : (match fdPut k z w with | some w' => ifs (okFd n w') w' | none => none) = some w' := h
  cases e : fdPut k z w with
  | none => rw [e] at h'; cases h'
  | some w2 =>
    rw [e] at h'
    obtain ⟨e1, e2⟩ := ifs_some h'
    subst e2
    have q : 0 ≤ w2.p ∧ w2.p ≤ n ∧ 0 ≤ w2.b ∧ 0 ≤ w2.s ∧ w2.s < 2147483648 := of_decide_eq_true e1
    exact ⟨z, rfl, e, q⟩
/-- the feed is written -/
theorem OK.fdSet (ok : OK B Γ F env σ w H ow) (hw : B.wd = FdW af al ns) (hal : al ≠ af) (h : fdOk ns.length w') : OK B Γ F env σ w' (upd H af (.lst (fdV al w'))) ow ∧ KeepE B H (upd H af (.lst (fdV al w'))) := by
  have fpa : B.wd.fp af := by rw [hw]; exact .inl rfl
  have kE : KeepE B H (upd H af (.lst (fdV al w'))) := fun a o e n => upd_keep e fun z => n (by rw [z]; exact fpa)
  have wr : (FdW af al ns).rel w H := by rw [← hw]; exact ok.wr
  refine ⟨ok.ext kE ?_, kE⟩
  rw [hw]
  exact ⟨upd_same, upd_keep wr.2.1 hal, h⟩
theorem ss_fdSet {i : Nat} {k : Int} (hw : B.wd = FdW af al ns) (hal : al ≠ af) (hi : Γ[i]? = some .f) (ha : SE B Γ fa xa ta a) (hP : P.nx = Γ) : SS B Γ P (tAsg ta (gSub (tVar i) (tC (.int k)) rSetL)) (fFdSet ns.length k a) := fun env w => by
  refine Res.bind (ha env w) (fun d w1 qa => ?_) fun e w1 qa F σ H ow ok x D => qa F σ H ow ok (x.xp ok) _
  cases eg : gFdPut ns.length k d w1 with
  | none => trivial
  | some w2 =>
    obtain ⟨z, rfl, e1, e2⟩ := gFdPut_some eg
    intro F σ H ow ok D kk
    refine qa F σ H ow ok _ fun v H1 k1 ok1 r1 _ => ?_
    have ev := (ok1.toDp r1).int_inv
    subst ev
    have wr : (FdW af al ns).rel w1 H1 := by rw [← hw]; exact ok1.wr
    have hs := (ok.sl i _ hi).2
    rw [hw] at hs
    obtain ⟨j, q1, q2⟩ := fd_set (al := al) e1
    refine ⟨.ref af, hs, af, _, k, j, rfl, rfl, wr.1, q1, ?_⟩
    rw [q2]
    obtain ⟨ok2, k2⟩ := ok1.fdSet hw hal e2
    exact kk F σ _ ow ((k1.trans k2).keep ok.fpF) (hP ▸ ok2)
/-- feed[k] += n -/
theorem ss_fdAug {K : PySem.W.Frag} {i : Nat} {k n : Int} (hw : B.wd = FdW af al ns) (hal : al ≠ af) (hi : Γ[i]? = some .f) (hP : P.nx = Γ) : SS B Γ P (tAugS (tVar i) (tC (.int k)) (tC (.int n)) (rIxL K) (ipI fun i j => i + j) rSetL) (fFdSet ns.length k (fBin dAdd (fFd k) (fC (.int n)))) := fun env w => by
  unfold fFdSet fBin fFd fC
  cases eo : fdGet k w with
  | none => trivial
  | some z =>
    show Res (match gFdPut ns.length k (PyData.int (z + n)) w with | some w' => Out.ok (Fl.nx env) w' | none => .st) _ _
    cases eg : gFdPut ns.length k (PyData.int (z + n)) w with
    | none => trivial
    | some w2 =>
      obtain ⟨z', ez, e1, e2⟩ := gFdPut_some eg
      cases ez
      intro F σ H ow ok D kk
      have wr : (FdW af al ns).rel w H := by rw [← hw]; exact ok.wr
      have hs := (ok.sl i _ hi).2
      rw [hw] at hs
      obtain ⟨j, q1, q2⟩ := fd_set (al := al) e1
      refine ⟨.ref af, hs, af, _, k, .int z, rfl, rfl, SqL.of wr.1, fd_at eo, z, n, rfl, rfl, af, _, k, j, rfl, rfl, wr.1, q1, ?_⟩
      rw [q2]
      obtain ⟨ok2, k2⟩ := ok.fdSet hw hal e2
      exact kk F σ _ ow (k2.keep ok.fpF) (hP ▸ ok2)
end
end DL

/-! sorted of data -/
namespace DL
open PySem PySem.Spec PyProof.Rows L2

inductive Ty where
  | int | lst (t : Ty) | pr (a b : Ty)
def tyOk : Ty → D → Bool
  | .int, .int _ => true
  | .lst t, .list ds => ds.all (tyOk t)
  | .pr a b, .tuple [x, y] => tyOk a x && tyOk b y
  | _, _ => false
def dT : Ty → Nat
  | .int => 0
  | .lst t => dT t + 1
  | .pr a b => max (dT a) (dT b) + 1
def gi : D → Int | .int i => i | _ => 0
def gl : D → List D | .list l => l | _ => []
def g1 : D → D | .tuple [a, _] => a | _ => .none
def g2 : D → D | .tuple [_, b] => b | _ => .none
def lexL (lt : D → D → Bool) : List D → List D → Bool
  | _, [] => false
  | [], _ :: _ => true
  | x :: xs, y :: ys => match lt x y with
    | true => true
    | false => match lt y x with
      | true => false
      | false => lexL lt xs ys
def ltT : Ty → D → D → Bool
  | .int, x, y => match Int.decLt (gi x) (gi y) with | .isTrue _ => true | .isFalse _ => false
  | .lst t, x, y => lexL (ltT t) (gl x) (gl y)
  | .pr a b, x, y => match ltT a (g1 x) (g1 y) with
    | true => true
    | false => match ltT a (g1 y) (g1 x) with
      | true => false
      | false => ltT b (g2 x) (g2 y)
theorem ltT_int (x y : D) : ltT .int x y = decide (gi x < gi y) := by
  unfold ltT
  cases e : Int.decLt (gi x) (gi y) with
  | isTrue h => simp [h]
  | isFalse h => simp [h]

/-! ### a strict weak order -/
theorem lexL_asym {lt : D → D → Bool} (O : SrtO.Swo lt) : ∀ xs ys, lexL lt xs ys = true → lexL lt ys xs = false
  | _, [], h => by cases ‹List D› <;> cases h
  | [], _ :: _, _ => rfl
  | x :: xs, y :: ys, h => by
    unfold lexL at h ⊢
    cases a : lt x y with
    | true => rw [O.asym x y a]
    | false =>
      rw [a] at h
      cases b : lt y x with
      | true => rw [b] at h; cases h
      | false => rw [b] at h; exact lexL_asym O xs ys h
theorem lexL_tr {lt : D → D → Bool} (O : SrtO.Swo lt) : ∀ xs ys zs, lexL lt ys xs = false → lexL lt zs ys = false → lexL lt zs xs = false
  | [], _, zs, _, _ => by cases zs <;> rfl
  | _ :: _, [], _, h, _ => by cases h
  | x :: xs, y :: ys, [], _, h => by cases h
  | x :: xs, y :: ys, z :: zs, h1, h2 => by
    unfold lexL at h1 h2 ⊢
    cases a : lt y x with
    | true => rw [a] at h1; cases h1
    | false =>
      rw [a] at h1
      cases b : lt z y with
      | true => rw [b] at h2; cases h2
      | false =>
        rw [b] at h2
        have c : lt z x = false := O.tr x y z a b
        rw [c]
        cases d : lt x z with
        | true => rfl
        | false =>
          have e1 : lt x y = false := by
            cases e : lt x y with
            | false => rfl
            | true =>
              have := O.ltle e (b : lt z y = false)
              rw [this] at d; cases d
          have e2 : lt y z = false := by
            cases e : lt y z with
            | false => rfl
            | true =>
              have := O.ltle e (d : lt x z = false)
              rw [this] at a; cases a
          rw [e1] at h1
          rw [e2] at h2
          exact lexL_tr O xs ys zs h1 h2
theorem swo_T : ∀ t : Ty, SrtO.Swo (ltT t)
  | .int => ⟨fun x y h => by rw [ltT_int, decide_eq_true_eq] at h; rw [ltT_int, decide_eq_false_iff_not]; omega,
      fun x y z h1 h2 => by rw [ltT_int, decide_eq_false_iff_not] at h1 h2 ⊢; omega⟩
  | .lst t => ⟨fun x y h => lexL_asym (swo_T t) _ _ h, fun x y z h1 h2 => lexL_tr (swo_T t) _ _ _ h1 h2⟩
  | .pr a b => by
    have A := swo_T a
    have Bo := swo_T b
    refine ⟨fun x y h => ?_, fun x y z h1 h2 => ?_⟩
    · unfold ltT at h ⊢
      cases p : ltT a (g1 x) (g1 y) with
      | true => rw [A.asym _ _ p]
      | false =>
        rw [p] at h
        cases q : ltT a (g1 y) (g1 x) with
        | true => rw [q] at h; cases h
        | false => rw [q] at h; exact Bo.asym _ _ h
    · unfold ltT at h1 h2 ⊢
      cases p : ltT a (g1 y) (g1 x) with
      | true => rw [p] at h1; cases h1
      | false =>
        rw [p] at h1
        cases q : ltT a (g1 z) (g1 y) with
        | true => rw [q] at h2; cases h2
        | false =>
          rw [q] at h2
          rw [A.tr _ _ _ p q]
          cases d : ltT a (g1 x) (g1 z) with
          | true => rfl
          | false =>
            have e1 : ltT a (g1 x) (g1 y) = false := by
              cases e : ltT a (g1 x) (g1 y) with
              | false => rfl
              | true => have := A.ltle e q; rw [this] at d; cases d
            have e2 : ltT a (g1 y) (g1 z) = false := by
              cases e : ltT a (g1 y) (g1 z) with
              | false => rfl
              | true => have := A.ltle e d; rw [this] at p; cases p
            rw [e1] at h1
            rw [e2] at h2
            exact Bo.tr _ _ _ h1 h2

/-! ### equal and less -/
theorem eqv_lex {t : Ty} (ih : ∀ x y, tyOk t x = true → tyOk t y = true → PyData.eqv x y = (!ltT t x y && !ltT t y x)) : ∀ xs ys : List D, xs.all (tyOk t) = true → ys.all (tyOk t) = true → PyData.eqvAll xs ys = (!lexL (ltT t) xs ys && !lexL (ltT t) ys xs)
  | [], [], _, _ => by simp only [PyData.eqvAll]; rfl
  | [], _ :: _, _, _ => by simp only [PyData.eqvAll]; rfl
  | _ :: _, [], _, _ => by simp only [PyData.eqvAll]; rfl
  | x :: xs, y :: ys, h1, h2 => by
    rw [List.all_cons, Bool.and_eq_true] at h1 h2
    simp only [PyData.eqvAll, ih x y h1.1 h2.1, eqv_lex ih xs ys h1.2 h2.2]
    simp only [lexL]
    cases ltT t x y <;> cases ltT t y x <;> simp
theorem eqv_T : ∀ (t : Ty) (x y : D), tyOk t x = true → tyOk t y = true → PyData.eqv x y = (!ltT t x y && !ltT t y x)
  | .int, x, y, h1, h2 => by
    cases x <;> first | (cases h1; done) | skip
    cases y <;> first | (cases h2; done) | skip
    rename_i i j
    have A : ltT .int (PyData.int i) (PyData.int j) = decide (i < j) := ltT_int _ _
    have Bb : ltT .int (PyData.int j) (PyData.int i) = decide (j < i) := ltT_int _ _
    rw [A, Bb]
    simp only [PyData.eqv]
    rw [Bool.eq_iff_iff, beq_iff_eq, Bool.and_eq_true, Bool.not_eq_true', Bool.not_eq_true', decide_eq_false_iff_not, decide_eq_false_iff_not]
    exact ⟨fun h => by rw [h]; exact ⟨Int.lt_irrefl _, Int.lt_irrefl _⟩, fun h => Int.le_antisymm (Int.not_lt.mp h.2) (Int.not_lt.mp h.1)⟩
  | .lst t, x, y, h1, h2 => by
    cases x <;> first | (cases h1; done) | skip
    cases y <;> first | (cases h2; done) | skip
    simp only [PyData.eqv, ltT, gl]
    exact eqv_lex (eqv_T t) _ _ h1 h2
  | .pr a b, x, y, h1, h2 => by
    cases x <;> first | (cases h1; done) | skip
    cases y <;> first | (cases h2; done) | skip
    rename_i l m
    match l, m, h1, h2 with
    | [x1, x2], [y1, y2], h1, h2 =>
      have h1' : (tyOk a x1 && tyOk b x2) = true := h1
      have h2' : (tyOk a y1 && tyOk b y2) = true := h2
      rw [Bool.and_eq_true] at h1' h2'
      simp only [PyData.eqv, PyData.eqvAll, eqv_T a x1 y1 h1'.1 h2'.1, eqv_T b x2 y2 h1'.2 h2'.2, ltT, g1, g2]
      cases ltT a x1 y1 <;> cases ltT a y1 x1 <;> simp
theorem eq_lex {t : Ty} (ih : ∀ x y, tyOk t x = true → tyOk t y = true → ltT t x y = false → ltT t y x = false → x = y) : ∀ xs ys : List D, xs.all (tyOk t) = true → ys.all (tyOk t) = true → lexL (ltT t) xs ys = false → lexL (ltT t) ys xs = false → xs = ys
  | [], [], _, _, _, _ => rfl
  | [], _ :: _, _, _, h, _ => by cases h
  | _ :: _, [], _, _, _, h => by cases h
  | x :: xs, y :: ys, h1, h2, a, b => by
    rw [List.all_cons, Bool.and_eq_true] at h1 h2
    unfold lexL at a b
    cases p : ltT t x y with
    | true => rw [p] at a; cases a
    | false =>
      cases q : ltT t y x with
      | true => rw [q] at b; cases b
      | false =>
        rw [p, q] at a b
        rw [ih x y h1.1 h2.1 p q, eq_lex ih xs ys h1.2 h2.2 a b]
theorem eq_T : ∀ (t : Ty) (x y : D), tyOk t x = true → tyOk t y = true → ltT t x y = false → ltT t y x = false → x = y
  | .int, x, y, h1, h2, a, b => by
    cases x <;> first | (cases h1; done) | skip
    cases y <;> first | (cases h2; done) | skip
    rw [ltT_int, decide_eq_false_iff_not] at a b
    rename_i i j
    have h : i = j := Int.le_antisymm (Int.not_lt.mp b) (Int.not_lt.mp a)
    rw [h]
  | .lst t, x, y, h1, h2, a, b => by
    cases x <;> first | (cases h1; done) | skip
    cases y <;> first | (cases h2; done) | skip
    congr 1
    exact eq_lex (eq_T t) _ _ h1 h2 a b
  | .pr p q, x, y, h1, h2, a, b => by
    cases x <;> first | (cases h1; done) | skip
    cases y <;> first | (cases h2; done) | skip
    rename_i l m
    match l, m, h1, h2, a, b with
    | [x1, x2], [y1, y2], h1, h2, a, b =>
      have h1' : (tyOk p x1 && tyOk q x2) = true := h1
      have h2' : (tyOk p y1 && tyOk q y2) = true := h2
      rw [Bool.and_eq_true] at h1' h2'
      simp only [ltT, g1, g2] at a b
      cases u : ltT p x1 y1 with
      | true => rw [u] at a; cases a
      | false =>
        cases v : ltT p y1 x1 with
        | true => rw [v] at b; cases b
        | false =>
          rw [u, v] at a b
          rw [eq_T p x1 y1 h1'.1 h2'.1 u v, eq_T q x2 y2 h1'.2 h2'.2 a b]
theorem tyOk_shp : ∀ (t : Ty) (x : D), tyOk t x = true → shp (dT t) x = true
  | .int, x, h => by cases x <;> first | (cases h; done) | rfl
  | .lst t, x, h => by
    cases x <;> first | (cases h; done) | skip
    exact List.all_eq_true.mpr fun z hz => tyOk_shp t z (List.all_eq_true.mp (show _ = true from h) z hz)
  | .pr a b, x, h => by
    cases x <;> first | (cases h; done) | skip
    rename_i l
    match l, h with
    | [x1, x2], h =>
      have h' : (tyOk a x1 && tyOk b x2) = true := h
      rw [Bool.and_eq_true] at h'
      have up : ∀ (k n : Nat) (z : D), k ≤ n → shp k z = true → shp n z = true := fun k n z hk hz => by
        induction n with
        | zero => have : k = 0 := by omega
                  subst this; exact hz
        | succ n ih =>
          by_cases e : k = n + 1
          · rw [← e]; exact hz
          · exact shp_up n z (ih (by omega))
      show ([x1, x2].all (shp (max (dT a) (dT b)))) = true
      simp only [List.all_cons, List.all_nil, Bool.and_true, Bool.and_eq_true]
      exact ⟨up _ _ _ (Nat.le_max_left _ _) (tyOk_shp a x1 h'.1), up _ _ _ (Nat.le_max_right _ _) (tyOk_shp b x2 h'.2)⟩

/-! ### the model's order -/
theorem alike_lex {t : Ty} (ih : ∀ x y, tyOk t x = true → tyOk t y = true → PySem.W.alike x y = true) : ∀ xs ys : List D, xs.all (tyOk t) = true → ys.all (tyOk t) = true → PySem.W.alikeAll xs ys = true
  | [], _, _, _ => by simp [PySem.W.alikeAll]
  | _ :: _, [], _, _ => by simp [PySem.W.alikeAll]
  | x :: xs, y :: ys, h1, h2 => by
    rw [List.all_cons, Bool.and_eq_true] at h1 h2
    rw [PySem.W.alikeAll, ih x y h1.1 h2.1, alike_lex ih xs ys h1.2 h2.2]; rfl
theorem alike_T : ∀ (t : Ty) (x y : D), tyOk t x = true → tyOk t y = true → PySem.W.alike x y = true
  | .int, x, y, h1, h2 => by
    cases x <;> first | (cases h1; done) | skip
    cases y <;> first | (cases h2; done) | skip
    simp [PySem.W.alike]
  | .lst t, x, y, h1, h2 => by
    cases x <;> first | (cases h1; done) | skip
    cases y <;> first | (cases h2; done) | skip
    rw [PySem.W.alike]
    exact alike_lex (alike_T t) _ _ h1 h2
  | .pr a b, x, y, h1, h2 => by
    cases x <;> first | (cases h1; done) | skip
    cases y <;> first | (cases h2; done) | skip
    rename_i l m
    match l, m, h1, h2 with
    | [x1, x2], [y1, y2], h1, h2 =>
      have h1' : (tyOk a x1 && tyOk b x2) = true := h1
      have h2' : (tyOk a y1 && tyOk b y2) = true := h2
      rw [Bool.and_eq_true] at h1' h2'
      simp [PySem.W.alike, PySem.W.alikeAll, alike_T a x1 y1 h1'.1 h2'.1, alike_T b x2 y2 h1'.2 h2'.2]
theorem rowLt_nil : PyProof.Rows.lexLt PyProof.Rows.itemOrd (PySem.W.keyToksAll []) (PySem.W.keyToksAll []) = false := PyProof.Rows.lex_irrefl _
theorem rowLt_nc (y : D) (ys : List D) : PyProof.Rows.lexLt PyProof.Rows.itemOrd (PySem.W.keyToksAll []) (PySem.W.keyToksAll (y :: ys)) = true := by
  rw [PySem.W.toks_all_cons, PySem.W.keyToksAll, PySem.W.lex_atom (by decide), PySem.W.lex_one]
  rfl
theorem rowLt_cn (y : D) (ys : List D) : PyProof.Rows.lexLt PyProof.Rows.itemOrd (PySem.W.keyToksAll (y :: ys)) (PySem.W.keyToksAll []) = false := by
  rw [PySem.W.toks_all_cons, PySem.W.keyToksAll, PySem.W.lex_atom (by decide), PySem.W.lex_one]
  rfl
theorem dataLt_lex {t : Ty} (ih : ∀ x y, tyOk t x = true → tyOk t y = true → PySem.W.dataLt x y = ltT t x y) : ∀ xs ys : List D, xs.all (tyOk t) = true → ys.all (tyOk t) = true → PyProof.Rows.lexLt PyProof.Rows.itemOrd (PySem.W.keyToksAll xs) (PySem.W.keyToksAll ys) = lexL (ltT t) xs ys
  | [], [], _, _ => rowLt_nil
  | [], _ :: _, _, _ => rowLt_nc _ _
  | _ :: _, [], _, _ => rowLt_cn _ _
  | x :: xs, y :: ys, h1, h2 => by
    rw [List.all_cons, Bool.and_eq_true] at h1 h2
    rw [PySem.W.dataLt_cons (alike_T t x y h1.1 h2.1), dataLt_lex ih xs ys h1.2 h2.2, ih x y h1.1 h2.1, eqv_T t x y h1.1 h2.1]
    simp only [lexL]
    cases p : ltT t x y <;> cases q : ltT t y x <;> simp
theorem dataLt_T : ∀ (t : Ty) (x y : D), tyOk t x = true → tyOk t y = true → PySem.W.dataLt x y = ltT t x y
  | .int, x, y, h1, h2 => by
    cases x <;> first | (cases h1; done) | skip
    cases y <;> first | (cases h2; done) | skip
    rw [PySem.W.dataLt_int, ltT_int]; rfl
  | .lst t, x, y, h1, h2 => by
    cases x <;> first | (cases h1; done) | skip
    cases y <;> first | (cases h2; done) | skip
    rw [PySem.W.dataLt_list]
    exact dataLt_lex (dataLt_T t) _ _ h1 h2
  | .pr a b, x, y, h1, h2 => by
    cases x <;> first | (cases h1; done) | skip
    cases y <;> first | (cases h2; done) | skip
    rename_i l m
    match l, m, h1, h2 with
    | [x1, x2], [y1, y2], h1, h2 =>
      have h1' : (tyOk a x1 && tyOk b x2) = true := h1
      have h2' : (tyOk a y1 && tyOk b y2) = true := h2
      rw [Bool.and_eq_true] at h1' h2'
      rw [PySem.W.dataLt_pair (alike_T a _ _ h1'.1 h2'.1) (alike_T b _ _ h1'.2 h2'.2), eqv_T a x1 y1 h1'.1 h2'.1, eqv_T b x2 y2 h1'.2 h2'.2, dataLt_T a x1 y1 h1'.1 h2'.1, dataLt_T b x2 y2 h1'.2 h2'.2]
      simp only [ltT, g1, g2]
      cases ltT a x1 y1 <;> cases ltT a y1 x1 <;> cases p : ltT b x2 y2 <;> cases ltT b y2 x2 <;> simp

/-! ### sorted -/
def insT (t : Ty) (n : D) : List D → List D
  | [] => [n]
  | m :: ms => match ltT t m n with | true => m :: insT t n ms | false => n :: m :: ms
def srtT (t : Ty) : List D → List D
  | [] => []
  | n :: ns => insT t n (srtT t ns)
theorem insT_perm (t : Ty) (n : D) : ∀ ms : List D, (insT t n ms).Perm (n :: ms)
  | [] => .refl _
  | m :: ms => by
    unfold insT
    cases ltT t m n with
    | true => exact ((insT_perm t n ms).cons m).trans (.swap n m ms)
    | false => exact .refl _
theorem srtT_perm (t : Ty) : ∀ ns : List D, (srtT t ns).Perm ns
  | [] => .refl _
  | n :: ns => (insT_perm t n _).trans ((srtT_perm t ns).cons n)
theorem insT_sorted (t : Ty) (n : D) : ∀ ms : List D, SrtO.Srtd (ltT t) ms → SrtO.Srtd (ltT t) (insT t n ms)
  | [], _ => SrtO.srtd_one n
  | m :: ms, h => by
    unfold insT
    have h' := List.pairwise_cons.mp h
    cases e : ltT t m n with
    | true =>
      refine List.pairwise_cons.mpr ⟨fun y hy => ?_, insT_sorted t n ms h'.2⟩
      rcases List.mem_cons.mp ((insT_perm t n ms).mem_iff.mp hy) with rfl | hy
      · exact (swo_T t).asym _ _ e
      · exact h'.1 y hy
    | false =>
      refine List.pairwise_cons.mpr ⟨fun y hy => ?_, h⟩
      rcases List.mem_cons.mp hy with rfl | hy
      · exact e
      · exact (swo_T t).tr n m y e (h'.1 y hy)
theorem srtT_sorted (t : Ty) : ∀ ns : List D, SrtO.Srtd (ltT t) (srtT t ns)
  | [] => List.Pairwise.nil
  | n :: ns => insT_sorted t n _ (srtT_sorted t ns)
theorem srtT_uniq {t : Ty} {ns ms : List D} (ht : ∀ d ∈ ns, tyOk t d = true) (p : ms.Perm ns) (s : SrtO.Srtd (ltT t) ms) : ms = srtT t ns :=
  List.Perm.eq_of_pairwise (fun a b ha hb h1 h2 => eq_T t a b (ht a (p.mem_iff.mp ha)) (ht b ((srtT_perm t ns).mem_iff.mp hb)) h2 h1) s (srtT_sorted t ns) (p.trans (srtT_perm t ns).symm)
def rSortD (K : PySem.W.Frag) (t : Ty) (rev : Bool) : List V → Hp → VK → Prop := fun vs H Q => ∃ (a : Addr) (ps : List (V × D)), vs = [.ref a] ∧ H a = some (.lst (ps.map Prod.fst)) ∧ (∀ p ∈ ps, Dp K H p.1 p.2 ∧ tyOk t p.2 = true) ∧ dT t ≤ 40 ∧
  ∀ (ps' : List (V × D)) (q : Addr), ps'.Perm ps → ps'.Pairwise (fun x y => (if rev then ltT t x.2 y.2 else ltT t y.2 x.2) = false) → H q = none → Q (.ref q) (upd H q (.lst (ps'.map Prod.fst)))
theorem sortable_T {t : Ty} {ds : List D} (h : ∀ d ∈ ds, tyOk t d = true) : PySem.W.Sortable ds := by
  cases t with
  | int =>
    refine .inr fun d hd => ?_
    have := h d hd
    cases d <;> first | (cases this; done) | exact ⟨(by intro z; cases z), (by intro _ z; cases z)⟩
  | lst t =>
    refine .inr fun d hd => ?_
    have := h d hd
    cases d <;> first | (cases this; done) | exact ⟨(by intro z; cases z), (by intro _ z; cases z)⟩
  | pr a b =>
      refine .inl fun d hd => ?_
      have := h d hd
      cases d <;> first | (cases this; done) | skip
      rename_i l
      match l, this with
      | [x, y], _ => exact ⟨x, [y], rfl⟩
theorem each_of {X : Cx} {pins : List (Addr × Obj)} {σ : L2.St} {H : Hp} {s : Shared} {t : Ty} (I : Inv X pins σ H s) : ∀ {ps : List (V × D)} {us : List Value}, Vals (ps.map Prod.fst) us → (∀ p ∈ ps, Dp X.K H p.1 p.2 ∧ tyOk t p.2 = true) →
    PySem.W.EachIs (fun v (b : V × D) => RelV b.1 v) us ps ∧ PySem.W.EachIs (fun v (b : V × D) => ∃ as, Reads s.heap v b.2 as) us ps
  | [], _, .nil, _ => ⟨.nil, .nil⟩
  | p :: ps, _, .cons r rs, h => by
    obtain ⟨a, b⟩ := each_of I rs fun q hq => h q (List.mem_cons_of_mem _ hq)
    exact ⟨.cons r a, .cons (Dp.reads I p.2 p.1 _ (h p List.mem_cons_self).1 r) b⟩
theorem vals_each : ∀ {ps : List (V × D)} {us : List Value}, PySem.W.EachIs (fun v (b : V × D) => RelV b.1 v) us ps → Vals (ps.map Prod.fst) us
  | [], _, .nil => .nil
  | p :: ps, _, .cons r rs => .cons r (vals_each rs)
theorem depth_T {t : Ty} {d : D} (h : tyOk t d = true) : d.depth ≤ dT t + 1 := (shp_ok _ d (tyOk_shp t d h)).2
theorem sort_facts {t : Ty} {rev : Bool} {ps : List (V × D)} (h : ∀ p ∈ ps, tyOk t p.2 = true) : (ps.mergeSort (PySem.W.dataLe rev Prod.snd)).Perm ps ∧ (ps.mergeSort (PySem.W.dataLe rev Prod.snd)).Pairwise (fun x y => (if rev then ltT t x.2 y.2 else ltT t y.2 x.2) = false) := by
  have pm := List.mergeSort_perm ps (PySem.W.dataLe rev Prod.snd)
  refine ⟨pm, ?_⟩
  have tot := PySem.W.sortLe_total (PyProof.Rows.listOrd PyProof.Rows.itemOrd) rev fun b : V × D => PySem.W.keyToks b.2
  have pw : (ps.mergeSort (PySem.W.dataLe rev Prod.snd)).Pairwise (fun a b => PySem.W.dataLe rev Prod.snd a b = true) := List.pairwise_mergeSort tot.trans (fun a b => Bool.or_eq_true_iff.mpr (tot.total a b)) ps
  refine pw.imp_of_mem fun {x y} hx hy e => ?_
  have hx' := h x (pm.mem_iff.mp hx)
  have hy' := h y (pm.mem_iff.mp hy)
  rw [PySem.W.dataLe_eq] at e
  cases rev with
  | true =>
    have e' : (!PySem.W.dataLt x.2 y.2) = true := e
    rw [dataLt_T t _ _ hx' hy'] at e'
    simpa using e'
  | false =>
    have e' : (!PySem.W.dataLt y.2 x.2) = true := e
    rw [dataLt_T t _ _ hy' hx'] at e'
    simpa using e'
section
variable {X : Cx}
theorem cr_sortD {t : Ty} (hu : X.A.units + 64 < cLine) : CallR X (.builtin "sorted") (rSortD X.K t false) := by
  intro pins s σ H vs us Q I r h
  obtain ⟨a, ps, rfl, ha, hp, hd, q⟩ := h
  obtain ⟨its, rv, hl, hz⟩ := I.list (SqL.of ha)
  rw [Vals.ref1 r]
  obtain ⟨e1, e2⟩ := each_of I rv hp
  have hz' : ps.length ≤ sizeLine := by rw [List.length_map] at hz; exact hz
  obtain ⟨pm, pw⟩ := sort_facts (rev := false) fun p hq => (hp p hq).2
  refine PySem.W.sorted_data (enc := Prod.snd) hl.isList e1 e2 (fun d hd d' hd' => ?_) (sortable_T (t := t) fun d hd => ?_) hz' (fun b hb => ?_) fun out ol oe => ?_
  · obtain ⟨p, hp1, rfl⟩ := List.mem_map.mp hd
    obtain ⟨p', hp2, rfl⟩ := List.mem_map.mp hd'
    exact alike_T t _ _ (hp p hp1).2 (hp p' hp2).2
  · obtain ⟨p, hp1, rfl⟩ := List.mem_map.mp hd
    exact (hp p hp1).2
  · have := depth_T (hp b hb).2
    show X.A.units + 2 + b.2.depth < cLine
    omega
  · obtain ⟨ep, he'⟩ := PyProof.Rows.sortedAll_at s.heap its out.toArray
    have v1 := vals_each oe
    have hlen : ((ps.mergeSort (PySem.W.dataLe false Prod.snd)).map Prod.fst).length ≤ sizeLine := by rw [List.length_map, pm.length_eq]; exact hz'
    exact ⟨.ref _, upd H (s.heap.objs.size + 1) (.lst ((ps.mergeSort (PySem.W.dataLe false Prod.snd)).map Prod.fst)), I.laid (t' := s.toks) (fun _ _ => PyProof.Rows.sortedAll_old) (Nat.le_succ _) ⟨hlen, out, ep, v1, he'⟩, rfl, q _ _ pm pw (I.hok.fresh (Nat.le_succ _))⟩
end

section
variable {W : Type} {B : Base W} {Γ : List SK} {F : Addr → Prop} {env : List D} {σ : L2.St} {w w' : W} {H H' H1 H2 : Hp} {ow : Nat → List Addr}
variable {fa fb fl : FK} {xa xb ft : Bool} {ta tb : TE} {a b : EF W}
def gSortD (t : Ty) : D → Option D
  | .list ds => ifs (ds.all (tyOk t)) (.list (srtT t ds))
  | _ => none
theorem drs_zip {A : Addr → Prop} : ∀ {xs : List V} {ds : List D}, DRs H A xs ds → (xs.zip ds).map Prod.fst = xs ∧ (xs.zip ds).map Prod.snd = ds ∧ ∀ p ∈ xs.zip ds, DR H A p.1 p.2
  | _, _, .nil => ⟨rfl, rfl, fun _ h => by cases h⟩
  | _, _, .cons h hs => by
    obtain ⟨a, b, c⟩ := drs_zip hs
    refine ⟨by rw [List.zip_cons_cons, List.map_cons, a], by rw [List.zip_cons_cons, List.map_cons, b], fun p hp => ?_⟩
    rw [List.zip_cons_cons] at hp
    rcases List.mem_cons.mp hp with rfl | hp
    · exact h
    · exact c p hp
theorem drs_pairs {A : Addr → Prop} : ∀ {ps : List (V × D)}, (∀ p ∈ ps, DR H A p.1 p.2) → DRs H A (ps.map Prod.fst) (ps.map Prod.snd)
  | [], _ => .nil
  | p :: ps, h => .cons (h p List.mem_cons_self) (drs_pairs fun q hq => h q (List.mem_cons_of_mem _ hq))
theorem r1_sortD {K : PySem.W.Frag} {t : Ty} {nw : Bool} (hf : lvOf fa = some nw) (hd : dT t ≤ 40) : R1S B Γ fa (.ok nw) true (fun x => rSortD K t false [x]) (gSortD t) := by
  intro F env σ w H ow v1 x d Q ok h1 e k
  cases x <;> first | (cases e; done) | skip
  rename_i ds
  obtain ⟨e1, rfl⟩ := ifs_some (show ifs _ _ = some d from e)
  have ht : ∀ d ∈ ds, tyOk t d = true := List.all_eq_true.mp e1
  obtain ⟨p, xs, rfl, _, b2, b3⟩ := ok.toLv hf h1
  obtain ⟨z1, z2, z3⟩ := drs_zip b3
  refine ⟨p, xs.zip ds, rfl, by rw [z1]; exact b2, fun q hq => ⟨(z3 q hq).dp, ht _ (by rw [← z2]; exact List.mem_map_of_mem hq)⟩, hd, fun ps' q pm pw hq => ?_⟩
  have dr := drs_pairs fun r hr => z3 r (pm.mem_iff.mp hr)
  have es : ps'.map Prod.snd = srtT t ds := srtT_uniq ht (by rw [← z2]; exact pm.map _) (List.pairwise_map.mpr (pw.imp fun {x y} h => by simpa using h))
  rw [es] at dr
  obtain ⟨r, tp⟩ := new_lst ok dr hq
  exact k _ _ (fun b o e => upd_keep e (ne_of_none e hq)) r fun _ => tp
end
end DL

/-! more operations; calls by name -/
namespace DL
open PySem PySem.Spec PyProof.Rows L2
section
variable {W : Type} {B : Base W} {Γ : List SK} {F : Addr → Prop} {env : List D} {σ : L2.St} {w w' : W} {H H' H1 H2 : Hp} {ow : Nat → List Addr}
variable {fa fb fc fl : FK} {xa xb xc ft : Bool} {ta tb tc : TE} {a b c : EF W}
theorem r2_rep {nw : Bool} (hf : lvOf fa = some nw) : R2S B Γ fa fb (.ok nw) true rRep dRep := by
  intro F env σ w H ow v1 v2 x y d Q ok a1 a2 e k
  cases x <;> first | (cases e; done) | skip
  cases y <;> first | (cases e; done) | skip
  rename_i ds i
  obtain ⟨p, xs, rfl, _, b2, b3⟩ := ok.toLv hf a1
  cases (ok.toDp a2).int_inv
  cases i with
  | ofNat n =>
    obtain ⟨e1, rfl⟩ := ifs_some (show ifs _ _ = some d from e)
    rw [Bool.and_eq_true] at e1
    have h1 : n ≤ 100000 := Nat.le_of_ble_eq_true e1.1
    refine ⟨p, _, xs, rfl, rfl, b2, by show -(2 ^ 63) ≤ (n : Int); omega, by show (n : Int) < 2 ^ 63; omega, by rw [b3.length]; exact sm_le e1.2, fun q hq => ?_⟩
    obtain ⟨r, t⟩ := new_lst ok (b3.rep n) hq
    exact k _ _ (fun b o e => upd_keep e (ne_of_none e hq)) r fun _ => t
  | negSucc n =>
    obtain ⟨e1, rfl⟩ := ifs_some (show ifs _ _ = some d from e)
    have h1 : n ≤ 100000 := Nat.le_of_ble_eq_true e1
    have h0 : (Int.negSucc n).toNat = 0 := rfl
    refine ⟨p, _, xs, rfl, rfl, b2, by omega, by omega, by rw [h0, Nat.mul_zero]; exact Nat.zero_le _, fun q hq => ?_⟩
    obtain ⟨r, t⟩ := new_lst (nw := nw) ok (xs := []) (ds := []) .nil hq
    rw [h0]
    exact k _ _ (fun b o e => upd_keep e (ne_of_none e hq)) r fun _ => t
def cPow (i j : Int) : Bool := match j with
  | .ofNat n => Nat.ble n 1000000 && Nat.blt i.natAbs 18446744073709551616
  | .negSucc _ => false
abbrev dPow := gIntC cPow fun i j => i ^ j.toNat
theorem cPow_ok (i j : Int) (h : cPow i j = true) : CPow i j := by
  cases j with
  | ofNat n =>
    have h' : (Nat.ble n 1000000 && Nat.blt i.natAbs 18446744073709551616) = true := h
    rw [Bool.and_eq_true] at h'
    have h1 := Nat.le_of_ble_eq_true h'.1
    have h2 : i.natAbs < 18446744073709551616 := Nat.le_of_ble_eq_true h'.2
    exact ⟨by show (0 : Int) ≤ (n : Int); omega, by show (n : Int) ≤ 1000000; omega, h2⟩
  | negSucc n => cases h
theorem r2_pow : R2S B Γ fa fb (.ok true) true (rI CPow fun i j => .int (i ^ j.toNat)) dPow := r2_intC cPow_ok

/-! ### xs[::-1] -/
def gRevL : D → Option D
  | .list ds => some (.list ds.reverse)
  | _ => none
theorem se_revL {K : PySem.W.Frag} {nw : Bool} (hf : lvOf fa = some nw) (ha : SE B Γ fa xa ta a) : SE B Γ (.ok nw) true (tRevL K ta) (fUn gRevL a) :=
  se_un1 (fa := fa) (r := fun x H Q => ∃ a xs, x = .ref a ∧ SqL K H a xs ∧ ∀ p, H p = none → Q (.ref p) (upd H p (.lst xs.reverse))) rfl (by
    intro F env σ w H ow v1 x d Q ok h1 e k
    cases x <;> first | (cases e; done) | skip
    cases e
    obtain ⟨p, xs, rfl, _, b2, b3⟩ := ok.toLv hf h1
    refine ⟨p, xs, rfl, SqL.of b2, fun q hq => ?_⟩
    obtain ⟨r, t⟩ := new_lst ok b3.reverse hq
    exact k _ _ (fun b o e => upd_keep e (ne_of_none e hq)) r fun _ => t) ha

/-! ### a < b < c -/
def fCh {W : Type} (g g' : D → D → Option D) (a b c : EF W) : EF W := fun env w => (a env w).bind fun x w => (b env w).bind fun y w => (lf (g x y) w).bind fun z w => (lf (bD z) w).bind fun q w => match q with
  | true => (c env w).bind fun u w => lf (g' y u) w
  | false => .ok (.bool false) w
theorem se_chain {r r' : R2} {g g' : D → D → Option D} (h1 : R2S B Γ fa fb (.ok true) true r g) (h2 : R2S B Γ fb fc (.ok true) true r' g') (ha : SE B Γ fa xa ta a) (hb : SE B Γ fb xb tb b) (hc : SE B Γ fc xc tc c) : SE B Γ (.ok true) true (tChain r r' ta tb tc) (fCh g g' a b c) := fun env w => by
  refine Res.bind (ha env w) (fun x w1 qa => Res.bind (hb env w1) (fun y w2 qb => Res.bindlf fun z eg => Res.bindlf fun q ez => ?_) fun e w2 qb F σ H ow ok xp Q => ?_) fun e w1 qa F σ H ow ok xp Q => qa F σ H ow ok xp _
  · have e := bD_some ez
    subst e
    cases q with
    | false =>
      intro F σ H ow ok Q k
      refine qa F σ H ow ok _ fun v1 H1 k1 ok1 r1 _ => qb F σ H1 ow ok1 _ fun v2 H2 k2 ok2 r2 _ => ?_
      refine h1 ok2 (ok2.ro k2 r1) r2 eg fun v H3 s3 r3 t3 => ?_
      refine ⟨false, DR.bl_inv r3, iteF ?_⟩
      exact k _ _ (k1.trans (k2.trans (KeepE.same s3))) (ok2.same s3) (.bl _) fun _ p e => nomatch e
    | true =>
      refine Res.bind (hc env w2) (fun u w3 qc => Res.lf fun d eg2 F σ H ow ok Q k => ?_) fun e w3 qc F σ H ow ok xp Q => ?_
      · refine qa F σ H ow ok _ fun v1 H1 k1 ok1 r1 _ => qb F σ H1 ow ok1 _ fun v2 H2 k2 ok2 r2 _ => ?_
        refine h1 ok2 (ok2.ro k2 r1) r2 eg fun v H3 s3 r3 t3 => ?_
        refine ⟨true, DR.bl_inv r3, iteT ?_⟩
        have ok3 := ok2.same s3
        refine qc F σ H3 ow ok3 _ fun v4 H4 k4 ok4 r4 _ => ?_
        have k34 : KeepE B H2 H4 := (KeepE.same s3).trans k4
        refine h2 ok4 (ok4.ro k34 r2) r4 eg2 fun v5 H5 s5 r5 t5 => ?_
        have kk : KeepE B H H4 := k1.trans (k2.trans k34)
        exact k _ _ (kk.trans (KeepE.same s5)) (ok4.same s5) r5 fun z => TopF.back ok kk ok4.wr (t5 z)
      · refine qa F σ H ow ok _ fun v1 H1 k1 ok1 r1 _ => qb F σ H1 ow ok1 _ fun v2 H2 k2 ok2 r2 _ => ?_
        refine h1 ok2 (ok2.ro k2 r1) r2 eg fun v H3 s3 r3 t3 => ?_
        refine ⟨true, DR.bl_inv r3, iteT ?_⟩
        exact qc F σ H3 ow (ok2.same s3) (xp.at (k1.trans (k2.trans (KeepE.same s3)))) _
  · exact qa F σ H ow ok _ fun v1 H1 k1 ok1 r1 _ => qb F σ H1 ow ok1 (xp.at k1) _

/-! ### isinstance -/
def tyN : D → Option String
  | .none => some "NoneType"
  | .bool _ => some "bool"
  | .int _ => some "int"
  | .str _ => some "str"
  | .list _ => some "list"
  | .tuple _ => some "tuple"
  | _ => none
/-- by the five answers: none, bool, int, str, list, tuple -/
def isiB (n b i s l t : Bool) (x : D) : Option D := match x with
  | .none => some (.bool n)
  | .bool _ => some (.bool b)
  | .int _ => some (.bool i)
  | .str _ => some (.bool s)
  | .list _ => some (.bool l)
  | .tuple _ => some (.bool t)
  | _ => none
theorem tyX_of {K : PySem.W.Frag} {A : Addr → Prop} {v : V} {x : D} (h : DR H A v x) : ∃ n, tyN x = some n ∧ TyX K H v (.type n) := by
  cases h with
  | non => exact ⟨_, rfl, .base .non⟩
  | bl b => exact ⟨_, rfl, .base (.bl b)⟩
  | int i => exact ⟨_, rfl, .base (.int i)⟩
  | str s => exact ⟨_, rfl, .base (.str s)⟩
  | lst h1 h2 h3 => exact ⟨_, rfl, .base (.lst h2)⟩
  | tup h1 h2 h3 => exact ⟨_, rfl, .base (.tup h2)⟩
theorem TyX.same {K : PySem.W.Frag} {v : V} {A : Addr → Prop} {x : D} (h : DR H A v x) (s : L2.Same H H') : DR H' A v x := h.to fun a o e ha => ⟨s a o e, ha⟩
def kB6 (g : String → Option Bool) (n b i s l t : Bool) : Bool := decide (g "NoneType" = some n ∧ g "bool" = some b ∧ g "int" = some i ∧ g "str" = some s ∧ g "list" = some l ∧ g "tuple" = some t)
theorem kB6_ok {g : String → Option Bool} {n b i s l t : Bool} (h : kB6 g n b i s l t = true) {x d : D} {m : String} (e1 : tyN x = some m) (e2 : isiB n b i s l t x = some d) : ∃ r, d = .bool r ∧ g m = some r := by
  have h' := of_decide_eq_true h
  obtain ⟨h1, h2, h3, h4, h5, h6⟩ := h'
  cases x <;> first | (cases e1; cases e2; first | exact ⟨_, rfl, h1⟩ | exact ⟨_, rfl, h2⟩ | exact ⟨_, rfl, h3⟩ | exact ⟨_, rfl, h4⟩ | exact ⟨_, rfl, h5⟩ | exact ⟨_, rfl, h6⟩) | (cases e1; done)
theorem se_isi {K : PySem.W.Frag} {c : String} {n b' i s l t : Bool} (hk : kB6 (fun m => kitB m c) n b' i s l t = true) (ha : SE B Γ fa xa ta a) : SE B Γ (.ok true) true (tCB (rIsi K) (tCons ta (tCons (tC (.ty c)) tNil))) (fUn (isiB n b' i s l t) a) :=
  se_un1 (fa := fa) (r := fun x H Q => rIsi K [x, .ty c] H Q) rfl (by
    intro F env σ w H ow v1 x d Q ok h1 e k
    obtain ⟨m, e1, ty⟩ := tyX_of (K := K) (ok.toDp h1)
    obtain ⟨r, rfl, e2⟩ := kB6_ok hk e1 e
    exact ⟨v1, .ty c, _, _, r, rfl, .ty c, ty, kit_ty e2, k _ _ (L2.Same.refl _) (.bl r) fun _ p e => nomatch e⟩) ha
def kit2 (c c' : String) (m : String) : Option Bool := match kitB m c with
  | some true => some true
  | some false => kitB m c'
  | none => none
theorem kit2_ok {K : PySem.W.Frag} {c c' m : String} {r : Bool} (h : kit2 c c' m = some r) : PySem.W.kitAny K (.type m) [.type c, .type c'] = some r := by
  unfold kit2 at h
  cases e : kitB m c with
  | none => rw [e] at h; cases h
  | some q =>
    rw [e] at h
    cases q with
    | true =>
      have h' : some true = some r := h
      cases h'
      exact kitAny_cons (kit_ty e) (fun z => nomatch z) fun _ => rfl
    | false =>
      have h' : kitB m c' = some r := h
      refine kitAny_cons (kit_ty e) (fun _ => kitAny_cons (kit_ty h') (fun z => ?_) fun z => z) fun z => nomatch z
      rw [z]
      rfl
theorem se_isi2 {K : PySem.W.Frag} {c c' : String} {n b' i s l t : Bool} (hk : kB6 (kit2 c c') n b' i s l t = true) (ha : SE B Γ fa xa ta a) : SE B Γ (.ok true) true (tCB (rIsiT K) (tCons ta (tCons (tTup (tCons (tC (.ty c)) (tCons (tC (.ty c')) tNil))) tNil))) (fUn (isiB n b' i s l t) a) :=
  se_un1 (fa := fa) (r := fun x H Q => (2 ≤ sizeLine) ∧ ∀ p, H p = none → rIsiT K [x, .ref p] (upd H p (.tup [.ty c, .ty c'])) Q) rfl (by
    intro F env σ w H ow v1 x d Q ok h1 e k
    refine ⟨by decide, fun p hp => ?_⟩
    have sm : L2.Same H (upd H p (.tup [.ty c, .ty c'])) := fun b o e => upd_keep e (ne_of_none e hp)
    obtain ⟨m, e1, ty⟩ := tyX_of (K := K) (TyX.same (K := K) (ok.toDp h1) sm)
    obtain ⟨r, rfl, e2⟩ := kB6_ok hk e1 e
    exact ⟨v1, p, _, _, _, r, rfl, upd_same, .cons (.ty c) (.cons (.ty c') .nil), ty, kit2_ok e2, k _ _ sm (.bl r) fun _ p e => nomatch e⟩) ha
end

/-! ### calls by name -/
structure Cal (P' : Program) (wo : World) (K : PySem.W.Frag) (mg : Str → Option Value) (base : Heap) (x : Str) (k : Nat) (ps : List Str) (sp : Sp) : Prop where
  ex : ∃ f fd, FnOk P' wo K mg base CX0 k f fd ps sp ∧ mg x = some (.ref f) ∧ PySem.W.keepIn K (.ref f) = true ∧ Binds K fd ps []
section
variable {X : Cx} {k : Nat} {x : Str} {ps : List Str} {sp : Sp} {e : Expr} {es : List Expr} {p pos : Pos} {t : TA}
theorem pe_cal (C : Cal X.prog X.w X.K X.mg X.base x k ps sp) (hr : Room k X.A) (hg : Gl X x) (ha : PA X (e :: es) t) (hdb : (x == ("__debug__" : Str)) = false := by decide) (he : starEach (e :: es) X.env = (false, eval e X.env) :: starEach es X.env := by rfl) (hpl : (backTo pos (starEach es X.env)).any (·.1) = false := by rfl) :
    PE X (.Call (.Name x p) (e :: es) [] pos) (tCall sp [] E0 t) := by
  obtain ⟨f, fd, G, g, kp, b⟩ := C.ex
  exact pe_call G hr hg g kp b .nil pass0 ha hdb he hpl
end
theorem Cal.mono {P' : Program} {wo : World} {K : PySem.W.Frag} {mg : Str → Option Value} {base : Heap} {x : Str} {j k : Nat} {ps : List Str} {sp : Sp} (C : Cal P' wo K mg base x j ps sp) (h : j ≤ k) : Cal P' wo K mg base x k ps sp := by
  obtain ⟨f, fd, G, g, kp, b⟩ := C.ex
  exact ⟨f, fd, G.mono h, g, kp, b⟩
/-- a promise that is never made -/
theorem fn_st {P' : Program} {wo : World} {K : PySem.W.Frag} {mg : Str → Option Value} {base : Heap} {k : Nat} {f : Addr} {fd : FuncData} {ps : List Str} {W : Type} {wd : Wld W} {ks : List Bool} {nw ft : Bool} : FnOk P' wo K mg base CX0 k f fd ps (spW wd ks nw ft fun _ _ => .st) :=
  ⟨fun _ _ _ _ ⟨_, _, _, _, _, _, _, z⟩ => z.elim, fun _ _ _ _ _ _ _ _ _ _ _ _ _ ⟨_, _, _, _, _, _, _, z⟩ => z.elim⟩
end DL

/-! short words for printed texts; the law's own rule -/
namespace DL
open PySem PySem.Spec PyProof.Rows L2
theorem bo_len : bootBuiltins "len" = some (.builtin "len") := by decide +kernel
theorem bo_abs : bootBuiltins "abs" = some (.builtin "abs") := by decide +kernel
theorem bo_sum : bootBuiltins "sum" = some (.builtin "sum") := by decide +kernel
theorem bo_max : bootBuiltins "max" = some (.builtin "max") := by decide +kernel
theorem bo_min : bootBuiltins "min" = some (.builtin "min") := by decide +kernel
theorem bo_all : bootBuiltins "all" = some (.builtin "all") := by decide +kernel
theorem bo_any : bootBuiltins "any" = some (.builtin "any") := by decide +kernel
theorem bo_sorted : bootBuiltins "sorted" = some (.builtin "sorted") := by decide +kernel
theorem bo_isinstance : bootBuiltins "isinstance" = some (.builtin "isinstance") := by decide +kernel
theorem bo_int : bootBuiltins "int" = some (.type "int") := by decide +kernel
theorem bo_list : bootBuiltins "list" = some (.type "list") := by decide +kernel
theorem bo_tuple : bootBuiltins "tuple" = some (.type "tuple") := by decide +kernel
theorem bo_bool : bootBuiltins "bool" = some (.type "bool") := by decide +kernel
theorem bo_str : bootBuiltins "str" = some (.type "str") := by decide +kernel
theorem u65 {k : Nat} {A : Around} (r : Room k A) : A.units + 65 < cLine := by have := r.un; omega
theorem u64 {k : Nat} {A : Around} (r : Room k A) : A.units + 64 < cLine := by have := r.un; omega
theorem k6_int : kB6 (fun m => kitB m "int") false true true false false false = true := by decide +kernel
theorem k6_bool : kB6 (fun m => kitB m "bool") false true false false false false = true := by decide +kernel
theorem k6_str : kB6 (fun m => kitB m "str") false false false true false false = true := by decide +kernel
theorem k6_list : kB6 (fun m => kitB m "list") false false false false true false = true := by decide +kernel
theorem k6_tuple : kB6 (fun m => kitB m "tuple") false false false false false true = true := by decide +kernel
theorem k6_lt : kB6 (kit2 "list" "tuple") false false false false true true = true := by decide +kernel
abbrev isiInt := isiB false true true false false false
abbrev isiBool := isiB false true false false false false
abbrev isiStr := isiB false false false true false false
abbrev isiList := isiB false false false false true false
abbrev isiTuple := isiB false false false false false true
abbrev isiLT := isiB false false false false true true
section
variable {W : Type} {B : Base W} {Γ Γ1 : List SK} {P : Po} {t : TS} {s : SF W} {K : PySem.W.Frag} {fa : FK} {xa : Bool} {ta : TE} {a : EF W}
theorem ss_to (Γ1 : List SK) (h : SS B Γ { P with nx := Γ1 } t s) (hl : leΓ Γ1 P.nx = true) : SS B Γ P t s := ss_post h hl rfl rfl rfl rfl
theorem ss_wk (Γ1 : List SK) (h : SS B Γ1 P t s) (hl : leΓ Γ Γ1 = true) : SS B Γ P t s := ss_weak h hl
def gYes {W : Type} : List D → W → Out W Bool := fun _ w => .ok true w
theorem st_yes : ST B Γ tYes gYes := fun env w F σ H ow ok Q k => k H (.refl H) ok
theorem si_int (ha : SE B Γ fa xa ta a) : SE B Γ (.ok true) true (tCB (rIsi K) (tCons ta (tCons (tC (.ty "int")) tNil))) (fUn isiInt a) := se_isi k6_int ha
theorem si_bool (ha : SE B Γ fa xa ta a) : SE B Γ (.ok true) true (tCB (rIsi K) (tCons ta (tCons (tC (.ty "bool")) tNil))) (fUn isiBool a) := se_isi k6_bool ha
theorem si_str (ha : SE B Γ fa xa ta a) : SE B Γ (.ok true) true (tCB (rIsi K) (tCons ta (tCons (tC (.ty "str")) tNil))) (fUn isiStr a) := se_isi k6_str ha
theorem si_lst (ha : SE B Γ fa xa ta a) : SE B Γ (.ok true) true (tCB (rIsi K) (tCons ta (tCons (tC (.ty "list")) tNil))) (fUn isiList a) := se_isi k6_list ha
theorem si_tupl (ha : SE B Γ fa xa ta a) : SE B Γ (.ok true) true (tCB (rIsi K) (tCons ta (tCons (tC (.ty "tuple")) tNil))) (fUn isiTuple a) := se_isi k6_tuple ha
theorem si_lt (ha : SE B Γ fa xa ta a) : SE B Γ (.ok true) true (tCB (rIsiT K) (tCons ta (tCons (tTup (tCons (tC (.ty "list")) (tCons (tC (.ty "tuple")) tNil))) tNil))) (fUn isiLT a) := se_isi2 k6_lt ha
end
/-! ### the law -/
def spFeed (K : PySem.W.Frag) : Sp := fun vs H Q _ => ∃ (a : Addr) (ns : List Int), vs = [.ref a] ∧ SqL K H a (ns.map V.int) ∧ ∀ l p, H l = none → (upd H l (.lst (ns.map V.int))) p = none → Q (.ref p) (upd (upd H l (.lst (ns.map V.int))) p (.lst [.ref l, .int 0, .int 0, .int 1]))
def spLaw (K : PySem.W.Frag) : Sp := fun vs H Q _ => ∃ (a : Addr) (ns : List Int), vs = [.ref a] ∧ SqL K H a (ns.map V.int) ∧ ns.length ≤ 63 ∧ ∀ H', Q (.bl true) H'
abbrev lawK (n : Nat) : List SK := .u :: .f :: List.replicate (n - 2) .u
theorem law_ok {K : PySem.W.Frag} {B : Base Fd} {H : Hp} {af al : Addr} {ns : List Int} {n : Nat} (hn : 2 ≤ n) (hw : B.wd = FdW af al ns) (h0 : B.H0 = H) (hF : B.F0 = fun a => a = af ∨ a = al) (e1 : H af = some (.lst (fdV al ⟨0, 0, 1⟩))) (e2 : H al = some (.lst (ns.map V.int))) {σ : L2.St} (hσ : σ.length = n) (e3 : σ[1]? = some (some (.ref af))) :
    OK B (lawK n) B.F0 (List.replicate n .none) σ ⟨0, 0, 1⟩ H fun _ => [] where
  wr := by rw [hw]; exact ⟨e1, e2, by show (0 : Int) ≤ 0; omega, by show (0 : Int) ≤ (ns.length : Int); omega, by show (0 : Int) ≤ 0; omega, by show (0 : Int) ≤ 1; omega, by show (1 : Int) < 2147483648; omega⟩
  fpF := fun a h => by rw [hF]; rw [hw] at h; exact h
  dom := fun a h => by
    rw [hF] at h
    rcases h with rfl | rfl
    · rw [e1]; simp
    · rw [e2]; simp
  k0 := fun a o e _ => by rw [← h0]; exact e
  f0 := fun a _ => Iff.rfl
  ls := by rw [hσ]; show n = (List.replicate (n - 2) SK.u).length + 1 + 1; rw [List.length_replicate]; omega
  le := by rw [List.length_replicate]; show n = (List.replicate (n - 2) SK.u).length + 1 + 1; rw [List.length_replicate]; omega
  own := fun _ _ h => by cases h
  nd := fun _ => List.nodup_nil
  dj := fun _ _ _ h => by cases h
  out := fun _ _ => rfl
  sl := fun i k e => by
    match i, e with
    | 0, e => cases e; exact rfl
    | 1, e =>
      cases e
      refine ⟨rfl, ?_⟩
      rw [hw]
      exact e3
    | i + 2, e =>
      have e' : (List.replicate (n - 2) SK.u)[i]? = some k := e
      rw [List.getElem?_replicate] at e'
      split at e'
      · cases e'; exact rfl
      · cases e'
theorem law_mk {P' : Program} {wo : World} {K : PySem.W.Frag} {mg : Str → Option Value} {base : Heap} {x qual : Str} {st : Stmt} {f : Addr} {fd : FuncData} {N : List Str} {k : Nat} {fb : List Int → SF Fd} (FF : Fun K x qual st f fd) (S : FnScope N ["script"] (defScope st)) (hn : 2 ≤ N.length)
    (hbody : ∀ (cdv : Value) (A : Around) (outer : List Env) (s : Shared) (H : Hp) (E : XK), Room k (A.deeper (envOfC qual (defScope st) s.heap.objs.size f cdv)) →
      ∃ u, PSs (cxOf CX0 P' wo K mg base N qual (defScope st) f cdv A outer s H E).nox (defBody st) (tSeq (tAsg (tCall (spFeed K) [] E0 (tCons (tVar 0) tNil)) (gName 1)) u) ∧
        ∀ (af al : Addr) (ns : List Int) (B : Base Fd), B.wd = FdW af al ns → al ≠ af → ∃ Γe Γb Γc nw ft, SS B (lawK N.length) ⟨Γe, Γb, Γc, nw, ft⟩ u (fb ns))
    (hm : ∀ ns : List Int, ns.length ≤ 63 → ∃ w, fb ns (List.replicate N.length .none) ⟨0, 0, 1⟩ = .ok (.rt (.bool true)) w) :
    FnOk P' wo K mg base CX0 (k + 1) f fd ["script"] (spLaw K) := by
  refine FF.ok S (fun vs H Q E h => ?_) fun cdv A outer s H vs Q E hr h => ?_
  · obtain ⟨a, ns, rfl, _⟩ := h
    rfl
  · obtain ⟨a, ns, rfl, hS, hl, q⟩ := h
    obtain ⟨u, hp, hs⟩ := hbody cdv A outer s H E hr
    refine ⟨_, hp, ?_⟩
    have hst : (start N [V.ref a])[0]? = some (some (.ref a)) := by
      cases N with
      | nil => simp at hn
      | cons n0 N => rfl
    refine ⟨.ref a, hst, a, ns, rfl, hS, fun l p hl1 hp1 => ?_⟩
    have hlp : l ≠ p := fun e => by rw [e, upd_same] at hp1; cases hp1
    generalize hH2 : upd (upd H l (.lst (ns.map V.int))) p (.lst [.ref l, .int 0, .int 0, .int 1]) = H2
    have e1 : H2 p = some (.lst (fdV l ⟨0, 0, 1⟩)) := by rw [← hH2, upd_same]; rfl
    have e2 : H2 l = some (.lst (ns.map V.int)) := by rw [← hH2, upd_ne hlp, upd_same]
    obtain ⟨Γe, Γb, Γc, nw, ft, hs⟩ := hs p l ns ⟨FdW p l ns, H2, fun b => b = p ∨ b = l, fun _ _ _ => True, fun _ => (0, [])⟩ rfl hlp
    have hlen : (start N [V.ref a]).length = N.length := by
      cases N with
      | nil => simp at hn
      | cons n0 N => simp [L2.start]
    have ok0 := law_ok (K := K) (B := ⟨FdW p l ns, H2, fun b => b = p ∨ b = l, fun _ _ _ => True, fun _ => (0, [])⟩) (H := H2) (n := N.length) hn rfl rfl rfl e1 e2 (σ := (start N [V.ref a]).set 1 (some (.ref p))) (by rw [List.length_set, hlen]) (by rw [List.getElem?_set_self]; rw [hlen]; omega)
    refine hs.use ok0 ?_
    obtain ⟨w, ew⟩ := hm ns hl
    rw [ew]
    intro v F' H' kp xt r tp
    have ev : v = .bl true := DR.bl_inv r
    rw [ev]
    exact q H'
end DL

/-! rules that name the written part by a letter; calls of the draws' defs -/
namespace DL
open PySem PySem.Spec PyProof.Rows L2
section
variable {X : Cx} {K : PySem.W.Frag}
theorem pi_listk {tg : Expr} (hK : X.K = K) {l : Expr} {tl : TE} (hl : PE X l tl) : PI X tg l (iList K tl) := hK ▸ pi_list hl
theorem pi_tupk {tg : Expr} (hK : X.K = K) {l : Expr} {tl : TE} (hl : PE X l tl) : PI X tg l (iTup K tl) := hK ▸ pi_tup hl
theorem pi_enumk (hK : X.K = K) {e : Expr} {ta : TA} {p pos tpos : Pos} {elts : List Expr} {kk : Nat} (hg : Gl X "enumerate") (hm : X.mg "enumerate" = none) (ha : PA X [e] ta) (hs : starEach [e] X.env = [(false, eval e X.env)] := by rfl) :
    PI X (.Tuple elts kk tpos) (.Call (.Name "enumerate" p) [e] [] pos) (iEnum K ta) := hK ▸ pi_enum hg hm ha hs
theorem pi_zipk (hK : X.K = K) {e e2 : Expr} {ta : TA} {p pos tpos : Pos} {elts : List Expr} {kk : Nat} (hg : Gl X "zip") (hm : X.mg "zip" = none) (ha : PA X [e, e2] ta)
    (hs : starEach [e, e2] X.env = (false, eval e X.env) :: starEach [e2] X.env := by rfl) (hpl : (backTo pos (starEach [e2] X.env)).any (·.1) = false := by rfl) :
    PI X (.Tuple elts kk tpos) (.Call (.Name "zip" p) [e, e2] [] pos) (iZip K ta) := hK ▸ pi_zip hg hm ha hs hpl
theorem pi_reversedk {tg : Expr} (hK : X.K = K) {e : Expr} {ta : TA} {p pos : Pos} (hg : Gl X "reversed") (hm : X.mg "reversed" = none) (ha : PA X [e] ta) (hs : starEach [e] X.env = [(false, eval e X.env)] := by rfl) : PI X tg (.Call (.Name "reversed" p) [e] [] pos) (iRev K ta) := hK ▸ pi_reversed hg hm ha hs
theorem call_lenk (hK : X.K = K) : CallR X (.builtin "len") (fun xs H Q => ∃ x n, xs = [x] ∧ LenV K x H n ∧ Q (.int n) H) := hK ▸ call_len
theorem ix_listk (hK : X.K = K) : IxR X (rIxL K) := hK ▸ ix_list
theorem ix_tupk (hK : X.K = K) : IxR X (rIxT K) := hK ▸ ix_tup
theorem sl_listk (hK : X.K = K) : SlR X (rSlL K) := hK ▸ sl_list
theorem cr_sumk (hK : X.K = K) (hc : X.calm = true) : CallR X (.builtin "sum") (rSum K) := hK ▸ cr_sum hc
theorem cr_maxk (hK : X.K = K) (hc : X.calm = true) : CallR X (.builtin "max") (rMax K) := hK ▸ cr_max hc
theorem cr_mink (hK : X.K = K) (hc : X.calm = true) : CallR X (.builtin "min") (rMin K) := hK ▸ cr_min hc
theorem cr_allk (hK : X.K = K) (hc : X.calm = true) : CallR X (.builtin "all") (rAll K) := hK ▸ cr_all hc
theorem cr_anyk (hK : X.K = K) (hc : X.calm = true) : CallR X (.builtin "any") (rAny K) := hK ▸ cr_any hc
theorem cr_sortedIk (hK : X.K = K) : CallR X (.builtin "sorted") (rSortedI K) := hK ▸ cr_sortedI
theorem cr_sortDk {t : Ty} (hK : X.K = K) (hu : X.A.units + 64 < cLine) : CallR X (.builtin "sorted") (rSortD K t false) := hK ▸ cr_sortD hu
theorem call_list_ofk (hK : X.K = K) : CallR X (.type "list") (fun xs H Q => ∃ p ys, xs = [.ref p] ∧ (SqL K H p ys ∨ SqT K H p ys) ∧ ∀ l, H l = none → Q (.ref l) (upd H l (.lst ys))) := hK ▸ call_list_of
theorem call_isik (hK : X.K = K) : CallR X (.builtin "isinstance") (rIsi K) := hK ▸ call_isi
theorem call_isiTk (hK : X.K = K) : CallR X (.builtin "isinstance") (rIsiT K) := hK ▸ call_isiT
theorem op_eqDk (hK : X.K = K) (hu : X.A.units + 64 < cLine) : OpR X (compareOp .Eq) (rEqD K) := hK ▸ op_eqD hu
theorem op_neDk (hK : X.K = K) (hu : X.A.units + 64 < cLine) : OpR X (compareOp .NotEq) (rNeD K) := hK ▸ op_neD hu
theorem op_inDk (hK : X.K = K) (hu : X.A.units + 65 < cLine) : OpR X (compareOp .In) (rInD K) := hK ▸ op_inD hu
theorem op_notInDk (hK : X.K = K) (hu : X.A.units + 65 < cLine) : OpR X (compareOp .NotIn) (rNotInD K) := hK ▸ op_notInD hu
theorem pe_revLk (hK : X.K = K) {e : Expr} {te : TE} {k : Nat} {p1 p2 p3 pos : Pos} (he : PE X e te) : PE X (.Subscript e (.Slice none none (some (.UnaryOp .USub (.Constant (.int 1) k p1) p2)) p3) pos) (tRevL K te) := hK ▸ pe_revL he
theorem pt_truthk (hK : X.K = K) {a : Expr} {ta : TE} (ha : PE X a ta) (he : ∀ whole, isTrue a X.env whole = (do let v ← whole; standAt a.pos; holding [v] (truthy v))) : PT X a (fun σ H Q => ta σ H fun x H' => ∃ k, TruV K x H' k ∧ Q k H') := hK ▸ pt_truth ha he
theorem pg_tupk (hK : X.K = K) {pos : Pos} {es : List Expr} {k : Nat} {t : TGs} {n : Nat} (hc : X.calm = true) (h : PGs X es t)
    (hn : (assignEach es X.env).length = n := by rfl) (hst : (assignEach es X.env).findIdx? (·.1) = none := by rfl) : PG X (.Tuple es k pos) (gTup K n t) := hK ▸ pg_tup hc h hn hst
end
/-! ### defs that draw -/
def spX (ks : List Bool) (nw ft : Bool) (m : List Int → List D → Fd → Out Fd D) : Sp := fun vs H Q E => ∃ (af al : Addr) (ns : List Int), al ≠ af ∧ spW (FdW af al ns) ks nw ft (m ns) vs H Q E
theorem fn_ex {P' : Program} {wo : World} {K : PySem.W.Frag} {mg : Str → Option Value} {base : Heap} {k : Nat} {f : Addr} {fd : FuncData} {ps : List Str} {ks : List Bool} {nw ft : Bool} {m : List Int → List D → Fd → Out Fd D}
    (h : ∀ (af al : Addr) (ns : List Int), al ≠ af → FnOk P' wo K mg base CX0 k f fd ps (spW (FdW af al ns) ks nw ft (m ns))) : FnOk P' wo K mg base CX0 k f fd ps (spX ks nw ft m) :=
  ⟨fun vs H Q E ⟨af, al, ns, h1, h2⟩ => (h af al ns h1).len vs H Q E h2, fun A outer s H args us vs Q E hr he hb hv ⟨af, al, ns, h1, h2⟩ => (h af al ns h1).run A outer s H args us vs Q E hr he hb hv h2⟩
section
variable {B : Base Fd} {Γ : List SK} {nw ft : Bool} {af al : Addr} {ns : List Int}
theorem se_callX {n i : Nat} {n0 : Bool} {m : List Int → List D → Fd → Out Fd D} {t : TA} {args : AF Fd} {E : XK} (hw : B.wd = FdW af al ns) (hal : al ≠ af) (hi : Γ[i]? = some .f) (ha : SA B Γ (.ok n0) t args) : SE B Γ (.ok nw) ft (tCall (spX (true :: ksF n) nw ft m) [] E (tCons (tVar i) t)) (fCallW n (m ns) args) := fun env w => by
  refine Res.bind (ha env w) (fun ds w1 qa => ?_) fun e w1 qa F σ H ow ok xp Q => ?_
  · cases en : Nat.beq ds.length n with
    | false => trivial
    | true =>
      cases em : m ns (.none :: ds) w1 with
      | st => simp only [em]; trivial
      | ex _ _ => simp only [em]; trivial
      | ok d w2 =>
        simp only [em]
        intro F σ H ow ok Q k
        refine ⟨B.wd.ad, (ok.sl i _ hi).2, qa F σ H ow ok _ fun vs H1 k1 ok1 r1 => ?_⟩
        show spX (true :: ksF n) nw ft m ((B.wd.ad :: vs) ++ []) H1 Q E
        rw [List.append_nil]
        refine ⟨af, al, ns, hal, ?_⟩
        rw [← hw]
        refine ⟨F, w1, .none :: ds, ok1.wr, ok1.fpF, ok1.dom, ⟨rfl, args_of ((show DRs H1 (Al B F n0) vs ds from r1).to fun a o e h => ⟨e, h.1⟩) n (Nat.eq_of_beq_eq_true en)⟩, ?_⟩
        rw [em]
        intro v H' kk rl r tp
        have k2 : KeepE B H1 H' := kk
        exact k v H' (k1.trans k2) (ok1.ext k2 rl) (r.to fun a o e h => ⟨e, h.1, fun z => ok1.free0 (h.2 z)⟩) fun z p e => ⟨ok.free k1 ok1.wr (tp z p e).1, (tp z p e).2⟩
  · exact ⟨B.wd.ad, (ok.sl i _ hi).2, qa F σ H ow ok xp _⟩
end
end DL

namespace DL
open PySem PySem.Spec PyProof.Rows L2
section
variable {W : Type} {B : Base W} {Γ : List SK} {F : Addr → Prop} {env : List D} {σ : L2.St} {w w' : W} {H H' H1 H2 : Hp} {ow : Nat → List Addr}
variable {fa fb fc fl : FK} {xa xb xc ft : Bool} {ta tb tc : TE} {a b c : EF W}
/-- a list's or a tuple's item -/
def dIxS (x y : D) : Option D := match x, y with
  | .list ds, .int i => atD ds i
  | .tuple ds, .int i => atD ds i
  | _, _ => none
theorem r2_ixS {K : PySem.W.Frag} {nw : Bool} : R2S B Γ (.ok nw) fb (.ok nw) false (rIx K) dIxS := by
  intro F env σ w H ow v1 v2 x y d Q ok h1 h2 e k
  cases x <;> first | (cases e; done) | skip
  · cases y <;> first | (cases e; done) | skip
    exact .inl (r2_ixL (K := K) (fa := .ok nw) rfl ok h1 h2 (show dIxL _ _ = some d from e) k)
  · cases y <;> first | (cases e; done) | skip
    exact .inr (.inl (r2_ixT (K := K) ok h1 h2 (show dIxT _ _ = some d from e) k))
end
section
variable {X : Cx} {K : PySem.W.Frag}
theorem ix_seqk (hK : X.K = K) : IxR X (rIx K) := hK ▸ ix_seq
end
end DL

/-! the plain law: what runs, the draws, shapes, sameness -/
namespace DL
open PySem PySem.Spec L2
def Run {W α : Type} (o : Out W α) (Q : α → W → Prop) : Prop := match o with
  | .ok a w => Q a w
  | _ => False
section
variable {W α β : Type} {o : Out W α} {P Q : α → W → Prop}
theorem Run.ex (h : Run o Q) : ∃ a w, o = .ok a w ∧ Q a w := by
  cases o with
  | st => exact h.elim
  | ok a w => exact ⟨a, w, rfl, h⟩
  | ex _ _ => exact h.elim
theorem Run.eq {a : α} {w : W} (h : Run o fun b u => b = a ∧ u = w) : o = .ok a w := by
  obtain ⟨b, u, rfl, rfl, rfl⟩ := h.ex
  rfl
theorem Run.of {a : α} {w : W} (e : o = .ok a w) (h : Q a w) : Run o Q := by rw [e]; exact h
theorem Run.mono (h : Run o P) (k : ∀ a w, P a w → Q a w) : Run o Q := by
  obtain ⟨a, w, rfl, p⟩ := h.ex
  exact k a w p
theorem Run.bind {f : α → W → Out W β} {R : β → W → Prop} (h : Run o P) (k : ∀ a w, P a w → Run (f a w) R) : Run (o.bind f) R := by
  obtain ⟨a, w, rfl, p⟩ := h.ex
  exact k a w p
end
section
variable {W : Type} {s t : SF W} {env : List D} {w : W} {Q : Fl → W → Prop}
theorem run_seq (h : Run (s env w) fun r w => match r with | .nx e => Run (t e w) Q | r => Q r w) : Run (fSeq s t env w) Q := by
  refine Run.bind h fun r w h => ?_
  cases r <;> exact h
theorem run_asg {a : EF W} {g : D → List D → Option (List D)} (h : Run (a env w) fun d w => ∃ e, g d env = some e ∧ Q (.nx e) w) : Run (fAsg a g env w) Q := by
  refine Run.bind h fun d w ⟨e, h1, h2⟩ => ?_
  rw [h1]
  exact h2
theorem run_set {a : EF W} {i : Nat} (h : Run (a env w) fun d w => Q (.nx (env.set i d)) w) : Run (fAsg a (tgN i) env w) Q := run_asg (h.mono fun d w h => ⟨_, rfl, h⟩)
theorem run_if {p : List D → W → Out W Bool} (h : Run (p env w) fun b w => match b with | true => Run (s env w) Q | false => Run (t env w) Q) : Run (fIfS p s t env w) Q := by
  refine Run.bind h fun b w h => ?_
  cases b <;> exact h
theorem run_ret {a : EF W} (h : Run (a env w) fun d w => Q (.rt d) w) : Run (fRet a env w) Q := Run.bind h fun d w h => h
/-- a walk: I holds of what is left -/
theorem run_forGo {fg : D → List D → Option (List D)} {fb : SF W} (I : List D → List D → W → Prop) (hn : ∀ env w, I [] env w → Q (.nx env) w)
    (hs : ∀ d ds env w, I (d :: ds) env w → ∃ e, fg d env = some e ∧ Run (fb e w) fun r w => match r with | .nx e => I ds e w | .ct e => I ds e w | .bk e => Q (.nx e) w | .rt v => Q (.rt v) w) :
    ∀ ds env w, I ds env w → Run (forGo fg fb ds env w) Q
  | [], env, w, h => hn env w h
  | d :: ds, env, w, h => by
    obtain ⟨e, e1, h1⟩ := hs d ds env w h
    unfold forGo
    rw [e1]
    refine Run.bind h1 fun r w h => ?_
    cases r with
    | nx e => exact run_forGo I hn hs ds e w h
    | ct e => exact run_forGo I hn hs ds e w h
    | bk e => exact h
    | rt v => exact h
/-- a walk over numbers -/
theorem run_forR {fg : D → List D → Option (List D)} {fb : SF W} (I : Nat → List D → W → Prop) (n : Nat) (lo : Int) (hn : ∀ env w, I n env w → Q (.nx env) w)
    (hs : ∀ i env w, i < n → I i env w → ∃ e, fg (.int (lo + i)) env = some e ∧ Run (fb e w) fun r w => match r with | .nx e => I (i + 1) e w | .ct e => I (i + 1) e w | .bk e => Q (.nx e) w | .rt v => Q (.rt v) w) (h0 : I 0 env w) : Run (forGo fg fb (rgF n lo) env w) Q := by
  refine run_forGo (fun ds env w => ∃ i, i ≤ n ∧ ds = rgF (n - i) (lo + i) ∧ I i env w) ?hn ?hs _ _ _ ⟨0, Nat.zero_le _, by simp, h0⟩
  case hn =>
    intro env w ⟨i, h1, h2, h3⟩
    have : n - i = 0 := by have := congrArg List.length h2; rw [rgF_len] at this; exact this.symm
    have : i = n := by omega
    subst this
    exact hn _ _ h3
  case hs =>
    intro d ds env w ⟨i, h1, h2, h3⟩
    cases e : n - i with
    | zero => rw [e] at h2; cases h2
    | succ m =>
      rw [e] at h2
      have hlt : i < n := by omega
      have h2' : d :: ds = .int (lo + i) :: rgF m (lo + i + 1) := h2
      have hd := (List.cons.inj h2').1
      have hds := (List.cons.inj h2').2
      obtain ⟨ev, e1, r⟩ := hs i env w hlt h3
      rw [hd]
      refine ⟨ev, e1, r.mono fun r w h => ?_⟩
      have nxt : ∀ e, I (i + 1) e w → ∃ j, j ≤ n ∧ ds = rgF (n - j) (lo + j) ∧ I j e w := fun e h => ⟨i + 1, hlt, by
        rw [hds]
        have e1 : n - (i + 1) = m := by omega
        have e2 : lo + (i : Int) + 1 = lo + ((i + 1 : Nat) : Int) := by rw [Int.natCast_add]; omega
        rw [e1, e2], h⟩
      cases r with
      | nx e => exact nxt e h
      | ct e => exact nxt e h
      | bk e => exact h
      | rt v => exact h
end
def f__law_draw (ns : List Int) : SF Fd := (fSeq (fIfS (gAnd (gB (fBin dEq (fFd 2) (fC (.int 0)))) (gB (fBin dLt (fFd 1) (fFdLen ns)))) (fSeq (fAsg (fUn gAbs (fUn gInt1 (fFdItem ns))) (tgN 3)) (fSeq (fFdSet ns.length 1 (fBin dAdd (fFd 1) (fC (.int 1)))) (fIfS (gB (fBin dGe (fVar 3) (fBin dPow (fC (.int 10)) (fC (.int 18))))) (fFdSet ns.length 2 (fVar 3)) (fFdSet ns.length 3 (fBin dMod (fUn gInt1 (fBin dAdd (fBin dAdd (fBin dMul (fFd 3) (fC (.int 48271))) (fBin dMul (fVar 3) (fC (.int 69621)))) (fFd 1))) (fC (.int 2147483647))))))) fNil) (fSeq (fIfS (gB (fBin dGt (fFd 2) (fC (.int 0)))) (fSeq (fAsg (fBin dMod (fUn gInt1 (fFd 2)) (fVar 1)) (tgN 4)) (fSeq (fFdSet ns.length 2 (fBin dDiv (fFd 2) (fVar 1))) (fRet (fScal (fVar 4))))) fNil) (fSeq (fFdSet ns.length 3 (fBin dMod (fUn gInt1 (fBin dAdd (fBin dMul (fFd 3) (fC (.int 16807))) (fC (.int 12345)))) (fC (.int 2147483647)))) (fSeq (fAsg (fBin dMod (fUn gInt1 (fBin dAdd (fBin dMul (fFd 3) (fFd 3)) (fFd 3))) (fC (.int 2147483629))) (tgN 2)) (fRet (fBin dMod (fBin dDiv (fVar 2) (fC (.int 11))) (fVar 1)))))))
def m__law_draw (ns : List Int) : List D → Fd → Out Fd D := runDef 5 (f__law_draw ns )
def f__law_shape (ns : List Int) : SF Fd := (fSeq (fOwn (fLst aNil) 2) (fSeq (fAsg (fScal (fVar 1)) (tgN 3)) (fSeq (fFor (iR1 (fVar 1)) (tgN 4) (fIfS (gB (fBin dGt (fVar 3) (fC (.int 0)))) (fSeq (fAsg (fBin dAdd (fC (.int 1)) (fCallW 1 (m__law_draw ns) (aCons (fUn gMin (fBin dCat (fSl (fVar 2) (gPart (fUn dNeg (fC (.int 1)))) gNoPart) (fLst (aCons (fVar 3) aNil)))) aNil))) (tgN 5)) (fSeq (fMeth mApp 2 (aCons (fVar 5) aNil)) (fAsg (fBin dSub (fVar 3) (fVar 5)) (tgN 3)))) fNil)) (fRet (fVar 2)))))
def m__law_shape (ns : List Int) : List D → Fd → Out Fd D := runDef 6 (f__law_shape ns )
def f__law_same (m : List D → Unit → Out Unit D) : SF Unit := (fSeq (fIfS (gB (fUn isiLT (fVar 1))) (fSeq (fIfS (gOr (gNot (gB (fUn isiLT (fVar 0)))) (gB (fBin dNeS (fUn isiList (fVar 0)) (fUn isiList (fVar 1))))) (fRet (fC (.bool false))) fNil) (fSeq (fIfS (gB (fBin dNeS (fUn gLen (fVar 0)) (fUn gLen (fVar 1)))) (fRet (fC (.bool false))) fNil) (fRet (fUn gAll (fLc (iR1 (fUn gLen (fVar 1))) (tgN 2) gYes (fCall 2 m (aCons (fBin dIxS (fVar 0) (fVar 2)) (aCons (fBin dIxS (fVar 1) (fVar 2)) aNil)))))))) fNil) (fSeq (fIfS (gB (fBin gIsN (fVar 1) (fC .none))) (fRet (fBin gIsN (fVar 0) (fC .none))) fNil) (fSeq (fIfS (gB (fUn isiBool (fVar 1))) (fRet (fAnd (fUn isiBool (fVar 0)) (fBin dEq (fVar 0) (fVar 1)))) fNil) (fSeq (fIfS (gB (fUn isiStr (fVar 1))) (fRet (fAnd (fUn isiStr (fVar 0)) (fBin dEq (fVar 0) (fVar 1)))) fNil) (fRet (fAnd (fUn isiInt (fVar 0)) (fAnd (fNot (fUn isiBool (fVar 0))) (fBin dEq (fVar 0) (fVar 1)))))))))
def m__law_same : Nat → List D → Unit → Out Unit D
  | 0 => fun _ _ => .st
  | n + 1 => runDef 3 (f__law_same (m__law_same n))
/-! ### draws -/
theorem run_fdSet {n : Nat} {k : Int} {a : EF Fd} {env : List D} {w : Fd} {Q : Fl → Fd → Prop} (h : Run (a env w) fun d w => ∃ z w', d = .int z ∧ fdPut k z w = some w' ∧ fdOk n w' ∧ Q (.nx env) w') : Run (fFdSet n k a env w) Q := by
  refine Run.bind h fun d w ⟨z, w', h1, h2, h3, h4⟩ => ?_
  subst h1
  have e : gFdPut n k (.int z) w = some w' := by
    unfold gFdPut
    simp only [h2]
    have : okFd n w' = true := decide_eq_true h3
    rw [this]; rfl
  rw [e]
  exact h4
theorem ble_abs (z : Int) (n : Nat) (h : z.natAbs ≤ n) : Nat.ble z.natAbs n = true := Nat.ble_eq.mpr h
theorem dMulR {i j : Int} (h : j.natAbs ≤ 18446744073709551615) : dMul (.int i) (.int j) = some (.int (i * j)) := by
  show ifs (cMul i j) (PyData.int (i * j)) = _
  have : cMul i j = true := by unfold cMul; rw [ble_abs j _ h, Bool.or_true]
  rw [this]; rfl
theorem dMod1 {i j : Int} (h : 0 < j) : dMod (.int i) (.int j) = some (.int (i % j)) := by
  cases j with
  | ofNat n =>
    show ifs (Nat.blt 0 n) _ = _
    have : Nat.blt 0 n = true := Nat.ble_eq.mpr (by have : (0 : Int) < (n : Int) := h; omega)
    rw [this]; rfl
  | negSucc n => have : (0 : Int) < Int.negSucc n := h; omega
theorem dDiv1 {i j : Int} (h : 0 < j) (h2 : j ≤ 18446744073709551615) : dDiv (.int i) (.int j) = some (.int (i / j)) := by
  cases j with
  | ofNat n =>
    have a1 : (0 : Int) < (n : Int) := h
    have a2 : (n : Int) ≤ 18446744073709551615 := h2
    show ifs (Nat.blt 0 n && Nat.blt n (2 ^ 9000)) _ = _
    have e1 : Nat.blt 0 n = true := Nat.ble_eq.mpr (by omega)
    have e2 : Nat.blt n (2 ^ 9000) = true := Nat.ble_eq.mpr (Nat.lt_of_lt_of_le (show n < 2 ^ 64 by omega) (Nat.pow_le_pow_right (by decide) (by decide)))
    rw [e1, e2]; rfl
  | negSucc n => have : (0 : Int) < Int.negSucc n := h; omega
section
variable {W : Type} {a b : EF W} {env : List D} {w : W} {Q : D → W → Prop}
theorem ev_bin {g : D → D → Option D} {w1 w2 : W} {x y d : D} (ha : a env w = .ok x w1) (hb : b env w1 = .ok y w2) (h : g x y = some d) : fBin g a b env w = .ok d w2 := by
  unfold fBin
  rw [ha]
  show (b env w1).bind _ = _
  rw [hb]
  show lf (g x y) w2 = _
  rw [h]; rfl
theorem ev_un {g : D → Option D} {w1 : W} {x d : D} (ha : a env w = .ok x w1) (h : g x = some d) : fUn g a env w = .ok d w1 := by
  unfold fUn
  rw [ha]
  show lf (g x) w1 = _
  rw [h]; rfl
theorem ev_callW {n : Nat} {m : List D → W → Out W D} {args : AF W} {ds : List D} {d : D} {w1 w2 : W} (ha : args env w = .ok ds w1) (hl : ds.length = n) (hm : m (.none :: ds) w1 = .ok d w2) : fCallW n m args env w = .ok d w2 := by
  subst hl
  have e : Nat.beq ds.length ds.length = true := Nat.beq_refl _
  simp only [fCallW, ha, Out.bind, e, hm]
theorem ev_call {n : Nat} {m : List D → Unit → Out Unit D} {args : AF W} {ds : List D} {d : D} {w1 : W} (ha : args env w = .ok ds w1) (hl : ds.length = n) (hm : m ds () = .ok d ()) : fCall n m args env w = .ok d w1 := by
  subst hl
  have e : Nat.beq ds.length ds.length = true := Nat.beq_refl _
  simp only [fCall, ha, Out.bind, e, hm]
theorem ev_cons {r : AF W} {x : D} {xs : List D} {w1 w2 : W} (ha : a env w = .ok x w1) (hr : r env w1 = .ok xs w2) : aCons a r env w = .ok (x :: xs) w2 := by
  simp only [aCons, ha, Out.bind, hr]
theorem run_bin {g : D → D → Option D} (h : Run (a env w) fun x w => Run (b env w) fun y w => ∃ d, g x y = some d ∧ Q d w) : Run (fBin g a b env w) Q := by
  refine Run.bind h fun x w h => Run.bind h fun y w ⟨d, h1, h2⟩ => ?_
  rw [h1]; exact h2
theorem run_un {g : D → Option D} (h : Run (a env w) fun x w => ∃ d, g x = some d ∧ Q d w) : Run (fUn g a env w) Q := by
  refine Run.bind h fun x w ⟨d, h1, h2⟩ => ?_
  rw [h1]; exact h2
theorem run_gB {Q : Bool → W → Prop} (h : Run (a env w) fun x w => ∃ b, x = .bool b ∧ Q b w) : Run (gB a env w) Q := by
  refine Run.bind h fun x w ⟨b, h1, h2⟩ => ?_
  rw [h1]; exact h2
theorem run_and {p q : List D → W → Out W Bool} {Q : Bool → W → Prop} (h : Run (p env w) fun b w => match b with | true => Run (q env w) Q | false => Q false w) : Run (gAnd p q env w) Q := by
  refine Run.bind h fun b w h => ?_
  cases b <;> exact h
theorem run_or {p q : List D → W → Out W Bool} {Q : Bool → W → Prop} (h : Run (p env w) fun b w => match b with | true => Q true w | false => Run (q env w) Q) : Run (gOr p q env w) Q := by
  refine Run.bind h fun b w h => ?_
  cases b <;> exact h
theorem run_not {p : List D → W → Out W Bool} {Q : Bool → W → Prop} (h : Run (p env w) fun b w => Q (!b) w) : Run (gNot p env w) Q := Run.bind h fun b w h => h
theorem run_scal {Q : D → W → Prop} (h : Run (a env w) fun x w => scalD x = true ∧ Q x w) : Run (fScal a env w) Q := by
  refine Run.bind h fun x w ⟨h1, h2⟩ => ?_
  rw [h1]; exact h2
end
theorem draw_tail {ns : List Int} {p b s many : Int} {x : D} {y z u : D} (h : fdOk ns.length ⟨p, b, s⟩) (hm : 0 < many) (hm2 : many ≤ 18446744073709551615) :
    Run ((fSeq (fIfS (gB (fBin dGt (fFd 2) (fC (.int 0)))) (fSeq (fAsg (fBin dMod (fUn gInt1 (fFd 2)) (fVar 1)) (tgN 4)) (fSeq (fFdSet ns.length 2 (fBin dDiv (fFd 2) (fVar 1))) (fRet (fScal (fVar 4))))) fNil) (fSeq (fFdSet ns.length 3 (fBin dMod (fUn gInt1 (fBin dAdd (fBin dMul (fFd 3) (fC (.int 16807))) (fC (.int 12345)))) (fC (.int 2147483647)))) (fSeq (fAsg (fBin dMod (fUn gInt1 (fBin dAdd (fBin dMul (fFd 3) (fFd 3)) (fFd 3))) (fC (.int 2147483629))) (tgN 2)) (fRet (fBin dMod (fBin dDiv (fVar 2) (fC (.int 11))) (fVar 1)))))) [x, .int many, y, z, u] ⟨p, b, s⟩) fun r w' => ∃ k, r = .rt (.int k) ∧ 0 ≤ k ∧ k < many ∧ fdOk ns.length w' := by
  obtain ⟨h1, h2, h3, h4, h5⟩ := h
  simp only at h1 h2 h3 h4 h5
  have hz : ∀ j : Int, 0 < j → ∀ i : Int, 0 ≤ i % j ∧ i % j < j := fun j hj i => ⟨Int.emod_nonneg _ (by omega), Int.emod_lt_of_pos _ hj⟩
  refine run_seq (run_if (Run.of (a := decide (0 < b)) (w := ⟨p, b, s⟩) rfl ?_))
  by_cases hb : 0 < b
  · rw [decide_eq_true hb]
    refine run_seq (run_set (run_bin (Run.of (a := .int b) (w := ⟨p, b, s⟩) rfl (Run.of (a := .int many) (w := ⟨p, b, s⟩) rfl ⟨_, dMod1 hm, ?_⟩))))
    refine run_seq (run_fdSet (run_bin (Run.of (a := .int b) (w := ⟨p, b, s⟩) rfl (Run.of (a := .int many) (w := ⟨p, b, s⟩) rfl ⟨_, dDiv1 hm hm2, _, ⟨p, b / many, s⟩, rfl, rfl, ⟨h1, h2, Int.ediv_nonneg h3 (by omega), h4, h5⟩, ?_⟩))))
    exact run_ret (run_scal (Run.of (a := .int (b % many)) rfl ⟨rfl, _, rfl, (hz many hm b).1, (hz many hm b).2, h1, h2, Int.ediv_nonneg h3 (by omega), h4, h5⟩))
  · rw [decide_eq_false hb]
    have hs := hz 2147483647 (by decide) (s * 16807 + 12345)
    generalize hS : (s * 16807 + 12345) % 2147483647 = s' at hs
    refine Run.of (a := .nx _) (w := ⟨p, b, s⟩) rfl (run_seq (run_fdSet (run_bin (Run.of (a := .int (s * 16807 + 12345)) (w := ⟨p, b, s⟩) ?_ (Run.of (a := .int 2147483647) (w := ⟨p, b, s⟩) rfl ⟨.int s', ?_, s', ⟨p, b, s'⟩, rfl, rfl, ⟨h1, h2, h3, hs.1, by show s' < 2147483648; omega⟩, ?_⟩)))))
    · refine Run.eq (run_un (run_bin (run_bin (Run.of (a := .int s) rfl (Run.of (a := .int 16807) rfl ⟨_, dMulR (by decide), Run.of (a := .int 12345) rfl ⟨_, rfl, _, rfl, rfl, rfl⟩⟩)))))
    · rw [dMod1 (by decide), hS]
    · have hq := hz 2147483629 (by decide) (s' * s' + s')
      generalize hM : (s' * s' + s') % 2147483629 = mx at hq
      refine run_seq (run_set (run_bin (run_un (run_bin (run_bin (Run.of (a := .int s') rfl (Run.of (a := .int s') rfl ⟨_, dMulR (by omega), Run.of (a := .int s') rfl ⟨_, rfl, _, rfl, Run.of (a := .int 2147483629) rfl ⟨_, dMod1 (by decide), ?_⟩⟩⟩)))))))
      refine run_ret (run_bin (run_bin (Run.of (a := .int _) rfl (Run.of (a := .int 11) rfl ⟨_, dDiv1 (by decide) (by decide), Run.of (a := .int many) rfl ⟨_, dMod1 hm, _, rfl, (hz many hm _).1, (hz many hm _).2, h1, h2, h3, hs.1, by show s' < 2147483648; omega⟩⟩))))
theorem draw_ok {ns : List Int} {w : Fd} {many : Int} {x : D} (h : fdOk ns.length w) (hm : 0 < many) (hm2 : many ≤ 18446744073709551615) :
    Run (m__law_draw ns [x, .int many] w) fun d w' => ∃ k, d = .int k ∧ 0 ≤ k ∧ k < many ∧ fdOk ns.length w' := by
  obtain ⟨p, b, s⟩ := w
  have fin : ∀ {y z u : D} {w1 : Fd}, fdOk ns.length w1 → ∀ {s2 : SF Fd}, Run (fSeq fNil s2 [x, .int many, y, z, u] w1) (fun r w' => ∃ k, r = .rt (.int k) ∧ 0 ≤ k ∧ k < many ∧ fdOk ns.length w') → True := fun _ _ _ => trivial
  refine Run.bind (P := fun r w' => ∃ k, r = .rt (.int k) ∧ 0 ≤ k ∧ k < many ∧ fdOk ns.length w') ?_ fun r w' ⟨k, h1, h2, h3, h4⟩ => by subst h1; exact ⟨k, rfl, h2, h3, h4⟩
  show Run (f__law_draw ns [x, .int many, .none, .none, .none] ⟨p, b, s⟩) _
  unfold f__law_draw
  obtain ⟨h1, h2, h3, h4, h5⟩ := h
  simp only at h1 h2 h3 h4 h5
  have hz : ∀ j : Int, 0 < j → ∀ i : Int, 0 ≤ i % j ∧ i % j < j := fun j hj i => ⟨Int.emod_nonneg _ (by omega), Int.emod_lt_of_pos _ hj⟩
  refine run_seq (run_if ?_)
  by_cases hb : b = 0
  · by_cases hp : p < ns.length
    · refine run_and (run_gB (Run.of (a := .bool true) (w := ⟨p, b, s⟩) (by subst hb; rfl) ⟨true, rfl, run_gB (Run.of (a := .bool (decide (p < (ns.length : Int)))) (w := ⟨p, b, s⟩) rfl ⟨_, rfl, ?_⟩)⟩))
      rw [decide_eq_true hp]
      obtain ⟨i, rfl⟩ : ∃ i : Nat, p = (i : Int) := ⟨p.toNat, by omega⟩
      have hi : i < ns.length := by omega
      have item : fFdItem ns [x, .int many, .none, .none, .none] ⟨(i : Int), b, s⟩ = .ok (.int ns[i]) ⟨(i : Int), b, s⟩ := by
        show lf ((ns.map PyData.int)[i]?) _ = _
        rw [List.getElem?_map, List.getElem?_eq_getElem hi]; rfl
      refine run_seq (run_set (run_un (run_un (Run.of item ⟨_, rfl, _, rfl, ?_⟩))))
      generalize hc : (if ns[i] < 0 then -ns[i] else ns[i]) = c
      have hc0 : 0 ≤ c := by rw [← hc]; split <;> omega
      have hpo : fdOk ns.length ⟨(i : Int) + 1, b, s⟩ := ⟨by show (0 : Int) ≤ (i : Int) + 1; omega, by show (i : Int) + 1 ≤ ns.length; omega, h3, h4, h5⟩
      refine run_seq (run_fdSet (run_bin (Run.of (a := .int (i : Int)) (w := ⟨(i : Int), b, s⟩) rfl (Run.of (a := .int 1) rfl ⟨_, rfl, _, ⟨(i : Int) + 1, b, s⟩, rfl, rfl, hpo, ?_⟩))))
      refine run_if (run_gB (Run.of (a := .bool (decide ((1000000000000000000 : Int) ≤ c))) (w := ⟨(i : Int) + 1, b, s⟩) rfl ⟨_, rfl, ?_⟩))
      by_cases hbig : (1000000000000000000 : Int) ≤ c
      · rw [decide_eq_true hbig]
        refine run_fdSet (Run.of (a := .int c) rfl ⟨c, ⟨(i : Int) + 1, c, s⟩, rfl, rfl, ⟨hpo.1, hpo.2.1, hc0, h4, h5⟩, ?_⟩)
        exact draw_tail ⟨hpo.1, hpo.2.1, hc0, h4, h5⟩ hm hm2
      · rw [decide_eq_false hbig]
        have hs := hz 2147483647 (by decide) (s * 48271 + c * 69621 + ((i : Int) + 1))
        generalize hS : (s * 48271 + c * 69621 + ((i : Int) + 1)) % 2147483647 = s' at hs
        have ok' : fdOk ns.length ⟨(i : Int) + 1, b, s'⟩ := ⟨hpo.1, hpo.2.1, h3, hs.1, by show s' < 2147483648; omega⟩
        refine run_fdSet (Run.of (a := .int s') (w := ⟨(i : Int) + 1, b, s⟩) ?_ ⟨s', ⟨(i : Int) + 1, b, s'⟩, rfl, rfl, ok', ?_⟩)
        · rw [← hS]
          exact ev_bin (ev_un (ev_bin (ev_bin (ev_bin (x := .int s) rfl rfl (dMulR (by decide))) (ev_bin (x := .int c) rfl rfl (dMulR (by decide))) rfl) rfl rfl) rfl) rfl (dMod1 (by decide))
        exact draw_tail ok' hm hm2
    · refine run_and (run_gB (Run.of (a := .bool true) (w := ⟨p, b, s⟩) (by subst hb; rfl) ⟨true, rfl, run_gB (Run.of (a := .bool (decide (p < (ns.length : Int)))) (w := ⟨p, b, s⟩) rfl ⟨_, rfl, ?_⟩)⟩))
      rw [decide_eq_false hp]
      exact draw_tail ⟨h1, h2, h3, h4, h5⟩ hm hm2
  · refine run_and (run_gB (Run.of (a := .bool false) (w := ⟨p, b, s⟩) ?_ ⟨false, rfl, draw_tail ⟨h1, h2, h3, h4, h5⟩ hm hm2⟩))
    show Out.ok (PyData.bool (eqF 8 (.int b) (.int 0))) _ = _
    have : eqF 8 (.int b) (.int 0) = false := by
      show (b == 0) = false
      exact beq_eq_false_iff_ne.mpr hb
    rw [this]
end DL

/-! the plain law: shapes -/
namespace DL
open PySem PySem.Spec L2
/-- a list of numbers as data -/
abbrev nD (n : Nat) : D := .int (n : Int)
abbrev encN (l : List Nat) : D := .list (l.map nD)
theorem snoc_cases {α : Type} (l : List α) : l = [] ∨ ∃ init a, l = init ++ [a] := by
  rcases List.eq_nil_or_concat l with e | ⟨init, a, e⟩
  · exact .inl e
  · exact .inr ⟨init, a, by rw [e, List.concat_eq_append]⟩
theorem cut_last (xs : List D) (x : D) : cutD (xs ++ [x]) (some (-1)) none = [x] := by
  have e : HT.sIx (xs ++ [x]).length 0 (some (-1)) = xs.length := by
    show (if (-1 : Int) < 0 then ((-1 : Int) + ((xs ++ [x]).length : Int)).toNat else min (-1 : Int).toNat (xs ++ [x]).length) = _
    rw [if_pos (show (-1 : Int) < 0 by decide), List.length_append, List.length_singleton]
    omega
  unfold cutD
  rw [e, HT.sIx_none, List.drop_left, List.length_append, List.length_singleton]
  show List.take (xs.length + 1 - xs.length) [x] = [x]
  rw [Nat.add_sub_cancel_left]; rfl
/-- never rising, all positive, summed -/
def Part : List Nat → Nat → Prop := fun l n => l.Pairwise (fun a b => b ≤ a) ∧ (∀ x ∈ l, 0 < x) ∧ l.sum = n
theorem Part.snoc {l : List Nat} {n k : Nat} (h : Part l n) (hk : 0 < k) (hl : ∀ init a, l = init ++ [a] → k ≤ a) : Part (l ++ [k]) (n + k) := by
  obtain ⟨h1, h2, h3⟩ := h
  refine ⟨List.pairwise_append.mpr ⟨h1, List.pairwise_singleton _ _, fun a ha b hb => ?_⟩, fun x hx => ?_, by rw [List.sum_append, h3]; simp⟩
  · rw [List.mem_singleton.mp hb]
    rcases snoc_cases l with e | ⟨init, z, e⟩
    · rw [e] at ha; cases ha
    · have hz := hl init z e
      rw [e] at ha h1
      rcases List.mem_append.mp ha with ha | ha
      · exact Nat.le_trans hz ((List.pairwise_append.mp h1).2.2 a ha z (by simp))
      · rw [List.mem_singleton.mp ha]; exact hz
  · rcases List.mem_append.mp hx with hx | hx
    · exact h2 x hx
    · rw [List.mem_singleton.mp hx]; exact hk
theorem toInts_nat (l : List Nat) : toInts (l.map nD) = some (l.map fun n : Nat => (n : Int)) := by
  have : l.map nD = (l.map fun n : Nat => (n : Int)).map PyData.int := by rw [List.map_map]; rfl
  rw [this, toInts_map]
/-- the least of the last one and what is left -/
def lastMin (l : List Nat) (left : Nat) : Nat := match l.getLast? with | some a => min a left | none => left
theorem lastMin_eval (l : List Nat) (left : Nat) : ∃ d, dCat (.list (cutD (l.map nD) (some (-1)) none)) (.list [nD left]) = some d ∧ gMin d = some (nD (lastMin l left)) := by
  rcases snoc_cases l with e | ⟨init, a, e⟩
  · subst e; exact ⟨_, rfl, rfl⟩
  · subst e
    rw [List.map_append]
    rw [show ([a].map nD) = [nD a] from rfl, cut_last]
    refine ⟨.list [nD a, nD left], rfl, ?_⟩
    show some (PyData.int (minI (a : Int) [(left : Int)])) = _
    have el : lastMin (init ++ [a]) left = min a left := by unfold lastMin; rw [List.getLast?_append]; rfl
    rw [el]
    simp only [minI]
    split
    · rename_i h _
      rw [Nat.min_eq_right (by omega)]
    · rename_i h _
      rw [Nat.min_eq_left (by omega)]
theorem sm_of {n : Nat} (h : n ≤ 100000) : sm n = true := Nat.ble_eq.mpr h
theorem smI_of {n : Nat} (h : n ≤ 1000000) : smI (n : Int) = true := Nat.ble_eq.mpr (by omega)
theorem rg1_of {n : Nat} (h : n ≤ 1000000) : rg1 (nD n) = some (rgF n 0) := by
  show ifs (smI (n : Int)) (rgF (n : Int).toNat 0) = _
  rw [smI_of h, Int.toNat_natCast]; rfl
theorem shape_ok {ns : List Int} {w : Fd} {n : Nat} {x : D} (h : fdOk ns.length w) (hn : n ≤ 1000) :
    Run (m__law_shape ns [x, nD n] w) fun d w' => ∃ l : List Nat, d = encN l ∧ Part l n ∧ fdOk ns.length w' := by
  refine Run.bind (P := fun r w' => ∃ l : List Nat, r = .rt (encN l) ∧ Part l n ∧ fdOk ns.length w') ?_ fun r w' ⟨k, h1, h2⟩ => by subst h1; exact ⟨k, rfl, h2⟩
  show Run (f__law_shape ns [x, nD n, .none, .none, .none, .none] w) _
  unfold f__law_shape
  refine run_seq (Run.of (a := .nx [x, nD n, .list [], .none, .none, .none]) (w := w) rfl ?_)
  refine run_seq (run_set (run_scal (Run.of (a := nD n) (w := w) rfl ⟨rfl, ?_⟩)))
  show Run (fSeq (fFor _ _ _) _ [x, nD n, .list [], nD n, .none, .none] w) _
  refine run_seq (Run.bind (P := fun ds w' => ds = rgF n 0 ∧ w' = w) (Run.of (a := rgF n 0) (w := w) ?_ ⟨rfl, rfl⟩) fun ds w' ⟨e1, e2⟩ => ?_)
  · show lf (rg1 (nD n)) w = _
    rw [rg1_of (by omega)]; rfl
  subst e1 e2
  refine run_forR (fun i env w => ∃ l left t k, env = [x, nD n, encN l, nD left, t, k] ∧ Part l (n - left) ∧ left ≤ n ∧ left ≤ n - i ∧ l.length ≤ i ∧ fdOk ns.length w) n 0 ?hn ?hs ⟨[], n, .none, .none, rfl, by simp [Part], Nat.le_refl _, Nat.le_refl _, Nat.le_refl _, h⟩
  case hn =>
    rintro env w ⟨l, left, t, k, rfl, hp, h1, h2, h3, h4⟩
    have : left = 0 := by omega
    subst this
    exact run_ret (Run.of (a := encN l) rfl ⟨l, rfl, hp, h4⟩)
  case hs =>
    rintro i env w hi ⟨l, left, t, k, rfl, hp, h1, h2, h3, h4⟩
    refine ⟨_, rfl, ?_⟩
    show Run (fIfS _ _ _ [x, nD n, encN l, nD left, .int (0 + i), k] w) _
    refine run_if (run_gB (Run.of (a := .bool (decide ((0 : Int) < (left : Int)))) (w := w) rfl ⟨_, rfl, ?_⟩))
    by_cases hl : 0 < left
    · rw [decide_eq_true (by omega)]
      obtain ⟨d, d1, d2⟩ := lastMin_eval l left
      have hm0 : 0 < lastMin l left := by
        unfold lastMin
        cases e : l.getLast? with
        | none => exact hl
        | some a => exact Nat.lt_min.mpr ⟨hp.2.1 a (List.mem_of_getLast? e), hl⟩
      have hmL : lastMin l left ≤ left := by
        unfold lastMin
        cases e : l.getLast? with
        | none => exact Nat.le_refl _
        | some a => exact Nat.min_le_right _ _
      have hmA : ∀ init a, l = init ++ [a] → lastMin l left ≤ a := by
        intro init a e
        subst e
        unfold lastMin
        rw [List.getLast?_append]
        exact Nat.min_le_left _ _
      have arg : (aCons (fUn gMin (fBin dCat (fSl (fVar 2) (gPart (fUn dNeg (fC (.int 1)))) gNoPart) (fLst (aCons (fVar 3) aNil)))) aNil) [x, nD n, encN l, nD left, .int (0 + i), k] w = .ok [nD (lastMin l left)] w := by
        unfold aCons
        rw [ev_un (x := d) (d := nD (lastMin l left)) (w1 := w) (ev_bin (x := .list (cutD (l.map nD) (some (-1)) none)) (y := .list [nD left]) rfl rfl d1) d2]
        rfl
      obtain ⟨kd, w1, e1, kk, rfl, hk0, hk1, hw1⟩ := (draw_ok (x := .none) h4 (many := (lastMin l left : Int)) (by omega) (by omega)).ex
      have call : fCallW 1 (m__law_draw ns) (aCons (fUn gMin (fBin dCat (fSl (fVar 2) (gPart (fUn dNeg (fC (.int 1)))) gNoPart) (fLst (aCons (fVar 3) aNil)))) aNil) [x, nD n, encN l, nD left, .int (0 + i), k] w = .ok (.int kk) w1 := ev_callW arg rfl e1
      obtain ⟨q, rfl⟩ : ∃ q : Nat, kk = (q : Int) := ⟨kk.toNat, by omega⟩
      refine run_seq (run_set (Run.of (a := nD (1 + q)) (w := w1) (ev_bin (x := .int 1) (y := .int (q : Int)) rfl call (by show some (PyData.int (1 + (q : Int))) = _; congr 2)) ?_))
      refine run_seq (Run.of (a := .nx [x, nD n, encN (l ++ [1 + q]), nD left, .int (0 + i), nD (1 + q)]) (w := w1) ?_ ?_)
      · show (lf (gM mApp (encN l) [nD (1 + q)]) w1).bind _ = _
        show (lf (ifs (sm (l.map nD).length) (l.map nD ++ [nD (1 + q)])) w1).bind _ = _
        rw [sm_of (by rw [List.length_map]; omega)]
        show Out.ok (Fl.nx _) w1 = _
        rw [show encN (l ++ [1 + q]) = .list (l.map nD ++ [nD (1 + q)]) by unfold encN; rw [List.map_append]; rfl]
        rfl
      · refine run_set (Run.of (a := nD (left - (1 + q))) (w := w1) ?_ ⟨l ++ [1 + q], left - (1 + q), _, _, rfl, ?_, by omega, by omega, by rw [List.length_append, List.length_singleton]; omega, hw1⟩)
        · refine ev_bin (x := nD left) (y := nD (1 + q)) rfl rfl ?_
          show some (PyData.int ((left : Int) - ((1 + q : Nat) : Int))) = some (PyData.int ((left - (1 + q) : Nat) : Int))
          congr 2
          omega
        · have := Part.snoc (k := 1 + q) hp (by omega) fun init a e => by have := hmA init a e; omega
          rw [show n - (left - (1 + q)) = n - left + (1 + q) by omega]
          exact this
    · rw [decide_eq_false (by omega)]
      exact Run.of (a := .nx _) rfl ⟨l, left, _, _, rfl, hp, h1, by omega, by omega, h4⟩
end DL

/-! the plain law: comprehensions, sameness -/
namespace DL
open PySem PySem.Spec L2
section
variable {W : Type} {env : List D} {w : W} {p : List D → W → Out W Bool} {f : EF W} {fi : AF W}
theorem lcGo_encG {α : Type} {fg : D → List D → Option (List D)} (enc : α → D) (tg : α → List D) (b : α → Bool) (y : α → D) : ∀ (xs : List α), (∀ x ∈ xs, fg (enc x) env = some (tg x) ∧ p (tg x) w = .ok (b x) w ∧ (b x = true → f (tg x) w = .ok (y x) w)) → lcGo fg p f env (xs.map enc) w = .ok ((xs.filter b).map y) w
  | [], _ => rfl
  | x :: xs, h => by
    obtain ⟨h0, h1, h2⟩ := h x List.mem_cons_self
    have ih := lcGo_encG enc tg b y xs fun z hz => h z (List.mem_cons_of_mem _ hz)
    rw [List.map_cons]
    simp only [lcGo, h0, h1, Out.bind]
    cases e : b x with
    | true => simp only [h2 e, ih, List.filter_cons, e, if_true, List.map_cons]
    | false => simp only [ih, List.filter_cons, e]; rfl
theorem ev_lcG {α : Type} {fg : D → List D → Option (List D)} (enc : α → D) (tg : α → List D) (b : α → Bool) (y : α → D) {xs : List α} (hi : fi env w = .ok (xs.map enc) w) (hl : xs.length ≤ 100000) (h : ∀ x ∈ xs, fg (enc x) env = some (tg x) ∧ p (tg x) w = .ok (b x) w ∧ (b x = true → f (tg x) w = .ok (y x) w)) : fLc fi fg p f env w = .ok (.list ((xs.filter b).map y)) w := by
  have hs : sm xs.length = true := sm_of hl
  simp only [fLc, hi, Out.bind, lcGo_encG enc tg b y xs h, noX, List.length_map, hs]
  rfl
theorem ev_lc {α : Type} {j : Nat} (enc : α → D) (b : α → Bool) (y : α → D) {xs : List α} (hi : fi env w = .ok (xs.map enc) w) (hl : xs.length ≤ 100000) (h : ∀ x ∈ xs, p (env.set j (enc x)) w = .ok (b x) w ∧ (b x = true → f (env.set j (enc x)) w = .ok (y x) w)) : fLc fi (tgN j) p f env w = .ok (.list ((xs.filter b).map y)) w :=
  ev_lcG enc (fun x => env.set j (enc x)) b y hi hl fun x hx => ⟨rfl, h x hx⟩
theorem ev_lcY {α : Type} {j : Nat} (enc : α → D) (y : α → D) {xs : List α} (hi : fi env w = .ok (xs.map enc) w) (hl : xs.length ≤ 100000) (h : ∀ x ∈ xs, f (env.set j (enc x)) w = .ok (y x) w) : fLc fi (tgN j) gYes f env w = .ok (.list (xs.map y)) w := by
  have := ev_lc (j := j) (p := gYes) (f := f) enc (fun _ => true) y hi hl fun x hx => ⟨rfl, fun _ => h x hx⟩
  rw [this, List.filter_eq_self.mpr fun _ _ => rfl]
end
theorem rgF_eq : ∀ (n : Nat) (lo : Int), rgF n lo = (List.range n).map fun i : Nat => PyData.int (lo + (i : Int))
  | 0, _ => rfl
  | n + 1, lo => by
    rw [List.range_succ_eq_map, List.map_cons, List.map_map]
    show PyData.int lo :: rgF n (lo + 1) = _
    rw [rgF_eq n (lo + 1)]
    congr 1
    · show _ = PyData.int (lo + (0 : Int)); rw [Int.add_zero]
    · refine List.map_congr_left fun i _ => ?_
      show PyData.int (lo + 1 + (i : Int)) = PyData.int (lo + ((i + 1 : Nat) : Int))
      congr 1
      omega
theorem rgF0 (n : Nat) : rgF n 0 = (List.range n).map nD := by
  rw [rgF_eq]
  refine List.map_congr_left fun i _ => ?_
  show PyData.int (0 + (i : Int)) = _
  rw [Int.zero_add]
/-- data that sameness can look at, no deeper than n -/
def okS : Nat → D → Bool
  | 0, _ => false
  | _ + 1, .int _ => true
  | _ + 1, .bool _ => true
  | _ + 1, .none => true
  | n + 1, .list ds => Nat.ble ds.length 100000 && ds.all (okS n)
  | n + 1, .tuple ds => Nat.ble ds.length 100000 && ds.all (okS n)
  | _ + 1, _ => false
theorem all_true (n : Nat) : gAll (.list ((List.range n).map fun _ => PyData.bool true)) = some (.bool true) := by
  have e : ∀ m : List Nat, toBools (m.map fun _ => PyData.bool true) = some (m.map fun _ => true) := fun m => by
    induction m with
    | nil => rfl
    | cons a m ih =>
      show (match toBools (m.map fun _ => PyData.bool true) with | some r => some (true :: r) | none => none) = _
      rw [ih]; rfl
  have a : ∀ m : List Nat, allB (m.map fun _ => true) = true := fun m => by
    induction m with
    | nil => rfl
    | cons a m ih => exact ih
  simp only [gAll, e, a]
theorem same_seq {n : Nat} {x : D} {ds : List D} (hx : x = .list ds ∨ x = .tuple ds) (hl : ds.length ≤ 100000) (ih : ∀ d ∈ ds, m__law_same n [d, d] () = .ok (.bool true) ()) : m__law_same (n + 1) [x, x] () = .ok (.bool true) () := by
  have hr : (iR1 (fUn gLen (fVar 1)) : AF Unit) [x, x, .none] () = .ok ((List.range ds.length).map nD) () := by
    have : gLen x = some (nD ds.length) := by rcases hx with rfl | rfl <;> rfl
    simp only [iR1]
    rw [ev_un (x := x) (d := nD ds.length) (w1 := ()) rfl this]
    show lf (rg1 (nD ds.length)) () = _
    rw [rg1_of (by omega), rgF0]; rfl
  have hc := ev_lcY (j := 2) (f := fCall 2 (m__law_same n) (aCons (fBin dIxS (fVar 0) (fVar 2)) (aCons (fBin dIxS (fVar 1) (fVar 2)) aNil))) nD (fun _ => PyData.bool true) hr (by rw [List.length_range]; exact hl) fun i hi => by
    have hi' : i < ds.length := List.mem_range.mp hi
    have e1 : dIxS x (nD i) = some ds[i] := by
      rcases hx with rfl | rfl
      · show ds[i]? = _; rw [List.getElem?_eq_getElem hi']
      · show ds[i]? = _; rw [List.getElem?_eq_getElem hi']
    exact ev_call (ds := [ds[i], ds[i]]) (ev_cons (ev_bin (x := x) (y := nD i) rfl rfl e1) (ev_cons (w1 := ()) (ev_bin (x := x) (y := nD i) rfl rfl e1) rfl)) rfl (ih _ (List.getElem_mem hi'))
  have ha := ev_un (env := [x, x, .none]) hc (all_true ds.length)
  have key : (f__law_same (m__law_same n)) [x, x, .none] () = .ok (.rt (.bool true)) () := by
    have hneq : (gB (fBin dNeS (fUn gLen (fVar 0)) (fUn gLen (fVar 1))) : List D → Unit → Out Unit Bool) [x, x, .none] () = .ok false () := by
      have : gLen x = some (nD ds.length) := by rcases hx with rfl | rfl <;> rfl
      have e := ev_bin (a := (fUn gLen (fVar 0) : EF Unit)) (b := fUn gLen (fVar 1)) (env := [x, x, .none]) (w := ()) (g := dNeS) (ev_un (x := x) rfl this) (ev_un (x := x) rfl this) (d := .bool false) (by
        show some (PyData.bool (!((ds.length : Int) == (ds.length : Int)))) = _
        rw [beq_self_eq_true]; rfl)
      simp only [gB, e, Out.bind]; rfl
    have hlt : (gB (fUn isiLT (fVar 1)) : List D → Unit → Out Unit Bool) [x, x, .none] () = .ok true () := by rcases hx with rfl | rfl <;> rfl
    have hlo : (gOr (gNot (gB (fUn isiLT (fVar 0)))) (gB (fBin dNeS (fUn isiList (fVar 0)) (fUn isiList (fVar 1)))) : List D → Unit → Out Unit Bool) [x, x, .none] () = .ok false () := by rcases hx with rfl | rfl <;> rfl
    simp only [f__law_same, fSeq, fIfS, hlt, hlo, hneq, fNil, Out.bind, fRet, ha]
  simp only [m__law_same, runDef]
  show ((f__law_same (m__law_same n)) [x, x, .none] ()).bind _ = _
  rw [key]; rfl
theorem same_refl : ∀ (n : Nat) (d : D), okS n d = true → m__law_same n [d, d] () = .ok (.bool true) ()
  | 0, _, h => by cases h
  | n + 1, .int i, _ => by
    show Out.ok (PyData.bool (i == i)) () = _
    rw [beq_self_eq_true]
  | n + 1, .bool b, _ => by cases b <;> rfl
  | n + 1, .none, _ => rfl
  | n + 1, .list ds, h => by
    have h' : (Nat.ble ds.length 100000 && ds.all (okS n)) = true := h
    rw [Bool.and_eq_true] at h'
    exact same_seq (.inl rfl) (Nat.le_of_ble_eq_true h'.1) fun d hd => same_refl n d (List.all_eq_true.mp h'.2 d hd)
  | n + 1, .tuple ds, h => by
    have h' : (Nat.ble ds.length 100000 && ds.all (okS n)) = true := h
    rw [Bool.and_eq_true] at h'
    exact same_seq (.inr rfl) (Nat.le_of_ble_eq_true h'.1) fun d hd => same_refl n d (List.all_eq_true.mp h'.2 d hd)
end DL

/-! the plain law: numbers that are not negative -/
namespace DL
open PySem PySem.Spec L2
section
variable {W : Type} {env : List D} {w : W} {Q : Fl → W → Prop}
/-- for k in range(n) -/
theorem run_for0 {a : EF W} {j : Nat} {fb : SF W} (I : Nat → List D → W → Prop) (n : Nat) (ha : a env w = .ok (nD n) w) (hb : n ≤ 1000000) (hn : ∀ env w, I n env w → Q (.nx env) w)
    (hs : ∀ i env w, i < n → I i env w → Run (fb (env.set j (nD i)) w) fun r w => match r with | .nx e => I (i + 1) e w | .ct e => I (i + 1) e w | .bk e => Q (.nx e) w | .rt v => Q (.rt v) w) (h0 : I 0 env w) : Run (fFor (iR1 a) (tgN j) fb env w) Q := by
  refine Run.bind (P := fun ds w' => ds = rgF n 0 ∧ w' = w) (Run.of (a := rgF n 0) (w := w) ?_ ⟨rfl, rfl⟩) fun ds w' ⟨e1, e2⟩ => ?_
  · simp only [iR1, ha, Out.bind]
    rw [rg1_of hb]; rfl
  subst e1 e2
  refine run_forR I n 0 hn (fun i env w hi h => ⟨env.set j (nD i), ?_, hs i env w hi h⟩) h0
  show some (env.set j (.int (0 + (i : Int)))) = _
  rw [Int.zero_add]
/-- for k in range(lo, hi) -/
theorem run_for2 {a b : EF W} {j : Nat} {fb : SF W} (I : Nat → List D → W → Prop) (lo n : Nat) (ha : a env w = .ok (nD lo) w) (hb : b env w = .ok (nD (lo + n)) w) (h1 : lo + n ≤ 1000000) (hn : ∀ env w, I n env w → Q (.nx env) w)
    (hs : ∀ i env w, i < n → I i env w → Run (fb (env.set j (nD (lo + i))) w) fun r w => match r with | .nx e => I (i + 1) e w | .ct e => I (i + 1) e w | .bk e => Q (.nx e) w | .rt v => Q (.rt v) w) (h0 : I 0 env w) : Run (fFor (iR2 a b) (tgN j) fb env w) Q := by
  refine Run.bind (P := fun ds w' => ds = rgF n (lo : Int) ∧ w' = w) (Run.of (a := rgF n (lo : Int)) (w := w) ?_ ⟨rfl, rfl⟩) fun ds w' ⟨e1, e2⟩ => ?_
  · simp only [iR2, ha, hb, Out.bind]
    show lf (ifs (smI (lo : Int) && smI ((lo + n : Nat) : Int)) (rgF (((lo + n : Nat) : Int) - (lo : Int)).toNat (lo : Int))) w = _
    rw [smI_of (by omega), smI_of (by omega), show (((lo + n : Nat) : Int) - (lo : Int)).toNat = n by omega]; rfl
  subst e1 e2
  exact run_forR I n (lo : Int) hn (fun i env w hi h => ⟨env.set j (nD (lo + i)), rfl, hs i env w hi h⟩) h0
/-- for x in xs -/
theorem run_forL {α : Type} {fi : AF W} {j : Nat} {fb : SF W} (enc : α → D) (xs : List α) (I : Nat → List D → W → Prop) (hi : fi env w = .ok (xs.map enc) w) (hn : ∀ env w, I xs.length env w → Q (.nx env) w)
    (hs : ∀ i x env w, xs[i]? = some x → I i env w → Run (fb (env.set j (enc x)) w) fun r w => match r with | .nx e => I (i + 1) e w | .ct e => I (i + 1) e w | .bk e => Q (.nx e) w | .rt v => Q (.rt v) w) (h0 : I 0 env w) : Run (fFor fi (tgN j) fb env w) Q := by
  refine Run.bind (P := fun ds w' => ds = xs.map enc ∧ w' = w) (Run.of hi ⟨rfl, rfl⟩) fun ds w' ⟨e1, e2⟩ => ?_
  subst e1 e2
  refine run_forGo (fun ds env w => ∃ i, i ≤ xs.length ∧ ds = (xs.drop i).map enc ∧ I i env w) ?hn ?hs _ _ _ ⟨0, Nat.zero_le _, rfl, h0⟩
  case hn =>
    intro env w ⟨i, h1, h2, h3⟩
    have : xs.drop i = [] := List.map_eq_nil_iff.mp h2.symm
    have : xs.length ≤ i := List.drop_eq_nil_iff.mp this
    have : i = xs.length := by omega
    subst this
    exact hn _ _ h3
  case hs =>
    intro d ds env w ⟨i, h1, h2, h3⟩
    by_cases hlt : i < xs.length
    · rw [List.drop_eq_getElem_cons hlt, List.map_cons] at h2
      have hd := (List.cons.inj h2).1
      have hds := (List.cons.inj h2).2
      refine ⟨env.set j (enc xs[i]), by rw [hd]; rfl, (hs i xs[i] env w (List.getElem?_eq_getElem hlt) h3).mono fun r w h => ?_⟩
      cases r with
      | nx e => exact ⟨i + 1, hlt, hds, h⟩
      | ct e => exact ⟨i + 1, hlt, hds, h⟩
      | bk e => exact h
      | rt v => exact h
    · rw [List.drop_eq_nil_iff.mpr (by omega)] at h2
      cases h2
theorem run_drop {a : EF W} (h : Run (a env w) fun _ w => Q (.nx env) w) : Run (fDrop a env w) Q := Run.bind h fun _ w h => h
theorem run_app {i : Nat} {args : AF W} {ds : List D} {e : D} {w1 : W} (h0 : env.getD i .none = .list ds) (ha : args env w = .ok [e] w1) (hl : ds.length ≤ 100000) (h : Q (.nx (env.set i (.list (ds ++ [e])))) w1) : Run (fMeth mApp i args env w) Q := by
  refine Run.of (a := .nx (env.set i (.list (ds ++ [e])))) (w := w1) ?_ h
  simp only [fMeth, ha, Out.bind, h0, gM, mApp, sm_of hl, ifs, lf]
end
theorem beq_cast (a b : Nat) : ((a : Int) == (b : Int)) = (a == b) := by rw [Bool.eq_iff_iff, beq_iff_eq, beq_iff_eq]; omega
theorem encN_snoc (l : List Nat) (a : Nat) : PyData.list (l.map nD ++ [nD a]) = encN (l ++ [a]) := by
  unfold encN; rw [List.map_append]; rfl
theorem at_nat {l : List Nat} {i a : Nat} (h : l[i]? = some a) : dIxL (encN l) (nD i) = some (nD a) := by
  show (l.map nD)[i]? = _
  rw [List.getElem?_map, h]; rfl
theorem atD_nat {l : List Nat} {i : Int} {a : Nat} (h : l[i.toNat]? = some a) (h0 : 0 ≤ i) : dIxL (encN l) (.int i) = some (nD a) := by
  obtain ⟨j, rfl⟩ : ∃ j : Nat, i = (j : Int) := ⟨i.toNat, by omega⟩
  exact at_nat (by simpa using h)
theorem sub_nat {a b : Nat} (h : b ≤ a) : dSub (nD a) (nD b) = some (nD (a - b)) := by
  show some (PyData.int ((a : Int) - (b : Int))) = some (PyData.int ((a - b : Nat) : Int))
  congr 2; omega
theorem add_nat (a b : Nat) : dAdd (nD a) (nD b) = some (nD (a + b)) := rfl
theorem lt_nat (a b : Nat) : dLt (nD a) (nD b) = some (.bool (decide (a < b))) := by
  show some (PyData.bool (decide ((a : Int) < (b : Int)))) = _
  congr 2
  simp
theorem gt_nat (a b : Nat) : dGt (nD a) (nD b) = some (.bool (decide (b < a))) := by
  show some (PyData.bool (decide ((b : Int) < (a : Int)))) = _
  congr 2
  simp
theorem ge_nat (a b : Nat) : dGe (nD a) (nD b) = some (.bool (decide (b ≤ a))) := by
  show some (PyData.bool (decide ((b : Int) ≤ (a : Int)))) = _
  congr 2
  simp
theorem ne_nat (a b : Nat) : dNeS (nD a) (nD b) = some (.bool (!(a == b))) := by
  show some (PyData.bool (!((a : Int) == (b : Int)))) = _
  rw [beq_cast]
theorem eqS_nat (a b : Nat) : dEqS (nD a) (nD b) = some (.bool (a == b)) := by
  show some (PyData.bool ((a : Int) == (b : Int))) = _
  rw [beq_cast]
theorem len_nat (l : List Nat) : gLen (encN l) = some (nD l.length) := by
  show some (PyData.int ((l.map nD).length : Int)) = _
  rw [List.length_map]
theorem eqF_nats : ∀ (l m : List Nat), eqF.go (eqF 7) (l.map nD) (m.map nD) = (l == m)
  | [], [] => rfl
  | [], _ :: _ => rfl
  | _ :: _, [] => rfl
  | a :: l, b :: m => by
    show (match ((a : Int) == (b : Int)) with | true => eqF.go (eqF 7) (l.map nD) (m.map nD) | false => false) = _
    rw [eqF_nats l m]
    rw [beq_cast, List.cons_beq_cons]
    cases a == b <;> rfl
theorem shp8_nats (l : List Nat) : shp8 (encN l) = true := by
  show (l.map nD).all (shp 7) = true
  rw [List.all_map, List.all_eq_true]
  exact fun _ _ => rfl
theorem eq_nats (l m : List Nat) : dEq (encN l) (encN m) = some (.bool (l == m)) := by
  unfold dEq
  rw [shp8_nats, shp8_nats]
  show some (PyData.bool (eqF.go (eqF 7) (l.map nD) (m.map nD))) = _
  rw [eqF_nats]
theorem ne_nats (l m : List Nat) : dNe (encN l) (encN m) = some (.bool (!(l == m))) := by
  unfold dNe
  rw [shp8_nats, shp8_nats]
  show some (PyData.bool (!eqF.go (eqF 7) (l.map nD) (m.map nD))) = _
  rw [eqF_nats]
theorem notIn_nat (a : Nat) (l : List Nat) : dNotIn (nD a) (encN l) = some (.bool (!l.contains a)) := by
  show ifs (shp8 (nD a) && shp8 (encN l)) (PyData.bool (!(l.map nD).any fun z => eqF 8 z (nD a))) = _
  rw [shp8_nats]
  show some (PyData.bool (!(l.map nD).any fun z => eqF 8 z (nD a))) = _
  congr 3
  rw [List.any_map]
  induction l with
  | nil => rfl
  | cons b l ih =>
    rw [List.any_cons, ih, List.contains_cons]
    congr 1
    show ((b : Int) == (a : Int)) = (a == b)
    rw [beq_cast, Bool.eq_iff_iff, beq_iff_eq, beq_iff_eq]; exact eq_comm
theorem okS_nats (n : Nat) (l : List Nat) (h : l.length ≤ 100000) : okS (n + 2) (encN l) = true := by
  show (Nat.ble (l.map nD).length 100000 && (l.map nD).all (okS (n + 1))) = true
  rw [List.length_map, Nat.ble_eq.mpr h, List.all_map]
  simp only [Bool.true_and, List.all_eq_true]
  exact fun _ _ => rfl
theorem same_nats {l : List Nat} (h : l.length ≤ 100000) : m__law_same 6 [encN l, encN l] () = .ok (.bool true) () := same_refl 6 _ (okS_nats 4 l h)
/-- sorting numbers -/
def insN (n : Nat) : List Nat → List Nat
  | [] => [n]
  | m :: ms => match Nat.blt m n with | true => m :: insN n ms | false => n :: m :: ms
def srtN : List Nat → List Nat
  | [] => []
  | n :: ns => insN n (srtN ns)
theorem insI_nat (n : Nat) : ∀ l : List Nat, insI (n : Int) (l.map fun n : Nat => (n : Int)) = (insN n l).map fun n : Nat => (n : Int)
  | [] => rfl
  | m :: l => by
    simp only [List.map_cons, insI, insN]
    cases e : Nat.blt m n with
    | true =>
      have : m < n := Nat.le_of_ble_eq_true e
      split
      · rw [insI_nat n l]; rfl
      · omega
    | false =>
      have : ¬ m < n := fun h => by rw [show Nat.blt m n = true from Nat.ble_eq.mpr h] at e; cases e
      split
      · omega
      · rfl
theorem srtI_nat : ∀ l : List Nat, srtI (l.map fun n : Nat => (n : Int)) = (srtN l).map fun n : Nat => (n : Int)
  | [] => rfl
  | n :: l => by
    simp only [List.map_cons, srtI, srtN]
    rw [srtI_nat l, insI_nat]
theorem sort_nats (l : List Nat) : gSort (encN l) = some (encN (srtN l)) := by
  simp only [gSort, toInts_nat, srtI_nat, List.map_map]; rfl
theorem insN_perm (n : Nat) : ∀ l : List Nat, (insN n l).Perm (n :: l)
  | [] => .refl _
  | m :: ms => by
    unfold insN
    cases Nat.blt m n with
    | true => exact ((insN_perm n ms).cons m).trans (.swap n m ms)
    | false => exact .refl _
theorem srtN_perm : ∀ l : List Nat, (srtN l).Perm l
  | [] => .refl _
  | n :: ns => (insN_perm n _).trans ((srtN_perm ns).cons n)
theorem insN_sorted (n : Nat) : ∀ ms : List Nat, ms.Pairwise (· ≤ ·) → (insN n ms).Pairwise (· ≤ ·)
  | [], _ => List.pairwise_singleton _ _
  | m :: ms, h => by
    have h' := List.pairwise_cons.mp h
    unfold insN
    cases e : Nat.blt m n with
    | true =>
      have hm : m < n := Nat.le_of_ble_eq_true e
      refine List.pairwise_cons.mpr ⟨fun y hy => ?_, insN_sorted n ms h'.2⟩
      rcases List.mem_cons.mp ((insN_perm n ms).mem_iff.mp hy) with rfl | hy
      · omega
      · exact h'.1 y hy
    | false =>
      have hm : ¬ m < n := fun h => by rw [show Nat.blt m n = true from Nat.ble_eq.mpr h] at e; cases e
      refine List.pairwise_cons.mpr ⟨fun y hy => ?_, h⟩
      rcases List.mem_cons.mp hy with rfl | hy
      · omega
      · exact Nat.le_trans (by omega) (h'.1 y hy)
theorem srtN_sorted : ∀ l : List Nat, (srtN l).Pairwise (· ≤ ·)
  | [] => List.Pairwise.nil
  | n :: ns => insN_sorted n _ (srtN_sorted ns)
end DL

/-! comprehensions with two clauses; x *= e -/
namespace DL
open PySem PySem.Spec PyProof.Rows L2
section
variable {W : Type} {B : Base W} {Γ Γ1 Γ2 : List SK} {F F' : Addr → Prop} {env : List D} {σ : L2.St} {w w' : W} {H H' H1 H2 : Hp} {ow : Nat → List Addr}
variable {xa str nw : Bool}
/-- all but one cell stands -/
def KeepD (B : Base W) (D0 : Addr) (H H' : Hp) : Prop := ∀ a o, H a = some o → ¬ B.wd.fp a → a ≠ D0 → H' a = some o
theorem OK.extD (ok : OK B Γ F env σ w H ow) {D0 : Addr} (k : KeepD B D0 H H') (r : B.wd.rel w' H') (h1 : F D0) (h2 : ∀ i, D0 ∉ ow i) (h3 : H' D0 ≠ none) (h4 : B.H0 D0 = none) : OK B Γ F env σ w' H' ow where
  wr := r
  fpF := ok.fpF
  dom := fun a fa => by
    intro z
    by_cases hp : B.wd.fp a
    · exact B.wd.tr w' H' a r hp z
    · by_cases hd : a = D0
      · subst hd; exact h3 z
      · cases e : H a with
        | none => exact ok.dom a fa e
        | some o => rw [k a o e hp hd] at z; cases z
  k0 := fun a o e n => k a o (ok.k0 a o e n) n fun z => by rw [z, h4] at e; cases e
  f0 := ok.f0
  ls := ok.ls
  le := ok.le
  own := ok.own
  nd := ok.nd
  dj := ok.dj
  out := ok.out
  sl := fun i kd e => (ok.sl i kd e).to (fun a o e n => ⟨k a o e (fun z => n (ok.fpF a z)) fun z => n (by rw [z]; exact h1), n⟩) fun a ha o e => k a o e (ok.own i a ha).2.1 fun z => h2 i (by rw [← z]; exact ha)
def lcGo2 {W : Type} (fg : D → List D → Option (List D)) (p : List D → W → Out W Bool) (fi1 : AF W) (fg1 : D → List D → Option (List D)) (p1 : List D → W → Out W Bool) (f : EF W) (env : List D) : List D → W → Out W (List D)
  | [], w => .ok [] w
  | d :: ds, w => match fg d env with
    | none => .st
    | some env' => (p env' w).bind fun b w => match b with
      | true => (fi1 env' w).bind fun es w => (lcGo fg1 p1 f env' es w).bind fun ys w => (lcGo2 fg p fi1 fg1 p1 f env ds w).bind fun zs w => .ok (ys ++ zs) w
      | false => lcGo2 fg p fi1 fg1 p1 f env ds w
def fLc2 {W : Type} (fi : AF W) (fg : D → List D → Option (List D)) (p : List D → W → Out W Bool) (fi1 : AF W) (fg1 : D → List D → Option (List D)) (p1 : List D → W → Out W Bool) (f : EF W) : EF W := fun env w => (fi env w).bind fun ds w => (noX (lcGo2 fg p fi1 fg1 p1 f env ds w)).bind fun ys w => lf (ifs (sm ys.length) (.list ys)) w
theorem se_lc2 {wi wi1 : TI} {g g1 : TG} {tt tt1 : TT} {te : TE} {vs vs1 is is1 : List Nat} {ni ni1 : Bool} {fi fi1 : AF W} {fg fg1 : D → List D → Option (List D)} {p p1 : List D → W → Out W Bool} {f : EF W}
    (hi : SI B Γ ni str wi fi) (hv : plains Γ vs = true) (hg : STg B.nox g (wipeΓ Γ vs) Γ1 ni is fg) (his : allIn is vs = true) (ht : ST B.nox Γ1 tt p)
    (hi1 : SI B.nox Γ1 ni1 true wi1 fi1) (hv1 : plains Γ1 vs1 = true) (hg1 : STg B.nox g1 (wipeΓ Γ1 vs1) Γ2 ni1 is1 fg1) (his1 : allIn is1 vs1 = true) (ht1 : ST B.nox Γ2 tt1 p1) (he : SE B.nox Γ2 (.ok nw) xa te f) : SE B Γ (.ok nw) true (tLc2 wi g tt wi1 g1 tt1 te vs vs1) (fLc2 fi fg p fi1 fg1 p1 f) := fun env w => by
  refine Res.bind (hi env w) (fun ds w1 qi => ?_) fun e w1 qi F σ H ow ok xp Q => qi F σ H ow ok xp _
  cases ego : lcGo2 fg p fi1 fg1 p1 f env ds w1 with
  | st => trivial
  | ex _ _ => trivial
  | ok ys w2 =>
    show Res (lf (ifs (sm ys.length) (PyData.list ys)) w2) _ _
    refine Res.lf fun d eg F σ H ow ok Q k => ?_
    obtain ⟨esm, rfl⟩ := ifs_some eg
    refine qi F σ H ow ok _ fun J H1 c k1 ok1 hc itk D0 hD => ?_
    have kN : KeepE B H1 (upd H1 D0 (.lst [])) := .new hD
    have nfD : ¬ B.wd.fp D0 := fun z => B.wd.tr w1 H1 D0 ok1.wr z hD
    refine ⟨fun i m Hi => m = ds.length - i ∧ i ≤ ds.length ∧ ∃ wi ys1 ys2 acc, lcGo2 fg p fi1 fg1 p1 f env (ds.drop i) wi = .ok ys2 w2 ∧ ys = ys1 ++ ys2 ∧ KeepE B H1 Hi ∧ B.wd.rel wi Hi ∧ Hi D0 = some (.lst acc) ∧ DRs Hi (Al B (Plus F D0) nw) acc ys1,
      ⟨ds.length, by simp, Nat.zero_le _, w1, [], ys, [], ego, rfl, kN, (ok1.new hD).wr, upd_same, .nil⟩, fun i m Hi hW => ?_⟩
    obtain ⟨rfl, hil, wi', ys1, ys2, acc, e1, e2, kH, rl, hAcc, hDr⟩ := hW
    have stab : ∀ a o, (Al B F ni a ∨ a ∈ c) → H1 a = some o → Hi a = some o := fun a o h e => kH a o e (h.elim (fun z => ok1.alFp z) fun z => (hc a z).1)
    obtain ⟨item, stop⟩ := itk Hi stab
    have okP : OK B Γ (Plus F D0) env σ wi' Hi ow := ok1.plus kH rl hD (by rw [hAcc]; simp)
    by_cases hlt : i < ds.length
    · have ed : ds[i]? = some ds[i] := List.getElem?_eq_getElem hlt
      obtain ⟨go, yl⟩ := item i _ ed
      rw [List.drop_eq_getElem_cons hlt] at e1
      unfold lcGo2 at e1
      cases efg : fg ds[i] env with
      | none => rw [efg] at e1; cases e1
      | some env' =>
        rw [efg] at e1
        obtain ⟨b, w3, eb, e1⟩ := bind_ok e1
        refine .inr ⟨go, fun H' => ∃ wi ys1 ys2 acc, lcGo2 fg p fi1 fg1 p1 f env (ds.drop (i + 1)) wi = .ok ys2 w2 ∧ ys = ys1 ++ ys2 ∧ KeepE B H1 H' ∧ B.wd.rel wi H' ∧ H' D0 = some (.lst acc) ∧ DRs H' (Al B (Plus F D0) nw) acc ys1,
          fun H' hN => ⟨ds.length - (i + 1), by omega, rfl, hlt, hN⟩, fun x H' hy => ?_⟩
        obtain ⟨sm1, hx⟩ := yl x H' hy
        have okY : OK B Γ (Plus F D0) env σ wi' H' ow := okP.same sm1
        have hx' : DR H' (Al B (Plus F D0) ni) x ds[i] := by
          refine hx.to fun a o e ha => ⟨e, ?_⟩
          rcases ha with ⟨h1, h2⟩ | h1
          · exact ⟨fun z => z.elim h1.1 fun z => by rw [z] at h2; exact h2 hD, h1.2⟩
          · exact okP.al h1 ni
        have okW : OK B.nox (wipeΓ Γ vs) (Plus F D0) env (wipe σ vs) wi' H' ow := (okY.wipe hv).nox
        refine hg okW hx' efg fun σ2 ok2 out2 len2 => ⟨?_, ?_⟩
        · refine (wipe_eq len2 fun j hj => out2 j (allIn_ok his hj)).trans ?_
          exact wipe_eq (by rw [wipe_length]) fun j hj => wipe_get vs j hj
        · refine (ht env' wi').ok eb (Plus F D0) σ2 H' ow ok2 _ fun H3 k3 ok3 => ?_
          have kS : KeepE B Hi H3 := (KeepE.same sm1).trans k3
          cases b with
          | false =>
            refine iteF ⟨w3, ys1, ys2, acc, e1, e2, kH.trans kS, ok3.wr, kS D0 _ hAcc nfD, okP.drs kS hDr⟩
          | true =>
            obtain ⟨es, w4, ei1, e1⟩ := bind_ok e1
            obtain ⟨yi, w5, el1, e1⟩ := bind_ok e1
            obtain ⟨zs, w6, ez, e1⟩ := bind_ok e1
            cases e1
            refine iteT ((hi1 env' w3).ok ei1 (Plus F D0) σ2 H3 ow ok3 _ fun J1 H4 c1 k4 ok4 hc1 itk1 => ?_)
            have kT : KeepE B Hi H4 := kS.trans k4
            refine ⟨fun j m Hj => m = es.length - j ∧ j ≤ es.length ∧ ∃ wj ya yb acc, lcGo fg1 p1 f env' (es.drop j) wj = .ok yb w5 ∧ yi = ya ++ yb ∧ KeepD B D0 H4 Hj ∧ KeepE B H1 Hj ∧ B.wd.rel wj Hj ∧ Hj D0 = some (.lst acc) ∧ DRs Hj (Al B (Plus F D0) nw) acc (ys1 ++ ya),
              ⟨es.length, by simp, Nat.zero_le _, w4, [], yi, acc, el1, rfl, fun _ _ e _ _ => e, kH.trans kT, ok4.wr, kT D0 _ hAcc nfD, by rw [List.append_nil]; exact okP.drs kT hDr⟩, fun j m Hj hWj => ?_⟩
            obtain ⟨rfl, hjl, wj, ya, yb, acc', f1, f2, kJ, kG, rlj, hAcc', hDr'⟩ := hWj
            have stab1 : ∀ a o, (Al B.nox (Plus F D0) ni1 a ∨ a ∈ c1) → H4 a = some o → Hj a = some o := fun a o h e => kJ a o e (h.elim (fun z => ok4.alFp z) fun z => (hc1 a z).1) fun q => h.elim (fun z => z.1 (.inr q)) fun z => (hc1 a z).2 rfl (.inr q)
            obtain ⟨item1, stop1⟩ := itk1 Hj stab1
            have okJ : OK B.nox Γ1 (Plus F D0) env' σ2 wj Hj ow := ok4.extD kJ rlj (.inr rfl) (fun q z => ok1.dom D0 (ok1.own q D0 z).1 hD) (by rw [hAcc']; simp) (ok1.free0 hD)
            by_cases hjt : j < es.length
            · have ed1 : es[j]? = some es[j] := List.getElem?_eq_getElem hjt
              obtain ⟨go1, yl1⟩ := item1 j _ ed1
              rw [List.drop_eq_getElem_cons hjt] at f1
              unfold lcGo at f1
              cases efg1 : fg1 es[j] env' with
              | none => rw [efg1] at f1; cases f1
              | some env2 =>
                rw [efg1] at f1
                obtain ⟨b1, w7, eb1, f1⟩ := bind_ok f1
                refine .inr ⟨go1, fun H' => ∃ wj ya yb acc, lcGo fg1 p1 f env' (es.drop (j + 1)) wj = .ok yb w5 ∧ yi = ya ++ yb ∧ KeepD B D0 H4 H' ∧ KeepE B H1 H' ∧ B.wd.rel wj H' ∧ H' D0 = some (.lst acc) ∧ DRs H' (Al B (Plus F D0) nw) acc (ys1 ++ ya),
                  fun H' hN => ⟨es.length - (j + 1), by omega, rfl, hjt, hN⟩, fun x H5 hy1 => ?_⟩
                obtain ⟨sm2, hx1⟩ := yl1 x H5 hy1
                have okY1 : OK B.nox Γ1 (Plus F D0) env' σ2 wj H5 ow := okJ.same sm2
                have hx1' : DR H5 (Al B.nox (Plus F D0) ni1) x es[j] := by
                  refine hx1.to fun a o e ha => ⟨e, ?_⟩
                  rcases ha with ⟨h1, h2⟩ | h1
                  · exact h1
                  · exact okJ.al h1 ni1
                have okW1 : OK B.nox (wipeΓ Γ1 vs1) (Plus F D0) env' (wipe σ2 vs1) wj H5 ow := okY1.wipe hv1
                refine hg1 okW1 hx1' efg1 fun σ3 ok5 out3 len3 => ⟨?_, ?_⟩
                · refine (wipe_eq len3 fun q hq => out3 q (allIn_ok his1 hq)).trans ?_
                  exact wipe_eq (by rw [wipe_length]) fun q hq => wipe_get vs1 q hq
                · refine (ht1 env2 wj).ok eb1 (Plus F D0) σ3 H5 ow ok5 _ fun H6 k6 ok6 => ?_
                  have kU : KeepE B Hj H6 := (KeepE.same sm2).trans k6
                  cases b1 with
                  | false => exact iteF ⟨w7, ya, yb, acc', f1, f2, fun a o e n q => kU a o (kJ a o e n q) n, kG.trans kU, ok6.wr, kU D0 _ hAcc' nfD, okJ.drs kU hDr'⟩
                  | true =>
                    obtain ⟨y, w8, ef, f1⟩ := bind_ok f1
                    obtain ⟨ys3, w9, er, f1⟩ := bind_ok f1
                    cases f1
                    refine iteT ((he env2 w7).ok ef (Plus F D0) σ3 H6 ow ok6 _ fun v H7 k7 ok7 r7 _ => ?_)
                    have kV : KeepE B Hj H7 := kU.trans k7
                    have hD7 : H7 D0 = some (.lst acc') := kV D0 _ hAcc' nfD
                    have up : ∀ {ys : List V} {es : List D}, DRs H7 (Al B (Plus F D0) nw) ys es → DRs (upd H7 D0 (.lst (acc' ++ [v]))) (Al B (Plus F D0) nw) ys es := fun {ys es} h =>
                      h.to fun a o e ha => ⟨upd_keep e fun z => ha.1 (.inr z), ha⟩
                    have n4 : H1 D0 = none := hD
                    refine ⟨acc', hD7, ?_, w8, ya ++ [y], ys3, acc' ++ [v], er, by rw [f2, List.append_assoc]; rfl, ?_, (kG.trans kV).mut hD, ?_, upd_same, ?_⟩
                    · have l1 : acc'.length = (ys1 ++ ya).length := hDr'.length
                      rw [l1]
                      have : ys.length = (ys1 ++ ya).length + (1 + ys3.length + zs.length) := by
                        rw [e2, f2]; simp only [List.length_append, List.length_cons]; omega
                      have := sm_le esm
                      omega
                    · exact fun a o e n q => by rw [upd_ne q]; exact kV a o (kJ a o e n q) n
                    · exact B.wd.loc w8 H7 _ ok7.wr fun a fa => upd_ne fun z => nfD (by rw [← z]; exact fa)
                    · rw [← List.append_assoc]
                      exact up ((okJ.drs kV hDr').append (.one r7))
            · have ej : j = es.length := by omega
              subst ej
              rw [List.drop_length] at f1
              cases f1
              rw [List.append_nil] at f2
              subst f2
              exact .inl ⟨stop1, w5, ys1 ++ yi, zs, acc', ez, by rw [e2, List.append_assoc], kG, rlj, hAcc', hDr'⟩
    · have ei : i = ds.length := by omega
      subst ei
      rw [List.drop_length] at e1
      cases e1
      rw [List.append_nil] at e2
      subst e2
      refine .inl ⟨stop, k (.ref D0) Hi (k1.trans kH) (ok1.ext kH rl) (.lst (ok1.al hD nw) hAcc (hDr.to fun a o e ha => ⟨e, fun z => ha.1 (.inl z), ha.2⟩)) fun _ q e => ?_⟩
      cases e
      exact ⟨ok.free k1 ok1.wr hD, fun _ _ => ⟨acc, hAcc⟩⟩
end
/-! ### x *= e -/
def ipC (C : Int → Int → Prop) (f : Int → Int → Int) : TIp := fun x y H Q => ∃ i j, x = .int i ∧ y = .int j ∧ C i j ∧ Q (.int (f i j)) H
theorem ip_mul2 {X : Cx} : PIp X .Mult (ipC CMul fun i j => i * j) := by
  intro pins s σ H x y v u Q I r1 r2 h
  obtain ⟨i, j, e1, e2, c, q⟩ := h
  subst e1; subst e2
  obtain ⟨t, rfl⟩ := r1
  obtain ⟨t', rfl⟩ := r2
  exact imul_int ⟨.int _, H, I.tok _, ⟨_, rfl⟩, q⟩ c.ok
theorem ip_mulW2 {X : Cx} : PIp X .Mult (ipC CMulW fun i j => i * j) := by
  intro pins s σ H x y v u Q I r1 r2 h
  obtain ⟨i, j, e1, e2, c, q⟩ := h
  subst e1; subst e2
  obtain ⟨t, rfl⟩ := r1
  obtain ⟨t', rfl⟩ := r2
  exact imul_int ⟨.int _, H, I.tok _, ⟨_, rfl⟩, q⟩ c.ok
section
variable {W : Type} {B : Base W} {Γ : List SK} {P : Po} {fa : FK} {xa : Bool} {ta : TE} {a : EF W}
def fAugC {W : Type} (i : Nat) (c : Int → Int → Bool) (op : Int → Int → Int) (a : EF W) : SF W := fun env w => (a env w).bind fun e w => (lf (gIntC c op (env.getD i .none) e) w).bind fun z w => .ok (.nx (env.set i z)) w
theorem ss_augC {i : Nat} {c : Int → Int → Bool} {C : Int → Int → Prop} {op : Int → Int → Int} {n0 : Bool} (hc : ∀ i j, c i j = true → C i j) (h : Γ[i]? = some (.s n0)) (ha : SE B Γ fa xa ta a) (hP : P.nx = Γ.set i (.s true)) : SS B Γ P (tAug i ta (ipC C op)) (fAugC i c op a) := fun env w => by
  refine Res.bind (ha env w) (fun e w1 qa => Res.bindlf fun z ez F σ H ow ok D kk => ?_) fun e w1 qa F σ H ow ok x D => ?_
  · obtain ⟨_, v, e1, r0⟩ := ok.sl i _ h
    obtain ⟨i1, i2, q1, rfl, qc, rfl⟩ := gIntC_some ez
    rw [q1] at r0
    have ev := DR.int_inv r0
    subst ev
    refine ⟨.int i1, e1, qa F σ H ow ok _ fun y H1 k1 ok1 r1 _ => ?_⟩
    have ev := (ok1.toDp r1).int_inv
    subst ev
    exact ⟨i1, i2, rfl, rfl, hc _ _ qc, kk F _ H1 ow (k1.keep ok.fpF) (hP ▸ ok1.store (by rw [h]; rfl) (DR.int _))⟩
  · obtain ⟨_, v, e1, r0⟩ := ok.sl i _ h
    exact ⟨v, e1, qa F σ H ow ok (x.xp ok) _⟩
end
end DL

namespace K93
open PySem PySem.Spec PyProof.Rows L2 DL
def topS (i : Nat) : Stmt := PySem.Challenge.pw_bumpedrows_k93_paths_and_sums_with_signs.main.body.getD i (.Pass ⟨0, 0, 0, 0⟩)
abbrev s__law_feed : Stmt := topS 8
abbrev N__law_feed : List Str := ["script"]
theorem sc__law_feed : FnScope N__law_feed ["script"] (defScope s__law_feed) := ⟨rfl, rfl, rfl, by decide +kernel, rfl, by decide +kernel, by decide +kernel⟩
abbrev s__law_draw : Stmt := topS 9
abbrev N__law_draw : List Str := ["feed", "many", "mixed", "cell", "told"]
theorem sc__law_draw : FnScope N__law_draw ["feed", "many"] (defScope s__law_draw) := ⟨rfl, rfl, rfl, by decide +kernel, rfl, by decide +kernel, by decide +kernel⟩
abbrev s__law_places : Stmt := topS 14
abbrev N__law_places : List Str := ["feed", "many", "wide", "places", "turn", "x", "place"]
theorem sc__law_places : FnScope N__law_places ["feed", "many", "wide"] (defScope s__law_places) := ⟨rfl, rfl, rfl, by decide +kernel, rfl, by decide +kernel, by decide +kernel⟩
abbrev s_count_paths : Stmt := topS 1
abbrev N_count_paths : List Str := ["start", "end", "right", "up", "ways", "step"]
theorem sc_count_paths : FnScope N_count_paths ["start", "end"] (defScope s_count_paths) := ⟨rfl, rfl, rfl, by decide +kernel, rfl, by decide +kernel, by decide +kernel⟩
abbrev s_path_table : Stmt := topS 2
abbrev N_path_table : List Str := ["starts", "ends", "start", "end"]
theorem sc_path_table : FnScope N_path_table ["starts", "ends"] (defScope s_path_table) := ⟨rfl, rfl, rfl, by decide +kernel, rfl, by decide +kernel, by decide +kernel⟩
abbrev s__law_same : Stmt := topS 10
abbrev N__law_same : List Str := ["actual", "due", "k"]
theorem sc__law_same : FnScope N__law_same ["actual", "due"] (defScope s__law_same) := ⟨rfl, rfl, rfl, by decide +kernel, rfl, by decide +kernel, by decide +kernel⟩
abbrev s__law_sum : Stmt := topS 13
abbrev N__law_sum : List Str := ["table", "total", "sign", "k", "rest", "line"]
theorem sc__law_sum : FnScope N__law_sum ["table"] (defScope s__law_sum) := ⟨rfl, rfl, rfl, by decide +kernel, rfl, by decide +kernel, by decide +kernel⟩
abbrev s__law_copy : Stmt := topS 11
abbrev N__law_copy : List Str := ["value", "one"]
theorem sc__law_copy : FnScope N__law_copy ["value"] (defScope s__law_copy) := ⟨rfl, rfl, rfl, by decide +kernel, rfl, by decide +kernel, by decide +kernel⟩
abbrev s_all_orders : Stmt := topS 3
abbrev N_all_orders : List Str := ["many", "orders", "at", "order", "number"]
theorem sc_all_orders : FnScope N_all_orders ["many"] (defScope s_all_orders) := ⟨rfl, rfl, rfl, by decide +kernel, rfl, by decide +kernel, by decide +kernel⟩
abbrev s_product_along : Stmt := topS 5
abbrev N_product_along : List Str := ["table", "order", "product", "line", "at"]
theorem sc_product_along : FnScope N_product_along ["table", "order"] (defScope s_product_along) := ⟨rfl, rfl, rfl, by decide +kernel, rfl, by decide +kernel, by decide +kernel⟩
abbrev s_wrong_pairs : Stmt := topS 4
abbrev N_wrong_pairs : List Str := ["order", "at", "number", "after"]
theorem sc_wrong_pairs : FnScope N_wrong_pairs ["order"] (defScope s_wrong_pairs) := ⟨rfl, rfl, rfl, by decide +kernel, rfl, by decide +kernel, by decide +kernel⟩
abbrev s_sum_with_signs : Stmt := topS 6
abbrev N_sum_with_signs : List Str := ["table", "total", "order"]
theorem sc_sum_with_signs : FnScope N_sum_with_signs ["table"] (defScope s_sum_with_signs) := ⟨rfl, rfl, rfl, by decide +kernel, rfl, by decide +kernel, by decide +kernel⟩
abbrev s__law_summed : Stmt := topS 16
abbrev N__law_summed : List Str := ["table", "due", "given", "turned", "last", "other", "equal", "k", "line"]
theorem sc__law_summed : FnScope N__law_summed ["table"] (defScope s__law_summed) := ⟨rfl, rfl, rfl, by decide +kernel, rfl, by decide +kernel, by decide +kernel⟩
abbrev s__law_paths : Stmt := topS 12
abbrev N__law_paths : List Str := ["start", "end", "line", "y", "ways", "x"]
theorem sc__law_paths : FnScope N__law_paths ["start", "end"] (defScope s__law_paths) := ⟨rfl, rfl, rfl, by decide +kernel, rfl, by decide +kernel, by decide +kernel⟩
abbrev s__law_number : Stmt := topS 15
abbrev N__law_number : List Str := ["feed", "kind"]
theorem sc__law_number : FnScope N__law_number ["feed", "kind"] (defScope s__law_number) := ⟨rfl, rfl, rfl, by decide +kernel, rfl, by decide +kernel, by decide +kernel⟩
abbrev s_law : Stmt := topS 17
abbrev N_law : List Str := ["script", "feed", "turn", "many", "wide", "starts", "ends", "given", "due", "told", "i", "size", "kind", "table", "start", "line", "end", "k"]
theorem sc_law : FnScope N_law ["script"] (defScope s_law) := ⟨rfl, rfl, rfl, by decide +kernel, rfl, by decide +kernel, by decide +kernel⟩
def f__law_places (ns : List Int) : SF Fd := (fSeq (fOwn (fLst aNil) 3) (fSeq (fFor (iR1 (fC (.int 30))) (tgN 4) (fSeq (fAsg (fTup (aCons (fCallW 1 (m__law_draw ns) (aCons (fScal (fVar 2)) aNil)) (aCons (fCallW 1 (m__law_draw ns) (aCons (fScal (fVar 2)) aNil)) aNil))) (tgN 6)) (fIfS (gAnd (gB (fBin dNotIn (fVar 6) (fVar 3))) (gB (fBin dLt (fUn gLen (fVar 3)) (fVar 1)))) (fMeth mApp 3 (aCons (fVar 6) aNil)) fNil))) (fSeq (fFor (iR1 (fVar 1)) (tgN 5) (fIfS (gAnd (gB (fBin dLt (fUn gLen (fVar 3)) (fVar 1))) (gB (fBin dNotIn (fTup (aCons (fVar 5) (aCons (fBin dSub (fC (.int 6)) (fVar 5)) aNil))) (fVar 3)))) (fMeth mApp 3 (aCons (fTup (aCons (fVar 5) (aCons (fBin dSub (fC (.int 6)) (fVar 5)) aNil))) aNil)) fNil)) (fRet (fVar 3)))))
def m__law_places (ns : List Int) : List D → Fd → Out Fd D := runDef 7 (f__law_places ns )
def f_count_paths : SF Unit := (fSeq (fAsg (fBin dSub (fBin dIxT (fVar 1) (fC (.int 0))) (fBin dIxT (fVar 0) (fC (.int 0)))) (tgN 2)) (fSeq (fAsg (fBin dSub (fBin dIxT (fVar 1) (fC (.int 1))) (fBin dIxT (fVar 0) (fC (.int 1)))) (tgN 3)) (fSeq (fIfS (gOr (gB (fBin dLt (fVar 2) (fC (.int 0)))) (gB (fBin dLt (fVar 3) (fC (.int 0))))) (fRet (fC (.int 0))) fNil) (fSeq (fAsg (fC (.int 1)) (tgN 4)) (fSeq (fFor (iR2 (fC (.int 1)) (fBin dAdd (fVar 3) (fC (.int 1)))) (tgN 5) (fAsg (fBin dDiv (fBin dMul (fVar 4) (fBin dAdd (fVar 2) (fVar 5))) (fVar 5)) (tgN 4))) (fRet (fScal (fVar 4))))))))
def m_count_paths : List D → Unit → Out Unit D := runDef 6 (f_count_paths )
def f_path_table : SF Unit := (fRet (fLc (iL (fVar 0)) (tgN 2) gYes (fLc (iL (fVar 1)) (tgN 3) gYes (fCall 2 m_count_paths (aCons (fVar 2) (aCons (fVar 3) aNil))))))
def m_path_table : List D → Unit → Out Unit D := runDef 4 (f_path_table )
def f__law_sum (m : List D → Unit → Out Unit D) : SF Unit := (fSeq (fIfS (gB (fBin dEqS (fUn gLen (fVar 0)) (fC (.int 0)))) (fRet (fC (.int 1))) fNil) (fSeq (fAsg (fC (.int 0)) (tgN 1)) (fSeq (fAsg (fC (.int 1)) (tgN 2)) (fSeq (fFor (iR1 (fUn gLen (fVar 0))) (tgN 3) (fSeq (fAsg (fLc (iL (fSl (fVar 0) (gPart (fC (.int 1))) gNoPart)) (tgN 5) gYes (fBin dCat (fSl (fVar 5) gNoPart (gPart (fVar 3))) (fSl (fVar 5) (gPart (fBin dAdd (fVar 3) (fC (.int 1)))) gNoPart))) (tgN 4)) (fSeq (fAsg (fBin dAdd (fVar 1) (fBin dMulW (fBin dMulW (fVar 2) (fBin dIxL (fBin dIxL (fVar 0) (fC (.int 0))) (fVar 3))) (fCall 1 m (aCons (fVar 4) aNil)))) (tgN 1)) (fAsg (fUn dNeg (fVar 2)) (tgN 2))))) (fRet (fScal (fVar 1)))))))
def m__law_sum : Nat → List D → Unit → Out Unit D
  | 0 => fun _ _ => .st
  | n + 1 => runDef 6 (f__law_sum (m__law_sum n))
def f__law_copy (m : List D → Unit → Out Unit D) : SF Unit := (fSeq (fIfS (gB (fUn isiList (fVar 0))) (fRet (fLc (iL (fVar 0)) (tgN 1) gYes (fCall 1 m (aCons (fVar 1) aNil)))) fNil) (fRet (fVar 0)))
def m__law_copy : Nat → List D → Unit → Out Unit D
  | 0 => fun _ _ => .st
  | n + 1 => runDef 2 (f__law_copy (m__law_copy n))
def f_all_orders : SF Unit := (fSeq (fAsg (fLst (aCons (fLst aNil) aNil)) (tgN 1)) (fSeq (fFor (iR1 (fVar 0)) (tgN 2) (fAsg (fLc2 (iL (fVar 1)) (tgN 3) gYes (iR1 (fVar 0)) (tgN 4) (gB (fBin dNotIn (fVar 4) (fVar 3))) (fBin dCat (fVar 3) (fLst (aCons (fVar 4) aNil)))) (tgN 1))) (fRet (fVar 1))))
def m_all_orders : List D → Unit → Out Unit D := runDef 5 (f_all_orders )
def f_product_along : SF Unit := (fSeq (fAsg (fC (.int 1)) (tgN 2)) (fSeq (fFor (iZp (fVar 0) (fVar 1)) (tgTup (tgCons (tgN 3) (tgCons (tgN 4) tgNil))) (fAugC 2 cMulW (fun i j => i * j) (fBin dIxL (fVar 3) (fVar 4)))) (fRet (fScal (fVar 2)))))
def m_product_along : List D → Unit → Out Unit D := runDef 5 (f_product_along )
def f_wrong_pairs : SF Unit := (fRet (fUn gSum (fLc (iEn (fVar 0)) (tgTup (tgCons (tgN 1) (tgCons (tgN 2) tgNil))) gYes (fUn gLen (fLc (iL (fSl (fVar 0) (gPart (fBin dAdd (fVar 1) (fC (.int 1)))) gNoPart)) (tgN 3) (gB (fBin dLt (fVar 3) (fVar 2))) (fScal (fVar 3)))))))
def m_wrong_pairs : List D → Unit → Out Unit D := runDef 4 (f_wrong_pairs )
def f_sum_with_signs : SF Unit := (fSeq (fAsg (fC (.int 0)) (tgN 1)) (fSeq (fFor (iL (fCall 1 m_all_orders (aCons (fUn gLen (fVar 0)) aNil))) (tgN 2) (fIfS (gB (fBin dEqS (fBin dMod (fCall 1 m_wrong_pairs (aCons (fVar 2) aNil)) (fC (.int 2))) (fC (.int 1)))) (fAug 1 (fun i j => i - j) (fCall 2 m_product_along (aCons (fVar 0) (aCons (fVar 2) aNil)))) (fAug 1 (fun i j => i + j) (fCall 2 m_product_along (aCons (fVar 0) (aCons (fVar 2) aNil)))))) (fRet (fScal (fVar 1)))))
def m_sum_with_signs : List D → Unit → Out Unit D := runDef 3 (f_sum_with_signs )
def f__law_summed : SF Unit := (fSeq (fAsg (fCall 1 (m__law_sum 6) (aCons (fVar 0) aNil)) (tgN 1)) (fSeq (fAsg (fCall 1 (m__law_copy 4) (aCons (fVar 0) aNil)) (tgN 2)) (fSeq (fAsg (fLc (iR1 (fUn gLen (fVar 0))) (tgN 7) gYes (fLc (iL (fVar 0)) (tgN 8) gYes (fScal (fBin dIxL (fVar 8) (fVar 7))))) (tgN 3)) (fSeq (fIfS (gOr (gNot (gB (fCall 2 (m__law_same 6) (aCons (fCall 1 m_sum_with_signs (aCons (fVar 2) aNil)) (aCons (fVar 1) aNil))))) (gNot (gB (fCall 2 (m__law_same 6) (aCons (fVar 2) (aCons (fVar 0) aNil)))))) (fRet (fC (.bool false))) fNil) (fSeq (fIfS (gNot (gB (fCall 2 (m__law_same 6) (aCons (fCall 1 m_sum_with_signs (aCons (fVar 3) aNil)) (aCons (fVar 1) aNil))))) (fRet (fC (.bool false))) fNil) (fSeq (fIfS (gB (fBin dEqS (fUn gLen (fVar 0)) (fC (.int 1)))) (fRet (fC (.bool true))) fNil) (fSeq (fAsg (fBin dSub (fUn gLen (fVar 0)) (fC (.int 1))) (tgN 4)) (fSeq (fAsg (fBin dCat (fBin dCat (fLst (aCons (fBin dIxL (fVar 0) (fVar 4)) aNil)) (fSl (fVar 0) (gPart (fC (.int 1))) (gPart (fVar 4)))) (fLst (aCons (fBin dIxL (fVar 0) (fC (.int 0))) aNil))) (tgN 5)) (fSeq (fAsg (fBin dCat (fLst (aCons (fBin dIxL (fVar 0) (fVar 4)) aNil)) (fSl (fVar 0) (gPart (fC (.int 1))) gNoPart)) (tgN 6)) (fRet (fAnd (fCall 2 (m__law_same 6) (aCons (fCall 1 m_sum_with_signs (aCons (fCall 1 (m__law_copy 4) (aCons (fVar 5) aNil)) aNil)) (aCons (fUn dNeg (fVar 1)) aNil))) (fCall 2 (m__law_same 6) (aCons (fCall 1 m_sum_with_signs (aCons (fCall 1 (m__law_copy 4) (aCons (fVar 6) aNil)) aNil)) (aCons (fC (.int 0)) aNil))))))))))))))
def m__law_summed : List D → Unit → Out Unit D := runDef 9 (f__law_summed )
def f__law_paths : SF Unit := (fSeq (fIfS (gOr (gB (fBin dLt (fBin dIxT (fVar 1) (fC (.int 0))) (fBin dIxT (fVar 0) (fC (.int 0))))) (gB (fBin dLt (fBin dIxT (fVar 1) (fC (.int 1))) (fBin dIxT (fVar 0) (fC (.int 1)))))) (fRet (fC (.int 0))) fNil) (fSeq (fAsg (fLc (iR1 (fBin dAdd (fBin dSub (fBin dIxT (fVar 1) (fC (.int 0))) (fBin dIxT (fVar 0) (fC (.int 0)))) (fC (.int 1)))) (tgN 5) gYes (fC (.int 1))) (tgN 2)) (fSeq (fFor (iR1 (fBin dSub (fBin dIxT (fVar 1) (fC (.int 1))) (fBin dIxT (fVar 0) (fC (.int 1))))) (tgN 3) (fSeq (fOwn (fLst aNil) 4) (fSeq (fFor (iR1 (fUn gLen (fVar 2))) (tgN 5) (fMeth mApp 4 (aCons (fBin dAdd (fBin dIxL (fVar 2) (fVar 5)) (fUn gSum (fSl (fVar 4) (gPart (fUn dNeg (fC (.int 1)))) gNoPart))) aNil))) (fAsg (fVar 4) (tgN 2))))) (fRet (fScal (fBin dIxL (fVar 2) (fUn dNeg (fC (.int 1)))))))))
def m__law_paths : List D → Unit → Out Unit D := runDef 6 (f__law_paths )
def f__law_number (ns : List Int) : SF Fd := (fSeq (fIfS (gB (fBin dEqS (fVar 1) (fC (.int 0)))) (fRet (fCallW 1 (m__law_draw ns) (aCons (fC (.int 3)) aNil))) fNil) (fSeq (fIfS (gB (fBin dEqS (fVar 1) (fC (.int 1)))) (fRet (fBin dSub (fCallW 1 (m__law_draw ns) (aCons (fC (.int 41)) aNil)) (fC (.int 20)))) fNil) (fRet (fBin dAdd (fBin dMul (fBin dSub (fCallW 1 (m__law_draw ns) (aCons (fBin dPow (fC (.int 10)) (fC (.int 9))) aNil)) (fBin dMul (fC (.int 5)) (fBin dPow (fC (.int 10)) (fC (.int 8))))) (fBin dPow (fC (.int 10)) (fC (.int 50)))) (fCallW 1 (m__law_draw ns) (aCons (fC (.int 1000)) aNil))))))
def m__law_number (ns : List Int) : List D → Fd → Out Fd D := runDef 2 (f__law_number ns )
def f_law (ns : List Int) : SF Fd := (fSeq (fFor (iR1 (fC (.int 2))) (tgN 2) (fSeq (fAsg (fBin dAdd (fC (.int 1)) (fCallW 1 (m__law_draw ns) (aCons (fC (.int 4)) aNil))) (tgN 3)) (fSeq (fAsg (fBin dIxL (fLst (aCons (fC (.int 3)) (aCons (fC (.int 7)) aNil))) (fCallW 1 (m__law_draw ns) (aCons (fC (.int 2)) aNil))) (tgN 4)) (fSeq (fAsg (fCallW 2 (m__law_places ns) (aCons (fVar 3) (aCons (fVar 4) aNil))) (tgN 5)) (fSeq (fAsg (fCallW 2 (m__law_places ns) (aCons (fVar 3) (aCons (fC (.int 7)) aNil))) (tgN 6)) (fSeq (fAsg (fBin dMin2 (fUn gLen (fVar 5)) (fUn gLen (fVar 6))) (tgN 3)) (fSeq (fAsg (fLst (aCons (fSl (fVar 5) gNoPart (gPart (fVar 3))) (aCons (fSl (fVar 6) gNoPart (gPart (fVar 3))) aNil))) (tgN 7)) (fSeq (fAsg (fLc (iL (fSl (fVar 5) gNoPart (gPart (fVar 3)))) (tgN 14) gYes (fLc (iL (fSl (fVar 6) gNoPart (gPart (fVar 3)))) (tgN 16) gYes (fCall 2 m__law_paths (aCons (fVar 14) (aCons (fVar 16) aNil))))) (tgN 8)) (fSeq (fAsg (fCall 2 m_path_table (aCons (fBin dIxL (fVar 7) (fC (.int 0))) (aCons (fBin dIxL (fVar 7) (fC (.int 1))) aNil))) (tgN 9)) (fSeq (fIfS (gOr (gNot (gB (fCall 2 (m__law_same 6) (aCons (fVar 9) (aCons (fVar 8) aNil))))) (gOr (gB (fBin dNe (fVar 7) (fLst (aCons (fSl (fVar 5) gNoPart (gPart (fVar 3))) (aCons (fSl (fVar 6) gNoPart (gPart (fVar 3))) aNil))))) (gNot (gB (fCall 1 m__law_summed (aCons (fVar 8) aNil)))))) (fRet (fC (.bool false))) fNil) (fSeq (fFor (iR1 (fVar 3)) (tgN 10) (fSeq (fIfS (gNot (gB (fCall 2 (m__law_same 6) (aCons (fCall 2 m_count_paths (aCons (fBin dIxL (fVar 5) (fVar 10)) (aCons (fBin dIxL (fVar 6) (fVar 10)) aNil))) (aCons (fBin dIxL (fBin dIxL (fVar 8) (fVar 10)) (fVar 10)) aNil))))) (fRet (fC (.bool false))) fNil) (fIfS (gNot (gB (fCall 2 (m__law_same 6) (aCons (fCall 2 m_count_paths (aCons (fBin dIxL (fVar 5) (fVar 10)) (aCons (fBin dIxL (fVar 5) (fVar 10)) aNil))) (aCons (fC (.int 1)) aNil))))) (fRet (fC (.bool false))) fNil))) (fSeq (fAsg (fBin dAdd (fC (.int 1)) (fCallW 1 (m__law_draw ns) (aCons (fC (.int 4)) aNil))) (tgN 11)) (fSeq (fAsg (fCallW 1 (m__law_draw ns) (aCons (fC (.int 3)) aNil)) (tgN 12)) (fSeq (fAsg (fLc (iR1 (fVar 11)) (tgN 15) gYes (fLc (iR1 (fVar 11)) (tgN 17) gYes (fCallW 1 (m__law_number ns) (aCons (fVar 12) aNil)))) (tgN 13)) (fIfS (gNot (gB (fCall 1 m__law_summed (aCons (fVar 13) aNil)))) (fRet (fC (.bool false))) fNil))))))))))))))) (fRet (fAnd (fCall 2 (m__law_same 6) (aCons (fCall 2 m_count_paths (aCons (fTup (aCons (fC (.int 0)) (aCons (fC (.int 0)) aNil))) (aCons (fTup (aCons (fC (.int 6)) (aCons (fC (.int 6)) aNil))) aNil))) (aCons (fC (.int 924)) aNil))) (fCall 2 (m__law_same 6) (aCons (fCall 2 m_count_paths (aCons (fTup (aCons (fC (.int 1)) (aCons (fC (.int 0)) aNil))) (aCons (fTup (aCons (fC (.int 0)) (aCons (fC (.int 6)) aNil))) aNil))) (aCons (fC (.int 0)) aNil))))))
section
variable {P : Program} {wo : World} {K : PySem.W.Frag} {mg : Str → Option Value} {base : Heap}
theorem ok__law_feed {f : Addr} {fd : FuncData} (FF : Fun K "_law_feed" "_law_feed" s__law_feed f fd) (z_list : mg "list" = none) : FnOk P wo K mg base CX0 1 f fd ["script"] (spFeed K) := by
  refine FF.ok sc__law_feed (fun vs H Q E h => ?_) fun cdv A outer s H vs Q E hr h => ?_
  · obtain ⟨a, ns, rfl, _⟩ := h
    rfl
  · obtain ⟨a, ns, rfl, hS, q⟩ := h
    exact ⟨_, pss_one (ps_ret (pe_lst (pa_cons (pe_callTy call_list_of (by rfl) z_list bo_list (pa_cons (pv 0) pa_nil)) (pa_cons pe_int (pa_cons pe_int (pa_cons pe_int pa_nil)))))), .ref a, rfl, a, _, rfl, .inl hS, fun l hl => ⟨by show 4 ≤ sizeLine; decide, fun p hp => q l p hl hp⟩⟩
theorem ok__law_draw {af al : Addr} {ns : List Int} (hal : al ≠ af) {f : Addr} {fd : FuncData} (FF : Fun K "_law_draw" "_law_draw" s__law_draw f fd) (z_abs : mg "abs" = none) (z_int : mg "int" = none) (z_len : mg "len" = none) : FnOk P wo K mg base CX0 1 f fd ["feed", "many"] (spW (FdW af al ns) (true :: ksF 1) true true (m__law_draw ns)) := by
  refine fn_mk (k := 0) (wd := (FdW af al ns)) (ks := (true :: ksF 1)) (nw := true) (ft := true) (N := N__law_draw) (fb := f__law_draw ns ) FF sc__law_draw rfl ?_
  intro cdv A outer s H E hr
  refine ⟨_, (pss_cons (ps_if (PW.pt (pw_and (pt_cmpR (op_eqDk (K := K) rfl (u64 hr)) (pe_ix (ix_listk (K := K) rfl) (pv 0) pe_int (fun _ _ => rfl)) pe_int (nomark _)) (pw_and1 (pt_cmpR op_lt (pe_ix (ix_listk (K := K) rfl) (pv 0) pe_int (fun _ _ => rfl)) (pe_callB (call_lenk (K := K) rfl) (by rfl) z_len bo_len (pa_cons (pe_ix (ix_listk (K := K) rfl) (pv 0) pe_int (fun _ _ => rfl)) pa_nil)) (nomark _))))) (pss_cons (ps_set (i := 3) sc__law_draw.nd rfl (by first | exact Or.inl rfl | exact Or.inr rfl) (pe_callB call_abs (by rfl) z_abs bo_abs (pa_cons (pe_callTy call_int1 (by rfl) z_int bo_int (pa_cons (pe_ix (ix_listk (K := K) rfl) (pe_ix (ix_listk (K := K) rfl) (pv 0) pe_int (fun _ _ => rfl)) (pe_ix (ix_listk (K := K) rfl) (pv 0) pe_int (fun _ _ => rfl)) (fun _ _ => rfl)) pa_nil)) pa_nil))) (pss_cons (ps_augS (pv 0) pe_int pget_list pe_int ip_add set_list) (pss_one (ps_if (pt_cmpR op_ge (pv 3) (pe_op op_pow pe_int pe_int) (nomark _)) (pss_one (ps_asg (pv 3) (pg_sub (pv 0) pe_int set_list))) (pss_one (ps_asg (pe_op op_mod (pe_callTy call_int1 (by rfl) z_int bo_int (pa_cons (pe_op op_add (pe_op op_add (pe_op op_mul (pe_ix (ix_listk (K := K) rfl) (pv 0) pe_int (fun _ _ => rfl)) pe_int) (pe_op op_mul (pv 3) pe_int)) (pe_ix (ix_listk (K := K) rfl) (pv 0) pe_int (fun _ _ => rfl))) pa_nil)) pe_int) (pg_sub (pv 0) pe_int set_list))))))) pss_nil) (pss_cons (ps_if (pt_cmpR op_gt (pe_ix (ix_listk (K := K) rfl) (pv 0) pe_int (fun _ _ => rfl)) pe_int (nomark _)) (pss_cons (ps_set (i := 4) sc__law_draw.nd rfl (by first | exact Or.inl rfl | exact Or.inr rfl) (pe_op op_mod (pe_callTy call_int1 (by rfl) z_int bo_int (pa_cons (pe_ix (ix_listk (K := K) rfl) (pv 0) pe_int (fun _ _ => rfl)) pa_nil)) (pv 1))) (pss_cons (ps_asg (pe_op op_fdivW (pe_ix (ix_listk (K := K) rfl) (pv 0) pe_int (fun _ _ => rfl)) (pv 1)) (pg_sub (pv 0) pe_int set_list)) (pss_one (ps_ret (pv 4))))) pss_nil) (pss_cons (ps_asg (pe_op op_mod (pe_callTy call_int1 (by rfl) z_int bo_int (pa_cons (pe_op op_add (pe_op op_mul (pe_ix (ix_listk (K := K) rfl) (pv 0) pe_int (fun _ _ => rfl)) pe_int) pe_int) pa_nil)) pe_int) (pg_sub (pv 0) pe_int set_list)) (pss_cons (ps_set (i := 2) sc__law_draw.nd rfl (by first | exact Or.inl rfl | exact Or.inr rfl) (pe_op op_mod (pe_callTy call_int1 (by rfl) z_int bo_int (pa_cons (pe_op op_add (pe_op op_mul (pe_ix (ix_listk (K := K) rfl) (pv 0) pe_int (fun _ _ => rfl)) (pe_ix (ix_listk (K := K) rfl) (pv 0) pe_int (fun _ _ => rfl))) (pe_ix (ix_listk (K := K) rfl) (pv 0) pe_int (fun _ _ => rfl))) pa_nil)) pe_int)) (pss_one (ps_ret (pe_op op_mod (pe_op op_fdivW (pv 2) pe_int) (pv 1)))))))), ?_⟩
  intro B hw
  refine ⟨[], [], [], ?_⟩
  show SS B [.f, .s false, .u, .u, .u] _ _ _
  exact (ss_cons (Γ1 := [.f, .s false, .u, .u, .u]) (ss_if (st_and (st_test (se_op r2_eq (se_fd (i := 0) (k := 2) hw rfl) se_int)) (st_test (se_op r2_lt (se_fd (i := 0) (k := 1) hw rfl) (se_fdLen (i := 0) hw rfl)))) (ss_to [.f, .s false, .u, .s true, .u] (ss_cons (Γ1 := [.f, .s false, .u, .s true, .u]) (ss_asg (se_call1 r1_abs (se_call1 r1_int1 (se_fdItem (i := 0) hw rfl))) (stg_name (i := 3) rfl)) (ss_cons (Γ1 := [.f, .s false, .u, .s true, .u]) (ss_fdAug (i := 0) (k := 1) (n := 1) hw hal rfl rfl) (ss_if (st_test (se_op r2_ge (se_var (i := 3) rfl) (se_op r2_pow se_int se_int))) (ss_fdSet (i := 0) (k := 2) hw hal rfl (se_var (i := 3) rfl) rfl) (ss_fdSet (i := 0) (k := 3) hw hal rfl (se_op r2_mod (se_call1 r1_int1 (se_op r2_add (se_op r2_add (se_op r2_mul (se_fd (i := 0) (k := 3) hw rfl) se_int) (se_op r2_mul (se_var (i := 3) rfl) se_int)) (se_fd (i := 0) (k := 1) hw rfl))) se_int) rfl)))) rfl) (ss_nil rfl)) (ss_cons (Γ1 := [.f, .s false, .u, .u, .u]) (ss_if (st_test (se_op r2_gt (se_fd (i := 0) (k := 2) hw rfl) se_int)) (ss_cons (Γ1 := [.f, .s false, .u, .u, .s true]) (ss_asg (se_op r2_mod (se_call1 r1_int1 (se_fd (i := 0) (k := 2) hw rfl)) (se_var (i := 1) rfl)) (stg_name (i := 4) rfl)) (ss_cons (Γ1 := [.f, .s false, .u, .u, .s true]) (ss_fdSet (i := 0) (k := 2) hw hal rfl (se_op r2_div (se_fd (i := 0) (k := 2) hw rfl) (se_var (i := 1) rfl)) rfl) (ss_ret (se_scal (se_var (i := 4) rfl)) rfl rfl))) (ss_nil rfl)) (ss_cons (Γ1 := [.f, .s false, .u, .u, .u]) (ss_fdSet (i := 0) (k := 3) hw hal rfl (se_op r2_mod (se_call1 r1_int1 (se_op r2_add (se_op r2_mul (se_fd (i := 0) (k := 3) hw rfl) se_int) se_int)) se_int) rfl) (ss_cons (Γ1 := [.f, .s false, .s true, .u, .u]) (ss_asg (se_op r2_mod (se_call1 r1_int1 (se_op r2_add (se_op r2_mul (se_fd (i := 0) (k := 3) hw rfl) (se_fd (i := 0) (k := 3) hw rfl)) (se_fd (i := 0) (k := 3) hw rfl))) se_int) (stg_name (i := 2) rfl)) (ss_ret (se_op r2_mod (se_op r2_div (se_var (i := 2) rfl) se_int) (se_var (i := 1) rfl)) rfl rfl)))))
theorem ok__law_places {af al : Addr} {ns : List Int} (hal : al ≠ af) {f : Addr} {fd : FuncData} (FF : Fun K "_law_places" "_law_places" s__law_places f fd) (z_len : mg "len" = none) (z_range : mg "range" = none) (c__law_draw : Cal P wo K mg base "_law_draw" 1 ["feed", "many"] (spX (true :: ksF 1) true true m__law_draw)) : FnOk P wo K mg base CX0 2 f fd ["feed", "many", "wide"] (spW (FdW af al ns) (true :: ksF 2) true true (m__law_places ns)) := by
  refine fn_mk (k := 1) (wd := (FdW af al ns)) (ks := (true :: ksF 2)) (nw := true) (ft := true) (N := N__law_places) (fb := f__law_places ns ) FF sc__law_places rfl ?_
  intro cdv A outer s H E hr
  refine ⟨_, (pss_cons (ps_set (i := 3) sc__law_places.nd rfl (by first | exact Or.inl rfl | exact Or.inr rfl) (pe_lst pa_nil)) (pss_cons (ps_for PassesOwn.never rfl (pi_range1 (by rfl) z_range (pa_cons pe_int pa_nil)) (pg_name (i := 4) sc__law_places.nd rfl (by first | exact Or.inl rfl | exact Or.inr rfl)) (pss_cons (ps_set (i := 6) sc__law_places.nd rfl (by first | exact Or.inl rfl | exact Or.inr rfl) (pe_tup (pa_cons (pe_cal c__law_draw (hr.mono (by decide)) (by rfl) (pa_cons (pv 0) (pa_cons (pv 2) pa_nil))) (pa_cons (pe_cal c__law_draw (hr.mono (by decide)) (by rfl) (pa_cons (pv 0) (pa_cons (pv 2) pa_nil))) pa_nil)))) (pss_one (ps_if (PW.pt (pw_and (pt_cmpR (op_notInDk (K := K) rfl (u65 hr)) (pv 6) (pv 3) (by rfl)) (pw_and1 (pt_cmpR op_lt (pe_callB (call_lenk (K := K) rfl) (by rfl) z_len bo_len (pa_cons (pv 3) pa_nil)) (pv 1) (nomark _))))) (pss_one (ps_expr (pe_bm PySem.F.plainAttrs_list PySem.F.slot_list_append PySem.F.type_list_append mt_append (pv 3) (pa_cons (pv 6) pa_nil)))) pss_nil)))) (pss_cons (ps_for PassesOwn.never rfl (pi_range1 (by rfl) z_range (pa_cons (pv 1) pa_nil)) (pg_name (i := 5) sc__law_places.nd rfl (by first | exact Or.inl rfl | exact Or.inr rfl)) (pss_one (ps_if (PW.pt (pw_and (pt_cmpR op_lt (pe_callB (call_lenk (K := K) rfl) (by rfl) z_len bo_len (pa_cons (pv 3) pa_nil)) (pv 1) (nomark _)) (pw_and1 (pt_cmpR (op_notInDk (K := K) rfl (u65 hr)) (pe_tup (pa_cons (pv 5) (pa_cons (pe_op op_sub pe_int (pv 5)) pa_nil))) (pv 3) (by rfl))))) (pss_one (ps_expr (pe_bm PySem.F.plainAttrs_list PySem.F.slot_list_append PySem.F.type_list_append mt_append (pv 3) (pa_cons (pe_tup (pa_cons (pv 5) (pa_cons (pe_op op_sub pe_int (pv 5)) pa_nil))) pa_nil)))) pss_nil))) (pss_one (ps_ret (pv 3)))))), ?_⟩
  intro B hw
  refine ⟨[], [], [], ?_⟩
  show SS B [.f, .s false, .s false, .u, .u, .u, .u] _ _ _
  exact (ss_cons (Γ1 := [.f, .s false, .s false, .o true, .u, .u, .u]) (ss_own (i := 3) (se_lst (sa_nil (fl := .ok true))) rfl rfl) (ss_cons (Γ1 := [.f, .s false, .s false, .o true, .u, .u, .u]) (ss_for (Γb := [.f, .s false, .s false, .o true, .s true, .u, .u]) (si_rg1 se_int) (stg_name (i := 4) rfl) (ss_to [.f, .s false, .s false, .o true, .s true, .u, .s true] (ss_cons (Γ1 := [.f, .s false, .s false, .o true, .s true, .u, .s true]) (ss_asg (se_tup (sa_cons (nw := true) (se_callX (n := 1) (i := 0) (m := m__law_draw) hw hal rfl (sa_cons (nw := true) (se_scal (se_var (i := 2) rfl)) sa_nil rfl)) (sa_cons (nw := true) (se_callX (n := 1) (i := 0) (m := m__law_draw) hw hal rfl (sa_cons (nw := true) (se_scal (se_var (i := 2) rfl)) sa_nil rfl)) sa_nil rfl) rfl)) (stg_name (i := 6) rfl)) (ss_if (st_and (st_test (se_op r2_notIn (se_var (i := 6) rfl) (se_varO (i := 3) rfl))) (st_test (se_op r2_lt (se_call1 r1_len (se_varO (i := 3) rfl)) (se_var (i := 1) rfl)))) (ss_meth (i := 3) rfl rm_append (sa_cons (nw := true) (se_var (i := 6) rfl) sa_nil rfl) rfl) (ss_nil rfl))) rfl) rfl) (ss_cons (Γ1 := [.f, .s false, .s false, .o true, .u, .u, .u]) (ss_for (Γb := [.f, .s false, .s false, .o true, .u, .s true, .u]) (si_rg1 (se_var (i := 1) rfl)) (stg_name (i := 5) rfl) (ss_to [.f, .s false, .s false, .o true, .u, .s true, .u] (ss_if (st_and (st_test (se_op r2_lt (se_call1 r1_len (se_varO (i := 3) rfl)) (se_var (i := 1) rfl))) (st_test (se_op r2_notIn (se_tup (sa_cons (nw := true) (se_var (i := 5) rfl) (sa_cons (nw := true) (se_op r2_sub se_int (se_var (i := 5) rfl)) sa_nil rfl) rfl)) (se_varO (i := 3) rfl)))) (ss_meth (i := 3) rfl rm_append (sa_cons (nw := true) (se_tup (sa_cons (nw := true) (se_var (i := 5) rfl) (sa_cons (nw := true) (se_op r2_sub se_int (se_var (i := 5) rfl)) sa_nil rfl) rfl)) sa_nil rfl) rfl) (ss_nil rfl)) rfl) rfl) (ss_retO (i := 3) (nw := true) rfl rfl rfl rfl rfl))))
theorem ok_count_paths {f : Addr} {fd : FuncData} (FF : Fun K "count_paths" "count_paths" s_count_paths f fd) (z_range : mg "range" = none) : FnOk P wo K mg base CX0 1 f fd ["start", "end"] (spW W0 (ksF 2) true true (m_count_paths)) := by
  refine fn_mk (k := 0) (wd := W0) (ks := (ksF 2)) (nw := true) (ft := true) (N := N_count_paths) (fb := f_count_paths ) FF sc_count_paths rfl ?_
  intro cdv A outer s H E hr
  refine ⟨_, (pss_cons (ps_set (i := 2) sc_count_paths.nd rfl (by first | exact Or.inl rfl | exact Or.inr rfl) (pe_op op_sub (pe_ix (ix_tupk (K := K) rfl) (pv 1) pe_int (fun _ _ => rfl)) (pe_ix (ix_tupk (K := K) rfl) (pv 0) pe_int (fun _ _ => rfl)))) (pss_cons (ps_set (i := 3) sc_count_paths.nd rfl (by first | exact Or.inl rfl | exact Or.inr rfl) (pe_op op_sub (pe_ix (ix_tupk (K := K) rfl) (pv 1) pe_int (fun _ _ => rfl)) (pe_ix (ix_tupk (K := K) rfl) (pv 0) pe_int (fun _ _ => rfl)))) (pss_cons (ps_if (PW.pt (pw_or (pt_cmpR op_lt (pv 2) pe_int (nomark _)) (pw_or1 (pt_cmpR op_lt (pv 3) pe_int (nomark _))))) (pss_one (ps_ret pe_int)) pss_nil) (pss_cons (ps_set (i := 4) sc_count_paths.nd rfl (by first | exact Or.inl rfl | exact Or.inr rfl) pe_int) (pss_cons (ps_for PassesOwn.never rfl (pi_range2 (by rfl) z_range (pa_cons pe_int (pa_cons (pe_op op_add (pv 3) pe_int) pa_nil))) (pg_name (i := 5) sc_count_paths.nd rfl (by first | exact Or.inl rfl | exact Or.inr rfl)) (pss_one (ps_set (i := 4) sc_count_paths.nd rfl (by first | exact Or.inl rfl | exact Or.inr rfl) (pe_op op_fdivW (pe_op op_mul (pv 4) (pe_op op_add (pv 2) (pv 5))) (pv 5))))) (pss_one (ps_ret (pv 4)))))))), ?_⟩
  intro B hw
  refine ⟨[], [], [], ?_⟩
  show SS B [.s false, .s false, .u, .u, .u, .u] _ _ _
  exact (ss_cons (Γ1 := [.s false, .s false, .s true, .u, .u, .u]) (ss_asg (se_op r2_sub (se_op r2_ixT (se_var (i := 1) rfl) se_int) (se_op r2_ixT (se_var (i := 0) rfl) se_int)) (stg_name (i := 2) rfl)) (ss_cons (Γ1 := [.s false, .s false, .s true, .s true, .u, .u]) (ss_asg (se_op r2_sub (se_op r2_ixT (se_var (i := 1) rfl) se_int) (se_op r2_ixT (se_var (i := 0) rfl) se_int)) (stg_name (i := 3) rfl)) (ss_cons (Γ1 := [.s false, .s false, .s true, .s true, .u, .u]) (ss_if (st_or (st_test (se_op r2_lt (se_var (i := 2) rfl) se_int)) (st_test (se_op r2_lt (se_var (i := 3) rfl) se_int))) (ss_ret se_int rfl rfl) (ss_nil rfl)) (ss_cons (Γ1 := [.s false, .s false, .s true, .s true, .s true, .u]) (ss_asg se_int (stg_name (i := 4) rfl)) (ss_cons (Γ1 := [.s false, .s false, .s true, .s true, .s true, .u]) (ss_for (Γb := [.s false, .s false, .s true, .s true, .s true, .s true]) (si_rg2 se_int (se_op r2_add (se_var (i := 3) rfl) se_int)) (stg_name (i := 5) rfl) (ss_to [.s false, .s false, .s true, .s true, .s true, .s true] (ss_asg (se_op r2_div (se_op r2_mul (se_var (i := 4) rfl) (se_op r2_add (se_var (i := 2) rfl) (se_var (i := 5) rfl))) (se_var (i := 5) rfl)) (stg_name (i := 4) rfl)) rfl) rfl) (ss_ret (se_scal (se_var (i := 4) rfl)) rfl rfl))))))
theorem ok_path_table {f : Addr} {fd : FuncData} (FF : Fun K "path_table" "path_table" s_path_table f fd) (c_count_paths : Cal P wo K mg base "count_paths" 1 ["start", "end"] (spW W0 (ksF 2) true true (m_count_paths))) : FnOk P wo K mg base CX0 2 f fd ["starts", "ends"] (spW W0 (ksF 2) true true (m_path_table)) := by
  refine fn_mk (k := 1) (wd := W0) (ks := (ksF 2)) (nw := true) (ft := true) (N := N_path_table) (fb := f_path_table ) FF sc_path_table rfl ?_
  intro cdv A outer s H E hr
  refine ⟨_, (pss_one (ps_ret (pe_lc (own := [("start", 2)]) (tt := tYes) (by rfl) sc_path_table.nd (pi_listk (K := K) rfl (pv 0)) (blkOk_by (own := [("start", 2)]) (N := N_path_table) (sc := defScope s_path_table) (by decide +kernel)) (fun _ _ _ _ _ => (pg_name (i := 2) sc_path_table.nd rfl (by first | exact Or.inl rfl | exact Or.inr rfl))) (fun _ _ _ _ _ => pts_nil) (fun _ _ _ _ _ => (pe_lc (own := [("end", 3)]) (tt := tYes) (by rfl) sc_path_table.nd (pi_listk (K := K) rfl (pv 1)) (blkOk_by (own := [("end", 3)]) (N := N_path_table) (by rfl)) (fun _ _ _ _ _ => (pg_name (i := 3) sc_path_table.nd rfl (by first | exact Or.inl rfl | exact Or.inr rfl))) (fun _ _ _ _ _ => pts_nil) (fun _ _ _ _ _ => (pe_cal c_count_paths (hr.mono (by decide)) (by rfl) (pa_cons (pv 2) (pa_cons (pv 3) pa_nil))))))))), ?_⟩
  intro B hw
  refine ⟨[], [], [], ?_⟩
  show SS B [.s false, .s false, .u, .u] _ _ _
  exact (ss_ret (se_lc (Γe := [.s false, .s false, .s false, .u]) (si_list rfl (se_var (i := 0) rfl)) rfl (stg_name (i := 2) rfl) rfl st_yes (se_lc (Γe := [.s false, .s false, .s false, .s false]) (si_list rfl (se_var (i := 1) rfl)) rfl (stg_name (i := 3) rfl) rfl st_yes (se_call (n := 2) (sa_cons (nw := false) (se_var (i := 2) rfl) (sa_cons (nw := false) (se_var (i := 3) rfl) sa_nil rfl) rfl)))) rfl rfl)
theorem ok__law_same {f : Addr} {fd : FuncData} (FF : Fun K "_law_same" "_law_same" s__law_same f fd) (g : mg "_law_same" = some (.ref f)) (z_all : mg "all" = none) (z_bool : mg "bool" = none) (z_int : mg "int" = none) (z_isinstance : mg "isinstance" = none) (z_len : mg "len" = none) (z_list : mg "list" = none) (z_range : mg "range" = none) (z_str : mg "str" = none) (z_tuple : mg "tuple" = none) : ∀ n : Nat, FnOk P wo K mg base CX0 (1 + n) f fd ["actual", "due"] (spW W0 (ksF 2) true true (m__law_same n))
  | 0 => fn_st.mono (Nat.zero_le _)
  | n + 1 => by
    have G := ok__law_same FF g z_all z_bool z_int z_isinstance z_len z_list z_range z_str z_tuple n
    have c__law_same : Cal P wo K mg base "_law_same" (1 + n) ["actual", "due"] (spW W0 (ksF 2) true true (m__law_same n)) := ⟨f, fd, G, g, FF.kp, FF.binds (ps := ["actual", "due"]) fun _ _ _ _ _ _ us hl => match us, hl with | [_, _], _ => rfl⟩
    refine fn_mk (k := 1 + n) (wd := W0) (ks := (ksF 2)) (nw := true) (ft := true) (N := N__law_same) (fb := f__law_same (m__law_same n)) FF sc__law_same rfl ?_
    intro cdv A outer s H E hr
    refine ⟨_, (pss_cons (ps_if (pt_val (pe_callB (call_isiTk (K := K) rfl) (by rfl) z_isinstance bo_isinstance (pa_cons (pv 1) (pa_cons (pe_tup (pa_cons (pe_bltn (v := .ty "list") (by rfl) z_list bo_list rfl) (pa_cons (pe_bltn (v := .ty "tuple") (by rfl) z_tuple bo_tuple rfl) pa_nil))) pa_nil)))) (pss_cons (ps_if (PW.pt (pw_or (pt_not (pt_val (pe_callB (call_isiTk (K := K) rfl) (by rfl) z_isinstance bo_isinstance (pa_cons (pv 0) (pa_cons (pe_tup (pa_cons (pe_bltn (v := .ty "list") (by rfl) z_list bo_list rfl) (pa_cons (pe_bltn (v := .ty "tuple") (by rfl) z_tuple bo_tuple rfl) pa_nil))) pa_nil))))) (pw_or1 (pt_cmpR op_ne (pe_callB (call_isik (K := K) rfl) (by rfl) z_isinstance bo_isinstance (pa_cons (pv 0) (pa_cons (pe_bltn (v := .ty "list") (by rfl) z_list bo_list rfl) pa_nil))) (pe_callB (call_isik (K := K) rfl) (by rfl) z_isinstance bo_isinstance (pa_cons (pv 1) (pa_cons (pe_bltn (v := .ty "list") (by rfl) z_list bo_list rfl) pa_nil))) (nomark _))))) (pss_one (ps_ret pe_bl)) pss_nil) (pss_cons (ps_if (pt_cmpR op_ne (pe_callB (call_lenk (K := K) rfl) (by rfl) z_len bo_len (pa_cons (pv 0) pa_nil)) (pe_callB (call_lenk (K := K) rfl) (by rfl) z_len bo_len (pa_cons (pv 1) pa_nil)) (nomark _)) (pss_one (ps_ret pe_bl)) pss_nil) (pss_one (ps_ret (pe_callB (cr_allk (K := K) rfl rfl) (by rfl) z_all bo_all (pa_cons (pe_lc (own := [("k", 2)]) (tt := tYes) (by rfl) sc__law_same.nd (pi_range1 (by rfl) z_range (pa_cons (pe_callB (call_lenk (K := K) rfl) (by rfl) z_len bo_len (pa_cons (pv 1) pa_nil)) pa_nil)) (blkOk_by (own := [("k", 2)]) (N := N__law_same) (sc := defScope s__law_same) (by decide +kernel)) (fun _ _ _ _ _ => (pg_name (i := 2) sc__law_same.nd rfl (by first | exact Or.inl rfl | exact Or.inr rfl))) (fun _ _ _ _ _ => pts_nil) (fun _ _ _ _ _ => (pe_cal c__law_same (hr.mono (Nat.le_refl _)) (by rfl) (pa_cons (pe_ix (ix_seqk (K := K) rfl) (pv 0) (pv 2) (fun _ _ => rfl)) (pa_cons (pe_ix (ix_seqk (K := K) rfl) (pv 1) (pv 2) (fun _ _ => rfl)) pa_nil))))) pa_nil)))))) pss_nil) (pss_cons (ps_if (pt_cmpR op_isN (pv 1) pe_non (nomark _)) (pss_one (ps_ret (pe_cmpR op_isN (pv 0) pe_non (nomark _)))) pss_nil) (pss_cons (ps_if (pt_val (pe_callB (call_isik (K := K) rfl) (by rfl) z_isinstance bo_isinstance (pa_cons (pv 1) (pa_cons (pe_bltn (v := .ty "bool") (by rfl) z_bool bo_bool rfl) pa_nil)))) (pss_one (ps_ret (pe_and (pe_callB (call_isik (K := K) rfl) (by rfl) z_isinstance bo_isinstance (pa_cons (pv 0) (pa_cons (pe_bltn (v := .ty "bool") (by rfl) z_bool bo_bool rfl) pa_nil))) (pe_one (pe_cmpR (op_eqDk (K := K) rfl (u64 hr)) (pv 0) (pv 1) (nomark _)))))) pss_nil) (pss_cons (ps_if (pt_val (pe_callB (call_isik (K := K) rfl) (by rfl) z_isinstance bo_isinstance (pa_cons (pv 1) (pa_cons (pe_bltn (v := .ty "str") (by rfl) z_str bo_str rfl) pa_nil)))) (pss_one (ps_ret (pe_and (pe_callB (call_isik (K := K) rfl) (by rfl) z_isinstance bo_isinstance (pa_cons (pv 0) (pa_cons (pe_bltn (v := .ty "str") (by rfl) z_str bo_str rfl) pa_nil))) (pe_one (pe_cmpR (op_eqDk (K := K) rfl (u64 hr)) (pv 0) (pv 1) (nomark _)))))) pss_nil) (pss_one (ps_ret (pe_and (pe_callB (call_isik (K := K) rfl) (by rfl) z_isinstance bo_isinstance (pa_cons (pv 0) (pa_cons (pe_bltn (v := .ty "int") (by rfl) z_int bo_int rfl) pa_nil))) (pe_and (pe_not (pe_callB (call_isik (K := K) rfl) (by rfl) z_isinstance bo_isinstance (pa_cons (pv 0) (pa_cons (pe_bltn (v := .ty "bool") (by rfl) z_bool bo_bool rfl) pa_nil)))) (pe_one (pe_cmpR (op_eqDk (K := K) rfl (u64 hr)) (pv 0) (pv 1) (nomark _))))))))))), ?_⟩
    intro B hw
    refine ⟨[], [], [], ?_⟩
    show SS B [.s false, .s false, .u] _ _ _
    exact (ss_cons (Γ1 := [.s false, .s false, .u]) (ss_if (st_b (si_lt (se_var (i := 1) rfl))) (ss_cons (Γ1 := [.s false, .s false, .u]) (ss_if (st_or (st_not (st_b (si_lt (se_var (i := 0) rfl)))) (st_test (se_op r2_neS (si_lst (se_var (i := 0) rfl)) (si_lst (se_var (i := 1) rfl))))) (ss_ret se_bl rfl rfl) (ss_nil rfl)) (ss_cons (Γ1 := [.s false, .s false, .u]) (ss_if (st_test (se_op r2_neS (se_call1 r1_len (se_var (i := 0) rfl)) (se_call1 r1_len (se_var (i := 1) rfl)))) (ss_ret se_bl rfl rfl) (ss_nil rfl)) (ss_ret (se_call1 r1_all (se_lc (Γe := [.s false, .s false, .s true]) (si_rg1 (se_call1 r1_len (se_var (i := 1) rfl))) rfl (stg_name (i := 2) rfl) rfl st_yes (se_call (n := 2) (sa_cons (nw := false) (se_op r2_ixS (se_var (i := 0) rfl) (se_var (i := 2) rfl)) (sa_cons (nw := false) (se_op r2_ixS (se_var (i := 1) rfl) (se_var (i := 2) rfl)) sa_nil rfl) rfl)))) rfl rfl))) (ss_nil rfl)) (ss_cons (Γ1 := [.s false, .s false, .u]) (ss_if (st_test (se_op r2_isN (se_var (i := 1) rfl) se_non)) (ss_ret (se_op r2_isN (se_var (i := 0) rfl) se_non) rfl rfl) (ss_nil rfl)) (ss_cons (Γ1 := [.s false, .s false, .u]) (ss_if (st_b (si_bool (se_var (i := 1) rfl))) (ss_ret (se_and (si_bool (se_var (i := 0) rfl)) (se_op r2_eq (se_var (i := 0) rfl) (se_var (i := 1) rfl))) rfl rfl) (ss_nil rfl)) (ss_cons (Γ1 := [.s false, .s false, .u]) (ss_if (st_b (si_str (se_var (i := 1) rfl))) (ss_ret (se_and (si_str (se_var (i := 0) rfl)) (se_op r2_eq (se_var (i := 0) rfl) (se_var (i := 1) rfl))) rfl rfl) (ss_nil rfl)) (ss_ret (se_and (si_int (se_var (i := 0) rfl)) (se_and (se_not (si_bool (se_var (i := 0) rfl))) (se_op r2_eq (se_var (i := 0) rfl) (se_var (i := 1) rfl)))) rfl rfl)))))
theorem ok__law_sum {f : Addr} {fd : FuncData} (FF : Fun K "_law_sum" "_law_sum" s__law_sum f fd) (g : mg "_law_sum" = some (.ref f)) (z_len : mg "len" = none) (z_range : mg "range" = none) : ∀ n : Nat, FnOk P wo K mg base CX0 (1 + n) f fd ["table"] (spW W0 (ksF 1) true true (m__law_sum n))
  | 0 => fn_st.mono (Nat.zero_le _)
  | n + 1 => by
    have G := ok__law_sum FF g z_len z_range n
    have c__law_sum : Cal P wo K mg base "_law_sum" (1 + n) ["table"] (spW W0 (ksF 1) true true (m__law_sum n)) := ⟨f, fd, G, g, FF.kp, FF.binds (ps := ["table"]) fun _ _ _ _ _ _ us hl => match us, hl with | [_], _ => rfl⟩
    refine fn_mk (k := 1 + n) (wd := W0) (ks := (ksF 1)) (nw := true) (ft := true) (N := N__law_sum) (fb := f__law_sum (m__law_sum n)) FF sc__law_sum rfl ?_
    intro cdv A outer s H E hr
    refine ⟨_, (pss_cons (ps_if (pt_cmpR op_eq (pe_callB (call_lenk (K := K) rfl) (by rfl) z_len bo_len (pa_cons (pv 0) pa_nil)) pe_int (nomark _)) (pss_one (ps_ret pe_int)) pss_nil) (pss_cons (ps_set (i := 1) sc__law_sum.nd rfl (by first | exact Or.inl rfl | exact Or.inr rfl) pe_int) (pss_cons (ps_set (i := 2) sc__law_sum.nd rfl (by first | exact Or.inl rfl | exact Or.inr rfl) pe_int) (pss_cons (ps_for PassesOwn.never rfl (pi_range1 (by rfl) z_range (pa_cons (pe_callB (call_lenk (K := K) rfl) (by rfl) z_len bo_len (pa_cons (pv 0) pa_nil)) pa_nil)) (pg_name (i := 3) sc__law_sum.nd rfl (by first | exact Or.inl rfl | exact Or.inr rfl)) (pss_cons (ps_setLc (i := 4) (own := [("line", 5)]) (tt := tYes) (by rfl) sc__law_sum.nd rfl rfl (sw_true rfl rfl rfl (by decide +kernel)) (pi_listk (K := K) rfl (pe_slice (sl_listk (K := K) rfl) (pv 0) (po_some pe_int) po_none)) (blkOk_by (own := [("line", 5)]) (N := N__law_sum) (sc := defScope s__law_sum) (by decide +kernel)) (fun _ _ _ _ _ => (pg_name (i := 5) sc__law_sum.nd rfl (by first | exact Or.inl rfl | exact Or.inr rfl))) (fun _ _ _ _ _ => pts_nil) (fun _ _ _ _ _ => (pe_op op_cat (pe_slice (sl_listk (K := K) rfl) (pv 5) po_none (po_some (pv 3))) (pe_slice (sl_listk (K := K) rfl) (pv 5) (po_some (pe_op op_add (pv 3) pe_int)) po_none)))) (pss_cons (ps_set (i := 1) sc__law_sum.nd rfl (by first | exact Or.inl rfl | exact Or.inr rfl) (pe_op op_add (pv 1) (pe_op op_mulW (pe_op op_mulW (pv 2) (pe_ix (ix_listk (K := K) rfl) (pe_ix (ix_listk (K := K) rfl) (pv 0) pe_int (fun _ _ => rfl)) (pv 3) (fun _ _ => rfl))) (pe_cal c__law_sum (hr.mono (Nat.le_refl _)) (by rfl) (pa_cons (pv 4) pa_nil))))) (pss_one (ps_set (i := 2) sc__law_sum.nd rfl (by first | exact Or.inl rfl | exact Or.inr rfl) (pe_un un_neg (pv 2))))))) (pss_one (ps_ret (pv 1))))))), ?_⟩
    intro B hw
    refine ⟨[], [], [], ?_⟩
    show SS B [.s false, .u, .u, .u, .u, .u] _ _ _
    exact (ss_cons (Γ1 := [.s false, .u, .u, .u, .u, .u]) (ss_if (st_test (se_op r2_eqS (se_call1 r1_len (se_var (i := 0) rfl)) se_int)) (ss_ret se_int rfl rfl) (ss_nil rfl)) (ss_cons (Γ1 := [.s false, .s true, .u, .u, .u, .u]) (ss_asg se_int (stg_name (i := 1) rfl)) (ss_cons (Γ1 := [.s false, .s true, .s true, .u, .u, .u]) (ss_asg se_int (stg_name (i := 2) rfl)) (ss_cons (Γ1 := [.s false, .s true, .s true, .u, .u, .u]) (ss_for (Γb := [.s false, .s true, .s true, .s true, .u, .u]) (si_rg1 (se_call1 r1_len (se_var (i := 0) rfl))) (stg_name (i := 3) rfl) (ss_to [.s false, .s true, .s true, .s true, .s false, .u] (ss_cons (Γ1 := [.s false, .s true, .s true, .s true, .s false, .u]) (ss_asg (se_lc (Γe := [.s false, .s true, .s true, .s true, .u, .s false]) (si_list rfl (se_sl rfl (se_var (i := 0) rfl) (so_some se_int) so_none)) rfl (stg_name (i := 5) rfl) rfl st_yes (se_op (r2_cat (nw := false) rfl rfl rfl rfl) (se_sl rfl (se_var (i := 5) rfl) so_none (so_some (se_var (i := 3) rfl))) (se_sl rfl (se_var (i := 5) rfl) (so_some (se_op r2_add (se_var (i := 3) rfl) se_int)) so_none))) (stg_name (i := 4) rfl)) (ss_cons (Γ1 := [.s false, .s true, .s true, .s true, .s false, .u]) (ss_asg (se_op r2_add (se_var (i := 1) rfl) (se_op r2_mulW (se_op r2_mulW (se_var (i := 2) rfl) (se_op (r2_ixL rfl) (se_op (r2_ixL rfl) (se_var (i := 0) rfl) se_int) (se_var (i := 3) rfl))) (se_call (n := 1) (sa_cons (nw := false) (se_var (i := 4) rfl) sa_nil rfl)))) (stg_name (i := 1) rfl)) (ss_asg (se_un r1_neg (se_var (i := 2) rfl)) (stg_name (i := 2) rfl)))) rfl) rfl) (ss_ret (se_scal (se_var (i := 1) rfl)) rfl rfl)))))
theorem ok__law_copy {f : Addr} {fd : FuncData} (FF : Fun K "_law_copy" "_law_copy" s__law_copy f fd) (g : mg "_law_copy" = some (.ref f)) (z_isinstance : mg "isinstance" = none) (z_list : mg "list" = none) : ∀ n : Nat, FnOk P wo K mg base CX0 (1 + n) f fd ["value"] (spW W0 (ksF 1) false false (m__law_copy n))
  | 0 => fn_st.mono (Nat.zero_le _)
  | n + 1 => by
    have G := ok__law_copy FF g z_isinstance z_list n
    have c__law_copy : Cal P wo K mg base "_law_copy" (1 + n) ["value"] (spW W0 (ksF 1) false false (m__law_copy n)) := ⟨f, fd, G, g, FF.kp, FF.binds (ps := ["value"]) fun _ _ _ _ _ _ us hl => match us, hl with | [_], _ => rfl⟩
    refine fn_mk (k := 1 + n) (wd := W0) (ks := (ksF 1)) (nw := false) (ft := false) (N := N__law_copy) (fb := f__law_copy (m__law_copy n)) FF sc__law_copy rfl ?_
    intro cdv A outer s H E hr
    refine ⟨_, (pss_cons (ps_if (pt_val (pe_callB (call_isik (K := K) rfl) (by rfl) z_isinstance bo_isinstance (pa_cons (pv 0) (pa_cons (pe_bltn (v := .ty "list") (by rfl) z_list bo_list rfl) pa_nil)))) (pss_one (ps_ret (pe_lc (own := [("one", 1)]) (tt := tYes) (by rfl) sc__law_copy.nd (pi_listk (K := K) rfl (pv 0)) (blkOk_by (own := [("one", 1)]) (N := N__law_copy) (sc := defScope s__law_copy) (by decide +kernel)) (fun _ _ _ _ _ => (pg_name (i := 1) sc__law_copy.nd rfl (by first | exact Or.inl rfl | exact Or.inr rfl))) (fun _ _ _ _ _ => pts_nil) (fun _ _ _ _ _ => (pe_cal c__law_copy (hr.mono (Nat.le_refl _)) (by rfl) (pa_cons (pv 1) pa_nil)))))) pss_nil) (pss_one (ps_ret (pv 0)))), ?_⟩
    intro B hw
    refine ⟨[], [], [], ?_⟩
    show SS B [.s false, .u] _ _ _
    exact (ss_cons (Γ1 := [.s false, .u]) (ss_if (st_b (si_lst (se_var (i := 0) rfl))) (ss_ret (se_lc (Γe := [.s false, .s false]) (si_list rfl (se_var (i := 0) rfl)) rfl (stg_name (i := 1) rfl) rfl st_yes (se_call (n := 1) (sa_cons (nw := false) (se_var (i := 1) rfl) sa_nil rfl))) rfl rfl) (ss_nil rfl)) (ss_ret (se_var (i := 0) rfl) rfl rfl))
theorem ok_all_orders {f : Addr} {fd : FuncData} (FF : Fun K "all_orders" "all_orders" s_all_orders f fd) (z_range : mg "range" = none) : FnOk P wo K mg base CX0 1 f fd ["many"] (spW W0 (ksF 1) true false (m_all_orders)) := by
  refine fn_mk (k := 0) (wd := W0) (ks := (ksF 1)) (nw := true) (ft := false) (N := N_all_orders) (fb := f_all_orders ) FF sc_all_orders rfl ?_
  intro cdv A outer s H E hr
  refine ⟨_, (pss_cons (ps_set (i := 1) sc_all_orders.nd rfl (by first | exact Or.inl rfl | exact Or.inr rfl) (pe_lst (pa_cons (pe_lst pa_nil) pa_nil))) (pss_cons (ps_for PassesOwn.never rfl (pi_range1 (by rfl) z_range (pa_cons (pv 0) pa_nil)) (pg_name (i := 2) sc_all_orders.nd rfl (by first | exact Or.inl rfl | exact Or.inr rfl)) (pss_one (ps_setLc2 (i := 1) (own := [("order", 3), ("number", 4)]) (vs1 := [4]) (tt := tYes) (by rfl) sc_all_orders.nd rfl rfl (sw_true rfl rfl rfl (by decide +kernel)) (pi_listk (K := K) rfl (pv 1)) (blkOk_by (own := [("order", 3), ("number", 4)]) (N := N_all_orders) (sc := defScope s_all_orders) (by decide +kernel)) (by decide) (fun _ _ _ _ _ => (pg_name (i := 3) sc_all_orders.nd rfl (by first | exact Or.inl rfl | exact Or.inr rfl))) (fun _ _ _ _ _ => pts_nil) (fun _ _ _ _ _ => (pi_range1 (by rfl) z_range (pa_cons (pv 0) pa_nil))) (fun _ _ _ _ _ => (pg_name (i := 4) sc_all_orders.nd rfl (by first | exact Or.inl rfl | exact Or.inr rfl))) (fun _ _ _ _ _ => (pts_one (pt_cmpR (op_notInDk (K := K) rfl (u65 hr)) (pv 4) (pv 3) (by rfl)))) (fun _ _ _ _ _ => (pe_op op_cat (pv 3) (pe_lst (pa_cons (pv 4) pa_nil))))))) (pss_one (ps_ret (pv 1))))), ?_⟩
  intro B hw
  refine ⟨[], [], [], ?_⟩
  show SS B [.s false, .u, .u, .u, .u] _ _ _
  exact (ss_cons (Γ1 := [.s false, .s true, .u, .u, .u]) (ss_asg (se_lst (sa_cons (nw := true) (se_lst (sa_nil (fl := .ok true))) sa_nil rfl)) (stg_name (i := 1) rfl)) (ss_cons (Γ1 := [.s false, .s true, .u, .u, .u]) (ss_for (Γb := [.s false, .s true, .s true, .u, .u]) (si_rg1 (se_var (i := 0) rfl)) (stg_name (i := 2) rfl) (ss_to [.s false, .s true, .s true, .u, .u] (ss_asg (se_lc2 (Γ1 := [.s false, .s true, .s true, .s true, .u]) (Γ2 := [.s false, .s true, .s true, .s true, .s true]) (si_list rfl (se_var (i := 1) rfl)) rfl (stg_name (i := 3) rfl) rfl st_yes (si_rg1 (se_var (i := 0) rfl)) rfl (stg_name (i := 4) rfl) rfl (st_test (se_op r2_notIn (se_var (i := 4) rfl) (se_var (i := 3) rfl))) (se_op (r2_cat (nw := true) rfl rfl rfl rfl) (se_var (i := 3) rfl) (se_lst (sa_cons (nw := true) (se_var (i := 4) rfl) sa_nil rfl)))) (stg_name (i := 1) rfl)) rfl) rfl) (ss_ret (se_var (i := 1) rfl) rfl rfl)))
theorem ok_product_along {f : Addr} {fd : FuncData} (FF : Fun K "product_along" "product_along" s_product_along f fd) (z_zip : mg "zip" = none) : FnOk P wo K mg base CX0 1 f fd ["table", "order"] (spW W0 (ksF 2) true true (m_product_along)) := by
  refine fn_mk (k := 0) (wd := W0) (ks := (ksF 2)) (nw := true) (ft := true) (N := N_product_along) (fb := f_product_along ) FF sc_product_along rfl ?_
  intro cdv A outer s H E hr
  refine ⟨_, (pss_cons (ps_set (i := 2) sc_product_along.nd rfl (by first | exact Or.inl rfl | exact Or.inr rfl) pe_int) (pss_cons (ps_for PassesOwn.never rfl (pi_zipk (K := K) rfl (by rfl) z_zip (pa_cons (pv 0) (pa_cons (pv 1) pa_nil))) (pg_tupk (n := 2) (K := K) rfl rfl (pgs_cons (pg_name (i := 3) sc_product_along.nd rfl (by first | exact Or.inl rfl | exact Or.inr rfl)) (pgs_cons (pg_name (i := 4) sc_product_along.nd rfl (by first | exact Or.inl rfl | exact Or.inr rfl)) pgs_nil))) (pss_one (ps_aug (i := 2) sc_product_along.nd rfl (by first | exact Or.inl rfl | exact Or.inr rfl) (pe_ix (ix_listk (K := K) rfl) (pv 3) (pv 4) (fun _ _ => rfl)) ip_mulW2))) (pss_one (ps_ret (pv 2))))), ?_⟩
  intro B hw
  refine ⟨[], [], [], ?_⟩
  show SS B [.s false, .s false, .u, .u, .u] _ _ _
  exact (ss_cons (Γ1 := [.s false, .s false, .s true, .u, .u]) (ss_asg se_int (stg_name (i := 2) rfl)) (ss_cons (Γ1 := [.s false, .s false, .s true, .u, .u]) (ss_for (Γb := [.s false, .s false, .s true, .s false, .s false]) (si_zip rfl rfl (se_var (i := 0) rfl) (se_var (i := 1) rfl)) (stg_tup (stgs_cons (stg_name (i := 3) rfl) (stgs_cons (stg_name (i := 4) rfl) stgs_nil)) (tgCons_len (tgCons_len tgNil_len))) (ss_to [.s false, .s false, .s true, .s false, .s false] (ss_augC (c := cMulW) (i := 2) cMulW_ok rfl (se_op (r2_ixL rfl) (se_var (i := 3) rfl) (se_var (i := 4) rfl)) rfl) rfl) rfl) (ss_ret (se_scal (se_var (i := 2) rfl)) rfl rfl)))
theorem ok_wrong_pairs {f : Addr} {fd : FuncData} (FF : Fun K "wrong_pairs" "wrong_pairs" s_wrong_pairs f fd) (z_enumerate : mg "enumerate" = none) (z_len : mg "len" = none) (z_sum : mg "sum" = none) : FnOk P wo K mg base CX0 1 f fd ["order"] (spW W0 (ksF 1) true true (m_wrong_pairs)) := by
  refine fn_mk (k := 0) (wd := W0) (ks := (ksF 1)) (nw := true) (ft := true) (N := N_wrong_pairs) (fb := f_wrong_pairs ) FF sc_wrong_pairs rfl ?_
  intro cdv A outer s H E hr
  refine ⟨_, (pss_one (ps_ret (pe_callB (cr_sumk (K := K) rfl rfl) (by rfl) z_sum bo_sum (pa_cons (pe_lc (own := [("at", 1), ("number", 2)]) (tt := tYes) (by rfl) sc_wrong_pairs.nd (pi_enumk (K := K) rfl (by rfl) z_enumerate (pa_cons (pv 0) pa_nil)) (blkOk_by (own := [("at", 1), ("number", 2)]) (N := N_wrong_pairs) (sc := defScope s_wrong_pairs) (by decide +kernel)) (fun _ _ _ _ _ => (pg_tupk (n := 2) (K := K) rfl rfl (pgs_cons (pg_name (i := 1) sc_wrong_pairs.nd rfl (by first | exact Or.inl rfl | exact Or.inr rfl)) (pgs_cons (pg_name (i := 2) sc_wrong_pairs.nd rfl (by first | exact Or.inl rfl | exact Or.inr rfl)) pgs_nil)))) (fun _ _ _ _ _ => pts_nil) (fun _ _ _ _ _ => (pe_callB (call_lenk (K := K) rfl) (by rfl) z_len bo_len (pa_cons (pe_lc (own := [("after", 3)]) (by rfl) sc_wrong_pairs.nd (pi_listk (K := K) rfl (pe_slice (sl_listk (K := K) rfl) (pv 0) (po_some (pe_op op_add (pv 1) pe_int)) po_none)) (blkOk_by (own := [("after", 3)]) (N := N_wrong_pairs) (by rfl)) (fun _ _ _ _ _ => (pg_name (i := 3) sc_wrong_pairs.nd rfl (by first | exact Or.inl rfl | exact Or.inr rfl))) (fun _ _ _ _ _ => (pts_one (pt_cmpR op_lt (pv 3) (pv 2) (nomark _)))) (fun _ _ _ _ _ => (pv 3))) pa_nil)))) pa_nil)))), ?_⟩
  intro B hw
  refine ⟨[], [], [], ?_⟩
  show SS B [.s false, .u, .u, .u] _ _ _
  exact (ss_ret (se_call1 r1_sum (se_lc (Γe := [.s false, .s false, .s false, .u]) (si_enum rfl (se_var (i := 0) rfl)) rfl (stg_tup (stgs_cons (stg_name (i := 1) rfl) (stgs_cons (stg_name (i := 2) rfl) stgs_nil)) (tgCons_len (tgCons_len tgNil_len))) rfl st_yes (se_call1 r1_len (se_lc (Γe := [.s false, .s false, .s false, .s false]) (si_list rfl (se_sl rfl (se_var (i := 0) rfl) (so_some (se_op r2_add (se_var (i := 1) rfl) se_int)) so_none)) rfl (stg_name (i := 3) rfl) rfl (st_test (se_op r2_lt (se_var (i := 3) rfl) (se_var (i := 2) rfl))) (se_scal (se_var (i := 3) rfl)))))) rfl rfl)
theorem ok_sum_with_signs {f : Addr} {fd : FuncData} (FF : Fun K "sum_with_signs" "sum_with_signs" s_sum_with_signs f fd) (z_len : mg "len" = none) (c_all_orders : Cal P wo K mg base "all_orders" 1 ["many"] (spW W0 (ksF 1) true false (m_all_orders))) (c_product_along : Cal P wo K mg base "product_along" 1 ["table", "order"] (spW W0 (ksF 2) true true (m_product_along))) (c_wrong_pairs : Cal P wo K mg base "wrong_pairs" 1 ["order"] (spW W0 (ksF 1) true true (m_wrong_pairs))) : FnOk P wo K mg base CX0 2 f fd ["table"] (spW W0 (ksF 1) true true (m_sum_with_signs)) := by
  refine fn_mk (k := 1) (wd := W0) (ks := (ksF 1)) (nw := true) (ft := true) (N := N_sum_with_signs) (fb := f_sum_with_signs ) FF sc_sum_with_signs rfl ?_
  intro cdv A outer s H E hr
  refine ⟨_, (pss_cons (ps_set (i := 1) sc_sum_with_signs.nd rfl (by first | exact Or.inl rfl | exact Or.inr rfl) pe_int) (pss_cons (ps_for PassesOwn.never rfl (pi_listk (K := K) rfl (pe_cal c_all_orders (hr.mono (by decide)) (by rfl) (pa_cons (pe_callB (call_lenk (K := K) rfl) (by rfl) z_len bo_len (pa_cons (pv 0) pa_nil)) pa_nil))) (pg_name (i := 2) sc_sum_with_signs.nd rfl (by first | exact Or.inl rfl | exact Or.inr rfl)) (pss_one (ps_if (pt_cmpR op_eq (pe_op op_mod (pe_cal c_wrong_pairs (hr.mono (by decide)) (by rfl) (pa_cons (pv 2) pa_nil)) pe_int) pe_int (nomark _)) (pss_one (ps_aug (i := 1) sc_sum_with_signs.nd rfl (by first | exact Or.inl rfl | exact Or.inr rfl) (pe_cal c_product_along (hr.mono (by decide)) (by rfl) (pa_cons (pv 0) (pa_cons (pv 2) pa_nil))) ip_sub)) (pss_one (ps_aug (i := 1) sc_sum_with_signs.nd rfl (by first | exact Or.inl rfl | exact Or.inr rfl) (pe_cal c_product_along (hr.mono (by decide)) (by rfl) (pa_cons (pv 0) (pa_cons (pv 2) pa_nil))) ip_add))))) (pss_one (ps_ret (pv 1))))), ?_⟩
  intro B hw
  refine ⟨[], [], [], ?_⟩
  show SS B [.s false, .u, .u] _ _ _
  exact (ss_cons (Γ1 := [.s false, .s true, .u]) (ss_asg se_int (stg_name (i := 1) rfl)) (ss_cons (Γ1 := [.s false, .s true, .u]) (ss_for (Γb := [.s false, .s true, .s true]) (si_list rfl (se_call (n := 1) (sa_cons (nw := true) (se_call1 r1_len (se_var (i := 0) rfl)) sa_nil rfl))) (stg_name (i := 2) rfl) (ss_to [.s false, .s true, .s true] (ss_if (st_test (se_op r2_eqS (se_op r2_mod (se_call (n := 1) (sa_cons (nw := true) (se_var (i := 2) rfl) sa_nil rfl)) se_int) se_int)) (ss_aug (i := 1) rfl (se_call (n := 2) (sa_cons (nw := false) (se_var (i := 0) rfl) (sa_cons (nw := false) (se_var (i := 2) rfl) sa_nil rfl) rfl)) rfl) (ss_aug (i := 1) rfl (se_call (n := 2) (sa_cons (nw := false) (se_var (i := 0) rfl) (sa_cons (nw := false) (se_var (i := 2) rfl) sa_nil rfl) rfl)) rfl)) rfl) rfl) (ss_ret (se_scal (se_var (i := 1) rfl)) rfl rfl)))
theorem ok__law_summed {f : Addr} {fd : FuncData} (FF : Fun K "_law_summed" "_law_summed" s__law_summed f fd) (z_len : mg "len" = none) (z_range : mg "range" = none) (c__law_copy : Cal P wo K mg base "_law_copy" 5 ["value"] (spW W0 (ksF 1) false false (m__law_copy 4))) (c__law_same : Cal P wo K mg base "_law_same" 7 ["actual", "due"] (spW W0 (ksF 2) true true (m__law_same 6))) (c__law_sum : Cal P wo K mg base "_law_sum" 7 ["table"] (spW W0 (ksF 1) true true (m__law_sum 6))) (c_sum_with_signs : Cal P wo K mg base "sum_with_signs" 2 ["table"] (spW W0 (ksF 1) true true (m_sum_with_signs))) : FnOk P wo K mg base CX0 8 f fd ["table"] (spW W0 (ksF 1) true true (m__law_summed)) := by
  refine fn_mk (k := 7) (wd := W0) (ks := (ksF 1)) (nw := true) (ft := true) (N := N__law_summed) (fb := f__law_summed ) FF sc__law_summed rfl ?_
  intro cdv A outer s H E hr
  refine ⟨_, (pss_cons (ps_set (i := 1) sc__law_summed.nd rfl (by first | exact Or.inl rfl | exact Or.inr rfl) (pe_cal c__law_sum (hr.mono (by decide)) (by rfl) (pa_cons (pv 0) pa_nil))) (pss_cons (ps_set (i := 2) sc__law_summed.nd rfl (by first | exact Or.inl rfl | exact Or.inr rfl) (pe_cal c__law_copy (hr.mono (by decide)) (by rfl) (pa_cons (pv 0) pa_nil))) (pss_cons (ps_setLc (i := 3) (own := [("k", 7)]) (tt := tYes) (by rfl) sc__law_summed.nd rfl rfl (sw_true rfl rfl rfl (by decide +kernel)) (pi_range1 (by rfl) z_range (pa_cons (pe_callB (call_lenk (K := K) rfl) (by rfl) z_len bo_len (pa_cons (pv 0) pa_nil)) pa_nil)) (blkOk_by (own := [("k", 7)]) (N := N__law_summed) (sc := defScope s__law_summed) (by decide +kernel)) (fun _ _ _ _ _ => (pg_name (i := 7) sc__law_summed.nd rfl (by first | exact Or.inl rfl | exact Or.inr rfl))) (fun _ _ _ _ _ => pts_nil) (fun _ _ _ _ _ => (pe_lc (own := [("line", 8)]) (tt := tYes) (by rfl) sc__law_summed.nd (pi_listk (K := K) rfl (pv 0)) (blkOk_by (own := [("line", 8)]) (N := N__law_summed) (by rfl)) (fun _ _ _ _ _ => (pg_name (i := 8) sc__law_summed.nd rfl (by first | exact Or.inl rfl | exact Or.inr rfl))) (fun _ _ _ _ _ => pts_nil) (fun _ _ _ _ _ => (pe_ix (ix_listk (K := K) rfl) (pv 8) (pv 7) (fun _ _ => rfl)))))) (pss_cons (ps_if (PW.pt (pw_or (pt_not (pt_val (pe_cal c__law_same (hr.mono (by decide)) (by rfl) (pa_cons (pe_cal c_sum_with_signs (hr.mono (by decide)) (by rfl) (pa_cons (pv 2) pa_nil)) (pa_cons (pv 1) pa_nil))))) (pw_or1 (pt_not (pt_val (pe_cal c__law_same (hr.mono (by decide)) (by rfl) (pa_cons (pv 2) (pa_cons (pv 0) pa_nil)))))))) (pss_one (ps_ret pe_bl)) pss_nil) (pss_cons (ps_if (pt_not (pt_val (pe_cal c__law_same (hr.mono (by decide)) (by rfl) (pa_cons (pe_cal c_sum_with_signs (hr.mono (by decide)) (by rfl) (pa_cons (pv 3) pa_nil)) (pa_cons (pv 1) pa_nil))))) (pss_one (ps_ret pe_bl)) pss_nil) (pss_cons (ps_if (pt_cmpR op_eq (pe_callB (call_lenk (K := K) rfl) (by rfl) z_len bo_len (pa_cons (pv 0) pa_nil)) pe_int (nomark _)) (pss_one (ps_ret pe_bl)) pss_nil) (pss_cons (ps_set (i := 4) sc__law_summed.nd rfl (by first | exact Or.inl rfl | exact Or.inr rfl) (pe_op op_sub (pe_callB (call_lenk (K := K) rfl) (by rfl) z_len bo_len (pa_cons (pv 0) pa_nil)) pe_int)) (pss_cons (ps_set (i := 5) sc__law_summed.nd rfl (by first | exact Or.inl rfl | exact Or.inr rfl) (pe_op op_cat (pe_op op_cat (pe_lst (pa_cons (pe_ix (ix_listk (K := K) rfl) (pv 0) (pv 4) (fun _ _ => rfl)) pa_nil)) (pe_slice (sl_listk (K := K) rfl) (pv 0) (po_some pe_int) (po_some (pv 4)))) (pe_lst (pa_cons (pe_ix (ix_listk (K := K) rfl) (pv 0) pe_int (fun _ _ => rfl)) pa_nil)))) (pss_cons (ps_set (i := 6) sc__law_summed.nd rfl (by first | exact Or.inl rfl | exact Or.inr rfl) (pe_op op_cat (pe_lst (pa_cons (pe_ix (ix_listk (K := K) rfl) (pv 0) (pv 4) (fun _ _ => rfl)) pa_nil)) (pe_slice (sl_listk (K := K) rfl) (pv 0) (po_some pe_int) po_none))) (pss_one (ps_ret (pe_and (pe_cal c__law_same (hr.mono (by decide)) (by rfl) (pa_cons (pe_cal c_sum_with_signs (hr.mono (by decide)) (by rfl) (pa_cons (pe_cal c__law_copy (hr.mono (by decide)) (by rfl) (pa_cons (pv 5) pa_nil)) pa_nil)) (pa_cons (pe_un un_neg (pv 1)) pa_nil))) (pe_one (pe_cal c__law_same (hr.mono (by decide)) (by rfl) (pa_cons (pe_cal c_sum_with_signs (hr.mono (by decide)) (by rfl) (pa_cons (pe_cal c__law_copy (hr.mono (by decide)) (by rfl) (pa_cons (pv 6) pa_nil)) pa_nil)) (pa_cons pe_int pa_nil)))))))))))))))), ?_⟩
  intro B hw
  refine ⟨[], [], [], ?_⟩
  show SS B [.s false, .u, .u, .u, .u, .u, .u, .u, .u] _ _ _
  exact (ss_cons (Γ1 := [.s false, .s true, .u, .u, .u, .u, .u, .u, .u]) (ss_asg (se_call (n := 1) (sa_cons (nw := false) (se_var (i := 0) rfl) sa_nil rfl)) (stg_name (i := 1) rfl)) (ss_cons (Γ1 := [.s false, .s true, .s false, .u, .u, .u, .u, .u, .u]) (ss_asg (se_call (n := 1) (sa_cons (nw := false) (se_var (i := 0) rfl) sa_nil rfl)) (stg_name (i := 2) rfl)) (ss_cons (Γ1 := [.s false, .s true, .s false, .s true, .u, .u, .u, .u, .u]) (ss_asg (se_lc (Γe := [.s false, .s true, .s false, .u, .u, .u, .u, .s true, .u]) (si_rg1 (se_call1 r1_len (se_var (i := 0) rfl))) rfl (stg_name (i := 7) rfl) rfl st_yes (se_lc (Γe := [.s false, .s true, .s false, .u, .u, .u, .u, .s true, .s false]) (si_list rfl (se_var (i := 0) rfl)) rfl (stg_name (i := 8) rfl) rfl st_yes (se_scal (se_op (r2_ixL rfl) (se_var (i := 8) rfl) (se_var (i := 7) rfl))))) (stg_name (i := 3) rfl)) (ss_cons (Γ1 := [.s false, .s true, .s false, .s true, .u, .u, .u, .u, .u]) (ss_if (st_or (st_not (st_b (se_call (n := 2) (sa_cons (nw := true) (se_call (n := 1) (sa_cons (nw := false) (se_var (i := 2) rfl) sa_nil rfl)) (sa_cons (nw := true) (se_var (i := 1) rfl) sa_nil rfl) rfl)))) (st_not (st_b (se_call (n := 2) (sa_cons (nw := false) (se_var (i := 2) rfl) (sa_cons (nw := false) (se_var (i := 0) rfl) sa_nil rfl) rfl))))) (ss_ret se_bl rfl rfl) (ss_nil rfl)) (ss_cons (Γ1 := [.s false, .s true, .s false, .s true, .u, .u, .u, .u, .u]) (ss_if (st_not (st_b (se_call (n := 2) (sa_cons (nw := true) (se_call (n := 1) (sa_cons (nw := true) (se_var (i := 3) rfl) sa_nil rfl)) (sa_cons (nw := true) (se_var (i := 1) rfl) sa_nil rfl) rfl)))) (ss_ret se_bl rfl rfl) (ss_nil rfl)) (ss_cons (Γ1 := [.s false, .s true, .s false, .s true, .u, .u, .u, .u, .u]) (ss_if (st_test (se_op r2_eqS (se_call1 r1_len (se_var (i := 0) rfl)) se_int)) (ss_ret se_bl rfl rfl) (ss_nil rfl)) (ss_cons (Γ1 := [.s false, .s true, .s false, .s true, .s true, .u, .u, .u, .u]) (ss_asg (se_op r2_sub (se_call1 r1_len (se_var (i := 0) rfl)) se_int) (stg_name (i := 4) rfl)) (ss_cons (Γ1 := [.s false, .s true, .s false, .s true, .s true, .s false, .u, .u, .u]) (ss_asg (se_op (r2_cat (nw := false) rfl rfl rfl rfl) (se_op (r2_cat (nw := false) rfl rfl rfl rfl) (se_lst (sa_cons (nw := false) (se_op (r2_ixL rfl) (se_var (i := 0) rfl) (se_var (i := 4) rfl)) sa_nil rfl)) (se_sl rfl (se_var (i := 0) rfl) (so_some se_int) (so_some (se_var (i := 4) rfl)))) (se_lst (sa_cons (nw := false) (se_op (r2_ixL rfl) (se_var (i := 0) rfl) se_int) sa_nil rfl))) (stg_name (i := 5) rfl)) (ss_cons (Γ1 := [.s false, .s true, .s false, .s true, .s true, .s false, .s false, .u, .u]) (ss_asg (se_op (r2_cat (nw := false) rfl rfl rfl rfl) (se_lst (sa_cons (nw := false) (se_op (r2_ixL rfl) (se_var (i := 0) rfl) (se_var (i := 4) rfl)) sa_nil rfl)) (se_sl rfl (se_var (i := 0) rfl) (so_some se_int) so_none)) (stg_name (i := 6) rfl)) (ss_ret (se_and (se_call (n := 2) (sa_cons (nw := true) (se_call (n := 1) (sa_cons (nw := false) (se_call (n := 1) (sa_cons (nw := false) (se_var (i := 5) rfl) sa_nil rfl)) sa_nil rfl)) (sa_cons (nw := true) (se_un r1_neg (se_var (i := 1) rfl)) sa_nil rfl) rfl)) (se_call (n := 2) (sa_cons (nw := true) (se_call (n := 1) (sa_cons (nw := false) (se_call (n := 1) (sa_cons (nw := false) (se_var (i := 6) rfl) sa_nil rfl)) sa_nil rfl)) (sa_cons (nw := true) se_int sa_nil rfl) rfl))) rfl rfl))))))))))
theorem ok__law_paths {f : Addr} {fd : FuncData} (FF : Fun K "_law_paths" "_law_paths" s__law_paths f fd) (z_len : mg "len" = none) (z_range : mg "range" = none) (z_sum : mg "sum" = none) : FnOk P wo K mg base CX0 1 f fd ["start", "end"] (spW W0 (ksF 2) true true (m__law_paths)) := by
  refine fn_mk (k := 0) (wd := W0) (ks := (ksF 2)) (nw := true) (ft := true) (N := N__law_paths) (fb := f__law_paths ) FF sc__law_paths rfl ?_
  intro cdv A outer s H E hr
  refine ⟨_, (pss_cons (ps_if (PW.pt (pw_or (pt_cmpR op_lt (pe_ix (ix_tupk (K := K) rfl) (pv 1) pe_int (fun _ _ => rfl)) (pe_ix (ix_tupk (K := K) rfl) (pv 0) pe_int (fun _ _ => rfl)) (nomark _)) (pw_or1 (pt_cmpR op_lt (pe_ix (ix_tupk (K := K) rfl) (pv 1) pe_int (fun _ _ => rfl)) (pe_ix (ix_tupk (K := K) rfl) (pv 0) pe_int (fun _ _ => rfl)) (nomark _))))) (pss_one (ps_ret pe_int)) pss_nil) (pss_cons (ps_setLc (i := 2) (own := [("x", 5)]) (tt := tYes) (by rfl) sc__law_paths.nd rfl rfl (sw_true rfl rfl rfl (by decide +kernel)) (pi_range1 (by rfl) z_range (pa_cons (pe_op op_add (pe_op op_sub (pe_ix (ix_tupk (K := K) rfl) (pv 1) pe_int (fun _ _ => rfl)) (pe_ix (ix_tupk (K := K) rfl) (pv 0) pe_int (fun _ _ => rfl))) pe_int) pa_nil)) (blkOk_by (own := [("x", 5)]) (N := N__law_paths) (sc := defScope s__law_paths) (by decide +kernel)) (fun _ _ _ _ _ => (pg_name (i := 5) sc__law_paths.nd rfl (by first | exact Or.inl rfl | exact Or.inr rfl))) (fun _ _ _ _ _ => pts_nil) (fun _ _ _ _ _ => pe_int)) (pss_cons (ps_for PassesOwn.never rfl (pi_range1 (by rfl) z_range (pa_cons (pe_op op_sub (pe_ix (ix_tupk (K := K) rfl) (pv 1) pe_int (fun _ _ => rfl)) (pe_ix (ix_tupk (K := K) rfl) (pv 0) pe_int (fun _ _ => rfl))) pa_nil)) (pg_name (i := 3) sc__law_paths.nd rfl (by first | exact Or.inl rfl | exact Or.inr rfl)) (pss_cons (ps_set (i := 4) sc__law_paths.nd rfl (by first | exact Or.inl rfl | exact Or.inr rfl) (pe_lst pa_nil)) (pss_cons (ps_for PassesOwn.never rfl (pi_range1 (by rfl) z_range (pa_cons (pe_callB (call_lenk (K := K) rfl) (by rfl) z_len bo_len (pa_cons (pv 2) pa_nil)) pa_nil)) (pg_name (i := 5) sc__law_paths.nd rfl (by first | exact Or.inl rfl | exact Or.inr rfl)) (pss_one (ps_expr (pe_bm PySem.F.plainAttrs_list PySem.F.slot_list_append PySem.F.type_list_append mt_append (pv 4) (pa_cons (pe_op op_add (pe_ix (ix_listk (K := K) rfl) (pv 2) (pv 5) (fun _ _ => rfl)) (pe_callB (cr_sumk (K := K) rfl rfl) (by rfl) z_sum bo_sum (pa_cons (pe_slice (sl_listk (K := K) rfl) (pv 4) (po_some (pe_un un_neg pe_int)) po_none) pa_nil))) pa_nil))))) (pss_one (ps_set (i := 2) sc__law_paths.nd rfl (by first | exact Or.inl rfl | exact Or.inr rfl) (pv 4)))))) (pss_one (ps_ret (pe_ix (ix_listk (K := K) rfl) (pv 2) (pe_un un_neg pe_int) (fun _ _ => rfl))))))), ?_⟩
  intro B hw
  refine ⟨[], [], [], ?_⟩
  show SS B [.s false, .s false, .u, .u, .u, .u] _ _ _
  exact (ss_cons (Γ1 := [.s false, .s false, .u, .u, .u, .u]) (ss_if (st_or (st_test (se_op r2_lt (se_op r2_ixT (se_var (i := 1) rfl) se_int) (se_op r2_ixT (se_var (i := 0) rfl) se_int))) (st_test (se_op r2_lt (se_op r2_ixT (se_var (i := 1) rfl) se_int) (se_op r2_ixT (se_var (i := 0) rfl) se_int)))) (ss_ret se_int rfl rfl) (ss_nil rfl)) (ss_cons (Γ1 := [.s false, .s false, .s true, .u, .u, .u]) (ss_asg (se_lc (Γe := [.s false, .s false, .u, .u, .u, .s true]) (si_rg1 (se_op r2_add (se_op r2_sub (se_op r2_ixT (se_var (i := 1) rfl) se_int) (se_op r2_ixT (se_var (i := 0) rfl) se_int)) se_int)) rfl (stg_name (i := 5) rfl) rfl st_yes se_int) (stg_name (i := 2) rfl)) (ss_cons (Γ1 := [.s false, .s false, .s true, .u, .u, .u]) (ss_for (Γb := [.s false, .s false, .s true, .s true, .u, .u]) (si_rg1 (se_op r2_sub (se_op r2_ixT (se_var (i := 1) rfl) se_int) (se_op r2_ixT (se_var (i := 0) rfl) se_int))) (stg_name (i := 3) rfl) (ss_to [.s false, .s false, .s true, .s true, .s true, .u] (ss_cons (Γ1 := [.s false, .s false, .s true, .s true, .o true, .u]) (ss_own (i := 4) (se_lst (sa_nil (fl := .ok true))) rfl rfl) (ss_cons (Γ1 := [.s false, .s false, .s true, .s true, .o true, .u]) (ss_for (Γb := [.s false, .s false, .s true, .s true, .o true, .s true]) (si_rg1 (se_call1 r1_len (se_var (i := 2) rfl))) (stg_name (i := 5) rfl) (ss_to [.s false, .s false, .s true, .s true, .o true, .s true] (ss_meth (i := 4) rfl rm_append (sa_cons (nw := true) (se_op r2_add (se_op (r2_ixL rfl) (se_var (i := 2) rfl) (se_var (i := 5) rfl)) (se_call1 r1_sum (se_sl rfl (se_varO (i := 4) rfl) (so_some (se_un r1_neg se_int)) so_none))) sa_nil rfl) rfl) rfl) rfl) (ss_wk [.s false, .s false, .s true, .s true, .s true, .u] (ss_asg (se_var (i := 4) rfl) (stg_name (i := 2) rfl)) rfl))) rfl) rfl) (ss_ret (se_scal (se_op (r2_ixL rfl) (se_var (i := 2) rfl) (se_un r1_neg se_int))) rfl rfl))))
theorem ok__law_number {af al : Addr} {ns : List Int} (hal : al ≠ af) {f : Addr} {fd : FuncData} (FF : Fun K "_law_number" "_law_number" s__law_number f fd) (c__law_draw : Cal P wo K mg base "_law_draw" 1 ["feed", "many"] (spX (true :: ksF 1) true true m__law_draw)) : FnOk P wo K mg base CX0 2 f fd ["feed", "kind"] (spW (FdW af al ns) (true :: ksF 1) true true (m__law_number ns)) := by
  refine fn_mk (k := 1) (wd := (FdW af al ns)) (ks := (true :: ksF 1)) (nw := true) (ft := true) (N := N__law_number) (fb := f__law_number ns ) FF sc__law_number rfl ?_
  intro cdv A outer s H E hr
  refine ⟨_, (pss_cons (ps_if (pt_cmpR op_eq (pv 1) pe_int (nomark _)) (pss_one (ps_ret (pe_cal c__law_draw (hr.mono (by decide)) (by rfl) (pa_cons (pv 0) (pa_cons pe_int pa_nil))))) pss_nil) (pss_cons (ps_if (pt_cmpR op_eq (pv 1) pe_int (nomark _)) (pss_one (ps_ret (pe_op op_sub (pe_cal c__law_draw (hr.mono (by decide)) (by rfl) (pa_cons (pv 0) (pa_cons pe_int pa_nil))) pe_int))) pss_nil) (pss_one (ps_ret (pe_op op_add (pe_op op_mul (pe_op op_sub (pe_cal c__law_draw (hr.mono (by decide)) (by rfl) (pa_cons (pv 0) (pa_cons (pe_op op_pow pe_int pe_int) pa_nil))) (pe_op op_mul pe_int (pe_op op_pow pe_int pe_int))) (pe_op op_pow pe_int pe_int)) (pe_cal c__law_draw (hr.mono (by decide)) (by rfl) (pa_cons (pv 0) (pa_cons pe_int pa_nil)))))))), ?_⟩
  intro B hw
  refine ⟨[], [], [], ?_⟩
  show SS B [.f, .s false] _ _ _
  exact (ss_cons (Γ1 := [.f, .s false]) (ss_if (st_test (se_op r2_eqS (se_var (i := 1) rfl) se_int)) (ss_ret (se_callX (n := 1) (i := 0) (m := m__law_draw) hw hal rfl (sa_cons (nw := true) se_int sa_nil rfl)) rfl rfl) (ss_nil rfl)) (ss_cons (Γ1 := [.f, .s false]) (ss_if (st_test (se_op r2_eqS (se_var (i := 1) rfl) se_int)) (ss_ret (se_op r2_sub (se_callX (n := 1) (i := 0) (m := m__law_draw) hw hal rfl (sa_cons (nw := true) se_int sa_nil rfl)) se_int) rfl rfl) (ss_nil rfl)) (ss_ret (se_op r2_add (se_op r2_mul (se_op r2_sub (se_callX (n := 1) (i := 0) (m := m__law_draw) hw hal rfl (sa_cons (nw := true) (se_op r2_pow se_int se_int) sa_nil rfl)) (se_op r2_mul se_int (se_op r2_pow se_int se_int))) (se_op r2_pow se_int se_int)) (se_callX (n := 1) (i := 0) (m := m__law_draw) hw hal rfl (sa_cons (nw := true) se_int sa_nil rfl))) rfl rfl)))
theorem ok_law (hm : ∀ ns : List Int, ns.length ≤ 63 → ∃ w, f_law ns (List.replicate 18 .none) ⟨0, 0, 1⟩ = .ok (.rt (.bool true)) w) {f : Addr} {fd : FuncData} (FF : Fun K "law" "law" s_law f fd) (z_len : mg "len" = none) (z_min : mg "min" = none) (z_range : mg "range" = none) (c__law_draw : Cal P wo K mg base "_law_draw" 1 ["feed", "many"] (spX (true :: ksF 1) true true m__law_draw)) (c__law_feed : Cal P wo K mg base "_law_feed" 1 ["script"] (spFeed K)) (c__law_number : Cal P wo K mg base "_law_number" 2 ["feed", "kind"] (spX (true :: ksF 1) true true m__law_number)) (c__law_paths : Cal P wo K mg base "_law_paths" 1 ["start", "end"] (spW W0 (ksF 2) true true (m__law_paths))) (c__law_places : Cal P wo K mg base "_law_places" 2 ["feed", "many", "wide"] (spX (true :: ksF 2) true true m__law_places)) (c__law_same : Cal P wo K mg base "_law_same" 7 ["actual", "due"] (spW W0 (ksF 2) true true (m__law_same 6))) (c__law_summed : Cal P wo K mg base "_law_summed" 8 ["table"] (spW W0 (ksF 1) true true (m__law_summed))) (c_count_paths : Cal P wo K mg base "count_paths" 1 ["start", "end"] (spW W0 (ksF 2) true true (m_count_paths))) (c_path_table : Cal P wo K mg base "path_table" 2 ["starts", "ends"] (spW W0 (ksF 2) true true (m_path_table))) : FnOk P wo K mg base CX0 9 f fd ["script"] (DL.spLaw K) := by
  refine law_mk (k := 8) (fb := f_law) (N := N_law) FF sc_law (by decide) ?_ hm
  intro cdv A outer s H E hr
  refine ⟨_, pss_cons (ps_set (i := 1) sc_law.nd rfl (by first | exact Or.inl rfl | exact Or.inr rfl) (pe_cal c__law_feed (hr.mono (by decide)) (by rfl) (pa_cons (pv 0) pa_nil))) (pss_cons (ps_for PassesOwn.never rfl (pi_range1 (by rfl) z_range (pa_cons pe_int pa_nil)) (pg_name (i := 2) sc_law.nd rfl (by first | exact Or.inl rfl | exact Or.inr rfl)) (pss_cons (ps_set (i := 3) sc_law.nd rfl (by first | exact Or.inl rfl | exact Or.inr rfl) (pe_op op_add pe_int (pe_cal c__law_draw (hr.mono (by decide)) (by rfl) (pa_cons (pv 1) (pa_cons pe_int pa_nil))))) (pss_cons (ps_set (i := 4) sc_law.nd rfl (by first | exact Or.inl rfl | exact Or.inr rfl) (pe_ix (ix_listk (K := K) rfl) (pe_lst (pa_cons pe_int (pa_cons pe_int pa_nil))) (pe_cal c__law_draw (hr.mono (by decide)) (by rfl) (pa_cons (pv 1) (pa_cons pe_int pa_nil))) (fun _ _ => rfl))) (pss_cons (ps_set (i := 5) sc_law.nd rfl (by first | exact Or.inl rfl | exact Or.inr rfl) (pe_cal c__law_places (hr.mono (by decide)) (by rfl) (pa_cons (pv 1) (pa_cons (pv 3) (pa_cons (pv 4) pa_nil))))) (pss_cons (ps_set (i := 6) sc_law.nd rfl (by first | exact Or.inl rfl | exact Or.inr rfl) (pe_cal c__law_places (hr.mono (by decide)) (by rfl) (pa_cons (pv 1) (pa_cons (pv 3) (pa_cons pe_int pa_nil))))) (pss_cons (ps_set (i := 3) sc_law.nd rfl (by first | exact Or.inl rfl | exact Or.inr rfl) (pe_callB (call_min2 rfl) (by rfl) z_min bo_min (pa_cons (pe_callB (call_lenk (K := K) rfl) (by rfl) z_len bo_len (pa_cons (pv 5) pa_nil)) (pa_cons (pe_callB (call_lenk (K := K) rfl) (by rfl) z_len bo_len (pa_cons (pv 6) pa_nil)) pa_nil)))) (pss_cons (ps_set (i := 7) sc_law.nd rfl (by first | exact Or.inl rfl | exact Or.inr rfl) (pe_lst (pa_cons (pe_slice (sl_listk (K := K) rfl) (pv 5) po_none (po_some (pv 3))) (pa_cons (pe_slice (sl_listk (K := K) rfl) (pv 6) po_none (po_some (pv 3))) pa_nil)))) (pss_cons (ps_setLc (i := 8) (own := [("start", 14)]) (tt := tYes) (by rfl) sc_law.nd rfl rfl (sw_true rfl rfl rfl (by decide +kernel)) (pi_listk (K := K) rfl (pe_slice (sl_listk (K := K) rfl) (pv 5) po_none (po_some (pv 3)))) (blkOk_by (own := [("start", 14)]) (N := N_law) (sc := defScope s_law) (by decide +kernel)) (fun _ _ _ _ _ => (pg_name (i := 14) sc_law.nd rfl (by first | exact Or.inl rfl | exact Or.inr rfl))) (fun _ _ _ _ _ => pts_nil) (fun _ _ _ _ _ => (pe_lc (own := [("end", 16)]) (tt := tYes) (by rfl) sc_law.nd (pi_listk (K := K) rfl (pe_slice (sl_listk (K := K) rfl) (pv 6) po_none (po_some (pv 3)))) (blkOk_by (own := [("end", 16)]) (N := N_law) (by rfl)) (fun _ _ _ _ _ => (pg_name (i := 16) sc_law.nd rfl (by first | exact Or.inl rfl | exact Or.inr rfl))) (fun _ _ _ _ _ => pts_nil) (fun _ _ _ _ _ => (pe_cal c__law_paths (hr.mono (by decide)) (by rfl) (pa_cons (pv 14) (pa_cons (pv 16) pa_nil))))))) (pss_cons (ps_set (i := 9) sc_law.nd rfl (by first | exact Or.inl rfl | exact Or.inr rfl) (pe_cal c_path_table (hr.mono (by decide)) (by rfl) (pa_cons (pe_ix (ix_listk (K := K) rfl) (pv 7) pe_int (fun _ _ => rfl)) (pa_cons (pe_ix (ix_listk (K := K) rfl) (pv 7) pe_int (fun _ _ => rfl)) pa_nil)))) (pss_cons (ps_if (PW.pt (pw_or (pt_not (pt_val (pe_cal c__law_same (hr.mono (by decide)) (by rfl) (pa_cons (pv 9) (pa_cons (pv 8) pa_nil))))) (pw_or (pt_cmpR (op_neDk (K := K) rfl (u64 hr)) (pv 7) (pe_lst (pa_cons (pe_slice (sl_listk (K := K) rfl) (pv 5) po_none (po_some (pv 3))) (pa_cons (pe_slice (sl_listk (K := K) rfl) (pv 6) po_none (po_some (pv 3))) pa_nil))) (nomark _)) (pw_or1 (pt_not (pt_val (pe_cal c__law_summed (hr.mono (by decide)) (by rfl) (pa_cons (pv 8) pa_nil)))))))) (pss_one (ps_ret pe_bl)) pss_nil) (pss_cons (ps_for PassesOwn.never rfl (pi_range1 (by rfl) z_range (pa_cons (pv 3) pa_nil)) (pg_name (i := 10) sc_law.nd rfl (by first | exact Or.inl rfl | exact Or.inr rfl)) (pss_cons (ps_if (pt_not (pt_val (pe_cal c__law_same (hr.mono (by decide)) (by rfl) (pa_cons (pe_cal c_count_paths (hr.mono (by decide)) (by rfl) (pa_cons (pe_ix (ix_listk (K := K) rfl) (pv 5) (pv 10) (fun _ _ => rfl)) (pa_cons (pe_ix (ix_listk (K := K) rfl) (pv 6) (pv 10) (fun _ _ => rfl)) pa_nil))) (pa_cons (pe_ix (ix_listk (K := K) rfl) (pe_ix (ix_listk (K := K) rfl) (pv 8) (pv 10) (fun _ _ => rfl)) (pv 10) (fun _ _ => rfl)) pa_nil))))) (pss_one (ps_ret pe_bl)) pss_nil) (pss_one (ps_if (pt_not (pt_val (pe_cal c__law_same (hr.mono (by decide)) (by rfl) (pa_cons (pe_cal c_count_paths (hr.mono (by decide)) (by rfl) (pa_cons (pe_ix (ix_listk (K := K) rfl) (pv 5) (pv 10) (fun _ _ => rfl)) (pa_cons (pe_ix (ix_listk (K := K) rfl) (pv 5) (pv 10) (fun _ _ => rfl)) pa_nil))) (pa_cons pe_int pa_nil))))) (pss_one (ps_ret pe_bl)) pss_nil)))) (pss_cons (ps_set (i := 11) sc_law.nd rfl (by first | exact Or.inl rfl | exact Or.inr rfl) (pe_op op_add pe_int (pe_cal c__law_draw (hr.mono (by decide)) (by rfl) (pa_cons (pv 1) (pa_cons pe_int pa_nil))))) (pss_cons (ps_set (i := 12) sc_law.nd rfl (by first | exact Or.inl rfl | exact Or.inr rfl) (pe_cal c__law_draw (hr.mono (by decide)) (by rfl) (pa_cons (pv 1) (pa_cons pe_int pa_nil)))) (pss_cons (ps_setLc (i := 13) (own := [("line", 15)]) (tt := tYes) (by rfl) sc_law.nd rfl rfl (sw_true rfl rfl rfl (by decide +kernel)) (pi_range1 (by rfl) z_range (pa_cons (pv 11) pa_nil)) (blkOk_by (own := [("line", 15)]) (N := N_law) (sc := defScope s_law) (by decide +kernel)) (fun _ _ _ _ _ => (pg_name (i := 15) sc_law.nd rfl (by first | exact Or.inl rfl | exact Or.inr rfl))) (fun _ _ _ _ _ => pts_nil) (fun _ _ _ _ _ => (pe_lc (own := [("k", 17)]) (tt := tYes) (by rfl) sc_law.nd (pi_range1 (by rfl) z_range (pa_cons (pv 11) pa_nil)) (blkOk_by (own := [("k", 17)]) (N := N_law) (by rfl)) (fun _ _ _ _ _ => (pg_name (i := 17) sc_law.nd rfl (by first | exact Or.inl rfl | exact Or.inr rfl))) (fun _ _ _ _ _ => pts_nil) (fun _ _ _ _ _ => (pe_cal c__law_number (hr.mono (by decide)) (by rfl) (pa_cons (pv 1) (pa_cons (pv 12) pa_nil))))))) (pss_one (ps_if (pt_not (pt_val (pe_cal c__law_summed (hr.mono (by decide)) (by rfl) (pa_cons (pv 13) pa_nil)))) (pss_one (ps_ret pe_bl)) pss_nil)))))))))))))))) (pss_one (ps_ret (pe_and (pe_cal c__law_same (hr.mono (by decide)) (by rfl) (pa_cons (pe_cal c_count_paths (hr.mono (by decide)) (by rfl) (pa_cons (pe_tup (pa_cons pe_int (pa_cons pe_int pa_nil))) (pa_cons (pe_tup (pa_cons pe_int (pa_cons pe_int pa_nil))) pa_nil))) (pa_cons pe_int pa_nil))) (pe_one (pe_cal c__law_same (hr.mono (by decide)) (by rfl) (pa_cons (pe_cal c_count_paths (hr.mono (by decide)) (by rfl) (pa_cons (pe_tup (pa_cons pe_int (pa_cons pe_int pa_nil))) (pa_cons (pe_tup (pa_cons pe_int (pa_cons pe_int pa_nil))) pa_nil))) (pa_cons pe_int pa_nil)))))))), ?_⟩
  intro af al ns B hw hal
  refine ⟨[], [], [], true, true, ?_⟩
  show SS B [.u, .f, .u, .u, .u, .u, .u, .u, .u, .u, .u, .u, .u, .u, .u, .u, .u, .u] _ _ _
  exact (ss_cons (Γ1 := [.u, .f, .u, .u, .u, .u, .u, .u, .u, .u, .u, .u, .u, .u, .u, .u, .u, .u]) (ss_for (Γb := [.u, .f, .s true, .u, .u, .u, .u, .u, .u, .u, .u, .u, .u, .u, .u, .u, .u, .u]) (si_rg1 se_int) (stg_name (i := 2) rfl) (ss_to [.u, .f, .s true, .s true, .s true, .s true, .s true, .s true, .s true, .s true, .u, .s true, .s true, .s true, .u, .u, .u, .u] (ss_cons (Γ1 := [.u, .f, .s true, .s true, .u, .u, .u, .u, .u, .u, .u, .u, .u, .u, .u, .u, .u, .u]) (ss_asg (se_op r2_add se_int (se_callX (n := 1) (i := 1) (m := m__law_draw) hw hal rfl (sa_cons (nw := true) se_int sa_nil rfl))) (stg_name (i := 3) rfl)) (ss_cons (Γ1 := [.u, .f, .s true, .s true, .s true, .u, .u, .u, .u, .u, .u, .u, .u, .u, .u, .u, .u, .u]) (ss_asg (se_op (r2_ixL rfl) (se_lst (sa_cons (nw := true) se_int (sa_cons (nw := true) se_int sa_nil rfl) rfl)) (se_callX (n := 1) (i := 1) (m := m__law_draw) hw hal rfl (sa_cons (nw := true) se_int sa_nil rfl))) (stg_name (i := 4) rfl)) (ss_cons (Γ1 := [.u, .f, .s true, .s true, .s true, .s true, .u, .u, .u, .u, .u, .u, .u, .u, .u, .u, .u, .u]) (ss_asg (se_callX (n := 2) (i := 1) (m := m__law_places) hw hal rfl (sa_cons (nw := true) (se_var (i := 3) rfl) (sa_cons (nw := true) (se_var (i := 4) rfl) sa_nil rfl) rfl)) (stg_name (i := 5) rfl)) (ss_cons (Γ1 := [.u, .f, .s true, .s true, .s true, .s true, .s true, .u, .u, .u, .u, .u, .u, .u, .u, .u, .u, .u]) (ss_asg (se_callX (n := 2) (i := 1) (m := m__law_places) hw hal rfl (sa_cons (nw := true) (se_var (i := 3) rfl) (sa_cons (nw := true) se_int sa_nil rfl) rfl)) (stg_name (i := 6) rfl)) (ss_cons (Γ1 := [.u, .f, .s true, .s true, .s true, .s true, .s true, .u, .u, .u, .u, .u, .u, .u, .u, .u, .u, .u]) (ss_asg (se_call2 r2_min2 (se_call1 r1_len (se_var (i := 5) rfl)) (se_call1 r1_len (se_var (i := 6) rfl))) (stg_name (i := 3) rfl)) (ss_cons (Γ1 := [.u, .f, .s true, .s true, .s true, .s true, .s true, .s true, .u, .u, .u, .u, .u, .u, .u, .u, .u, .u]) (ss_asg (se_lst (sa_cons (nw := true) (se_sl rfl (se_var (i := 5) rfl) so_none (so_some (se_var (i := 3) rfl))) (sa_cons (nw := true) (se_sl rfl (se_var (i := 6) rfl) so_none (so_some (se_var (i := 3) rfl))) sa_nil rfl) rfl)) (stg_name (i := 7) rfl)) (ss_cons (Γ1 := [.u, .f, .s true, .s true, .s true, .s true, .s true, .s true, .s true, .u, .u, .u, .u, .u, .u, .u, .u, .u]) (ss_asg (se_lc (Γe := [.u, .f, .s true, .s true, .s true, .s true, .s true, .s true, .u, .u, .u, .u, .u, .u, .s true, .u, .u, .u]) (si_list rfl (se_sl rfl (se_var (i := 5) rfl) so_none (so_some (se_var (i := 3) rfl)))) rfl (stg_name (i := 14) rfl) rfl st_yes (se_lc (Γe := [.u, .f, .s true, .s true, .s true, .s true, .s true, .s true, .u, .u, .u, .u, .u, .u, .s true, .u, .s true, .u]) (si_list rfl (se_sl rfl (se_var (i := 6) rfl) so_none (so_some (se_var (i := 3) rfl)))) rfl (stg_name (i := 16) rfl) rfl st_yes (se_call (n := 2) (sa_cons (nw := true) (se_var (i := 14) rfl) (sa_cons (nw := true) (se_var (i := 16) rfl) sa_nil rfl) rfl)))) (stg_name (i := 8) rfl)) (ss_cons (Γ1 := [.u, .f, .s true, .s true, .s true, .s true, .s true, .s true, .s true, .s true, .u, .u, .u, .u, .u, .u, .u, .u]) (ss_asg (se_call (n := 2) (sa_cons (nw := true) (se_op (r2_ixL rfl) (se_var (i := 7) rfl) se_int) (sa_cons (nw := true) (se_op (r2_ixL rfl) (se_var (i := 7) rfl) se_int) sa_nil rfl) rfl)) (stg_name (i := 9) rfl)) (ss_cons (Γ1 := [.u, .f, .s true, .s true, .s true, .s true, .s true, .s true, .s true, .s true, .u, .u, .u, .u, .u, .u, .u, .u]) (ss_if (st_or (st_not (st_b (se_call (n := 2) (sa_cons (nw := true) (se_var (i := 9) rfl) (sa_cons (nw := true) (se_var (i := 8) rfl) sa_nil rfl) rfl)))) (st_or (st_test (se_op r2_ne (se_var (i := 7) rfl) (se_lst (sa_cons (nw := true) (se_sl rfl (se_var (i := 5) rfl) so_none (so_some (se_var (i := 3) rfl))) (sa_cons (nw := true) (se_sl rfl (se_var (i := 6) rfl) so_none (so_some (se_var (i := 3) rfl))) sa_nil rfl) rfl)))) (st_not (st_b (se_call (n := 1) (sa_cons (nw := true) (se_var (i := 8) rfl) sa_nil rfl)))))) (ss_ret se_bl rfl rfl) (ss_nil rfl)) (ss_cons (Γ1 := [.u, .f, .s true, .s true, .s true, .s true, .s true, .s true, .s true, .s true, .u, .u, .u, .u, .u, .u, .u, .u]) (ss_for (Γb := [.u, .f, .s true, .s true, .s true, .s true, .s true, .s true, .s true, .s true, .s true, .u, .u, .u, .u, .u, .u, .u]) (si_rg1 (se_var (i := 3) rfl)) (stg_name (i := 10) rfl) (ss_to [.u, .f, .s true, .s true, .s true, .s true, .s true, .s true, .s true, .s true, .s true, .u, .u, .u, .u, .u, .u, .u] (ss_cons (Γ1 := [.u, .f, .s true, .s true, .s true, .s true, .s true, .s true, .s true, .s true, .s true, .u, .u, .u, .u, .u, .u, .u]) (ss_if (st_not (st_b (se_call (n := 2) (sa_cons (nw := true) (se_call (n := 2) (sa_cons (nw := true) (se_op (r2_ixL rfl) (se_var (i := 5) rfl) (se_var (i := 10) rfl)) (sa_cons (nw := true) (se_op (r2_ixL rfl) (se_var (i := 6) rfl) (se_var (i := 10) rfl)) sa_nil rfl) rfl)) (sa_cons (nw := true) (se_op (r2_ixL rfl) (se_op (r2_ixL rfl) (se_var (i := 8) rfl) (se_var (i := 10) rfl)) (se_var (i := 10) rfl)) sa_nil rfl) rfl)))) (ss_ret se_bl rfl rfl) (ss_nil rfl)) (ss_if (st_not (st_b (se_call (n := 2) (sa_cons (nw := true) (se_call (n := 2) (sa_cons (nw := true) (se_op (r2_ixL rfl) (se_var (i := 5) rfl) (se_var (i := 10) rfl)) (sa_cons (nw := true) (se_op (r2_ixL rfl) (se_var (i := 5) rfl) (se_var (i := 10) rfl)) sa_nil rfl) rfl)) (sa_cons (nw := true) se_int sa_nil rfl) rfl)))) (ss_ret se_bl rfl rfl) (ss_nil rfl))) rfl) rfl) (ss_cons (Γ1 := [.u, .f, .s true, .s true, .s true, .s true, .s true, .s true, .s true, .s true, .u, .s true, .u, .u, .u, .u, .u, .u]) (ss_asg (se_op r2_add se_int (se_callX (n := 1) (i := 1) (m := m__law_draw) hw hal rfl (sa_cons (nw := true) se_int sa_nil rfl))) (stg_name (i := 11) rfl)) (ss_cons (Γ1 := [.u, .f, .s true, .s true, .s true, .s true, .s true, .s true, .s true, .s true, .u, .s true, .s true, .u, .u, .u, .u, .u]) (ss_asg (se_callX (n := 1) (i := 1) (m := m__law_draw) hw hal rfl (sa_cons (nw := true) se_int sa_nil rfl)) (stg_name (i := 12) rfl)) (ss_cons (Γ1 := [.u, .f, .s true, .s true, .s true, .s true, .s true, .s true, .s true, .s true, .u, .s true, .s true, .s true, .u, .u, .u, .u]) (ss_asg (se_lc (Γe := [.u, .f, .s true, .s true, .s true, .s true, .s true, .s true, .s true, .s true, .u, .s true, .s true, .u, .u, .s true, .u, .u]) (si_rg1 (se_var (i := 11) rfl)) rfl (stg_name (i := 15) rfl) rfl st_yes (se_lc (Γe := [.u, .f, .s true, .s true, .s true, .s true, .s true, .s true, .s true, .s true, .u, .s true, .s true, .u, .u, .s true, .u, .s true]) (si_rg1 (se_var (i := 11) rfl)) rfl (stg_name (i := 17) rfl) rfl st_yes (se_callX (n := 1) (i := 1) (m := m__law_number) hw hal rfl (sa_cons (nw := true) (se_var (i := 12) rfl) sa_nil rfl)))) (stg_name (i := 13) rfl)) (ss_if (st_not (st_b (se_call (n := 1) (sa_cons (nw := true) (se_var (i := 13) rfl) sa_nil rfl)))) (ss_ret se_bl rfl rfl) (ss_nil rfl))))))))))))))) rfl) rfl) (ss_ret (se_and (se_call (n := 2) (sa_cons (nw := true) (se_call (n := 2) (sa_cons (nw := true) (se_tup (sa_cons (nw := true) se_int (sa_cons (nw := true) se_int sa_nil rfl) rfl)) (sa_cons (nw := true) (se_tup (sa_cons (nw := true) se_int (sa_cons (nw := true) se_int sa_nil rfl) rfl)) sa_nil rfl) rfl)) (sa_cons (nw := true) se_int sa_nil rfl) rfl)) (se_call (n := 2) (sa_cons (nw := true) (se_call (n := 2) (sa_cons (nw := true) (se_tup (sa_cons (nw := true) se_int (sa_cons (nw := true) se_int sa_nil rfl) rfl)) (sa_cons (nw := true) (se_tup (sa_cons (nw := true) se_int (sa_cons (nw := true) se_int sa_nil rfl) rfl)) sa_nil rfl) rfl)) (sa_cons (nw := true) se_int sa_nil rfl) rfl))) rfl rfl))
end
theorem all_mk (hm : ∀ ns : List Int, ns.length ≤ 63 → ∃ w, f_law ns (List.replicate 18 .none) ⟨0, 0, 1⟩ = .ok (.rt (.bool true)) w) {l : PySem.W.OpenLaw} {w : World} {K : PySem.W.Frag} {h : Heap} {mg : Str → Option Value} {fa : Addr} (X : K.In h) (G : h.Ns mainGlobals mg) (hfa : mg "law" = some (.ref fa)) {od0 an0 : Option Addr} {sl0 : Array (Option Value)} {oc0 kV0 dc0 pm0 cd0 ct0 : Value} {od1 an1 : Option Addr} {sl1 : Array (Option Value)} {oc1 kV1 dc1 pm1 cd1 ct1 : Value} {od2 an2 : Option Addr} {sl2 : Array (Option Value)} {oc2 kV2 dc2 pm2 cd2 ct2 : Value} {od3 an3 : Option Addr} {sl3 : Array (Option Value)} {oc3 kV3 dc3 pm3 cd3 ct3 : Value} {od4 an4 : Option Addr} {sl4 : Array (Option Value)} {oc4 kV4 dc4 pm4 cd4 ct4 : Value} {od5 an5 : Option Addr} {sl5 : Array (Option Value)} {oc5 kV5 dc5 pm5 cd5 ct5 : Value} {od6 an6 : Option Addr} {sl6 : Array (Option Value)} {oc6 kV6 dc6 pm6 cd6 ct6 : Value} {od7 an7 : Option Addr} {sl7 : Array (Option Value)} {oc7 kV7 dc7 pm7 cd7 ct7 : Value} {od8 an8 : Option Addr} {sl8 : Array (Option Value)} {oc8 kV8 dc8 pm8 cd8 ct8 : Value} {od9 an9 : Option Addr} {sl9 : Array (Option Value)} {oc9 kV9 dc9 pm9 cd9 ct9 : Value} {od10 an10 : Option Addr} {sl10 : Array (Option Value)} {oc10 kV10 dc10 pm10 cd10 ct10 : Value} {od11 an11 : Option Addr} {sl11 : Array (Option Value)} {oc11 kV11 dc11 pm11 cd11 ct11 : Value} {od12 an12 : Option Addr} {sl12 : Array (Option Value)} {oc12 kV12 dc12 pm12 cd12 ct12 : Value} {od13 an13 : Option Addr} {sl13 : Array (Option Value)} {oc13 kV13 dc13 pm13 cd13 ct13 : Value} {od14 an14 : Option Addr} {sl14 : Array (Option Value)} {oc14 kV14 dc14 pm14 cd14 ct14 : Value} {od15 an15 : Option Addr} {sl15 : Array (Option Value)} {oc15 kV15 dc15 pm15 cd15 ct15 : Value} {f0 f1 f2 f3 f4 f5 f6 f7 f8 f9 f10 f11 f12 f13 f14 f15 : Addr}
    (a0 : PySem.W.nsIn K mainGlobals "_law_feed" = some (some (.ref f0))) (l0 : K.lookup f0 = some ⟨oc0, od0, .func (PySem.W.fnOf "_law_feed" "_law_feed" (defArgs s__law_feed) (defBody s__law_feed) (defScope s__law_feed) .none kV0 dc0 pm0 an0 cd0 ct0), sl0⟩) (c0 : PySem.W.codeIn K cd0 "_law_feed" = true) (k0 : PySem.W.keepIn K (.ref f0) = true)
    (a1 : PySem.W.nsIn K mainGlobals "_law_draw" = some (some (.ref f1))) (l1 : K.lookup f1 = some ⟨oc1, od1, .func (PySem.W.fnOf "_law_draw" "_law_draw" (defArgs s__law_draw) (defBody s__law_draw) (defScope s__law_draw) .none kV1 dc1 pm1 an1 cd1 ct1), sl1⟩) (c1 : PySem.W.codeIn K cd1 "_law_draw" = true) (k1 : PySem.W.keepIn K (.ref f1) = true)
    (a2 : PySem.W.nsIn K mainGlobals "_law_places" = some (some (.ref f2))) (l2 : K.lookup f2 = some ⟨oc2, od2, .func (PySem.W.fnOf "_law_places" "_law_places" (defArgs s__law_places) (defBody s__law_places) (defScope s__law_places) .none kV2 dc2 pm2 an2 cd2 ct2), sl2⟩) (c2 : PySem.W.codeIn K cd2 "_law_places" = true) (k2 : PySem.W.keepIn K (.ref f2) = true)
    (a3 : PySem.W.nsIn K mainGlobals "count_paths" = some (some (.ref f3))) (l3 : K.lookup f3 = some ⟨oc3, od3, .func (PySem.W.fnOf "count_paths" "count_paths" (defArgs s_count_paths) (defBody s_count_paths) (defScope s_count_paths) .none kV3 dc3 pm3 an3 cd3 ct3), sl3⟩) (c3 : PySem.W.codeIn K cd3 "count_paths" = true) (k3 : PySem.W.keepIn K (.ref f3) = true)
    (a4 : PySem.W.nsIn K mainGlobals "path_table" = some (some (.ref f4))) (l4 : K.lookup f4 = some ⟨oc4, od4, .func (PySem.W.fnOf "path_table" "path_table" (defArgs s_path_table) (defBody s_path_table) (defScope s_path_table) .none kV4 dc4 pm4 an4 cd4 ct4), sl4⟩) (c4 : PySem.W.codeIn K cd4 "path_table" = true) (k4 : PySem.W.keepIn K (.ref f4) = true)
    (a5 : PySem.W.nsIn K mainGlobals "_law_same" = some (some (.ref f5))) (l5 : K.lookup f5 = some ⟨oc5, od5, .func (PySem.W.fnOf "_law_same" "_law_same" (defArgs s__law_same) (defBody s__law_same) (defScope s__law_same) .none kV5 dc5 pm5 an5 cd5 ct5), sl5⟩) (c5 : PySem.W.codeIn K cd5 "_law_same" = true) (k5 : PySem.W.keepIn K (.ref f5) = true)
    (a6 : PySem.W.nsIn K mainGlobals "_law_sum" = some (some (.ref f6))) (l6 : K.lookup f6 = some ⟨oc6, od6, .func (PySem.W.fnOf "_law_sum" "_law_sum" (defArgs s__law_sum) (defBody s__law_sum) (defScope s__law_sum) .none kV6 dc6 pm6 an6 cd6 ct6), sl6⟩) (c6 : PySem.W.codeIn K cd6 "_law_sum" = true) (k6 : PySem.W.keepIn K (.ref f6) = true)
    (a7 : PySem.W.nsIn K mainGlobals "_law_copy" = some (some (.ref f7))) (l7 : K.lookup f7 = some ⟨oc7, od7, .func (PySem.W.fnOf "_law_copy" "_law_copy" (defArgs s__law_copy) (defBody s__law_copy) (defScope s__law_copy) .none kV7 dc7 pm7 an7 cd7 ct7), sl7⟩) (c7 : PySem.W.codeIn K cd7 "_law_copy" = true) (k7 : PySem.W.keepIn K (.ref f7) = true)
    (a8 : PySem.W.nsIn K mainGlobals "all_orders" = some (some (.ref f8))) (l8 : K.lookup f8 = some ⟨oc8, od8, .func (PySem.W.fnOf "all_orders" "all_orders" (defArgs s_all_orders) (defBody s_all_orders) (defScope s_all_orders) .none kV8 dc8 pm8 an8 cd8 ct8), sl8⟩) (c8 : PySem.W.codeIn K cd8 "all_orders" = true) (k8 : PySem.W.keepIn K (.ref f8) = true)
    (a9 : PySem.W.nsIn K mainGlobals "product_along" = some (some (.ref f9))) (l9 : K.lookup f9 = some ⟨oc9, od9, .func (PySem.W.fnOf "product_along" "product_along" (defArgs s_product_along) (defBody s_product_along) (defScope s_product_along) .none kV9 dc9 pm9 an9 cd9 ct9), sl9⟩) (c9 : PySem.W.codeIn K cd9 "product_along" = true) (k9 : PySem.W.keepIn K (.ref f9) = true)
    (a10 : PySem.W.nsIn K mainGlobals "wrong_pairs" = some (some (.ref f10))) (l10 : K.lookup f10 = some ⟨oc10, od10, .func (PySem.W.fnOf "wrong_pairs" "wrong_pairs" (defArgs s_wrong_pairs) (defBody s_wrong_pairs) (defScope s_wrong_pairs) .none kV10 dc10 pm10 an10 cd10 ct10), sl10⟩) (c10 : PySem.W.codeIn K cd10 "wrong_pairs" = true) (k10 : PySem.W.keepIn K (.ref f10) = true)
    (a11 : PySem.W.nsIn K mainGlobals "sum_with_signs" = some (some (.ref f11))) (l11 : K.lookup f11 = some ⟨oc11, od11, .func (PySem.W.fnOf "sum_with_signs" "sum_with_signs" (defArgs s_sum_with_signs) (defBody s_sum_with_signs) (defScope s_sum_with_signs) .none kV11 dc11 pm11 an11 cd11 ct11), sl11⟩) (c11 : PySem.W.codeIn K cd11 "sum_with_signs" = true) (k11 : PySem.W.keepIn K (.ref f11) = true)
    (a12 : PySem.W.nsIn K mainGlobals "_law_summed" = some (some (.ref f12))) (l12 : K.lookup f12 = some ⟨oc12, od12, .func (PySem.W.fnOf "_law_summed" "_law_summed" (defArgs s__law_summed) (defBody s__law_summed) (defScope s__law_summed) .none kV12 dc12 pm12 an12 cd12 ct12), sl12⟩) (c12 : PySem.W.codeIn K cd12 "_law_summed" = true) (k12 : PySem.W.keepIn K (.ref f12) = true)
    (a13 : PySem.W.nsIn K mainGlobals "_law_paths" = some (some (.ref f13))) (l13 : K.lookup f13 = some ⟨oc13, od13, .func (PySem.W.fnOf "_law_paths" "_law_paths" (defArgs s__law_paths) (defBody s__law_paths) (defScope s__law_paths) .none kV13 dc13 pm13 an13 cd13 ct13), sl13⟩) (c13 : PySem.W.codeIn K cd13 "_law_paths" = true) (k13 : PySem.W.keepIn K (.ref f13) = true)
    (a14 : PySem.W.nsIn K mainGlobals "_law_number" = some (some (.ref f14))) (l14 : K.lookup f14 = some ⟨oc14, od14, .func (PySem.W.fnOf "_law_number" "_law_number" (defArgs s__law_number) (defBody s__law_number) (defScope s__law_number) .none kV14 dc14 pm14 an14 cd14 ct14), sl14⟩) (c14 : PySem.W.codeIn K cd14 "_law_number" = true) (k14 : PySem.W.keepIn K (.ref f14) = true)
    (a15 : PySem.W.nsIn K mainGlobals "law" = some (some (.ref f15))) (l15 : K.lookup f15 = some ⟨oc15, od15, .func (PySem.W.fnOf "law" "law" (defArgs s_law) (defBody s_law) (defScope s_law) .none kV15 dc15 pm15 an15 cd15 ct15), sl15⟩) (c15 : PySem.W.codeIn K cd15 "law" = true) (k15 : PySem.W.keepIn K (.ref f15) = true)
    (y_abs : PySem.W.nsIn K mainGlobals "abs" = some none)
    (y_all : PySem.W.nsIn K mainGlobals "all" = some none)
    (y_bool : PySem.W.nsIn K mainGlobals "bool" = some none)
    (y_enumerate : PySem.W.nsIn K mainGlobals "enumerate" = some none)
    (y_int : PySem.W.nsIn K mainGlobals "int" = some none)
    (y_isinstance : PySem.W.nsIn K mainGlobals "isinstance" = some none)
    (y_len : PySem.W.nsIn K mainGlobals "len" = some none)
    (y_list : PySem.W.nsIn K mainGlobals "list" = some none)
    (y_min : PySem.W.nsIn K mainGlobals "min" = some none)
    (y_range : PySem.W.nsIn K mainGlobals "range" = some none)
    (y_str : PySem.W.nsIn K mainGlobals "str" = some none)
    (y_sum : PySem.W.nsIn K mainGlobals "sum" = some none)
    (y_tuple : PySem.W.nsIn K mainGlobals "tuple" = some none)
    (y_zip : PySem.W.nsIn K mainGlobals "zip" = some none) :
    ∃ fd : FuncData, (∀ (s : Shared) (v : Value), BindsTo s fd ⟨[v], []⟩ [("script", v)]) ∧ ∀ base : Heap, K.In base → base.Ns mainGlobals mg → FnOk l.prog w K mg base CX0 9 fa fd ["script"] (DL.spLaw K) := by
  have e := hfa.symm.trans (PySem.W.mg_of X G a15)
  cases e
  have z_abs := PySem.W.mg_none_of X G y_abs
  have z_all := PySem.W.mg_none_of X G y_all
  have z_bool := PySem.W.mg_none_of X G y_bool
  have z_enumerate := PySem.W.mg_none_of X G y_enumerate
  have z_int := PySem.W.mg_none_of X G y_int
  have z_isinstance := PySem.W.mg_none_of X G y_isinstance
  have z_len := PySem.W.mg_none_of X G y_len
  have z_list := PySem.W.mg_none_of X G y_list
  have z_min := PySem.W.mg_none_of X G y_min
  have z_range := PySem.W.mg_none_of X G y_range
  have z_str := PySem.W.mg_none_of X G y_str
  have z_sum := PySem.W.mg_none_of X G y_sum
  have z_tuple := PySem.W.mg_none_of X G y_tuple
  have z_zip := PySem.W.mg_none_of X G y_zip
  have F0 := fun_mk (st := s__law_feed) l0 c0 k0
  have g0 := PySem.W.mg_of X G a0
  have F1 := fun_mk (st := s__law_draw) l1 c1 k1
  have g1 := PySem.W.mg_of X G a1
  have F2 := fun_mk (st := s__law_places) l2 c2 k2
  have g2 := PySem.W.mg_of X G a2
  have F3 := fun_mk (st := s_count_paths) l3 c3 k3
  have g3 := PySem.W.mg_of X G a3
  have F4 := fun_mk (st := s_path_table) l4 c4 k4
  have g4 := PySem.W.mg_of X G a4
  have F5 := fun_mk (st := s__law_same) l5 c5 k5
  have g5 := PySem.W.mg_of X G a5
  have F6 := fun_mk (st := s__law_sum) l6 c6 k6
  have g6 := PySem.W.mg_of X G a6
  have F7 := fun_mk (st := s__law_copy) l7 c7 k7
  have g7 := PySem.W.mg_of X G a7
  have F8 := fun_mk (st := s_all_orders) l8 c8 k8
  have g8 := PySem.W.mg_of X G a8
  have F9 := fun_mk (st := s_product_along) l9 c9 k9
  have g9 := PySem.W.mg_of X G a9
  have F10 := fun_mk (st := s_wrong_pairs) l10 c10 k10
  have g10 := PySem.W.mg_of X G a10
  have F11 := fun_mk (st := s_sum_with_signs) l11 c11 k11
  have g11 := PySem.W.mg_of X G a11
  have F12 := fun_mk (st := s__law_summed) l12 c12 k12
  have g12 := PySem.W.mg_of X G a12
  have F13 := fun_mk (st := s__law_paths) l13 c13 k13
  have g13 := PySem.W.mg_of X G a13
  have F14 := fun_mk (st := s__law_number) l14 c14 k14
  have g14 := PySem.W.mg_of X G a14
  have F15 := fun_mk (st := s_law) l15 c15 k15
  have g15 := PySem.W.mg_of X G a15
  refine ⟨PySem.W.fnOf "law" "law" (defArgs s_law) (defBody s_law) (defScope s_law) .none kV15 dc15 pm15 an15 cd15 ct15, fun s v => .of_eq rfl, fun base _ _ => ?_⟩
  have c__law_feed : Cal l.prog w K mg base "_law_feed" 1 ["script"] (spFeed K) := ⟨f0, _, ok__law_feed F0 z_list, g0, F0.kp, F0.binds (ps := ["script"]) fun _ _ _ _ _ _ us hl => match us, hl with | [_], _ => rfl⟩
  have c__law_draw : Cal l.prog w K mg base "_law_draw" 1 ["feed", "many"] (spX (true :: ksF 1) true true m__law_draw) := ⟨f1, _, fn_ex fun af al ns hal => ok__law_draw hal F1 z_abs z_int z_len, g1, F1.kp, F1.binds (ps := ["feed", "many"]) fun _ _ _ _ _ _ us hl => match us, hl with | [_, _], _ => rfl⟩
  have c__law_places : Cal l.prog w K mg base "_law_places" 2 ["feed", "many", "wide"] (spX (true :: ksF 2) true true m__law_places) := ⟨f2, _, fn_ex fun af al ns hal => ok__law_places hal F2 z_len z_range c__law_draw, g2, F2.kp, F2.binds (ps := ["feed", "many", "wide"]) fun _ _ _ _ _ _ us hl => match us, hl with | [_, _, _], _ => rfl⟩
  have c_count_paths : Cal l.prog w K mg base "count_paths" 1 ["start", "end"] (spW W0 (ksF 2) true true (m_count_paths)) := ⟨f3, _, ok_count_paths F3 z_range, g3, F3.kp, F3.binds (ps := ["start", "end"]) fun _ _ _ _ _ _ us hl => match us, hl with | [_, _], _ => rfl⟩
  have c_path_table : Cal l.prog w K mg base "path_table" 2 ["starts", "ends"] (spW W0 (ksF 2) true true (m_path_table)) := ⟨f4, _, ok_path_table F4 c_count_paths, g4, F4.kp, F4.binds (ps := ["starts", "ends"]) fun _ _ _ _ _ _ us hl => match us, hl with | [_, _], _ => rfl⟩
  have c__law_same : Cal l.prog w K mg base "_law_same" 7 ["actual", "due"] (spW W0 (ksF 2) true true (m__law_same 6)) := ⟨f5, _, ok__law_same F5 g5 z_all z_bool z_int z_isinstance z_len z_list z_range z_str z_tuple 6, g5, F5.kp, F5.binds (ps := ["actual", "due"]) fun _ _ _ _ _ _ us hl => match us, hl with | [_, _], _ => rfl⟩
  have c__law_sum : Cal l.prog w K mg base "_law_sum" 7 ["table"] (spW W0 (ksF 1) true true (m__law_sum 6)) := ⟨f6, _, ok__law_sum F6 g6 z_len z_range 6, g6, F6.kp, F6.binds (ps := ["table"]) fun _ _ _ _ _ _ us hl => match us, hl with | [_], _ => rfl⟩
  have c__law_copy : Cal l.prog w K mg base "_law_copy" 5 ["value"] (spW W0 (ksF 1) false false (m__law_copy 4)) := ⟨f7, _, ok__law_copy F7 g7 z_isinstance z_list 4, g7, F7.kp, F7.binds (ps := ["value"]) fun _ _ _ _ _ _ us hl => match us, hl with | [_], _ => rfl⟩
  have c_all_orders : Cal l.prog w K mg base "all_orders" 1 ["many"] (spW W0 (ksF 1) true false (m_all_orders)) := ⟨f8, _, ok_all_orders F8 z_range, g8, F8.kp, F8.binds (ps := ["many"]) fun _ _ _ _ _ _ us hl => match us, hl with | [_], _ => rfl⟩
  have c_product_along : Cal l.prog w K mg base "product_along" 1 ["table", "order"] (spW W0 (ksF 2) true true (m_product_along)) := ⟨f9, _, ok_product_along F9 z_zip, g9, F9.kp, F9.binds (ps := ["table", "order"]) fun _ _ _ _ _ _ us hl => match us, hl with | [_, _], _ => rfl⟩
  have c_wrong_pairs : Cal l.prog w K mg base "wrong_pairs" 1 ["order"] (spW W0 (ksF 1) true true (m_wrong_pairs)) := ⟨f10, _, ok_wrong_pairs F10 z_enumerate z_len z_sum, g10, F10.kp, F10.binds (ps := ["order"]) fun _ _ _ _ _ _ us hl => match us, hl with | [_], _ => rfl⟩
  have c_sum_with_signs : Cal l.prog w K mg base "sum_with_signs" 2 ["table"] (spW W0 (ksF 1) true true (m_sum_with_signs)) := ⟨f11, _, ok_sum_with_signs F11 z_len c_all_orders c_product_along c_wrong_pairs, g11, F11.kp, F11.binds (ps := ["table"]) fun _ _ _ _ _ _ us hl => match us, hl with | [_], _ => rfl⟩
  have c__law_summed : Cal l.prog w K mg base "_law_summed" 8 ["table"] (spW W0 (ksF 1) true true (m__law_summed)) := ⟨f12, _, ok__law_summed F12 z_len z_range c__law_copy c__law_same c__law_sum c_sum_with_signs, g12, F12.kp, F12.binds (ps := ["table"]) fun _ _ _ _ _ _ us hl => match us, hl with | [_], _ => rfl⟩
  have c__law_paths : Cal l.prog w K mg base "_law_paths" 1 ["start", "end"] (spW W0 (ksF 2) true true (m__law_paths)) := ⟨f13, _, ok__law_paths F13 z_len z_range z_sum, g13, F13.kp, F13.binds (ps := ["start", "end"]) fun _ _ _ _ _ _ us hl => match us, hl with | [_, _], _ => rfl⟩
  have c__law_number : Cal l.prog w K mg base "_law_number" 2 ["feed", "kind"] (spX (true :: ksF 1) true true m__law_number) := ⟨f14, _, fn_ex fun af al ns hal => ok__law_number hal F14 c__law_draw, g14, F14.kp, F14.binds (ps := ["feed", "kind"]) fun _ _ _ _ _ _ us hl => match us, hl with | [_, _], _ => rfl⟩
  exact ok_law hm F15 z_len z_min z_range c__law_draw c__law_feed c__law_number c__law_paths c__law_places c__law_same c__law_summed c_count_paths c_path_table
end K93

namespace DL
open PySem PySem.Spec L2
theorem ev_gB {W : Type} {a : EF W} {env : List D} {w w1 : W} {b : Bool} (h : a env w = .ok (.bool b) w1) : gB a env w = .ok b w1 := by
  simp only [gB, h, Out.bind]; rfl
theorem ev_lst {W : Type} {r : AF W} {env : List D} {w w1 : W} {xs : List D} (h : r env w = .ok xs w1) (hl : xs.length ≤ 100000) : fLst r env w = .ok (.list xs) w1 := by
  simp only [fLst, h, Out.bind, sm_of hl]; rfl
theorem ev_tup {W : Type} {r : AF W} {env : List D} {w w1 : W} {xs : List D} (h : r env w = .ok xs w1) (hl : xs.length ≤ 100000) : fTup r env w = .ok (.tuple xs) w1 := by
  simp only [fTup, h, Out.bind, sm_of hl]; rfl
theorem ev_iL {W : Type} {a : EF W} {env : List D} {w w1 : W} {xs : List D} (h : a env w = .ok (.list xs) w1) : iL a env w = .ok xs w1 := by
  simp only [iL, h, Out.bind]; rfl
theorem run_def {n : Nat} {fb : SF Unit} {ds : List D} {d : D} (h : Run (fb (ds ++ List.replicate (n - ds.length) .none) ()) fun r _ => r = .rt d) : runDef n fb ds () = .ok d () := by
  obtain ⟨r, w, e, rfl⟩ := h.ex
  simp only [runDef, e, Out.bind]
theorem cut_from (xs : List D) (k : Nat) : cutD xs (some (k : Int)) none = xs.drop k := by
  unfold cutD
  rw [HT.sIx_nat, HT.sIx_none]
  by_cases h : k ≤ xs.length
  · rw [Nat.min_eq_left h, List.take_of_length_le (by rw [List.length_drop]; exact Nat.le_refl _)]
  · rw [Nat.min_eq_right (by omega), List.drop_eq_nil_iff.mpr (Nat.le_refl _), List.drop_eq_nil_iff.mpr (by omega), List.take_nil]
theorem cut_to (xs : List D) (k : Nat) : cutD xs none (some (k : Int)) = xs.take k := by
  unfold cutD
  rw [HT.sIx_nat, HT.sIx_none, List.drop_zero, Nat.sub_zero]
  by_cases h : k ≤ xs.length
  · rw [Nat.min_eq_left h]
  · rw [Nat.min_eq_right (by omega), List.take_length, List.take_of_length_le (by omega)]
theorem cut_mid (xs : List D) (a b : Nat) : cutD xs (some (a : Int)) (some (b : Int)) = (xs.drop a).take (b - a) := by
  unfold cutD
  rw [HT.sIx_nat, HT.sIx_nat]
  by_cases h : a ≤ xs.length
  · rw [Nat.min_eq_left h]
    by_cases h2 : b ≤ xs.length
    · rw [Nat.min_eq_left h2]
    · rw [Nat.min_eq_right (by omega), List.take_of_length_le (by rw [List.length_drop]; exact Nat.le_refl _), List.take_of_length_le (by rw [List.length_drop]; omega)]
  · rw [show min a xs.length = xs.length by omega, List.drop_eq_nil_iff.mpr (Nat.le_refl _), List.drop_eq_nil_iff.mpr (by omega), List.take_nil, List.take_nil]
section
variable {W : Type} {env : List D} {w w1 w2 w3 : W} {a : EF W} {p q : List D → W → Out W (Option Int)}
theorem ev_sl {ds : List D} {lo hi : Option Int} (h : a env w = .ok (.list ds) w1) (hp : p env w1 = .ok lo w2) (hq : q env w2 = .ok hi w3) : fSl a p q env w = .ok (.list (cutD ds lo hi)) w3 := by
  simp only [fSl, h, Out.bind, hp, hq]; rfl
theorem ev_part {i : Int} (h : a env w = .ok (.int i) w1) : gPart a env w = .ok (some i) w1 := by
  simp only [gPart, h, Out.bind]
theorem ev_not {p : List D → W → Out W Bool} {b : Bool} (h : p env w = .ok b w1) : gNot p env w = .ok (!b) w1 := by
  simp only [gNot, h, Out.bind]
theorem ev_orF {p q : List D → W → Out W Bool} {b : Bool} (h : p env w = .ok false w1) (h2 : q env w1 = .ok b w2) : gOr p q env w = .ok b w2 := by
  simp only [gOr, h, Out.bind, h2]
theorem ev_andT {b : EF W} {d : D} (h : a env w = .ok (.bool true) w1) (h2 : b env w1 = .ok d w2) : fAnd a b env w = .ok d w2 := by
  simp only [fAnd, h, Out.bind, bD, lf, h2]
theorem run_forG {α : Type} {Q : Fl → W → Prop} {fi : AF W} {fg : D → List D → Option (List D)} {fb : SF W} (enc : α → D) (tg : α → List D → List D) (htg : ∀ x env, fg (enc x) env = some (tg x env)) (xs : List α) (I : Nat → List D → W → Prop) (hi : fi env w = .ok (xs.map enc) w) (hn : ∀ env w, I xs.length env w → Q (.nx env) w)
    (hs : ∀ i x env w, xs[i]? = some x → I i env w → Run (fb (tg x env) w) fun r w => match r with | .nx e => I (i + 1) e w | .ct e => I (i + 1) e w | .bk e => Q (.nx e) w | .rt v => Q (.rt v) w) (h0 : I 0 env w) : Run (fFor fi fg fb env w) Q := by
  refine Run.bind (P := fun ds w' => ds = xs.map enc ∧ w' = w) (Run.of hi ⟨rfl, rfl⟩) fun ds w' ⟨e1, e2⟩ => ?_
  subst e1 e2
  refine run_forGo (fun ds env w => ∃ i, i ≤ xs.length ∧ ds = (xs.drop i).map enc ∧ I i env w) ?hn ?hs _ _ _ ⟨0, Nat.zero_le _, rfl, h0⟩
  case hn =>
    intro env w ⟨i, h1, h2, h3⟩
    have : xs.drop i = [] := List.map_eq_nil_iff.mp h2.symm
    have : xs.length ≤ i := List.drop_eq_nil_iff.mp this
    have : i = xs.length := by omega
    subst this
    exact hn _ _ h3
  case hs =>
    intro d ds env w ⟨i, h1, h2, h3⟩
    by_cases hlt : i < xs.length
    · rw [List.drop_eq_getElem_cons hlt, List.map_cons] at h2
      have hd := (List.cons.inj h2).1
      have hds := (List.cons.inj h2).2
      refine ⟨tg xs[i] env, by rw [hd]; exact htg _ _, (hs i xs[i] env w (List.getElem?_eq_getElem hlt) h3).mono fun r w h => ?_⟩
      cases r with
      | nx e => exact ⟨i + 1, hlt, hds, h⟩
      | ct e => exact ⟨i + 1, hlt, hds, h⟩
      | bk e => exact h
      | rt v => exact h
    · rw [List.drop_eq_nil_iff.mpr (by omega)] at h2
      cases h2
end
abbrev encL (l : List Int) : D := .list (l.map PyData.int)
abbrev encT (t : List (List Int)) : D := .list (t.map encL)
/-- small: fewer than k bits -/
def Bt (k : Nat) (x : Int) : Prop := x.natAbs < 2 ^ k
theorem Bt.mono {j k : Nat} {x : Int} (h : Bt j x) (hk : j ≤ k) : Bt k x := Nat.lt_of_lt_of_le h (Nat.pow_le_pow_right (by decide) hk)
theorem Bt.mul {j k : Nat} {x y : Int} (h : Bt j x) (h2 : Bt k y) : Bt (j + k) (x * y) := by
  unfold Bt at *
  rw [Int.natAbs_mul, Nat.pow_add]
  exact Nat.mul_lt_mul'' h h2
theorem Bt.add {k : Nat} {x y : Int} (h : Bt k x) (h2 : Bt k y) : Bt (k + 1) (x + y) := by
  unfold Bt at *
  rw [Nat.pow_succ]
  have := Int.natAbs_add_le x y
  omega
theorem Bt.neg {k : Nat} {x : Int} (h : Bt k x) : Bt k (-x) := by unfold Bt at *; rw [Int.natAbs_neg]; exact h
theorem blt_pow {k : Nat} {x : Int} (h : Bt k x) (hk : k ≤ 100000) : Nat.blt x.natAbs (2 ^ 100000) = true := Nat.ble_eq.mpr (h.mono hk)
theorem dMulW_of {j k : Nat} {x y : Int} (h : Bt j x) (h2 : Bt k y) (hj : j ≤ 100000) (hk : k ≤ 100000) : dMulW (.int x) (.int y) = some (.int (x * y)) := by
  show ifs (cMulW x y) (PyData.int (x * y)) = _
  have : cMulW x y = true := by unfold cMulW; rw [blt_pow h hj, blt_pow h2 hk]; rfl
  rw [this]; rfl
theorem ixL_get {l : List Int} {i : Nat} (h : i < l.length) : dIxL (encL l) (nD i) = some (.int (l.getD i 0)) := by
  show (l.map PyData.int)[i]? = _
  rw [List.getElem?_map, List.getElem?_eq_getElem h, List.getD_eq_getElem?_getD, List.getElem?_eq_getElem h]; rfl
theorem ixT_get {t : List (List Int)} {i : Nat} (h : i < t.length) : dIxL (encT t) (nD i) = some (encL (t.getD i [])) := by
  show (t.map encL)[i]? = _
  rw [List.getElem?_map, List.getElem?_eq_getElem h, List.getD_eq_getElem?_getD, List.getElem?_eq_getElem h]; rfl
theorem cat_L {a b : List Int} (h : a.length + b.length ≤ 100000) : dCat (encL a) (encL b) = some (encL (a ++ b)) := by
  show ifs (sm ((a.map PyData.int).length + (b.map PyData.int).length)) (PyData.list (a.map PyData.int ++ b.map PyData.int)) = _
  rw [List.length_map, List.length_map, sm_of h, ← List.map_append]; rfl
theorem len_L (l : List Int) : gLen (encL l) = some (nD l.length) := by
  show some (PyData.int ((l.map PyData.int).length : Int)) = _
  rw [List.length_map]
theorem len_T (l : List (List Int)) : gLen (encT l) = some (nD l.length) := by
  show some (PyData.int ((l.map encL).length : Int)) = _
  rw [List.length_map]
end DL
namespace K93
open DL PySem L2
/-! ### the sum along the first line -/
def sgn (k : Nat) : Int := match k % 2 with | 0 => 1 | _ => -1
def cutK (k : Nat) (l : List Int) : List Int := l.take k ++ l.drop (k + 1)
def sumF (f : Nat → Int) : Nat → Int
  | 0 => 0
  | n + 1 => sumF f n + f n
def lapl : Nat → List (List Int) → Int
  | 0, _ => 1
  | _ + 1, [] => 1
  | f + 1, row :: rest => sumF (fun k => sgn k * row.getD k 0 * lapl f (rest.map (cutK k))) (rest.length + 1)
/-- square, of so many lines, small -/
def Sq (n : Nat) (t : List (List Int)) : Prop := t.length = n ∧ ∀ r ∈ t, r.length = n ∧ ∀ x ∈ r, Bt 200 x
theorem Sq.sub {n : Nat} {row : List Int} {rest : List (List Int)} (h : Sq (n + 1) (row :: rest)) {k : Nat} (hk : k < n + 1) : Sq n (rest.map (cutK k)) := by
  obtain ⟨h1, h2⟩ := h
  refine ⟨by rw [List.length_map]; simpa using h1, fun r hr => ?_⟩
  obtain ⟨r', hr', rfl⟩ := List.mem_map.mp hr
  obtain ⟨h3, h4⟩ := h2 r' (List.mem_cons_of_mem _ hr')
  refine ⟨?_, fun x hx => ?_⟩
  · unfold cutK
    rw [List.length_append, List.length_take, List.length_drop]; omega
  · unfold cutK at hx
    rcases List.mem_append.mp hx with hx | hx
    · exact h4 x (List.mem_of_mem_take hx)
    · exact h4 x (List.mem_of_mem_drop hx)
theorem sumF_bt {f : Nat → Int} {c : Nat} (h : ∀ k, Bt c (f k)) : ∀ n, Bt (c + n) (sumF f n)
  | 0 => by show (0 : Int).natAbs < 2 ^ (c + 0); exact Nat.pow_pos (by decide)
  | n + 1 => ((sumF_bt h n).add ((h n).mono (by omega))).mono (by omega)
theorem sgn_bt (k : Nat) : Bt 1 (sgn k) := by
  unfold sgn Bt
  split <;> decide
theorem getD_bt {l : List Int} (h : ∀ x ∈ l, Bt 200 x) (k : Nat) : Bt 200 (l.getD k 0) := by
  rw [List.getD_eq_getElem?_getD]
  cases e : l[k]? with
  | none => show (0 : Int).natAbs < _; exact Nat.pow_pos (by decide)
  | some x => exact h x (List.mem_of_getElem? e)
theorem cut_bt {rest : List (List Int)} (h : ∀ r ∈ rest, ∀ x ∈ r, Bt 200 x) (k : Nat) : ∀ r ∈ rest.map (cutK k), ∀ x ∈ r, Bt 200 x := fun r hr x hx => by
  obtain ⟨r', hr', rfl⟩ := List.mem_map.mp hr
  unfold cutK at hx
  rcases List.mem_append.mp hx with hx | hx
  · exact h r' hr' x (List.mem_of_mem_take hx)
  · exact h r' hr' x (List.mem_of_mem_drop hx)
theorem lapl_bt : ∀ (f : Nat) (t : List (List Int)), (∀ r ∈ t, ∀ x ∈ r, Bt 200 x) → t.length ≤ 4 → Bt (210 * t.length + 1) (lapl f t)
  | 0, t, _, _ => by show (1 : Int).natAbs < _; exact Nat.lt_of_lt_of_le (by decide) (Nat.pow_le_pow_right (by decide) (show 1 ≤ _ by omega))
  | f + 1, [], _, _ => by show (1 : Int).natAbs < _; decide
  | f + 1, row :: rest, h, h4 => by
    rw [List.length_cons] at h4 ⊢
    have hr : ∀ r ∈ rest, ∀ x ∈ r, Bt 200 x := fun r hr => h r (List.mem_cons_of_mem _ hr)
    have : ∀ k, Bt (1 + 200 + (210 * rest.length + 1)) (sgn k * row.getD k 0 * lapl f (rest.map (cutK k))) := fun k =>
      ((sgn_bt k).mul (getD_bt (h row List.mem_cons_self) k)).mul (by have := lapl_bt f (rest.map (cutK k)) (cut_bt hr k) (by rw [List.length_map]; omega); rwa [List.length_map] at this)
    exact (sumF_bt this (rest.length + 1)).mono (by omega)
theorem sgn_succ (k : Nat) : sgn (k + 1) = -(sgn k) := by
  unfold sgn
  rcases Nat.mod_two_eq_zero_or_one k with h | h
  · rw [h, show (k + 1) % 2 = 1 by omega]; rfl
  · rw [h, show (k + 1) % 2 = 0 by omega]; rfl
theorem ev_law_sum : ∀ (f n : Nat) (t : List (List Int)), n ≤ f → n ≤ 4 → Sq n t → m__law_sum (f + 1) [encT t] () = .ok (.int (lapl f t)) ()
  | f, 0, t, _, _, h => by
    have : t = [] := List.length_eq_zero_iff.mp h.1
    subst this
    cases f <;> rfl
  | 0, n + 1, t, h, _, _ => by omega
  | f + 1, n + 1, t, hf, h4, h => by
    cases t with
    | nil => have := h.1; simp at this
    | cons row rest =>
      have hlen : rest.length = n := by simpa using h.1
      have hrow := h.2 row List.mem_cons_self
      refine run_def (fb := f__law_sum (m__law_sum (f + 1))) (n := 6) ?_
      show Run (f__law_sum (m__law_sum (f + 1)) [encT (row :: rest), .none, .none, .none, .none, .none] ()) _
      unfold f__law_sum
      have hl0 : (gB (fBin dEqS (fUn gLen (fVar 0)) (fC (.int 0))) : List D → Unit → Out Unit Bool) [encT (row :: rest), .none, .none, .none, .none, .none] () = .ok ((row :: rest).length == 0) () :=
        ev_gB (ev_bin (y := nD 0) (ev_un (x := encT (row :: rest)) rfl (len_T _)) rfl (eqS_nat _ _))
      refine run_seq (run_if (Run.of hl0 ?_))
      rw [show ((row :: rest).length == 0) = false from rfl]
      refine Run.of (a := .nx _) (w := ()) rfl ?_
      refine run_seq (Run.of (a := .nx [encT (row :: rest), .int 0, .none, .none, .none, .none]) (w := ()) rfl ?_)
      refine run_seq (Run.of (a := .nx [encT (row :: rest), .int 0, .int 1, .none, .none, .none]) (w := ()) rfl ?_)
      generalize hF : (fun k => sgn k * row.getD k 0 * lapl f (rest.map (cutK k))) = F
      refine run_seq (run_for0 (fun i env w => ∃ x y z, env = [encT (row :: rest), .int (sumF F i), .int (sgn i), x, y, z]) (n + 1) (by
        rw [← hlen]; exact ev_un (x := encT (row :: rest)) rfl (len_T _)) (by omega) ?hn ?hs ⟨_, _, _, rfl⟩)
      case hn =>
        rintro env w ⟨x, y, z, rfl⟩
        refine run_ret (run_scal (Run.of (a := .int (sumF F (n + 1))) (w := w) rfl ⟨rfl, ?_⟩))
        show Fl.rt (PyData.int (sumF F (n + 1))) = Fl.rt (PyData.int (sumF (fun k => sgn k * row.getD k 0 * lapl f (rest.map (cutK k))) (rest.length + 1)))
        rw [hF, hlen]
      case hs =>
        rintro i env w hi ⟨x, y, z, rfl⟩
        show Run (fSeq _ _ [encT (row :: rest), .int (sumF F i), .int (sgn i), nD i, y, z] w) _
        generalize hE : [encT (row :: rest), .int (sumF F i), .int (sgn i), nD i, y, z] = E
        have sl : (fSl (fVar 0) (gPart (fC (.int 1))) gNoPart : EF Unit) E w = .ok (encT rest) w := by
          rw [← hE]
          have := ev_sl (W := Unit) (env := [encT (row :: rest), .int (sumF F i), .int (sgn i), nD i, y, z]) (w := w) (w1 := w) (w2 := w) (w3 := w) (a := fVar 0) (p := gPart (fC (.int 1))) (q := gNoPart) (ds := (row :: rest).map encL) (lo := some ((1 : Nat) : Int)) (hi := none) rfl rfl rfl
          rw [cut_from] at this
          exact this
        have lc := ev_lcY (W := Unit) (env := E) (w := w) (fi := iL (fSl (fVar 0) (gPart (fC (.int 1))) gNoPart)) (j := 5) (f := fBin dCat (fSl (fVar 5) gNoPart (gPart (fVar 3))) (fSl (fVar 5) (gPart (fBin dAdd (fVar 3) (fC (.int 1)))) gNoPart)) encL (fun l => encL (cutK i l)) (xs := rest) (ev_iL sl) (by omega) fun l hl => by
          rw [← hE]
          have hll := (h.2 l (List.mem_cons_of_mem _ hl)).1
          have a1 : (fSl (fVar 5) gNoPart (gPart (fVar 3)) : EF Unit) [encT (row :: rest), .int (sumF F i), .int (sgn i), nD i, y, encL l] w = .ok (encL (l.take i)) w := by
            have := ev_sl (W := Unit) (env := [encT (row :: rest), .int (sumF F i), .int (sgn i), nD i, y, encL l]) (w := w) (w1 := w) (w2 := w) (w3 := w) (a := fVar 5) (p := gNoPart) (q := gPart (fVar 3)) (ds := l.map PyData.int) (lo := none) (hi := some (i : Int)) rfl rfl rfl
            rw [cut_to, ← List.map_take] at this
            exact this
          have a2 : (fSl (fVar 5) (gPart (fBin dAdd (fVar 3) (fC (.int 1)))) gNoPart : EF Unit) [encT (row :: rest), .int (sumF F i), .int (sgn i), nD i, y, encL l] w = .ok (encL (l.drop (i + 1))) w := by
            have := ev_sl (W := Unit) (env := [encT (row :: rest), .int (sumF F i), .int (sgn i), nD i, y, encL l]) (w := w) (w1 := w) (w2 := w) (w3 := w) (a := fVar 5) (p := gPart (fBin dAdd (fVar 3) (fC (.int 1)))) (q := gNoPart) (ds := l.map PyData.int) (lo := some ((i + 1 : Nat) : Int)) (hi := none) rfl rfl rfl
            rw [cut_from, ← List.map_drop] at this
            exact this
          exact ev_bin a1 a2 (cat_L (by rw [List.length_take, List.length_drop]; omega))
        have lc' : (fLc (iL (fSl (fVar 0) (gPart (fC (.int 1))) gNoPart)) (tgN 5) gYes (fBin dCat (fSl (fVar 5) gNoPart (gPart (fVar 3))) (fSl (fVar 5) (gPart (fBin dAdd (fVar 3) (fC (.int 1)))) gNoPart)) : EF Unit) E w = .ok (encT (rest.map (cutK i))) w := by
          rw [lc]; unfold encT; rw [List.map_map]; rfl
        refine run_seq (run_set (Run.of lc' ?_))
        rw [← hE]
        show Run (fSeq _ _ [encT (row :: rest), .int (sumF F i), .int (sgn i), nD i, encT (rest.map (cutK i)), z] w) _
        have hsub := Sq.sub h hi
        have ih := ev_law_sum f n (rest.map (cutK i)) (by omega) (by omega) hsub
        have bl := lapl_bt f (rest.map (cutK i)) (fun r hr => (hsub.2 r hr).2) (by rw [hsub.1]; omega)
        rw [hsub.1] at bl
        have br := getD_bt hrow.2 i
        have ix : (fBin dIxL (fBin dIxL (fVar 0) (fC (.int 0))) (fVar 3) : EF Unit) [encT (row :: rest), .int (sumF F i), .int (sgn i), nD i, encT (rest.map (cutK i)), z] w = .ok (.int (row.getD i 0)) w :=
          ev_bin (x := encL row) (y := nD i) (ev_bin (x := encT (row :: rest)) (y := nD 0) rfl rfl rfl) rfl (ixL_get (by rw [hrow.1]; omega))
        refine run_seq (run_set (Run.of (ev_bin (x := .int (sumF F i)) rfl (ev_bin (ev_bin (x := .int (sgn i)) rfl ix (dMulW_of (sgn_bt i) br (by omega) (by omega))) (ev_call (ds := [encT (rest.map (cutK i))]) rfl rfl ih) (dMulW_of ((sgn_bt i).mul br) bl (by omega) (by omega))) rfl) ?_))
        refine run_set (Run.of (ev_un (x := .int (sgn i)) (w1 := w) rfl rfl) ⟨nD i, encT (rest.map (cutK i)), z, ?_⟩)
        show [encT (row :: rest), .int (sumF F i + sgn i * row.getD i 0 * lapl f (rest.map (cutK i))), .int (-(sgn i)), nD i, encT (rest.map (cutK i)), z] = _
        rw [sgn_succ]
        rw [← hF]; rfl
end K93
namespace K93
open DL PySem L2
/-! ### the sum over all orders -/
def ordsG (n : Nat) : Nat → List (List Nat)
  | 0 => [[]]
  | k + 1 => (ordsG n k).flatMap fun o => ((List.range n).filter fun a => !o.contains a).map fun a => o ++ [a]
def ordsF (n : Nat) : List (List Nat) := ordsG n n
def invN : List Nat → Nat
  | [] => 0
  | a :: l => (l.filter fun b => Nat.blt b a).length + invN l
def oddO (o : List Nat) : Bool := Nat.beq (invN o % 2) 1
def prodF : Int → List (List Int) → List Nat → Int
  | p, r :: t, a :: o => prodF (p * r.getD a 0) t o
  | p, _, _ => p
def swsS (t : List (List Int)) : Int → List (Bool × List Nat) → Int
  | tot, [] => tot
  | tot, (true, o) :: os => swsS t (tot - prodF 1 t o) os
  | tot, (false, o) :: os => swsS t (tot + prodF 1 t o) os
def sgd (n : Nat) : List (Bool × List Nat) := (ordsF n).map fun o => (oddO o, o)
def sws (n : Nat) (t : List (List Int)) : Int := swsS t 0 (sgd n)
theorem sgd1 : sgd 1 = [(false, [0])] := by decide +kernel
theorem sgd2 : sgd 2 = [(false, [0, 1]), (true, [1, 0])] := by decide +kernel
theorem sgd3 : sgd 3 = [(false, [0, 1, 2]), (true, [0, 2, 1]), (true, [1, 0, 2]), (false, [1, 2, 0]), (false, [2, 0, 1]), (true, [2, 1, 0])] := by decide +kernel
theorem sgd4 : sgd 4 = [(false, [0, 1, 2, 3]), (true, [0, 1, 3, 2]), (true, [0, 2, 1, 3]), (false, [0, 2, 3, 1]), (false, [0, 3, 1, 2]), (true, [0, 3, 2, 1]), (true, [1, 0, 2, 3]), (false, [1, 0, 3, 2]), (false, [1, 2, 0, 3]), (true, [1, 2, 3, 0]), (true, [1, 3, 0, 2]), (false, [1, 3, 2, 0]), (false, [2, 0, 1, 3]), (true, [2, 0, 3, 1]), (true, [2, 1, 0, 3]), (false, [2, 1, 3, 0]), (false, [2, 3, 0, 1]), (true, [2, 3, 1, 0]), (true, [3, 0, 1, 2]), (false, [3, 0, 2, 1]), (false, [3, 1, 0, 2]), (true, [3, 1, 2, 0]), (true, [3, 2, 0, 1]), (false, [3, 2, 1, 0])] := by decide +kernel
theorem id1 (a : Int) : sws 1 [[a]] = lapl 1 [[a]] := by
  unfold sws; rw [sgd1]; simp only [swsS, prodF, lapl, sumF, cutK, sgn, List.length_cons, List.length_nil, List.map_cons, List.map_nil, List.take, List.drop, List.getD_cons_zero, List.getD_cons_succ, List.nil_append, List.cons_append]; grind
theorem tr1 (a : Int) : sws 1 [[a]] = lapl 1 [[a]] := by
  unfold sws; rw [sgd1]; simp only [swsS, prodF, lapl, sumF, cutK, sgn, List.length_cons, List.length_nil, List.map_cons, List.map_nil, List.take, List.drop, List.getD_cons_zero, List.getD_cons_succ, List.nil_append, List.cons_append]; grind
theorem id2 (a b c d : Int) : sws 2 [[a, b], [c, d]] = lapl 2 [[a, b], [c, d]] := by
  unfold sws; rw [sgd2]; simp only [swsS, prodF, lapl, sumF, cutK, sgn, List.length_cons, List.length_nil, List.map_cons, List.map_nil, List.take, List.drop, List.getD_cons_zero, List.getD_cons_succ, List.nil_append, List.cons_append]; grind
theorem tr2 (a b c d : Int) : sws 2 [[a, c], [b, d]] = lapl 2 [[a, b], [c, d]] := by
  unfold sws; rw [sgd2]; simp only [swsS, prodF, lapl, sumF, cutK, sgn, List.length_cons, List.length_nil, List.map_cons, List.map_nil, List.take, List.drop, List.getD_cons_zero, List.getD_cons_succ, List.nil_append, List.cons_append]; grind
theorem sw2 (a b c d : Int) : sws 2 [[c, d], [a, b]] = -(lapl 2 [[a, b], [c, d]]) := by
  unfold sws; rw [sgd2]; simp only [swsS, prodF, lapl, sumF, cutK, sgn, List.length_cons, List.length_nil, List.map_cons, List.map_nil, List.take, List.drop, List.getD_cons_zero, List.getD_cons_succ, List.nil_append, List.cons_append]; grind
theorem eq2 (a b c d : Int) : sws 2 [[c, d], [c, d]] = 0 := by
  unfold sws; rw [sgd2]; simp only [swsS, prodF, lapl, sumF, cutK, sgn, List.length_cons, List.length_nil, List.map_cons, List.map_nil, List.take, List.drop, List.getD_cons_zero, List.getD_cons_succ, List.nil_append, List.cons_append]; grind
theorem id3 (a b c d e f g h i : Int) : sws 3 [[a, b, c], [d, e, f], [g, h, i]] = lapl 3 [[a, b, c], [d, e, f], [g, h, i]] := by
  unfold sws; rw [sgd3]; simp only [swsS, prodF, lapl, sumF, cutK, sgn, List.length_cons, List.length_nil, List.map_cons, List.map_nil, List.take, List.drop, List.getD_cons_zero, List.getD_cons_succ, List.nil_append, List.cons_append]; grind
theorem tr3 (a b c d e f g h i : Int) : sws 3 [[a, d, g], [b, e, h], [c, f, i]] = lapl 3 [[a, b, c], [d, e, f], [g, h, i]] := by
  unfold sws; rw [sgd3]; simp only [swsS, prodF, lapl, sumF, cutK, sgn, List.length_cons, List.length_nil, List.map_cons, List.map_nil, List.take, List.drop, List.getD_cons_zero, List.getD_cons_succ, List.nil_append, List.cons_append]; grind
theorem sw3 (a b c d e f g h i : Int) : sws 3 [[g, h, i], [d, e, f], [a, b, c]] = -(lapl 3 [[a, b, c], [d, e, f], [g, h, i]]) := by
  unfold sws; rw [sgd3]; simp only [swsS, prodF, lapl, sumF, cutK, sgn, List.length_cons, List.length_nil, List.map_cons, List.map_nil, List.take, List.drop, List.getD_cons_zero, List.getD_cons_succ, List.nil_append, List.cons_append]; grind
theorem eq3 (a b c d e f g h i : Int) : sws 3 [[g, h, i], [d, e, f], [g, h, i]] = 0 := by
  unfold sws; rw [sgd3]; simp only [swsS, prodF, lapl, sumF, cutK, sgn, List.length_cons, List.length_nil, List.map_cons, List.map_nil, List.take, List.drop, List.getD_cons_zero, List.getD_cons_succ, List.nil_append, List.cons_append]; grind
theorem id4 (a b c d e f g h i j k l m n o p : Int) : sws 4 [[a, b, c, d], [e, f, g, h], [i, j, k, l], [m, n, o, p]] = lapl 4 [[a, b, c, d], [e, f, g, h], [i, j, k, l], [m, n, o, p]] := by
  unfold sws; rw [sgd4]; simp only [swsS, prodF, lapl, sumF, cutK, sgn, List.length_cons, List.length_nil, List.map_cons, List.map_nil, List.take, List.drop, List.getD_cons_zero, List.getD_cons_succ, List.nil_append, List.cons_append]; grind
theorem tr4 (a b c d e f g h i j k l m n o p : Int) : sws 4 [[a, e, i, m], [b, f, j, n], [c, g, k, o], [d, h, l, p]] = lapl 4 [[a, b, c, d], [e, f, g, h], [i, j, k, l], [m, n, o, p]] := by
  unfold sws; rw [sgd4]; simp only [swsS, prodF, lapl, sumF, cutK, sgn, List.length_cons, List.length_nil, List.map_cons, List.map_nil, List.take, List.drop, List.getD_cons_zero, List.getD_cons_succ, List.nil_append, List.cons_append]; grind
theorem sw4 (a b c d e f g h i j k l m n o p : Int) : sws 4 [[m, n, o, p], [e, f, g, h], [i, j, k, l], [a, b, c, d]] = -(lapl 4 [[a, b, c, d], [e, f, g, h], [i, j, k, l], [m, n, o, p]]) := by
  unfold sws; rw [sgd4]; simp only [swsS, prodF, lapl, sumF, cutK, sgn, List.length_cons, List.length_nil, List.map_cons, List.map_nil, List.take, List.drop, List.getD_cons_zero, List.getD_cons_succ, List.nil_append, List.cons_append]; grind
theorem eq4 (a b c d e f g h i j k l m n o p : Int) : sws 4 [[m, n, o, p], [e, f, g, h], [i, j, k, l], [m, n, o, p]] = 0 := by
  unfold sws; rw [sgd4]; simp only [swsS, prodF, lapl, sumF, cutK, sgn, List.length_cons, List.length_nil, List.map_cons, List.map_nil, List.take, List.drop, List.getD_cons_zero, List.getD_cons_succ, List.nil_append, List.cons_append]; grind
end K93
namespace K93
open DL PySem L2
theorem ev_copy_int (n : Nat) (x : Int) : m__law_copy (n + 1) [.int x] () = .ok (.int x) () := rfl
theorem ev_copy_list (n : Nat) (ds : List D) (hl : ds.length ≤ 100000) (h : ∀ d ∈ ds, m__law_copy n [d] () = .ok d ()) : m__law_copy (n + 1) [.list ds] () = .ok (.list ds) () := by
  refine run_def (fb := f__law_copy (m__law_copy n)) (n := 2) ?_
  show Run (f__law_copy (m__law_copy n) [.list ds, .none] ()) _
  unfold f__law_copy
  refine run_seq (run_if (Run.of (a := true) (w := ()) rfl ?_))
  have e := ev_lcY (W := Unit) (env := [.list ds, .none]) (w := ()) (fi := iL (fVar 0)) (j := 1) (f := fCall 1 (m__law_copy n) (aCons (fVar 1) aNil)) id id (xs := ds) (by rw [List.map_id]; rfl) hl fun d hd => ev_call (ds := [d]) rfl rfl (h d hd)
  rw [List.map_id] at e
  exact run_ret (Run.of e rfl)
theorem ev_copy (t : List (List Int)) (h1 : t.length ≤ 100) (h2 : ∀ r ∈ t, r.length ≤ 100) : m__law_copy 4 [encT t] () = .ok (encT t) () := by
  refine ev_copy_list 3 _ (by rw [List.length_map]; omega) fun d hd => ?_
  obtain ⟨r, hr, rfl⟩ := List.mem_map.mp hd
  refine ev_copy_list 2 _ (by rw [List.length_map]; have := h2 r hr; omega) fun d hd => ?_
  obtain ⟨x, _, rfl⟩ := List.mem_map.mp hd
  exact ev_copy_int 1 x
def natL : D → Option (List Nat)
  | .list ds => match ds with
    | [] => some []
    | .int (.ofNat n) :: r => (match natL (.list r) with | some l => some (n :: l) | none => none)
    | _ => none
  | _ => none
theorem ev_orders1 : m_all_orders [nD 1] () = .ok (.list ((ordsF 1).map encN)) () := by kernel_rfl
theorem ev_orders2 : m_all_orders [nD 2] () = .ok (.list ((ordsF 2).map encN)) () := by kernel_rfl
theorem ev_orders3 : m_all_orders [nD 3] () = .ok (.list ((ordsF 3).map encN)) () := by kernel_rfl
theorem ev_orders4 : m_all_orders [nD 4] () = .ok (.list ((ordsF 4).map encN)) () := by kernel_rfl
def outI (o : Out Unit D) : Option Int := match o with
  | .ok (.int i) _ => some i
  | _ => none
theorem outI_ok {o : Out Unit D} {i : Int} (h : outI o = some i) : o = .ok (.int i) () := by
  cases o with
  | st => cases h
  | ex _ _ => cases h
  | ok d w => cases d <;> first | (cases h; rfl) | cases h
def wpOk (o : List Nat) : Bool := match outI (m_wrong_pairs [encN o] ()) with
  | some (.ofNat i) => Nat.beq i (invN o)
  | _ => false
theorem wp1 : (ordsF 1).all wpOk = true := by decide +kernel
theorem wp2 : (ordsF 2).all wpOk = true := by decide +kernel
theorem wp3 : (ordsF 3).all wpOk = true := by decide +kernel
theorem wp4 : (ordsF 4).all wpOk = true := by decide +kernel
def ordOk (n : Nat) (o : List Nat) : Bool := Nat.beq o.length n && o.all fun a => Nat.blt a n
theorem oo1 : (ordsF 1).all (ordOk 1) = true := by decide +kernel
theorem oo2 : (ordsF 2).all (ordOk 2) = true := by decide +kernel
theorem oo3 : (ordsF 3).all (ordOk 3) = true := by decide +kernel
theorem oo4 : (ordsF 4).all (ordOk 4) = true := by decide +kernel
theorem ev_wp {o : List Nat} (h : wpOk o = true) : m_wrong_pairs [encN o] () = .ok (nD (invN o)) () := by
  unfold wpOk at h
  cases e : outI (m_wrong_pairs [encN o] ()) with
  | none => rw [e] at h; cases h
  | some i =>
    rw [e] at h
    cases i with
    | ofNat i => rw [outI_ok e, Nat.eq_of_beq_eq_true h]; rfl
    | negSucc i => cases h
theorem ev_augC {W : Type} {i : Nat} {c : Int → Int → Bool} {op : Int → Int → Int} {a : EF W} {env : List D} {w w1 : W} {x e z : D} (ha : a env w = .ok e w1) (hx : env.getD i .none = x) (h : gIntC c op x e = some z) : fAugC i c op a env w = .ok (.nx (env.set i z)) w1 := by
  simp only [fAugC, ha, Out.bind, hx, h, lf]
/-! ### the product along an order -/
def encZ (p : List Int × Nat) : D := .tuple [encL p.1, nD p.2]
theorem zpF_enc : ∀ (t : List (List Int)) (o : List Nat), zpF (t.map encL) (o.map nD) = (t.zip o).map encZ
  | [], _ => rfl
  | _ :: _, [] => rfl
  | r :: t, a :: o => by
    show PyData.tuple [encL r, nD a] :: zpF (t.map encL) (o.map nD) = _
    rw [zpF_enc t o]; rfl
def prodZ : Int → List (List Int × Nat) → Int
  | p, [] => p
  | p, z :: zs => prodZ (p * z.1.getD z.2 0) zs
theorem prodZ_eq : ∀ (p : Int) (t : List (List Int)) (o : List Nat), prodZ p (t.zip o) = prodF p t o
  | _, [], _ => rfl
  | _, _ :: _, [] => rfl
  | p, r :: t, a :: o => prodZ_eq _ t o
theorem prodZ_snoc (p : Int) : ∀ (zs : List (List Int × Nat)) (z : List Int × Nat), prodZ p (zs ++ [z]) = prodZ p zs * z.1.getD z.2 0
  | [], z => rfl
  | y :: zs, z => prodZ_snoc _ zs z
theorem prodZ_bt : ∀ (k : Nat) (zs : List (List Int × Nat)) (p : Int), Bt k p → (∀ z ∈ zs, ∀ x ∈ z.1, Bt 200 x) → Bt (k + 200 * zs.length) (prodZ p zs)
  | k, [], p, h, _ => h
  | k, z :: zs, p, h, hz => by
    have := prodZ_bt (k + 200) zs (p * z.1.getD z.2 0) (h.mul (getD_bt (hz z List.mem_cons_self) _)) fun y hy => hz y (List.mem_cons_of_mem _ hy)
    exact this.mono (by rw [List.length_cons]; omega)
theorem ev_prod {n : Nat} (t : List (List Int)) (o : List Nat) (h : Sq n t) (h4 : n ≤ 4) (ho : ordOk n o = true) : m_product_along [encT t, encN o] () = .ok (.int (prodF 1 t o)) () := by
  unfold ordOk at ho
  rw [Bool.and_eq_true] at ho
  refine run_def (fb := f_product_along) (n := 5) ?_
  show Run (f_product_along [encT t, encN o, .none, .none, .none] ()) _
  unfold f_product_along
  refine run_seq (Run.of (a := .nx [encT t, encN o, .int 1, .none, .none]) (w := ()) rfl ?_)
  have hz : ∀ z ∈ t.zip o, z.2 < n ∧ z.1.length = n ∧ ∀ x ∈ z.1, Bt 200 x := fun z hz => by
    have h1 := List.of_mem_zip (a := z.1) (b := z.2) hz
    refine ⟨?_, h.2 z.1 h1.1⟩
    have := List.all_eq_true.mp ho.2 z.2 h1.2
    rwa [Nat.blt_eq] at this
  have hzl : (t.zip o).length ≤ 4 := by rw [List.length_zip, h.1]; omega
  refine run_seq (run_forG encZ (fun z env => (env.set 3 (encL z.1)).set 4 (nD z.2)) (fun _ _ => rfl) (t.zip o) (fun i env w => ∃ x y, env = [encT t, encN o, .int (prodZ 1 ((t.zip o).take i)), x, y]) ?hi ?hn ?hs ⟨_, _, rfl⟩)
  case hi =>
    show Out.ok (zpF (t.map encL) (o.map nD)) () = _
    rw [zpF_enc]
  case hn =>
    rintro env w ⟨x, y, rfl⟩
    rw [List.take_length, prodZ_eq]
    exact run_ret (run_scal (Run.of (a := .int (prodF 1 t o)) (w := w) rfl ⟨rfl, rfl⟩))
  case hs =>
    rintro i z env w hz1 ⟨x, y, rfl⟩
    obtain ⟨q1, q2, q3⟩ := hz z (List.mem_of_getElem? hz1)
    have hb := prodZ_bt 1 ((t.zip o).take i) 1 (by show (1 : Int).natAbs < 2 ^ 1; decide) fun z hz' => (hz z (List.mem_of_mem_take hz')).2.2
    have ix : (fBin dIxL (fVar 3) (fVar 4) : EF Unit) [encT t, encN o, .int (prodZ 1 ((t.zip o).take i)), encL z.1, nD z.2] w = .ok (.int (z.1.getD z.2 0)) w := ev_bin (x := encL z.1) (y := nD z.2) rfl rfl (ixL_get (by omega))
    refine Run.of (a := .nx [encT t, encN o, .int (prodZ 1 ((t.zip o).take i) * z.1.getD z.2 0), encL z.1, nD z.2]) (w := w) ?_ ⟨encL z.1, nD z.2, ?_⟩
    · show (fAugC 2 cMulW (fun i j => i * j) (fBin dIxL (fVar 3) (fVar 4)) : SF Unit) [encT t, encN o, .int (prodZ 1 ((t.zip o).take i)), encL z.1, nD z.2] w = _
      have hm := dMulW_of hb (getD_bt q3 z.2) (by have : ((t.zip o).take i).length ≤ 4 := by rw [List.length_take]; omega
                                                  omega) (by omega)
      exact ev_augC ix rfl hm
    · rw [List.take_add_one, hz1]
      show _ = [encT t, encN o, .int (prodZ 1 ((t.zip o).take i ++ [z])), encL z.1, nD z.2]
      rw [prodZ_snoc]
/-! ### the sum with signs -/
theorem swsS_snoc (t : List (List Int)) : ∀ (os : List (Bool × List Nat)) (tot : Int) (b : Bool) (o : List Nat), swsS t tot (os ++ [(b, o)]) = match b with | true => swsS t tot os - prodF 1 t o | false => swsS t tot os + prodF 1 t o
  | [], tot, true, o => rfl
  | [], tot, false, o => rfl
  | (true, p) :: os, tot, b, o => swsS_snoc t os _ b o
  | (false, p) :: os, tot, b, o => swsS_snoc t os _ b o
theorem ev_sum {n : Nat} (t : List (List Int)) (h : Sq n t) (h4 : n ≤ 4) (ho : m_all_orders [nD n] () = .ok (.list ((ordsF n).map encN)) ()) (hw : (ordsF n).all wpOk = true) (hoo : (ordsF n).all (ordOk n) = true) : m_sum_with_signs [encT t] () = .ok (.int (sws n t)) () := by
  refine run_def (fb := f_sum_with_signs) (n := 3) ?_
  show Run (f_sum_with_signs [encT t, .none, .none] ()) _
  unfold f_sum_with_signs
  refine run_seq (Run.of (a := .nx [encT t, .int 0, .none]) (w := ()) rfl ?_)
  refine run_seq (run_forL encN (ordsF n) (fun i env w => ∃ x, env = [encT t, .int (swsS t 0 ((sgd n).take i)), x]) ?hi ?hn ?hs ⟨_, rfl⟩)
  case hi =>
    refine ev_iL (ev_call (ds := [nD n]) (ev_cons (ev_un (x := encT t) rfl (by rw [len_T, h.1])) rfl) rfl ho)
  case hn =>
    rintro env w ⟨x, rfl⟩
    rw [show (ordsF n).length = (sgd n).length by unfold sgd; rw [List.length_map], List.take_length]
    exact run_ret (run_scal (Run.of (a := .int (sws n t)) (w := w) rfl ⟨rfl, rfl⟩))
  case hs =>
    rintro i o env w hi ⟨x, rfl⟩
    have hom : o ∈ ordsF n := List.mem_of_getElem? hi
    have hwo := ev_wp (List.all_eq_true.mp hw o hom)
    have hp := ev_prod t o h h4 (List.all_eq_true.mp hoo o hom)
    have hs : (sgd n)[i]? = some (oddO o, o) := by unfold sgd; rw [List.getElem?_map, hi]; rfl
    have hnx : swsS t 0 ((sgd n).take (i + 1)) = match oddO o with | true => swsS t 0 ((sgd n).take i) - prodF 1 t o | false => swsS t 0 ((sgd n).take i) + prodF 1 t o := by
      rw [List.take_add_one, hs]
      exact swsS_snoc t _ 0 (oddO o) o
    generalize swsS t 0 ((sgd n).take i) = S at hnx
    show Run (fIfS _ _ _ [encT t, .int S, encN o] w) _
    have test : (gB (fBin dEqS (fBin dMod (fCall 1 m_wrong_pairs (aCons (fVar 2) aNil)) (fC (.int 2))) (fC (.int 1))) : List D → Unit → Out Unit Bool) [encT t, .int S, encN o] w = .ok (oddO o) w := by
      have e1 : dMod (nD (invN o)) (.int 2) = some (nD (invN o % 2)) := by
        rw [dMod1 (by decide)]; rfl
      have e2 : dEqS (nD (invN o % 2)) (nD 1) = some (.bool (oddO o)) := by
        rw [eqS_nat]; unfold oddO
        congr 2
        rw [Bool.eq_iff_iff, Nat.beq_eq, beq_iff_eq]
      exact ev_gB (ev_bin (y := nD 1) (ev_bin (y := .int 2) (ev_call (ds := [encN o]) rfl rfl hwo) rfl e1) rfl e2)
    have pc : (fCall 2 m_product_along (aCons (fVar 0) (aCons (fVar 2) aNil)) : EF Unit) [encT t, .int S, encN o] w = .ok (.int (prodF 1 t o)) w := ev_call (ds := [encT t, encN o]) rfl rfl hp
    refine run_if (Run.of test ?_)
    cases ho : oddO o with
    | true =>
      rw [ho] at hnx
      refine Run.of (a := .nx [encT t, .int (S - prodF 1 t o), encN o]) (w := w) ?_ ⟨encN o, by rw [hnx]⟩
      simp only [fAug, pc, Out.bind]; rfl
    | false =>
      rw [ho] at hnx
      refine Run.of (a := .nx [encT t, .int (S + prodF 1 t o), encN o]) (w := w) ?_ ⟨encN o, by rw [hnx]⟩
      simp only [fAug, pc, Out.bind]; rfl
theorem ev_sum4 {n : Nat} (t : List (List Int)) (h : Sq n t) (h1 : 1 ≤ n) (h4 : n ≤ 4) : m_sum_with_signs [encT t] () = .ok (.int (sws n t)) () := by
  match n, h1, h4, h with
  | 1, _, _, h => exact ev_sum t h (by omega) ev_orders1 wp1 oo1
  | 2, _, _, h => exact ev_sum t h (by omega) ev_orders2 wp2 oo2
  | 3, _, _, h => exact ev_sum t h (by omega) ev_orders3 wp3 oo3
  | 4, _, _, h => exact ev_sum t h (by omega) ev_orders4 wp4 oo4
end K93
namespace K93
open DL PySem L2
theorem lapl_fuel : ∀ (f g : Nat) (t : List (List Int)), t.length ≤ f → t.length ≤ g → lapl f t = lapl g t
  | 0, 0, _, _, _ => rfl
  | 0, g + 1, t, h, _ => by rw [List.length_eq_zero_iff.mp (Nat.le_zero.mp h)]; rfl
  | f + 1, 0, t, _, h => by rw [List.length_eq_zero_iff.mp (Nat.le_zero.mp h)]; rfl
  | f + 1, g + 1, [], _, _ => rfl
  | f + 1, g + 1, row :: rest, h1, h2 => by
    show sumF _ _ = sumF _ _
    congr 1
    funext k
    rw [lapl_fuel f g (rest.map (cutK k)) (by rw [List.length_map]; simpa using h1) (by rw [List.length_map]; simpa using h2)]
def trans (n : Nat) (t : List (List Int)) : List (List Int) := (List.range n).map fun k => t.map fun r => r.getD k 0
def otherT (n : Nat) (t : List (List Int)) : List (List Int) := [t.getD (n - 1) []] ++ (t.drop 1).take (n - 1 - 1) ++ [t.getD 0 []]
def equalT (n : Nat) (t : List (List Int)) : List (List Int) := [t.getD (n - 1) []] ++ t.drop 1
theorem Sq.trans {n : Nat} {t : List (List Int)} (h : Sq n t) : Sq n (trans n t) := by
  refine ⟨by unfold K93.trans; rw [List.length_map, List.length_range], fun r hr => ?_⟩
  obtain ⟨k, _, rfl⟩ := List.mem_map.mp hr
  refine ⟨by rw [List.length_map]; exact h.1, fun x hx => ?_⟩
  obtain ⟨r, hr, rfl⟩ := List.mem_map.mp hx
  exact getD_bt (h.2 r hr).2 k
theorem getD_mem {t : List (List Int)} {i : Nat} (h : i < t.length) : t.getD i [] ∈ t := by
  rw [List.getD_eq_getElem?_getD, List.getElem?_eq_getElem h]
  exact List.getElem_mem h
theorem Sq.other {n : Nat} {t : List (List Int)} (h : Sq n t) (h2 : 2 ≤ n) : Sq n (otherT n t) := by
  refine ⟨by unfold otherT; simp only [List.length_append, List.length_singleton, List.length_take, List.length_drop, h.1]; omega, fun r hr => h.2 r ?_⟩
  unfold otherT at hr
  rcases List.mem_append.mp hr with hr | hr
  · rcases List.mem_append.mp hr with hr | hr
    · rw [List.mem_singleton.mp hr]; exact getD_mem (by rw [h.1]; omega)
    · exact List.mem_of_mem_drop (List.mem_of_mem_take hr)
  · rw [List.mem_singleton.mp hr]; exact getD_mem (by rw [h.1]; omega)
theorem Sq.equal {n : Nat} {t : List (List Int)} (h : Sq n t) (h2 : 2 ≤ n) : Sq n (equalT n t) := by
  refine ⟨by unfold equalT; simp only [List.length_append, List.length_singleton, List.length_drop, h.1]; omega, fun r hr => h.2 r ?_⟩
  unfold equalT at hr
  rcases List.mem_append.mp hr with hr | hr
  · rw [List.mem_singleton.mp hr]; exact getD_mem (by rw [h.1]; omega)
  · exact List.mem_of_mem_drop hr
theorem len1 {α : Type} {l : List α} (h : l.length = 1) : ∃ a, l = [a] := by
  match l, h with
  | [a], _ => exact ⟨a, rfl⟩
theorem len2 {α : Type} {l : List α} (h : l.length = 2) : ∃ a b, l = [a, b] := by
  match l, h with
  | [a, b], _ => exact ⟨a, b, rfl⟩
theorem len3 {α : Type} {l : List α} (h : l.length = 3) : ∃ a b c, l = [a, b, c] := by
  match l, h with
  | [a, b, c], _ => exact ⟨a, b, c, rfl⟩
theorem len4 {α : Type} {l : List α} (h : l.length = 4) : ∃ a b c d, l = [a, b, c, d] := by
  match l, h with
  | [a, b, c, d], _ => exact ⟨a, b, c, d, rfl⟩
theorem facts {n : Nat} {t : List (List Int)} (h : Sq n t) (h1 : 1 ≤ n) (h4 : n ≤ 4) : sws n t = lapl n t ∧ sws n (trans n t) = lapl n t ∧ (2 ≤ n → sws n (otherT n t) = -(lapl n t) ∧ sws n (equalT n t) = 0) := by
  match n, h1, h4, h with
  | 1, _, _, h =>
    obtain ⟨r1, rfl⟩ := len1 h.1
    obtain ⟨a, rfl⟩ := len1 (h.2 r1 (by simp)).1
    exact ⟨id1 a, tr1 a, fun z => by omega⟩
  | 2, _, _, h =>
    obtain ⟨r1, r2, rfl⟩ := len2 h.1
    obtain ⟨a, b, rfl⟩ := len2 (h.2 r1 (by simp)).1
    obtain ⟨c, d, rfl⟩ := len2 (h.2 r2 (by simp)).1
    exact ⟨id2 a b c d, tr2 a b c d, fun _ => ⟨sw2 a b c d, eq2 a b c d⟩⟩
  | 3, _, _, h =>
    obtain ⟨r1, r2, r3, rfl⟩ := len3 h.1
    obtain ⟨a, b, c, rfl⟩ := len3 (h.2 r1 (by simp)).1
    obtain ⟨d, e, f, rfl⟩ := len3 (h.2 r2 (by simp)).1
    obtain ⟨g, i, j, rfl⟩ := len3 (h.2 r3 (by simp)).1
    exact ⟨id3 a b c d e f g i j, tr3 a b c d e f g i j, fun _ => ⟨sw3 a b c d e f g i j, eq3 a b c d e f g i j⟩⟩
  | 4, _, _, h =>
    obtain ⟨r1, r2, r3, r4, rfl⟩ := len4 h.1
    obtain ⟨a, b, c, d, rfl⟩ := len4 (h.2 r1 (by simp)).1
    obtain ⟨e, f, g, i, rfl⟩ := len4 (h.2 r2 (by simp)).1
    obtain ⟨j, k, l, m, rfl⟩ := len4 (h.2 r3 (by simp)).1
    obtain ⟨o, p, q, r, rfl⟩ := len4 (h.2 r4 (by simp)).1
    exact ⟨id4 a b c d e f g i j k l m o p q r, tr4 a b c d e f g i j k l m o p q r, fun _ => ⟨sw4 a b c d e f g i j k l m o p q r, eq4 a b c d e f g i j k l m o p q r⟩⟩
theorem okS_T {t : List (List Int)} (h1 : t.length ≤ 100) (h2 : ∀ r ∈ t, r.length ≤ 100) : okS 6 (encT t) = true := by
  show (Nat.ble (t.map encL).length 100000 && (t.map encL).all (okS 5)) = true
  rw [List.length_map, Nat.ble_eq.mpr (by omega), Bool.true_and, List.all_eq_true]
  intro d hd
  obtain ⟨r, hr, rfl⟩ := List.mem_map.mp hd
  show (Nat.ble (r.map PyData.int).length 100000 && (r.map PyData.int).all (okS 4)) = true
  rw [List.length_map, Nat.ble_eq.mpr (by have := h2 r hr; omega), Bool.true_and, List.all_map, List.all_eq_true]
  exact fun _ _ => rfl
theorem same_int (x : Int) : m__law_same 6 [.int x, .int x] () = .ok (.bool true) () := same_refl 6 _ rfl
theorem cat_T {a b : List (List Int)} (h : a.length + b.length ≤ 100000) : dCat (encT a) (encT b) = some (encT (a ++ b)) := by
  show ifs (sm ((a.map encL).length + (b.map encL).length)) (PyData.list (a.map encL ++ b.map encL)) = _
  rw [List.length_map, List.length_map, sm_of h, ← List.map_append]; rfl
theorem ev_summed {n : Nat} {t : List (List Int)} (h : Sq n t) (h1 : 1 ≤ n) (h4 : n ≤ 4) : m__law_summed [encT t] () = .ok (.bool true) () := by
  obtain ⟨f1, f2, f3⟩ := facts h h1 h4
  have hl : ∀ {t : List (List Int)}, Sq n t → t.length ≤ 100 ∧ ∀ r ∈ t, r.length ≤ 100 := fun {t} h => ⟨by rw [h.1]; omega, fun r hr => by rw [(h.2 r hr).1]; omega⟩
  have e1 : m__law_sum 6 [encT t] () = .ok (.int (lapl n t)) () := by
    rw [ev_law_sum 5 n t (by omega) h4 h, lapl_fuel 5 n t (by rw [h.1]; omega) (by rw [h.1]; omega)]
  have c1 := ev_copy t (hl h).1 (hl h).2
  have s1 := ev_sum4 t h h1 h4
  rw [f1] at s1
  have s2 := ev_sum4 (trans n t) h.trans h1 h4
  rw [f2] at s2
  have sT := same_refl 6 _ (okS_T (hl h).1 (hl h).2)
  have sD := same_int (lapl n t)
  generalize hd : lapl n t = d at *
  refine run_def (fb := f__law_summed) (n := 9) ?_
  show Run (f__law_summed [encT t, .none, .none, .none, .none, .none, .none, .none, .none] ()) _
  unfold f__law_summed
  refine run_seq (run_set (Run.of (ev_call (ds := [encT t]) rfl rfl e1) ?_))
  refine run_seq (run_set (Run.of (ev_call (ds := [encT t]) rfl rfl c1) ?_))
  show Run (fSeq _ _ [encT t, .int d, encT t, .none, .none, .none, .none, .none, .none] ()) _
  have tr : (fLc (iR1 (fUn gLen (fVar 0))) (tgN 7) gYes (fLc (iL (fVar 0)) (tgN 8) gYes (fScal (fBin dIxL (fVar 8) (fVar 7)))) : EF Unit) [encT t, .int d, encT t, .none, .none, .none, .none, .none, .none] () = .ok (encT (trans n t)) () := by
    have hr : (iR1 (fUn gLen (fVar 0)) : AF Unit) [encT t, .int d, encT t, .none, .none, .none, .none, .none, .none] () = .ok ((List.range n).map nD) () := by
      simp only [iR1]
      rw [ev_un (x := encT t) (d := nD n) (w1 := ()) rfl (by rw [len_T, h.1])]
      show lf (rg1 (nD n)) () = _
      rw [rg1_of (by omega), rgF0]; rfl
    have := ev_lcY (W := Unit) (env := [encT t, .int d, encT t, .none, .none, .none, .none, .none, .none]) (w := ()) (fi := iR1 (fUn gLen (fVar 0))) (j := 7) (f := fLc (iL (fVar 0)) (tgN 8) gYes (fScal (fBin dIxL (fVar 8) (fVar 7)))) nD (fun k => encL (t.map fun r => r.getD k 0)) (xs := List.range n) hr (by rw [List.length_range]; omega) fun k hk => by
      have hk := List.mem_range.mp hk
      have := ev_lcY (W := Unit) (env := [encT t, .int d, encT t, .none, .none, .none, .none, nD k, .none]) (w := ()) (fi := iL (fVar 0)) (j := 8) (f := fScal (fBin dIxL (fVar 8) (fVar 7))) encL (fun r => PyData.int (r.getD k 0)) (xs := t) rfl (by rw [h.1]; omega) fun r hr => by
        have ix := ev_bin (W := Unit) (env := [encT t, .int d, encT t, .none, .none, .none, .none, nD k, encL r]) (w := ()) (w2 := ()) (a := fVar 8) (b := fVar 7) (x := encL r) (y := nD k) rfl rfl (ixL_get (by rw [(h.2 r hr).1]; exact hk))
        show fScal _ [encT t, .int d, encT t, .none, .none, .none, .none, nD k, encL r] () = _
        simp only [fScal, ix, Out.bind]; rfl
      show fLc _ _ _ _ [encT t, .int d, encT t, .none, .none, .none, .none, nD k, .none] () = _
      rw [this]
      unfold encL
      rw [List.map_map]; rfl
    rw [this]
    unfold trans encT
    rw [List.map_map]; rfl
  refine run_seq (run_set (Run.of tr ?_))
  generalize trans n t = T2 at s2 tr
  show Run (fSeq _ _ [encT t, .int d, encT t, encT T2, .none, .none, .none, .none, .none] ()) _
  refine run_seq (run_if (Run.of (a := false) (w := ()) (ev_orF (w1 := ()) (ev_not (b := true) (ev_gB (ev_call (ds := [.int d, .int d]) (ev_cons (ev_call (ds := [encT t]) rfl rfl s1) rfl) rfl sD))) (ev_not (b := true) (ev_gB (ev_call (ds := [encT t, encT t]) rfl rfl sT)))) ?_))
  refine Run.of (a := .nx [encT t, .int d, encT t, encT T2, .none, .none, .none, .none, .none]) (w := ()) rfl ?_
  refine run_seq (run_if (Run.of (a := false) (w := ()) (ev_not (b := true) (ev_gB (ev_call (ds := [.int d, .int d]) (ev_cons (ev_call (ds := [encT T2]) rfl rfl s2) rfl) rfl sD))) ?_))
  refine Run.of (a := .nx [encT t, .int d, encT t, encT T2, .none, .none, .none, .none, .none]) (w := ()) rfl ?_
  refine run_seq (run_if (Run.of (a := (n == 1)) (w := ()) (ev_gB (ev_bin (y := nD 1) (ev_un (x := encT t) rfl (by rw [len_T, h.1])) rfl (eqS_nat _ _))) ?_))
  by_cases hn : n = 1
  · rw [show (n == 1) = true by rw [beq_iff_eq]; exact hn]
    exact run_ret (Run.of (a := .bool true) (w := ()) rfl rfl)
  · rw [show (n == 1) = false by rw [beq_eq_false_iff_ne]; exact hn]
    have h2 : 2 ≤ n := by omega
    obtain ⟨f4, f5⟩ := f3 h2
    have so := ev_sum4 (otherT n t) (h.other h2) h1 h4
    rw [f4] at so
    have sq := ev_sum4 (equalT n t) (h.equal h2) h1 h4
    rw [f5] at sq
    have co := ev_copy (otherT n t) (hl (h.other h2)).1 (hl (h.other h2)).2
    have cq := ev_copy (equalT n t) (hl (h.equal h2)).1 (hl (h.equal h2)).2
    refine Run.of (a := .nx [encT t, .int d, encT t, encT T2, .none, .none, .none, .none, .none]) (w := ()) rfl ?_
    refine run_seq (run_set (Run.of (ev_bin (x := nD n) (y := nD 1) (ev_un (x := encT t) rfl (by rw [len_T, h.1])) rfl (sub_nat h1)) ?_))
    show Run (fSeq _ _ [encT t, .int d, encT t, encT T2, nD (n - 1), .none, .none, .none, .none] ()) _
    have g1 : ∀ z, (fLst (aCons (fBin dIxL (fVar 0) (fVar 4)) aNil) : EF Unit) [encT t, .int d, encT t, encT T2, nD (n - 1), z, .none, .none, .none] () = .ok (encT [t.getD (n - 1) []]) () := fun z =>
      ev_lst (ev_cons (ev_bin (x := encT t) (y := nD (n - 1)) rfl rfl (ixT_get (by rw [h.1]; omega))) rfl) (by simp)
    have g2 : (fSl (fVar 0) (gPart (fC (.int 1))) (gPart (fVar 4)) : EF Unit) [encT t, .int d, encT t, encT T2, nD (n - 1), .none, .none, .none, .none] () = .ok (encT ((t.drop 1).take (n - 1 - 1))) () := by
      have := ev_sl (W := Unit) (env := [encT t, .int d, encT t, encT T2, nD (n - 1), .none, .none, .none, .none]) (w := ()) (w1 := ()) (w2 := ()) (w3 := ()) (a := fVar 0) (p := gPart (fC (.int 1))) (q := gPart (fVar 4)) (ds := t.map encL) (lo := some ((1 : Nat) : Int)) (hi := some ((n - 1 : Nat) : Int)) rfl rfl rfl
      rw [cut_mid, ← List.map_drop, ← List.map_take] at this
      exact this
    have g3 : (fLst (aCons (fBin dIxL (fVar 0) (fC (.int 0))) aNil) : EF Unit) [encT t, .int d, encT t, encT T2, nD (n - 1), .none, .none, .none, .none] () = .ok (encT [t.getD 0 []]) () :=
      ev_lst (ev_cons (ev_bin (x := encT t) (y := nD 0) rfl rfl (ixT_get (by rw [h.1]; omega))) rfl) (by simp)
    have lm : ((t.drop 1).take (n - 1 - 1)).length ≤ 4 := by rw [List.length_take, List.length_drop, h.1]; omega
    refine run_seq (run_set (Run.of (ev_bin (ev_bin (g1 _) g2 (cat_T (by simp only [List.length_singleton]; omega))) g3 (cat_T (by simp only [List.length_append, List.length_singleton]; omega))) ?_))
    show Run (fSeq _ _ [encT t, .int d, encT t, encT T2, nD (n - 1), encT (otherT n t), .none, .none, .none] ()) _
    have g4 : ∀ z, (fSl (fVar 0) (gPart (fC (.int 1))) gNoPart : EF Unit) [encT t, .int d, encT t, encT T2, nD (n - 1), z, .none, .none, .none] () = .ok (encT (t.drop 1)) () := fun z => by
      have := ev_sl (W := Unit) (env := [encT t, .int d, encT t, encT T2, nD (n - 1), z, .none, .none, .none]) (w := ()) (w1 := ()) (w2 := ()) (w3 := ()) (a := fVar 0) (p := gPart (fC (.int 1))) (q := gNoPart) (ds := t.map encL) (lo := some ((1 : Nat) : Int)) (hi := none) rfl rfl rfl
      rw [cut_from, ← List.map_drop] at this
      exact this
    refine run_seq (run_set (Run.of (ev_bin (g1 _) (g4 _) (cat_T (by rw [List.length_drop, h.1]; simp only [List.length_singleton]; omega))) ?_))
    show Run (fRet _ [encT t, .int d, encT t, encT T2, nD (n - 1), encT (otherT n t), encT (equalT n t), .none, .none] ()) _
    exact run_ret (Run.of (a := .bool true) (w := ()) (ev_andT (w1 := ()) (ev_call (ds := [.int (-d), .int (-d)]) (ev_cons (ev_call (ds := [encT (otherT n t)]) (ev_cons (ev_call (ds := [encT (otherT n t)]) rfl rfl co) rfl) rfl so) (ev_cons (w1 := ()) (ev_un (x := .int d) rfl rfl) rfl)) rfl (same_int _)) (ev_call (ds := [.int 0, .int 0]) (ev_cons (ev_call (ds := [encT (equalT n t)]) (ev_cons (ev_call (ds := [encT (equalT n t)]) rfl rfl cq) rfl) rfl sq) rfl) rfl (same_int _))) rfl)
end K93
namespace K93
open DL PySem L2
def pD (p : Nat × Nat) : D := .tuple [nD p.1, nD p.2]
def pOk (a b c d : Nat) : Bool := match outI (m_count_paths [pD (a, b), pD (c, d)] ()), outI (m__law_paths [pD (a, b), pD (c, d)] ()) with
  | some (.ofNat i), some (.ofNat j) => Nat.beq i j && Nat.ble i 1000 && (match Nat.beq a c && Nat.beq b d with | true => Nat.beq i 1 | false => true)
  | _, _ => false
def r7 : List Nat := [0, 1, 2, 3, 4, 5, 6]
def p3 (a b : Nat) : Bool := r7.all fun c => r7.all fun d => pOk a b c d
theorem q00 : p3 0 0 = true := by decide +kernel
theorem q01 : p3 0 1 = true := by decide +kernel
theorem q02 : p3 0 2 = true := by decide +kernel
theorem q03 : p3 0 3 = true := by decide +kernel
theorem q04 : p3 0 4 = true := by decide +kernel
theorem q05 : p3 0 5 = true := by decide +kernel
theorem q06 : p3 0 6 = true := by decide +kernel
theorem q10 : p3 1 0 = true := by decide +kernel
theorem q11 : p3 1 1 = true := by decide +kernel
theorem q12 : p3 1 2 = true := by decide +kernel
theorem q13 : p3 1 3 = true := by decide +kernel
theorem q14 : p3 1 4 = true := by decide +kernel
theorem q15 : p3 1 5 = true := by decide +kernel
theorem q16 : p3 1 6 = true := by decide +kernel
theorem q20 : p3 2 0 = true := by decide +kernel
theorem q21 : p3 2 1 = true := by decide +kernel
theorem q22 : p3 2 2 = true := by decide +kernel
theorem q23 : p3 2 3 = true := by decide +kernel
theorem q24 : p3 2 4 = true := by decide +kernel
theorem q25 : p3 2 5 = true := by decide +kernel
theorem q26 : p3 2 6 = true := by decide +kernel
theorem q30 : p3 3 0 = true := by decide +kernel
theorem q31 : p3 3 1 = true := by decide +kernel
theorem q32 : p3 3 2 = true := by decide +kernel
theorem q33 : p3 3 3 = true := by decide +kernel
theorem q34 : p3 3 4 = true := by decide +kernel
theorem q35 : p3 3 5 = true := by decide +kernel
theorem q36 : p3 3 6 = true := by decide +kernel
theorem q40 : p3 4 0 = true := by decide +kernel
theorem q41 : p3 4 1 = true := by decide +kernel
theorem q42 : p3 4 2 = true := by decide +kernel
theorem q43 : p3 4 3 = true := by decide +kernel
theorem q44 : p3 4 4 = true := by decide +kernel
theorem q45 : p3 4 5 = true := by decide +kernel
theorem q46 : p3 4 6 = true := by decide +kernel
theorem q50 : p3 5 0 = true := by decide +kernel
theorem q51 : p3 5 1 = true := by decide +kernel
theorem q52 : p3 5 2 = true := by decide +kernel
theorem q53 : p3 5 3 = true := by decide +kernel
theorem q54 : p3 5 4 = true := by decide +kernel
theorem q55 : p3 5 5 = true := by decide +kernel
theorem q56 : p3 5 6 = true := by decide +kernel
theorem q60 : p3 6 0 = true := by decide +kernel
theorem q61 : p3 6 1 = true := by decide +kernel
theorem q62 : p3 6 2 = true := by decide +kernel
theorem q63 : p3 6 3 = true := by decide +kernel
theorem q64 : p3 6 4 = true := by decide +kernel
theorem q65 : p3 6 5 = true := by decide +kernel
theorem q66 : p3 6 6 = true := by decide +kernel
theorem r7_mem {a : Nat} (h : a < 7) : a ∈ r7 := by unfold r7; simp; omega
theorem q_all {a b : Nat} (ha : a < 7) (hb : b < 7) : p3 a b = true :=
  match a, b, ha, hb with
  | 0, 0, _, _ => q00
  | 0, 1, _, _ => q01
  | 0, 2, _, _ => q02
  | 0, 3, _, _ => q03
  | 0, 4, _, _ => q04
  | 0, 5, _, _ => q05
  | 0, 6, _, _ => q06
  | 1, 0, _, _ => q10
  | 1, 1, _, _ => q11
  | 1, 2, _, _ => q12
  | 1, 3, _, _ => q13
  | 1, 4, _, _ => q14
  | 1, 5, _, _ => q15
  | 1, 6, _, _ => q16
  | 2, 0, _, _ => q20
  | 2, 1, _, _ => q21
  | 2, 2, _, _ => q22
  | 2, 3, _, _ => q23
  | 2, 4, _, _ => q24
  | 2, 5, _, _ => q25
  | 2, 6, _, _ => q26
  | 3, 0, _, _ => q30
  | 3, 1, _, _ => q31
  | 3, 2, _, _ => q32
  | 3, 3, _, _ => q33
  | 3, 4, _, _ => q34
  | 3, 5, _, _ => q35
  | 3, 6, _, _ => q36
  | 4, 0, _, _ => q40
  | 4, 1, _, _ => q41
  | 4, 2, _, _ => q42
  | 4, 3, _, _ => q43
  | 4, 4, _, _ => q44
  | 4, 5, _, _ => q45
  | 4, 6, _, _ => q46
  | 5, 0, _, _ => q50
  | 5, 1, _, _ => q51
  | 5, 2, _, _ => q52
  | 5, 3, _, _ => q53
  | 5, 4, _, _ => q54
  | 5, 5, _, _ => q55
  | 5, 6, _, _ => q56
  | 6, 0, _, _ => q60
  | 6, 1, _, _ => q61
  | 6, 2, _, _ => q62
  | 6, 3, _, _ => q63
  | 6, 4, _, _ => q64
  | 6, 5, _, _ => q65
  | 6, 6, _, _ => q66
def cN (p q : Nat × Nat) : Nat := match outI (m_count_paths [pD p, pD q] ()) with
  | some i => i.toNat
  | none => 0
def In7 (p : Nat × Nat) : Prop := p.1 < 7 ∧ p.2 < 7
theorem paths_ok {p q : Nat × Nat} (hp : In7 p) (hq : In7 q) : m_count_paths [pD p, pD q] () = .ok (nD (cN p q)) () ∧ m__law_paths [pD p, pD q] () = .ok (nD (cN p q)) () ∧ cN p q ≤ 1000 ∧ (p = q → cN p q = 1) := by
  obtain ⟨a, b⟩ := p
  obtain ⟨c, d⟩ := q
  have h := List.all_eq_true.mp (List.all_eq_true.mp (q_all hp.1 hp.2) c (r7_mem hq.1)) d (r7_mem hq.2)
  unfold pOk at h
  unfold cN
  cases e1 : outI (m_count_paths [pD (a, b), pD (c, d)] ()) with
  | none => simp only [e1] at h; cases h
  | some i =>
    cases e2 : outI (m__law_paths [pD (a, b), pD (c, d)] ()) with
    | none => simp only [e1, e2] at h; cases i <;> cases h
    | some j =>
      simp only [e1, e2] at h
      cases i with
      | negSucc i => cases h
      | ofNat i =>
        cases j with
        | negSucc j => cases h
        | ofNat j =>
          have h' : (Nat.beq i j && Nat.ble i 1000 && (match Nat.beq a c && Nat.beq b d with | true => Nat.beq i 1 | false => true)) = true := h
          rw [Bool.and_eq_true, Bool.and_eq_true] at h'
          obtain ⟨⟨x1, x2⟩, x3⟩ := h'
          have x1 := Nat.eq_of_beq_eq_true x1
          subst x1
          refine ⟨outI_ok e1, outI_ok e2, Nat.le_of_ble_eq_true x2, fun e => ?_⟩
          cases e
          rw [show (Nat.beq a a && Nat.beq b b) = true by rw [Nat.beq_refl, Nat.beq_refl]; rfl] at x3
          exact Nat.eq_of_beq_eq_true x3
end K93
namespace DL
open PySem L2
section
variable {W : Type} {a b : EF W} {env : List D} {w : W} {Q : D → W → Prop}
theorem run_callW1 {m : List D → W → Out W D} (h : Run (a env w) fun d w1 => Run (m [.none, d] w1) Q) : Run (fCallW 1 m (aCons a aNil) env w) Q := by
  obtain ⟨d, w1, e, h⟩ := h.ex
  obtain ⟨x, w2, e2, q⟩ := h.ex
  exact Run.of (ev_callW (ds := [d]) (ev_cons e rfl) rfl e2) q
theorem run_callW2 {m : List D → W → Out W D} (h : Run (a env w) fun d w1 => Run (b env w1) fun e w2 => Run (m [.none, d, e] w2) Q) : Run (fCallW 2 m (aCons a (aCons b aNil)) env w) Q := by
  obtain ⟨d, w1, e, h⟩ := h.ex
  obtain ⟨d2, w2, e2, h⟩ := h.ex
  obtain ⟨x, w3, e3, q⟩ := h.ex
  exact Run.of (ev_callW (ds := [d, d2]) (ev_cons e (ev_cons e2 rfl)) rfl e3) q
theorem run_tup2 (h : Run (a env w) fun x w1 => Run (b env w1) fun y w2 => Q (.tuple [x, y]) w2) : Run (fTup (aCons a (aCons b aNil)) env w) Q := by
  obtain ⟨d, w1, e, h⟩ := h.ex
  obtain ⟨d2, w2, e2, h⟩ := h.ex
  have ee : aCons a (aCons b aNil) env w = .ok [d, d2] w2 := ev_cons e (ev_cons e2 rfl)
  exact Run.of (ev_tup ee (by simp)) h
theorem run_retW {s : SF W} {n : Nat} {ds : List D} (h : Run (s (ds ++ List.replicate (n - ds.length) .none) w) fun r w' => match r with | .rt d => Q d w' | _ => False) : Run (runDef n s ds w) Q := by
  obtain ⟨r, w1, e, h⟩ := h.ex
  cases r with
  | rt d => exact Run.of (w := w1) (by simp only [runDef, e, Out.bind]) h
  | nx _ => exact h.elim
  | bk _ => exact h.elim
  | ct _ => exact h.elim
/-- a comprehension whose items draw -/
theorem run_lcGo {α : Type} {fg : D → List D → Option (List D)} {f : EF W} (enc : α → D) (tg : α → List D) (P : D → Prop) (J : W → Prop) : ∀ (xs : List α), (∀ x ∈ xs, fg (enc x) env = some (tg x) ∧ ∀ w, J w → Run (f (tg x) w) fun d w' => P d ∧ J w') → ∀ w, J w →
    Run (lcGo fg gYes f env (xs.map enc) w) fun ys w' => ys.length = xs.length ∧ (∀ y ∈ ys, P y) ∧ J w'
  | [], _, w, hw => ⟨rfl, fun _ z => (by cases z), hw⟩
  | x :: xs, h, w, hw => by
    obtain ⟨h0, h1⟩ := h x List.mem_cons_self
    obtain ⟨d, w1, e1, pd, jw⟩ := (h1 w hw).ex
    obtain ⟨ys, w2, e2, l2, p2, j2⟩ := (run_lcGo enc tg P J xs (fun z hz => h z (List.mem_cons_of_mem _ hz)) w1 jw).ex
    refine Run.of (a := d :: ys) (w := w2) ?_ ⟨by rw [List.length_cons, List.length_cons, l2], fun y hy => ?_, j2⟩
    · simp only [List.map_cons, lcGo, h0, gYes, Out.bind, e1, e2]
    · rcases List.mem_cons.mp hy with rfl | hy
      · exact pd
      · exact p2 y hy
theorem run_lcW {α : Type} {fi : AF W} {f : EF W} {j : Nat} (enc : α → D) (P : D → Prop) (J : W → Prop) {xs : List α} (hi : fi env w = .ok (xs.map enc) w) (hl : xs.length ≤ 100000) (hw : J w) (h : ∀ x ∈ xs, ∀ w, J w → Run (f (env.set j (enc x)) w) fun d w' => P d ∧ J w') :
    Run (fLc fi (tgN j) gYes f env w) fun d w' => ∃ ys, d = .list ys ∧ ys.length = xs.length ∧ (∀ y ∈ ys, P y) ∧ J w' := by
  obtain ⟨ys, w2, e2, l2, p2, j2⟩ := (run_lcGo (fg := tgN j) (f := f) (env := env) enc (fun x => env.set j (enc x)) P J xs (fun x hx => ⟨rfl, h x hx⟩) w hw).ex
  have hs : sm xs.length = true := sm_of hl
  refine Run.of (a := .list ys) (w := w2) ?_ ⟨ys, rfl, l2, p2, j2⟩
  simp only [fLc, hi, Out.bind, e2, noX, List.length_map, hs]; rfl
end
theorem eqF_refl : ∀ (k : Nat) (d : D), shp k d = true → eqF k d d = true
  | k, .int i, _ => by
    have : eqF k (.int i) (.int i) = (i == i) := by cases k <;> rfl
    rw [this, beq_self_eq_true]
  | k, .none, _ => by cases k <;> rfl
  | k, .bool b, _ => by cases k <;> cases b <;> rfl
  | k, .str _, h => by cases k <;> cases h
  | k, .dict _, h => by cases k <;> cases h
  | 0, .list _, h => by cases h
  | 0, .tuple _, h => by cases h
  | k + 1, .list ds, h => by
    have h : ∀ d ∈ ds, shp k d = true := List.all_eq_true.mp h
    show eqF.go (eqF k) ds ds = true
    have : ∀ es : List D, (∀ d ∈ es, shp k d = true) → eqF.go (eqF k) es es = true := fun es => by
      induction es with
      | nil => intro _; rfl
      | cons e es ih =>
        intro h
        show (match eqF k e e with | true => eqF.go (eqF k) es es | false => false) = true
        rw [eqF_refl k e (h e List.mem_cons_self)]
        exact ih fun d hd => h d (List.mem_cons_of_mem _ hd)
    exact this ds h
  | k + 1, .tuple ds, h => by
    have h : ∀ d ∈ ds, shp k d = true := List.all_eq_true.mp h
    show eqF.go (eqF k) ds ds = true
    have : ∀ es : List D, (∀ d ∈ es, shp k d = true) → eqF.go (eqF k) es es = true := fun es => by
      induction es with
      | nil => intro _; rfl
      | cons e es ih =>
        intro h
        show (match eqF k e e with | true => eqF.go (eqF k) es es | false => false) = true
        rw [eqF_refl k e (h e List.mem_cons_self)]
        exact ih fun d hd => h d (List.mem_cons_of_mem _ hd)
    exact this ds h
theorem ne_refl {d : D} (h : shp8 d = true) : dNe d d = some (.bool false) := by
  unfold dNe
  rw [h, eqF_refl 8 d h]; rfl
end DL
namespace K93
open DL PySem L2
abbrev encPs (ps : List (Nat × Nat)) : D := .list (ps.map pD)
theorem notIn_P (p : Nat × Nat) (ps : List (Nat × Nat)) : ∃ b, dNotIn (pD p) (encPs ps) = some (.bool b) ∧ (b = false → ps ≠ []) := by
  have h : shp8 (encPs ps) = true := by
    show (ps.map pD).all (shp 7) = true
    rw [List.all_map, List.all_eq_true]
    exact fun _ _ => rfl
  refine ⟨!(ps.map pD).any fun z => eqF 8 z (pD p), ?_, fun e z => ?_⟩
  · show ifs (shp8 (pD p) && shp8 (encPs ps)) (PyData.bool (!(ps.map pD).any fun z => eqF 8 z (pD p))) = _
    rw [h]; rfl
  · subst z
    cases e
theorem len_P (ps : List (Nat × Nat)) : gLen (encPs ps) = some (nD ps.length) := by
  show some (PyData.int ((ps.map pD).length : Int)) = _
  rw [List.length_map]
theorem snoc_P (ps : List (Nat × Nat)) (p : Nat × Nat) : PyData.list (ps.map pD ++ [pD p]) = encPs (ps ++ [p]) := by
  unfold encPs; rw [List.map_append]; rfl
theorem places_ok {ns : List Int} {w : Fd} {many wide : Nat} {x : D} (h : fdOk ns.length w) (h1 : 1 ≤ many) (h4 : many ≤ 4) (w1 : 1 ≤ wide) (w7 : wide ≤ 7) :
    Run (m__law_places ns [x, nD many, nD wide] w) fun d w' => ∃ ps : List (Nat × Nat), d = encPs ps ∧ 1 ≤ ps.length ∧ ps.length ≤ many ∧ (∀ p ∈ ps, In7 p) ∧ fdOk ns.length w' := by
  refine run_retW (n := 7) (s := f__law_places ns) ?_
  show Run (f__law_places ns [x, nD many, nD wide, .none, .none, .none, .none] w) _
  unfold f__law_places
  refine run_seq (Run.of (a := .nx [x, nD many, nD wide, encPs [], .none, .none, .none]) (w := w) rfl ?_)
  refine run_seq (run_for0 (fun i env w => ∃ ps t y z, env = [x, nD many, nD wide, encPs ps, t, y, z] ∧ ps.length ≤ many ∧ (∀ p ∈ ps, In7 p) ∧ fdOk ns.length w) 30 rfl (by decide) ?hn ?hs ⟨[], _, _, _, rfl, Nat.zero_le _, fun _ z => (by cases z), h⟩)
  case hs =>
    rintro i env w hi ⟨ps, t, y, z, rfl, hl, hp, hw⟩
    show Run (fSeq _ _ [x, nD many, nD wide, encPs ps, nD i, y, z] w) _
    refine run_seq (run_set (run_tup2 (run_callW1 (run_scal (Run.of (a := nD wide) (w := w) rfl ⟨rfl, (draw_ok (x := .none) hw (many := (wide : Int)) (by omega) (by omega)).mono fun d w2 ⟨k, e, k0, k1, hw2⟩ => ?_⟩)))))
    subst e
    refine run_callW1 (run_scal (Run.of (a := nD wide) (w := w2) rfl ⟨rfl, (draw_ok (x := .none) hw2 (many := (wide : Int)) (by omega) (by omega)).mono fun d w3 ⟨k', e, k0', k1', hw3⟩ => ?_⟩))
    subst e
    obtain ⟨a, rfl⟩ : ∃ a : Nat, k = (a : Int) := ⟨k.toNat, by omega⟩
    obtain ⟨b, rfl⟩ : ∃ b : Nat, k' = (b : Int) := ⟨k'.toNat, by omega⟩
    have hin : In7 (a, b) := ⟨by show a < 7; omega, by show b < 7; omega⟩
    show Run (fIfS _ _ _ [x, nD many, nD wide, encPs ps, nD i, y, pD (a, b)] w3) _
    obtain ⟨nb, e1, _⟩ := notIn_P (a, b) ps
    refine run_if (run_and (run_gB (Run.of (a := .bool nb) (w := w3) (ev_bin (x := pD (a, b)) (y := encPs ps) rfl rfl e1) ⟨nb, rfl, ?_⟩)))
    have skip : Run ((fNil : SF Fd) [x, nD many, nD wide, encPs ps, nD i, y, pD (a, b)] w3) fun r w => match r with
        | .nx e => ∃ ps t y z, e = [x, nD many, nD wide, encPs ps, t, y, z] ∧ ps.length ≤ many ∧ (∀ p ∈ ps, In7 p) ∧ fdOk ns.length w
        | .ct e => ∃ ps t y z, e = [x, nD many, nD wide, encPs ps, t, y, z] ∧ ps.length ≤ many ∧ (∀ p ∈ ps, In7 p) ∧ fdOk ns.length w
        | .bk _ => False
        | .rt _ => False := Run.of (a := .nx _) (w := w3) rfl ⟨ps, _, _, _, rfl, hl, hp, hw3⟩
    have skip' := fun (QQ : Fl → Fd → Prop) (hq : ∀ e w, (∃ ps t y z, e = [x, nD many, nD wide, encPs ps, t, y, z] ∧ ps.length ≤ many ∧ (∀ p ∈ ps, In7 p) ∧ fdOk ns.length w) → QQ (.nx e) w ∧ QQ (.ct e) w) => skip.mono (Q := QQ) fun r w h => by
      cases r with
      | nx e => exact (hq e w h).1
      | ct e => exact (hq e w h).2
      | bk _ => exact h.elim
      | rt _ => exact h.elim
    cases nb with
    | false => exact skip' _ fun e w h => ⟨h, h⟩
    | true =>
      refine run_gB (Run.of (a := .bool (decide (ps.length < many))) (w := w3) (ev_bin (y := nD many) (ev_un (x := encPs ps) rfl (len_P ps)) rfl (lt_nat _ _)) ⟨_, rfl, ?_⟩)
      by_cases hlt : ps.length < many
      · rw [decide_eq_true hlt]
        refine run_app (ds := ps.map pD) (e := pD (a, b)) (w1 := w3) rfl rfl (by rw [List.length_map]; omega) ⟨ps ++ [(a, b)], nD i, y, pD (a, b), ?_, by rw [List.length_append, List.length_singleton]; omega, fun p hp' => ?_, hw3⟩
        · rw [snoc_P]; rfl
        · rcases List.mem_append.mp hp' with hp' | hp'
          · exact hp p hp'
          · rw [List.mem_singleton.mp hp']; exact hin
      · rw [decide_eq_false hlt]
        exact skip' _ fun e w h => ⟨h, h⟩
  case hn =>
    rintro env w ⟨ps, t, y, z, rfl, hl, hp, hw⟩
    refine run_seq (run_for0 (fun i env w => ∃ ps t y z, env = [x, nD many, nD wide, encPs ps, t, y, z] ∧ ps.length ≤ many ∧ (1 ≤ i → 1 ≤ ps.length) ∧ (∀ p ∈ ps, In7 p) ∧ fdOk ns.length w) many rfl (by omega) ?hn2 ?hs2 ⟨ps, _, _, _, rfl, hl, fun z => (by omega), hp, hw⟩)
    case hn2 =>
      rintro env w ⟨ps, t, y, z, rfl, hl, hg, hp, hw⟩
      exact run_ret (Run.of (a := encPs ps) (w := w) rfl ⟨ps, rfl, hg h1, hl, hp, hw⟩)
    case hs2 =>
      rintro i env w hi ⟨ps, t, y, z, rfl, hl, hg, hp, hw⟩
      show Run (fIfS _ _ _ [x, nD many, nD wide, encPs ps, t, nD i, z] w) _
      have tp : (fTup (aCons (fVar 5) (aCons (fBin dSub (fC (.int 6)) (fVar 5)) aNil)) : EF Fd) [x, nD many, nD wide, encPs ps, t, nD i, z] w = .ok (pD (i, 6 - i)) w :=
        ev_tup (ev_cons (x := nD i) rfl (ev_cons (ev_bin (x := nD 6) (y := nD i) rfl rfl (sub_nat (by omega))) rfl)) (by simp)
      have hin : In7 (i, 6 - i) := ⟨by show i < 7; omega, by show 6 - i < 7; omega⟩
      obtain ⟨nb, e1, e2⟩ := notIn_P (i, 6 - i) ps
      refine run_if (run_and (run_gB (Run.of (a := .bool (decide (ps.length < many))) (w := w) (ev_bin (y := nD many) (ev_un (x := encPs ps) rfl (len_P ps)) rfl (lt_nat _ _)) ⟨_, rfl, ?_⟩)))
      by_cases hlt : ps.length < many
      · rw [decide_eq_true hlt]
        refine run_gB (Run.of (a := .bool nb) (w := w) (ev_bin (x := pD (i, 6 - i)) (y := encPs ps) tp rfl e1) ⟨nb, rfl, ?_⟩)
        cases nb with
        | true =>
          refine run_app (ds := ps.map pD) (e := pD (i, 6 - i)) (w1 := w) rfl (ev_cons tp rfl) (by rw [List.length_map]; omega) ⟨ps ++ [(i, 6 - i)], t, nD i, z, ?_, by rw [List.length_append, List.length_singleton]; omega, fun _ => by rw [List.length_append, List.length_singleton]; omega, fun p hp' => ?_, hw⟩
          · rw [snoc_P]; rfl
          · rcases List.mem_append.mp hp' with hp' | hp'
            · exact hp p hp'
            · rw [List.mem_singleton.mp hp']; exact hin
        | false =>
          refine Run.of (a := .nx _) (w := w) rfl ⟨ps, _, _, _, rfl, hl, fun _ => ?_, hp, hw⟩
          have := e2 rfl
          cases ps with
          | nil => exact absurd rfl this
          | cons _ _ => simp
      · rw [decide_eq_false hlt]
        exact Run.of (a := .nx _) (w := w) rfl ⟨ps, _, _, _, rfl, hl, fun _ => by omega, hp, hw⟩
theorem number_ok {ns : List Int} {w : Fd} {kind : Nat} {x : D} (h : fdOk ns.length w) :
    Run (m__law_number ns [x, nD kind] w) fun d w' => (∃ z, d = .int z ∧ Bt 200 z) ∧ fdOk ns.length w' := by
  refine run_retW (n := 2) (s := f__law_number ns) ?_
  show Run (f__law_number ns [x, nD kind] w) _
  unfold f__law_number
  have small : ∀ z : Int, z.natAbs < 2 ^ 199 → Bt 200 z := fun z hz => Nat.lt_of_lt_of_le hz (Nat.pow_le_pow_right (by decide) (by decide))
  refine run_seq (run_if (Run.of (a := (kind == 0)) (w := w) (ev_gB (ev_bin (x := nD kind) (y := nD 0) rfl rfl (eqS_nat _ _))) ?_))
  cases kind == 0 with
  | true =>
    exact run_ret (run_callW1 (Run.of (a := .int 3) (w := w) rfl ((draw_ok (x := .none) h (many := 3) (by decide) (by decide)).mono fun d w2 ⟨k, e, k0, k1, hw2⟩ => ⟨⟨k, e, small k (by omega)⟩, hw2⟩)))
  | false =>
    refine Run.of (a := .nx [x, nD kind]) (w := w) rfl ?_
    refine run_seq (run_if (Run.of (a := (kind == 1)) (w := w) (ev_gB (ev_bin (x := nD kind) (y := nD 1) rfl rfl (eqS_nat _ _))) ?_))
    cases kind == 1 with
    | true =>
      refine run_ret (run_bin (run_callW1 (Run.of (a := .int 41) (w := w) rfl ((draw_ok (x := .none) h (many := 41) (by decide) (by decide)).mono fun d w2 ⟨k, e, k0, k1, hw2⟩ => ?_))))
      subst e
      exact Run.of (a := .int 20) (w := w2) rfl ⟨.int (k - 20), rfl, ⟨k - 20, rfl, small _ (by omega)⟩, hw2⟩
    | false =>
      refine Run.of (a := .nx [x, nD kind]) (w := w) rfl ?_
      refine run_ret (run_bin (run_bin (run_bin (run_callW1 (Run.of (a := .int 1000000000) (w := w) rfl ((draw_ok (x := .none) h (many := 1000000000) (by decide) (by decide)).mono fun d w2 ⟨k, e, k0, k1, hw2⟩ => ?_))))))
      subst e
      refine Run.of (a := .int 500000000) (w := w2) rfl ⟨.int (k - 500000000), rfl, Run.of (a := .int 100000000000000000000000000000000000000000000000000) (w := w2) rfl ⟨.int ((k - 500000000) * 100000000000000000000000000000000000000000000000000), ?_, run_callW1 (Run.of (a := .int 1000) (w := w2) rfl ((draw_ok (x := .none) hw2 (many := 1000) (by decide) (by decide)).mono fun d w3 ⟨k', e, k0', k1', hw3⟩ => ?_))⟩⟩
      · show ifs (cMul _ _) _ = _
        have : cMul (k - 500000000) 100000000000000000000000000000000000000000000000000 = true := by
          unfold cMul
          rw [ble_abs _ _ (by omega)]; rfl
        rw [this]; rfl
      · subst e
        exact ⟨.int ((k - 500000000) * 100000000000000000000000000000000000000000000000000 + k'), rfl, ⟨_, rfl, small _ (by omega)⟩, hw3⟩
end K93
namespace DL
open PySem L2
theorem min_nat (a b : Nat) : dMin2 (nD a) (nD b) = some (nD (min a b)) := by
  show some (PyData.int (if (b : Int) < (a : Int) then (b : Int) else (a : Int))) = some (PyData.int ((min a b : Nat) : Int))
  congr 2
  split
  · rw [Nat.min_eq_right (by omega)]
  · rw [Nat.min_eq_left (by omega)]
end DL
namespace K93
open DL PySem L2
theorem ixP_get {ps : List (Nat × Nat)} {i : Nat} (h : i < ps.length) : dIxL (encPs ps) (nD i) = some (pD (ps[i])) := by
  show (ps.map pD)[i]? = _
  rw [List.getElem?_map, List.getElem?_eq_getElem h]; rfl
theorem take_P (ps : List (Nat × Nat)) (k : Nat) : PyData.list (cutD (ps.map pD) none (some (k : Int))) = encPs (ps.take k) := by rw [cut_to, ← List.map_take]
def dueL (ss es : List (Nat × Nat)) : List (List Int) := ss.map fun s => es.map fun e => (cN s e : Int)
theorem dueL_enc (ss es : List (Nat × Nat)) : encT (dueL ss es) = .list (ss.map fun s => PyData.list (es.map fun e => nD (cN s e))) := by
  unfold dueL encT encL
  rw [List.map_map]
  congr 1
  refine List.map_congr_left fun s _ => ?_
  show PyData.list ((es.map fun e => (cN s e : Int)).map PyData.int) = _
  rw [List.map_map]; rfl
theorem dueL_sq {ss es : List (Nat × Nat)} {n : Nat} (h1 : ss.length = n) (h2 : es.length = n) (hs : ∀ p ∈ ss, In7 p) (he : ∀ p ∈ es, In7 p) : Sq n (dueL ss es) := by
  refine ⟨by unfold dueL; rw [List.length_map, h1], fun r hr => ?_⟩
  obtain ⟨s, hs', rfl⟩ := List.mem_map.mp hr
  refine ⟨by rw [List.length_map, h2], fun x hx => ?_⟩
  obtain ⟨e, he', rfl⟩ := List.mem_map.mp hx
  have := (paths_ok (hs s hs') (he e he')).2.2.1
  show (cN s e : Int).natAbs < 2 ^ 200
  exact Nat.lt_of_lt_of_le (show (cN s e : Int).natAbs < 2 ^ 10 by omega) (Nat.pow_le_pow_right (by decide) (by decide))
theorem fin1 : m_count_paths [pD (0, 0), pD (6, 6)] () = .ok (.int 924) () := by kernel_rfl
theorem fin2 : m_count_paths [pD (1, 0), pD (0, 6)] () = .ok (.int 0) () := by kernel_rfl
theorem encT_of {ys : List D} {n : Nat} (h : ∀ y ∈ ys, ∃ r : List Int, y = encL r ∧ r.length = n ∧ ∀ x ∈ r, Bt 200 x) : ∃ t : List (List Int), ys = t.map encL ∧ ∀ r ∈ t, r.length = n ∧ ∀ x ∈ r, Bt 200 x := by
  induction ys with
  | nil => exact ⟨[], rfl, fun _ z => by cases z⟩
  | cons y ys ih =>
    obtain ⟨t, e, ht⟩ := ih fun z hz => h z (List.mem_cons_of_mem _ hz)
    obtain ⟨r, e1, h1⟩ := h y List.mem_cons_self
    refine ⟨r :: t, by rw [e, e1]; rfl, fun z hz => ?_⟩
    rcases List.mem_cons.mp hz with rfl | hz
    · exact h1
    · exact ht z hz
theorem encL_of {ys : List D} (h : ∀ y ∈ ys, ∃ z, y = PyData.int z ∧ Bt 200 z) : ∃ r : List Int, ys = r.map PyData.int ∧ ∀ x ∈ r, Bt 200 x := by
  induction ys with
  | nil => exact ⟨[], rfl, fun _ z => by cases z⟩
  | cons y ys ih =>
    obtain ⟨t, e, ht⟩ := ih fun z hz => h z (List.mem_cons_of_mem _ hz)
    obtain ⟨r, e1, h1⟩ := h y List.mem_cons_self
    refine ⟨r :: t, by rw [e, e1]; rfl, fun z hz => ?_⟩
    rcases List.mem_cons.mp hz with rfl | hz
    · exact h1
    · exact ht z hz
theorem law_runs (ns : List Int) (_ : ns.length ≤ 63) : ∃ w, f_law ns (List.replicate 18 .none) ⟨0, 0, 1⟩ = .ok (.rt (.bool true)) w := by
  have main : Run (f_law ns [.none, .none, .none, .none, .none, .none, .none, .none, .none, .none, .none, .none, .none, .none, .none, .none, .none, .none] ⟨0, 0, 1⟩) fun r _ => r = .rt (.bool true) := by
    have w0 : fdOk ns.length ⟨0, 0, 1⟩ := ⟨by show (0 : Int) ≤ 0; omega, by show (0 : Int) ≤ (ns.length : Int); omega, by show (0 : Int) ≤ 0; omega, by show (0 : Int) ≤ 1; omega, by show (1 : Int) < 2147483648; omega⟩
    unfold f_law
    refine run_seq (run_for0 (fun i env w => (∃ a2 a3 a4 a5 a6 a7 a8 a9 a10 a11 a12 a13 a14 a15 a16 a17 : D, env = [.none, .none, a2, a3, a4, a5, a6, a7, a8, a9, a10, a11, a12, a13, a14, a15, a16, a17]) ∧ fdOk ns.length w) 2 rfl (by decide) ?hn ?hs ⟨⟨_, _, _, _, _, _, _, _, _, _, _, _, _, _, _, _, rfl⟩, w0⟩)
    case hn =>
      rintro env w ⟨⟨a2, a3, a4, a5, a6, a7, a8, a9, a10, a11, a12, a13, a14, a15, a16, a17, rfl⟩, hw⟩
      exact run_ret (Run.of (a := .bool true) (w := w) (ev_andT (w1 := w) (ev_call (ds := [.int 924, .int 924]) (ev_cons (ev_call (ds := [pD (0, 0), pD (6, 6)]) rfl rfl fin1) rfl) rfl (same_int _)) (ev_call (ds := [.int 0, .int 0]) (ev_cons (ev_call (ds := [pD (1, 0), pD (0, 6)]) rfl rfl fin2) rfl) rfl (same_int _))) rfl)
    case hs =>
      rintro i env w hi ⟨⟨a2, a3, a4, a5, a6, a7, a8, a9, a10, a11, a12, a13, a14, a15, a16, a17, rfl⟩, hw⟩
      show Run (fSeq _ _ [.none, .none, nD i, a3, a4, a5, a6, a7, a8, a9, a10, a11, a12, a13, a14, a15, a16, a17] w) _
      -- many, wide
      refine run_seq (run_set (run_bin (Run.of (a := .int 1) (w := w) rfl (run_callW1 (Run.of (a := .int 4) (w := w) rfl ((draw_ok (x := .none) hw (many := 4) (by decide) (by decide)).mono fun d w1 ⟨k, e, k0, k1, hw1⟩ => ?_))))))
      subst e
      obtain ⟨q, rfl⟩ : ∃ q : Nat, k = (q : Int) := ⟨k.toNat, by omega⟩
      refine ⟨nD (1 + q), rfl, ?_⟩
      generalize hm : 1 + q = m
      have m1 : 1 ≤ m := by omega
      have m4 : m ≤ 4 := by omega
      show Run (fSeq _ _ [.none, .none, nD i, nD m, a4, a5, a6, a7, a8, a9, a10, a11, a12, a13, a14, a15, a16, a17] w1) _
      refine run_seq (run_set (run_bin (Run.of (a := encN [3, 7]) (w := w1) rfl (run_callW1 (Run.of (a := .int 2) (w := w1) rfl ((draw_ok (x := .none) hw1 (many := 2) (by decide) (by decide)).mono fun d w2 ⟨k, e, k0, k1, hw2⟩ => ?_))))))
      subst e
      obtain ⟨q2, rfl⟩ : ∃ q : Nat, k = (q : Int) := ⟨k.toNat, by omega⟩
      have hwd : ∃ wd : Nat, dIxL (encN [3, 7]) (nD q2) = some (nD wd) ∧ 1 ≤ wd ∧ wd ≤ 7 := by
        rcases (show q2 = 0 ∨ q2 = 1 by omega) with rfl | rfl
        · exact ⟨3, rfl, by omega, by omega⟩
        · exact ⟨7, rfl, by omega, by omega⟩
      obtain ⟨wd, ewd, wd1, wd7⟩ := hwd
      refine ⟨nD wd, ewd, ?_⟩
      show Run (fSeq _ _ [.none, .none, nD i, nD m, nD wd, a5, a6, a7, a8, a9, a10, a11, a12, a13, a14, a15, a16, a17] w2) _
      -- starts, ends
      refine run_seq (run_set (run_callW2 (Run.of (a := nD m) (w := w2) rfl (Run.of (a := nD wd) (w := w2) rfl ((places_ok (x := .none) hw2 m1 m4 wd1 wd7).mono fun d w3 ⟨ss, e, s1, s4, hss, hw3⟩ => ?_)))))
      subst e
      show Run (fSeq _ _ [.none, .none, nD i, nD m, nD wd, encPs ss, a6, a7, a8, a9, a10, a11, a12, a13, a14, a15, a16, a17] w3) _
      refine run_seq (run_set (run_callW2 (Run.of (a := nD m) (w := w3) rfl (Run.of (a := nD 7) (w := w3) rfl ((places_ok (x := .none) hw3 m1 m4 (by omega) (Nat.le_refl 7)).mono fun d w4 ⟨es, e, e1, e4, hes, hw4⟩ => ?_)))))
      subst e
      show Run (fSeq _ _ [.none, .none, nD i, nD m, nD wd, encPs ss, encPs es, a7, a8, a9, a10, a11, a12, a13, a14, a15, a16, a17] w4) _
      refine run_seq (run_set (Run.of (ev_bin (ev_un (x := encPs ss) (w1 := w4) rfl (len_P ss)) (ev_un (x := encPs es) (w1 := w4) rfl (len_P es)) (min_nat _ _)) ?_))
      generalize hn : min ss.length es.length = n
      have n1 : 1 ≤ n := by omega
      have n4 : n ≤ 4 := by omega
      have hns : n ≤ ss.length := by omega
      have hne : n ≤ es.length := by omega
      show Run (fSeq _ _ [.none, .none, nD i, nD n, nD wd, encPs ss, encPs es, a7, a8, a9, a10, a11, a12, a13, a14, a15, a16, a17] w4) _
      have lS : (ss.take n).length = n := by rw [List.length_take]; omega
      have lE : (es.take n).length = n := by rw [List.length_take]; omega
      have iS : ∀ p ∈ ss.take n, In7 p := fun p hp => hss p (List.mem_of_mem_take hp)
      have iE : ∀ p ∈ es.take n, In7 p := fun p hp => hes p (List.mem_of_mem_take hp)
      have gS : ∀ x7 x8 x9 x14, (fSl (fVar 5) gNoPart (gPart (fVar 3)) : EF Fd) [.none, .none, nD i, nD n, nD wd, encPs ss, encPs es, x7, x8, x9, a10, a11, a12, a13, x14, a15, a16, a17] w4 = .ok (encPs (ss.take n)) w4 := fun x7 x8 x9 x14 => by
        rw [← take_P]
        exact ev_sl (ds := ss.map pD) rfl rfl rfl
      have gE : ∀ x7 x8 x9 x14, (fSl (fVar 6) gNoPart (gPart (fVar 3)) : EF Fd) [.none, .none, nD i, nD n, nD wd, encPs ss, encPs es, x7, x8, x9, a10, a11, a12, a13, x14, a15, a16, a17] w4 = .ok (encPs (es.take n)) w4 := fun x7 x8 x9 x14 => by
        rw [← take_P]
        exact ev_sl (ds := es.map pD) rfl rfl rfl
      have gv : ∀ x7 x8 x9, (fLst (aCons (fSl (fVar 5) gNoPart (gPart (fVar 3))) (aCons (fSl (fVar 6) gNoPart (gPart (fVar 3))) aNil)) : EF Fd) [.none, .none, nD i, nD n, nD wd, encPs ss, encPs es, x7, x8, x9, a10, a11, a12, a13, a14, a15, a16, a17] w4 = .ok (.list [encPs (ss.take n), encPs (es.take n)]) w4 := fun x7 x8 x9 =>
        ev_lst (ev_cons (gS _ _ _ _) (ev_cons (gE _ _ _ _) rfl)) (by simp)
      refine run_seq (run_set (Run.of (gv _ _ _) ?_))
      generalize hG : PyData.list [encPs (ss.take n), encPs (es.take n)] = G
      show Run (fSeq _ _ [.none, .none, nD i, nD n, nD wd, encPs ss, encPs es, G, a8, a9, a10, a11, a12, a13, a14, a15, a16, a17] w4) _
      -- due
      have ed := ev_lcY (W := Fd) (env := [.none, .none, nD i, nD n, nD wd, encPs ss, encPs es, G, a8, a9, a10, a11, a12, a13, a14, a15, a16, a17]) (w := w4) (fi := iL (fSl (fVar 5) gNoPart (gPart (fVar 3)))) (j := 14) (f := fLc (iL (fSl (fVar 6) gNoPart (gPart (fVar 3)))) (tgN 16) gYes (fCall 2 m__law_paths (aCons (fVar 14) (aCons (fVar 16) aNil)))) pD (fun s => PyData.list ((es.take n).map fun e => nD (cN s e))) (xs := ss.take n) (ev_iL (gS _ _ _ _)) (by omega) fun s hs =>
        ev_lcY (W := Fd) (env := [.none, .none, nD i, nD n, nD wd, encPs ss, encPs es, G, a8, a9, a10, a11, a12, a13, pD s, a15, a16, a17]) (w := w4) (fi := iL (fSl (fVar 6) gNoPart (gPart (fVar 3)))) (j := 16) (f := fCall 2 m__law_paths (aCons (fVar 14) (aCons (fVar 16) aNil))) pD (fun e => nD (cN s e)) (xs := es.take n) (ev_iL (gE _ _ _ _)) (by omega) fun e he =>
          ev_call (ds := [pD s, pD e]) rfl rfl (paths_ok (iS s hs) (iE e he)).2.1
      rw [← dueL_enc] at ed
      refine run_seq (run_set (Run.of ed ?_))
      have sqD := dueL_sq lS lE iS iE
      have ept : m_path_table [encPs (ss.take n), encPs (es.take n)] () = .ok (encT (dueL (ss.take n) (es.take n))) () := by
        refine run_def (fb := f_path_table) (n := 4) ?_
        show Run (f_path_table [encPs (ss.take n), encPs (es.take n), .none, .none] ()) _
        unfold f_path_table
        have e0 := ev_lcY (W := Unit) (env := [encPs (ss.take n), encPs (es.take n), .none, .none]) (w := ()) (fi := iL (fVar 0)) (j := 2) (f := fLc (iL (fVar 1)) (tgN 3) gYes (fCall 2 m_count_paths (aCons (fVar 2) (aCons (fVar 3) aNil)))) pD (fun s => PyData.list ((es.take n).map fun e => nD (cN s e))) (xs := ss.take n) rfl (by omega) fun s hs =>
          ev_lcY (W := Unit) (env := [encPs (ss.take n), encPs (es.take n), pD s, .none]) (w := ()) (fi := iL (fVar 1)) (j := 3) (f := fCall 2 m_count_paths (aCons (fVar 2) (aCons (fVar 3) aNil))) pD (fun e => nD (cN s e)) (xs := es.take n) rfl (by omega) fun e he =>
            ev_call (ds := [pD s, pD e]) rfl rfl (paths_ok (iS s hs) (iE e he)).1
        rw [← dueL_enc] at e0
        exact run_ret (Run.of e0 rfl)
      have hget : ∀ k (hk : k < n), (dueL (ss.take n) (es.take n)).getD k [] = (es.take n).map fun e => (cN (ss[k]'(by omega)) e : Int) := fun k hk => by
        unfold dueL
        rw [List.getD_eq_getElem?_getD, List.getElem?_map, List.getElem?_eq_getElem (by rw [lS]; exact hk), List.getElem_take]; rfl
      have hget2 : ∀ k (hk : k < n), ((dueL (ss.take n) (es.take n)).getD k []).getD k 0 = (cN (ss[k]'(by omega)) (es[k]'(by omega)) : Int) := fun k hk => by
        rw [hget k hk, List.getD_eq_getElem?_getD, List.getElem?_map, List.getElem?_eq_getElem (by rw [lE]; exact hk), List.getElem_take]; rfl
      have hlD := sqD.1
      have hlR := fun r hr => (sqD.2 r hr).1
      have esm := ev_summed sqD n1 n4
      have sDD := same_refl 6 _ (okS_T (t := dueL (ss.take n) (es.take n)) (by rw [hlD]; omega) fun r hr => by rw [hlR r hr]; omega)
      generalize hDU : dueL (ss.take n) (es.take n) = DU at *
      show Run (fSeq _ _ [.none, .none, nD i, nD n, nD wd, encPs ss, encPs es, G, encT DU, a9, a10, a11, a12, a13, a14, a15, a16, a17] w4) _
      -- told
      refine run_seq (run_set (Run.of (ev_call (ds := [encPs (ss.take n), encPs (es.take n)]) (ev_cons (ev_bin (x := G) (y := nD 0) rfl rfl (by rw [← hG]; rfl)) (ev_cons (ev_bin (x := G) (y := nD 1) rfl rfl (by rw [← hG]; rfl)) rfl)) rfl ept) ?_))
      show Run (fSeq _ _ [.none, .none, nD i, nD n, nD wd, encPs ss, encPs es, G, encT DU, encT DU, a10, a11, a12, a13, a14, a15, a16, a17] w4) _
      have shG : shp8 G = true := by
        rw [← hG]
        show ([encPs (ss.take n), encPs (es.take n)].all (shp 7)) = true
        have : ∀ ps : List (Nat × Nat), shp 7 (encPs ps) = true := fun ps => by
          show (ps.map pD).all (shp 6) = true
          rw [List.all_map, List.all_eq_true]
          exact fun _ _ => rfl
        simp only [List.all_cons, List.all_nil, this]; rfl
      have gv' := gv G (encT DU) (encT DU)
      rw [hG] at gv'
      refine run_seq (run_if (Run.of (a := false) (w := w4) (ev_orF (w1 := w4) (ev_not (b := true) (ev_gB (ev_call (ds := [encT DU, encT DU]) rfl rfl sDD))) (ev_orF (w1 := w4) (ev_gB (ev_bin (x := G) (y := G) rfl gv' (ne_refl shG))) (ev_not (b := true) (ev_gB (ev_call (ds := [encT DU]) rfl rfl esm))))) ?_))
      refine Run.of (a := .nx [.none, .none, nD i, nD n, nD wd, encPs ss, encPs es, G, encT DU, encT DU, a10, a11, a12, a13, a14, a15, a16, a17]) (w := w4) rfl ?_
      -- one by one
      refine run_seq (run_for0 (fun _ env w => (∃ x10 : D, env = [.none, .none, nD i, nD n, nD wd, encPs ss, encPs es, G, encT DU, encT DU, x10, a11, a12, a13, a14, a15, a16, a17]) ∧ fdOk ns.length w) n rfl (by omega) ?hn2 ?hs2 ⟨⟨_, rfl⟩, hw4⟩)
      case hs2 =>
        rintro k env w hk ⟨⟨x10, rfl⟩, hw⟩
        have hks : k < ss.length := by omega
        have hke : k < es.length := by omega
        have i1 := hss _ (List.getElem_mem hks)
        have i2 := hes _ (List.getElem_mem hke)
        obtain ⟨c1, _, _, _⟩ := paths_ok i1 i2
        obtain ⟨c2, _, _, c3⟩ := paths_ok i1 i1
        rw [c3 rfl] at c2
        have h2 := hget2 k hk
        show Run (fSeq _ _ [.none, .none, nD i, nD n, nD wd, encPs ss, encPs es, G, encT DU, encT DU, nD k, a11, a12, a13, a14, a15, a16, a17] w) _
        have ed2 : (fBin dIxL (fBin dIxL (fVar 8) (fVar 10)) (fVar 10) : EF Fd) [.none, .none, nD i, nD n, nD wd, encPs ss, encPs es, G, encT DU, encT DU, nD k, a11, a12, a13, a14, a15, a16, a17] w = .ok (nD (cN ss[k] es[k])) w := by
          have hr : DU.getD k [] ∈ DU := getD_mem (by rw [hlD]; exact hk)
          have := ev_bin (W := Fd) (env := [.none, .none, nD i, nD n, nD wd, encPs ss, encPs es, G, encT DU, encT DU, nD k, a11, a12, a13, a14, a15, a16, a17]) (w := w) (w1 := w) (w2 := w) (a := fBin dIxL (fVar 8) (fVar 10)) (b := fVar 10) (x := encL (DU.getD k [])) (y := nD k) (ev_bin (x := encT DU) (y := nD k) rfl rfl (ixT_get (by rw [hlD]; exact hk))) rfl (ixL_get (by rw [hlR _ hr]; exact hk))
          rw [h2] at this
          exact this
        have sI : ∀ z : Nat, m__law_same 6 [nD z, nD z] () = .ok (.bool true) () := fun z => same_int _
        refine run_seq (run_if (Run.of (a := false) (w := w) (ev_not (b := true) (ev_gB (ev_call (ds := [nD (cN ss[k] es[k]), nD (cN ss[k] es[k])]) (ev_cons (ev_call (ds := [pD ss[k], pD es[k]]) (ev_cons (ev_bin (x := encPs ss) (y := nD k) rfl rfl (ixP_get hks)) (ev_cons (w1 := w) (ev_bin (x := encPs es) (y := nD k) rfl rfl (ixP_get hke)) rfl)) rfl c1) (ev_cons ed2 rfl)) rfl (sI _)))) ?_))
        refine Run.of (a := .nx [.none, .none, nD i, nD n, nD wd, encPs ss, encPs es, G, encT DU, encT DU, nD k, a11, a12, a13, a14, a15, a16, a17]) (w := w) rfl ?_
        refine run_if (Run.of (a := false) (w := w) (ev_not (b := true) (ev_gB (ev_call (ds := [nD 1, nD 1]) (ev_cons (ev_call (ds := [pD ss[k], pD ss[k]]) (ev_cons (ev_bin (x := encPs ss) (y := nD k) rfl rfl (ixP_get hks)) (ev_cons (w1 := w) (ev_bin (x := encPs ss) (y := nD k) rfl rfl (ixP_get hks)) rfl)) rfl c2) rfl) rfl (sI 1)))) ?_)
        exact Run.of (a := .nx _) (w := w) rfl ⟨⟨_, rfl⟩, hw⟩
      case hn2 =>
        rintro env w ⟨⟨x10, rfl⟩, hw⟩
        refine run_seq (run_set (run_bin (Run.of (a := .int 1) (w := w) rfl (run_callW1 (Run.of (a := .int 4) (w := w) rfl ((draw_ok (x := .none) hw (many := 4) (by decide) (by decide)).mono fun d w5 ⟨k, e, k0, k1, hw5⟩ => ?_))))))
        subst e
        obtain ⟨q, rfl⟩ : ∃ q : Nat, k = (q : Int) := ⟨k.toNat, by omega⟩
        refine ⟨nD (1 + q), rfl, ?_⟩
        generalize hz : 1 + q = sz
        have z1 : 1 ≤ sz := by omega
        have z4 : sz ≤ 4 := by omega
        show Run (fSeq _ _ [.none, .none, nD i, nD n, nD wd, encPs ss, encPs es, G, encT DU, encT DU, x10, nD sz, a12, a13, a14, a15, a16, a17] w5) _
        refine run_seq (run_set (run_callW1 (Run.of (a := .int 3) (w := w5) rfl ((draw_ok (x := .none) hw5 (many := 3) (by decide) (by decide)).mono fun d w6 ⟨k, e, k0, k1, hw6⟩ => ?_))))
        subst e
        obtain ⟨kd, rfl⟩ : ∃ q : Nat, k = (q : Int) := ⟨k.toNat, by omega⟩
        show Run (fSeq _ _ [.none, .none, nD i, nD n, nD wd, encPs ss, encPs es, G, encT DU, encT DU, x10, nD sz, nD kd, a13, a14, a15, a16, a17] w6) _
        have rg : ∀ x15 w, (iR1 (fVar 11) : AF Fd) [.none, .none, nD i, nD n, nD wd, encPs ss, encPs es, G, encT DU, encT DU, x10, nD sz, nD kd, a13, a14, x15, a16, a17] w = .ok ((List.range sz).map nD) w := fun x15 w => by
          show lf (rg1 (nD sz)) w = _
          rw [rg1_of (by omega), rgF0]; rfl
        refine run_seq (run_set ((run_lcW (j := 15) nD (fun d => ∃ r : List Int, d = encL r ∧ r.length = sz ∧ ∀ x ∈ r, Bt 200 x) (fun w => fdOk ns.length w) (xs := List.range sz) (rg _ _) (by rw [List.length_range]; omega) hw6 fun y hy w hw => ?_).mono fun d w7 ⟨ys, e, hl, hP, hw7⟩ => ?_))
        · show Run (fLc _ _ _ _ [.none, .none, nD i, nD n, nD wd, encPs ss, encPs es, G, encT DU, encT DU, x10, nD sz, nD kd, a13, a14, nD y, a16, a17] w) _
          refine (run_lcW (j := 17) nD (fun d => ∃ z, d = PyData.int z ∧ Bt 200 z) (fun w => fdOk ns.length w) (xs := List.range sz) (rg _ _) (by rw [List.length_range]; omega) hw fun y hy w hw => ?_).mono fun d w7 ⟨ys, e, hl, hP, hw7⟩ => ?_
          · exact run_callW1 (Run.of (a := nD kd) (w := w) rfl (number_ok (x := .none) (kind := kd) hw))
          · obtain ⟨r, e1, hr⟩ := encL_of hP
            subst e e1
            exact ⟨⟨r, rfl, by rw [List.length_map, List.length_range] at hl; exact hl, hr⟩, hw7⟩
        · obtain ⟨t, e1, ht⟩ := encT_of hP
          subst e e1
          rw [List.length_map, List.length_range] at hl
          have sqt : Sq sz t := ⟨hl, ht⟩
          show Run (fIfS _ _ _ [.none, .none, nD i, nD n, nD wd, encPs ss, encPs es, G, encT DU, encT DU, x10, nD sz, nD kd, encT t, a14, a15, a16, a17] w7) _
          refine run_if (Run.of (a := false) (w := w7) (ev_not (b := true) (ev_gB (ev_call (ds := [encT t]) rfl rfl (ev_summed sqt z1 z4)))) ?_)
          exact Run.of (a := .nx _) (w := w7) rfl ⟨⟨_, _, _, _, _, _, _, _, _, _, _, _, _, _, _, _, rfl⟩, hw7⟩
  obtain ⟨r, w, e, rfl⟩ := main.ex
  exact ⟨w, e⟩
end K93

open PySem PySem.W PyProof.Rows
set_option maxHeartbeats 0 in
theorem PySem.Challenge.cw_bumpedrows_k93_paths_and_sums_with_signs_holds : PySem.Challenge.rw_bumpedrows_k93_paths_and_sums_with_signs.Holds := by
  w_on; o_law; k_head; (case hw => w_witness2)
  k_fill
  refine L2.walk_of (l := PySem.Challenge.rw_bumpedrows_k93_paths_and_sums_with_signs) (n := 63) (k := 9) (x := "script") (CX := fun _ => L2.CX0) (sp := fun w => DL.spLaw _) rfl (by decide) rfl ⟨rfl, by decide, by decide⟩ (fun w h Y => PySem.W.kIn_of Y) ?F (fun _ _ a ns hl _ hS => ⟨a, ns, rfl, hS, hl, fun _ => rfl⟩) (fun _ _ _ _ _ h => h)
  case F =>
    intro w mg fa h KX G hmg
    refine' K93.all_mk K93.law_runs KX G hmg ?a0 ?l0 ?c0 ?k0 ?a1 ?l1 ?c1 ?k1 ?a2 ?l2 ?c2 ?k2 ?a3 ?l3 ?c3 ?k3 ?a4 ?l4 ?c4 ?k4 ?a5 ?l5 ?c5 ?k5 ?a6 ?l6 ?c6 ?k6 ?a7 ?l7 ?c7 ?k7 ?a8 ?l8 ?c8 ?k8 ?a9 ?l9 ?c9 ?k9 ?a10 ?l10 ?c10 ?k10 ?a11 ?l11 ?c11 ?k11 ?a12 ?l12 ?c12 ?k12 ?a13 ?l13 ?c13 ?k13 ?a14 ?l14 ?c14 ?k14 ?a15 ?l15 ?c15 ?k15 ?y_abs ?y_all ?y_bool ?y_enumerate ?y_int ?y_isinstance ?y_len ?y_list ?y_min ?y_range ?y_str ?y_sum ?y_tuple ?y_zip
    (case a0 => k_is); (case l0 => k_is); (case c0 => k_is); (case k0 => k_is); (case a1 => k_is); (case l1 => k_is); (case c1 => k_is); (case k1 => k_is); (case a2 => k_is); (case l2 => k_is); (case c2 => k_is); (case k2 => k_is); (case a3 => k_is); (case l3 => k_is); (case c3 => k_is); (case k3 => k_is); (case a4 => k_is); (case l4 => k_is); (case c4 => k_is); (case k4 => k_is); (case a5 => k_is); (case l5 => k_is); (case c5 => k_is); (case k5 => k_is); (case a6 => k_is); (case l6 => k_is); (case c6 => k_is); (case k6 => k_is); (case a7 => k_is); (case l7 => k_is); (case c7 => k_is); (case k7 => k_is); (case a8 => k_is); (case l8 => k_is); (case c8 => k_is); (case k8 => k_is); (case a9 => k_is); (case l9 => k_is); (case c9 => k_is); (case k9 => k_is); (case a10 => k_is); (case l10 => k_is); (case c10 => k_is); (case k10 => k_is); (case a11 => k_is); (case l11 => k_is); (case c11 => k_is); (case k11 => k_is); (case a12 => k_is); (case l12 => k_is); (case c12 => k_is); (case k12 => k_is); (case a13 => k_is); (case l13 => k_is); (case c13 => k_is); (case k13 => k_is); (case a14 => k_is); (case l14 => k_is); (case c14 => k_is); (case k14 => k_is); (case a15 => k_is); (case l15 => k_is); (case c15 => k_is); (case k15 => k_is); (case y_abs => k_is); (case y_all => k_is); (case y_bool => k_is); (case y_enumerate => k_is); (case y_int => k_is); (case y_isinstance => k_is); (case y_len => k_is); (case y_list => k_is); (case y_min => k_is); (case y_range => k_is); (case y_str => k_is); (case y_sum => k_is); (case y_tuple => k_is); (case y_zip => k_is)
