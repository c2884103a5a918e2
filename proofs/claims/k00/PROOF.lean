import PyProof.Rows.All
import Wide.All
import OpenK.AllK
import Wide.FinOn
import HandS.ForMost
import HandS.ForExc
import KE.DataEq
import HandS.TupAny
import HandS.IsInst
import HandS.SetKeys
import HandS.Flow
import HandS.Deep
import HandS.DictComp
import HandS.Conv
import HandS.More
import HandS.TupLe
import HandS.ExcOwn
import HandS.WordsExc
import HandS.WordsDict
import HandS.Small
import HandS.SortOrd
import HandS.SortInts
import KE.SortData
import KE.KExcSuper
import HandS.ExcInit
import KE.KExcIs
import HandS.ExcField
import HandS.TryOnly
import HandS.ExcIs
import HandS.EndTab
import PySem.Challenge.RW_anynames_k00_rows_up_to_names
set_option Elab.async false
set_option linter.all false
set_option maxRecDepth 100000
set_option maxHeartbeats  4000000
set_option autoImplicit false
/-! The data layer, part A: plain data held by the abstract heap, owned containers, footprints. -/
namespace DY
open PySem PySem.Spec PyProof.Rows L2
abbrev Fg := PySem.W.Frag
abbrev Mg := Str → Option Value
abbrev Dt := PyData

def kD : Key → Dt
  | .inl i => .int i
  | .inr x => .str x
theorem kD_inj {a b : Key} (h : kD a = kD b) : a = b := by
  cases a <;> cases b <;> simp [kD] at h <;> simp [h]
/-- what is to be read at a as a dict, its entries in order -/
inductive DcF (F : Hp) : Addr → List (Dt × V) → Prop
  | k {a : Addr} {kvs : List (Key × V)} (h : F a = some (.dK kvs)) : DcF F a (kvs.map fun e => (kD e.1, e.2))
/-- a dict that may be written -/
inductive DcO (H : Hp) : Addr → List (Dt × V) → Prop
  | k {a : Addr} {kvs : List (Key × V)} (h : H a = some (.dK kvs)) : DcO H a (kvs.map fun e => (kD e.1, e.2))

mutual
inductive Rp (K : Fg) (F : Hp) : V → Dt → Prop
  | non : Rp K F .non .none
  | bl (b : Bool) : Rp K F (.bl b) (.bool b)
  | int (i : Int) : Rp K F (.int i) (.int i)
  | str (x : Str) : Rp K F (.str x) (.str x)
  | lst {a : Addr} {xs : List V} {ds : List Dt} (h : SqL K F a xs) (r : RpA K F xs ds) : Rp K F (.ref a) (.list ds)
  | tup {a : Addr} {xs : List V} {ds : List Dt} (h : SqT K F a xs) (r : RpA K F xs ds) : Rp K F (.ref a) (.tuple ds)
  | dic {a : Addr} {ks : List (Dt × V)} {es : List (Dt × Dt)} (h : DcF F a ks) (r : RpK K F ks es) : Rp K F (.ref a) (.dict es)
inductive RpA (K : Fg) (F : Hp) : List V → List Dt → Prop
  | nil : RpA K F [] []
  | cons {v : V} {vs : List V} {d : Dt} {ds : List Dt} (h : Rp K F v d) (r : RpA K F vs ds) : RpA K F (v :: vs) (d :: ds)
inductive RpK (K : Fg) (F : Hp) : List (Dt × V) → List (Dt × Dt) → Prop
  | nil : RpK K F [] []
  | cons {k : Dt} {v : V} {d : Dt} {ks : List (Dt × V)} {es : List (Dt × Dt)} (h : Rp K F v d) (r : RpK K F ks es) : RpK K F ((k, v) :: ks) ((k, d) :: es)
end

theorem sqT_same {K : Fg} {H H' : Hp} {a : Addr} {xs : List V} (e : Same H H') (h : SqT K H a xs) : SqT K H' a xs := by
  rcases h with (h | ⟨o, h⟩) | h
  · exact Or.inl (.inl (e a _ h))
  · exact Or.inl (.inr ⟨o, e a _ h⟩)
  · exact Or.inr h
theorem DcF.same {F F' : Hp} {a : Addr} {ks : List (Dt × V)} (e : Same F F') (h : DcF F a ks) : DcF F' a ks := by
  cases h with
  | k h => exact .k (e a _ h)
theorem DcO.rd {H : Hp} {a : Addr} {ks : List (Dt × V)} (h : DcO H a ks) : DcF H a ks := by
  cases h with
  | k h => exact .k h
theorem DcO.some {H : Hp} {a : Addr} {ks : List (Dt × V)} (h : DcO H a ks) : ∃ o, H a = some o := by
  cases h with
  | k h => exact ⟨_, h⟩
theorem DcO.of_eq {H H' : Hp} {a : Addr} {ks : List (Dt × V)} (h : DcO H a ks) (e : H' a = H a) : DcO H' a ks := by
  cases h with
  | k h => exact .k (e.trans h)

section
variable {K : Fg} {F F' H H' : Hp}
mutual
theorem Rp.same (e : Same F F') : ∀ {v : V} {d : Dt}, Rp K F v d → Rp K F' v d
  | _, _, .non => .non
  | _, _, .bl b => .bl b
  | _, _, .int i => .int i
  | _, _, .str x => .str x
  | _, _, .lst h r => .lst (e.seq h) (RpA.same e r)
  | _, _, .tup h r => .tup (sqT_same e h) (RpA.same e r)
  | _, _, .dic h r => .dic (h.same e) (RpK.same e r)
theorem RpA.same (e : Same F F') : ∀ {vs : List V} {ds : List Dt}, RpA K F vs ds → RpA K F' vs ds
  | _, _, .nil => .nil
  | _, _, .cons h r => .cons (Rp.same e h) (RpA.same e r)
theorem RpK.same (e : Same F F') : ∀ {ks : List (Dt × V)} {es : List (Dt × Dt)}, RpK K F ks es → RpK K F' ks es
  | _, _, .nil => .nil
  | _, _, .cons h r => .cons (Rp.same e h) (RpK.same e r)
end

theorem RpA.length : ∀ {vs : List V} {ds : List Dt}, RpA K F vs ds → vs.length = ds.length
  | _, _, .nil => rfl
  | _, _, .cons _ r => by simp [RpA.length r]
theorem RpA.get : ∀ {vs : List V} {ds : List Dt} {i : Nat} {d : Dt}, RpA K F vs ds → ds[i]? = some d → ∃ v, vs[i]? = some v ∧ Rp K F v d
  | _, _, _, _, .nil, e => by simp at e
  | _, _, 0, _, .cons h _, e => by simp at e; subst e; exact ⟨_, rfl, h⟩
  | _, _, i + 1, d, .cons _ r, e => by
    obtain ⟨v, h1, h2⟩ := RpA.get (i := i) (d := d) r (by simpa using e)
    exact ⟨v, by simpa using h1, h2⟩
theorem RpA.get' : ∀ {vs : List V} {ds : List Dt} {i : Nat} {v : V}, RpA K F vs ds → vs[i]? = some v → ∃ d, ds[i]? = some d ∧ Rp K F v d
  | _, _, _, _, .nil, e => by simp at e
  | _, _, 0, _, .cons h _, e => by simp at e; subst e; exact ⟨_, rfl, h⟩
  | _, _, i + 1, d, .cons _ r, e => by
    obtain ⟨v, h1, h2⟩ := RpA.get' (i := i) r (by simpa using e)
    exact ⟨v, by simpa using h1, h2⟩
theorem RpA.append : ∀ {vs ws : List V} {ds es : List Dt}, RpA K F vs ds → RpA K F ws es → RpA K F (vs ++ ws) (ds ++ es)
  | _, _, _, _, .nil, s => s
  | _, _, _, _, .cons h r, s => .cons h (RpA.append r s)
theorem RpA.take : ∀ {vs : List V} {ds : List Dt} (n : Nat), RpA K F vs ds → RpA K F (vs.take n) (ds.take n)
  | _, _, 0, _ => by simpa using RpA.nil
  | _, _, n + 1, .nil => by simpa using RpA.nil
  | _, _, n + 1, .cons h r => .cons h (RpA.take n r)
theorem RpA.drop : ∀ {vs : List V} {ds : List Dt} (n : Nat), RpA K F vs ds → RpA K F (vs.drop n) (ds.drop n)
  | _, _, 0, r => r
  | _, _, n + 1, .nil => by simpa using RpA.nil
  | _, _, n + 1, .cons h r => RpA.drop n r
theorem RpA.set : ∀ {vs : List V} {ds : List Dt} {v : V} {d : Dt} (n : Nat), RpA K F vs ds → Rp K F v d → RpA K F (vs.set n v) (ds.set n d)
  | _, _, _, _, _, .nil, _ => .nil
  | _, _, _, _, 0, .cons _ r, h => .cons h r
  | _, _, _, _, n + 1, .cons h r, h' => .cons h (RpA.set n r h')
theorem RpA.reverse : ∀ {vs : List V} {ds : List Dt}, RpA K F vs ds → RpA K F vs.reverse ds.reverse
  | _, _, .nil => .nil
  | _, _, .cons h r => by
    rw [List.reverse_cons, List.reverse_cons]
    exact (RpA.reverse r).append (.cons h .nil)
theorem RpA.strs : ∀ ys : List Str, RpA K F (ys.map V.str) (ys.map PyData.str)
  | [] => .nil
  | y :: r => .cons (.str y) (RpA.strs r)
theorem RpA.ints : ∀ ys : List Int, RpA K F (ys.map V.int) (ys.map PyData.int)
  | [] => .nil
  | y :: r => .cons (.int y) (RpA.ints r)
theorem RpA.strs_inv : ∀ {vs : List V} {ys : List Str}, RpA K F vs (ys.map PyData.str) → vs = ys.map V.str
  | _, [], h => by cases h; rfl
  | _, y :: r, h => by
    cases h with
    | cons h t =>
      cases h
      rw [RpA.strs_inv t]
      rfl
theorem RpA.ints_inv : ∀ {vs : List V} {ys : List Int}, RpA K F vs (ys.map PyData.int) → vs = ys.map V.int
  | _, [], h => by cases h; rfl
  | _, y :: r, h => by
    cases h with
    | cons h t =>
      cases h
      rw [RpA.ints_inv t]
      rfl
theorem RpK.length : ∀ {ks : List (Dt × V)} {es : List (Dt × Dt)}, RpK K F ks es → ks.length = es.length
  | _, _, .nil => rfl
  | _, _, .cons _ r => by simp [RpK.length r]
theorem RpK.keys : ∀ {ks : List (Dt × V)} {es : List (Dt × Dt)}, RpK K F ks es → ks.map (·.1) = es.map (·.1)
  | _, _, .nil => rfl
  | _, _, .cons _ r => by simp [RpK.keys r]
/-- of the scalars -/
def scalD : Dt → Option V
  | .none => some .non
  | .bool b => some (.bl b)
  | .int i => some (.int i)
  | .str x => some (.str x)
  | _ => none
theorem Rp.scal {v : V} {d : Dt} (h : scalD d = some v) : Rp K F v d := by
  cases d <;> simp [scalD] at h <;> subst h
  · exact .non
  · exact .bl _
  · exact .int _
  · exact .str _
theorem Rp.scal_inv {v w : V} {d : Dt} (r : Rp K F v d) (h : scalD d = some w) : v = w := by
  cases r <;> simp [scalD] at h <;> exact h
end

/-! ### owned things -/
inductive Ow where
  | val (d : Dt) | lst (ds : List Dt) | dic (es : List (Dt × Dt))
inductive Rs where
  | ow (o : Ow) | obj (c : Str) (fs : List (Str × Ow))
abbrev Rs.val (d : Dt) : Rs := .ow (.val d)
abbrev Rs.lst (ds : List Dt) : Rs := .ow (.lst ds)
abbrev Rs.dic (es : List (Dt × Dt)) : Rs := .ow (.dic es)
def Ow.frz : Ow → Dt
  | .val d => d
  | .lst ds => .list ds
  | .dic es => .dict es
def Rs.frz : Rs → Option Dt
  | .ow o => some o.frz
  | .obj _ _ => none

section
variable (K : Fg) (mg : Mg) (F H : Hp)
inductive OwR : V → Ow → List Addr → Prop
  | val {v : V} {d : Dt} (h : Rp K F v d) : OwR v (.val d) []
  | lst {p : Addr} {xs : List V} {ds : List Dt} (h : H p = some (.lst xs)) (r : RpA K F xs ds) : OwR (.ref p) (.lst ds) [p]
  | dic {p : Addr} {ks : List (Dt × V)} {es : List (Dt × Dt)} (h : DcO H p ks) (r : RpK K F ks es) : OwR (.ref p) (.dic es) [p]
inductive FsR : List (Str × V) → List (Str × Ow) → List Addr → Prop
  | nil : FsR [] [] []
  | cons {f : Str} {v : V} {o : Ow} {fv : List (Str × V)} {fs : List (Str × Ow)} {A B : List Addr} (h : OwR K F H v o A) (r : FsR fv fs B) : FsR ((f, v) :: fv) ((f, o) :: fs) (A ++ B)
inductive RsR : V → Rs → List Addr → Prop
  | ow {v : V} {o : Ow} {A : List Addr} (h : OwR K F H v o A) : RsR v (.ow o) A
  | obj {c : Str} {p C dx : Addr} {fv : List (Str × V)} {fs : List (Str × Ow)} {A : List Addr} (hc : mg c = some (.ref C)) (h : H p = some (.ins C dx fv)) (r : FsR K F H fv fs A) : RsR (.ref p) (.obj c fs) (p :: A)
abbrev Itms := List (V × Rs)
inductive ItR : Itms → List Addr → Prop
  | nil : ItR [] []
  | cons {v : V} {r : Rs} {l : Itms} {A B : List Addr} (h : RsR K mg F H v r A) (t : ItR l B) : ItR ((v, r) :: l) (A ++ B)
end
section
variable {K : Fg} {mg : Mg} {F F' H H' : Hp}
theorem OwR.there {v : V} {o : Ow} {A : List Addr} (h : OwR K F H v o A) : ∀ a ∈ A, ∃ x, H a = some x := by
  cases h with
  | val _ => intro a ha; cases ha
  | lst h _ => intro a ha; simp at ha; subst ha; exact ⟨_, h⟩
  | dic h _ => intro a ha; simp at ha; subst ha; exact h.some
theorem FsR.there {fv : List (Str × V)} {fs : List (Str × Ow)} {A : List Addr} (h : FsR K F H fv fs A) : ∀ a ∈ A, ∃ x, H a = some x := by
  induction h with
  | nil => intro a ha; cases ha
  | cons h r ih =>
    intro a ha
    rcases List.mem_append.mp ha with ha | ha
    · exact h.there a ha
    · exact ih a ha
theorem RsR.there {v : V} {r : Rs} {A : List Addr} (h : RsR K mg F H v r A) : ∀ a ∈ A, ∃ x, H a = some x := by
  cases h with
  | ow h => exact h.there
  | obj hc h r =>
    intro a ha
    rcases List.mem_cons.mp ha with rfl | ha
    · exact ⟨_, h⟩
    · exact r.there a ha
theorem ItR.there {l : Itms} {A : List Addr} (h : ItR K mg F H l A) : ∀ a ∈ A, ∃ x, H a = some x := by
  induction h with
  | nil => intro a ha; cases ha
  | cons h r ih =>
    intro a ha
    rcases List.mem_append.mp ha with ha | ha
    · exact h.there a ha
    · exact ih a ha
/-- the heap changes elsewhere, more is frozen -/
theorem OwR.move (e : Same F F') {v : V} {o : Ow} {A : List Addr} (h : OwR K F H v o A) (k : ∀ a ∈ A, H' a = H a) : OwR K F' H' v o A := by
  cases h with
  | val h => exact .val (h.same e)
  | lst h r => exact .lst ((k _ (by simp)).trans h) (r.same e)
  | dic h r => exact .dic (h.of_eq (k _ (by simp))) (r.same e)
theorem FsR.move (e : Same F F') {fv : List (Str × V)} {fs : List (Str × Ow)} {A : List Addr} (h : FsR K F H fv fs A) (k : ∀ a ∈ A, H' a = H a) : FsR K F' H' fv fs A := by
  induction h with
  | nil => exact .nil
  | cons h r ih => exact .cons (h.move e fun a ha => k a (List.mem_append_left _ ha)) (ih fun a ha => k a (List.mem_append_right _ ha))
theorem RsR.move (e : Same F F') {v : V} {r : Rs} {A : List Addr} (h : RsR K mg F H v r A) (k : ∀ a ∈ A, H' a = H a) : RsR K mg F' H' v r A := by
  cases h with
  | ow h => exact .ow (h.move e k)
  | obj hc h r => exact .obj hc ((k _ List.mem_cons_self).trans h) (r.move e fun a ha => k a (List.mem_cons_of_mem _ ha))
theorem ItR.move (e : Same F F') {l : Itms} {A : List Addr} (h : ItR K mg F H l A) (k : ∀ a ∈ A, H' a = H a) : ItR K mg F' H' l A := by
  induction h with
  | nil => exact .nil
  | cons h r ih => exact .cons (h.move e fun a ha => k a (List.mem_append_left _ ha)) (ih fun a ha => k a (List.mem_append_right _ ha))
theorem ItR.perm {l l' : Itms} (p : l.Perm l') : ∀ {A : List Addr}, ItR K mg F H l A → ∃ B, ItR K mg F H l' B ∧ A.Perm B := by
  induction p with
  | nil => intro A h; exact ⟨A, h, List.Perm.refl _⟩
  | cons x _ ih =>
    intro A h
    cases h with
    | cons h t =>
      obtain ⟨B, h2, p2⟩ := ih t
      exact ⟨_, .cons h h2, List.Perm.append_left _ p2⟩
  | swap x y l =>
    intro A h
    cases h with
    | cons h t =>
      cases t with
      | cons h2 t =>
        refine ⟨_, .cons h2 (.cons h t), ?_⟩
        rw [← List.append_assoc, ← List.append_assoc]
        exact List.Perm.append_right _ List.perm_append_comm
  | trans _ _ ih1 ih2 =>
    intro A h
    obtain ⟨B, h1, p1⟩ := ih1 h
    obtain ⟨C, h2, p2⟩ := ih2 h1
    exact ⟨C, h2, p1.trans p2⟩
theorem ItR.append {l m : Itms} {A B : List Addr} (h : ItR K mg F H l A) (h' : ItR K mg F H m B) : ItR K mg F H (l ++ m) (A ++ B) := by
  induction h with
  | nil => exact h'
  | cons h t ih => rw [List.append_assoc]; exact .cons h ih
theorem ItR.split : ∀ {l m : Itms} {A : List Addr}, ItR K mg F H (l ++ m) A → ∃ B C, A = B ++ C ∧ ItR K mg F H l B ∧ ItR K mg F H m C
  | [], m, A, h => ⟨[], A, rfl, .nil, h⟩
  | (v, r) :: l, m, A, h => by
    cases h with
    | cons h t =>
      obtain ⟨B, C, e, h1, h2⟩ := ItR.split (l := l) t
      exact ⟨_, C, by rw [e, List.append_assoc], .cons h h1, h2⟩
end

/-- F: what is frozen; Z: what is others'; the items own the rest that they reach -/
structure Hf (K : Fg) (mg : Mg) (F₀ Z F H : Hp) (its : Itms) (A : List Addr) : Prop where
  old : Same F₀ F
  frz : Same F H
  oth : Same Z H
  off : ∀ b o, F b = some o → Z b = none
  its : ItR K mg F H its A
  nd : A.Nodup
  own : ∀ a ∈ A, F a = none ∧ Z a = none
def Hld (K : Fg) (mg : Mg) (F₀ Z H : Hp) (its : Itms) : Prop := ∃ F A, Hf K mg F₀ Z F H its A
section
variable {K : Fg} {mg : Mg} {F₀ Z F H : Hp} {l m : Itms} {A : List Addr} {v : V} {r : Rs} {d : Dt}
theorem Hf.perm (h : Hf K mg F₀ Z F H l A) (p : l.Perm m) : ∃ B, Hf K mg F₀ Z F H m B := by
  obtain ⟨B, h2, q⟩ := ItR.perm p h.its
  exact ⟨B, h.old, h.frz, h.oth, h.off, h2, q.nodup_iff.mp h.nd, fun a ha => h.own a (q.mem_iff.mpr ha)⟩
theorem Hld.perm (h : Hld K mg F₀ Z H l) (p : l.Perm m) : Hld K mg F₀ Z H m := by
  obtain ⟨F, A, h⟩ := h
  obtain ⟨B, h⟩ := h.perm p
  exact ⟨F, B, h⟩
theorem Hf.drop (h : Hf K mg F₀ Z F H ((v, r) :: l) A) : ∃ B, Hf K mg F₀ Z F H l B := by
  cases h.its with
  | cons h1 t => exact ⟨_, h.old, h.frz, h.oth, h.off, t, (List.nodup_append.mp h.nd).2.1, fun a ha => h.own a (List.mem_append_right _ ha)⟩
theorem Hld.drop (h : Hld K mg F₀ Z H ((v, r) :: l)) : Hld K mg F₀ Z H l := by
  obtain ⟨F, A, h⟩ := h
  obtain ⟨B, h⟩ := h.drop
  exact ⟨F, B, h⟩
theorem Hld.sub (h : Hld K mg F₀ Z H (l ++ m)) : Hld K mg F₀ Z H m := by
  induction l with
  | nil => exact h
  | cons x l ih => exact ih h.drop
/-- a frozen datum beside -/
theorem Hf.add (h : Hf K mg F₀ Z F H l A) (r : Rp K F v d) : Hf K mg F₀ Z F H ((v, .val d) :: l) A :=
  ⟨h.old, h.frz, h.oth, h.off, .cons (A := []) (.ow (.val r)) h.its, h.nd, h.own⟩
theorem Hf.val (h : Hf K mg F₀ Z F H ((v, .val d) :: l) A) : Rp K F v d := by
  cases h.its with
  | cons h1 t => cases h1 with | ow h1 => cases h1 with | val h1 => exact h1
theorem Hf.mem (h : Hf K mg F₀ Z F H l A) : ∀ {v d}, (v, Rs.val d) ∈ l → Rp K F v d := by
  have key : ∀ {l : Itms} {A : List Addr}, ItR K mg F H l A → ∀ {v d}, (v, Rs.val d) ∈ l → Rp K F v d := by
    intro l A h
    induction h with
    | nil => intro v d hm; cases hm
    | cons h1 t ih =>
      intro v d hm
      rcases List.mem_cons.mp hm with e | hm
      · cases e
        cases h1 with | ow h1 => cases h1 with | val h1 => exact h1
      · exact ih hm
  intro v d hm
  exact key h.its hm
theorem Hld.scal (h : Hld K mg F₀ Z H l) (e : scalD d = some v) : Hld K mg F₀ Z H ((v, .val d) :: l) := by
  obtain ⟨F, A, h⟩ := h
  exact ⟨F, A, h.add (Rp.scal e)⟩
theorem Hf.fresh (h : Hf K mg F₀ Z F H l A) {p : Addr} (n : H p = none) : F p = none ∧ Z p = none ∧ p ∉ A := by
  refine ⟨h.frz.free n, h.oth.free n, fun hp => ?_⟩
  obtain ⟨x, e⟩ := h.its.there p hp
  rw [n] at e; cases e
theorem same_up {H : Hp} {p : Addr} {o : HO} (n : H p = none) : Same H (upd H p o) := fun b x e => by
  rw [upd_ne (ne_of_none e n)]; exact e
theorem same_upF {F H : Hp} {p : Addr} {o : HO} (s : Same F H) (n : F p = none) : Same F (upd H p o) := fun b x e => by
  rw [upd_ne (ne_of_none e n)]; exact s b x e
/-- a new owned list -/
theorem Hf.newL (h : Hf K mg F₀ Z F H l A) {p : Addr} (n : H p = none) {xs : List V} {ds : List Dt} (r : RpA K F xs ds) : Hf K mg F₀ Z F (upd H p (.lst xs)) ((.ref p, .lst ds) :: l) (p :: A) := by
  obtain ⟨f, z, na⟩ := h.fresh n
  refine ⟨h.old, same_upF h.frz f, same_upF h.oth z, h.off, .cons (A := [p]) (.ow (.lst upd_same r)) (h.its.move (Same.refl F) fun a ha => upd_ne fun e => na (e ▸ ha)), List.nodup_cons.mpr ⟨na, h.nd⟩, fun a ha => ?_⟩
  rcases List.mem_cons.mp ha with rfl | ha
  · exact ⟨f, z⟩
  · exact h.own a ha
theorem Hf.newD (h : Hf K mg F₀ Z F H l A) {p : Addr} {o : HO} (n : H p = none) {ks : List (Dt × V)} {es : List (Dt × Dt)} (hd : DcO (upd H p o) p ks) (r : RpK K F ks es) : Hf K mg F₀ Z F (upd H p o) ((.ref p, .dic es) :: l) (p :: A) := by
  obtain ⟨f, z, na⟩ := h.fresh n
  refine ⟨h.old, same_upF h.frz f, same_upF h.oth z, h.off, .cons (A := [p]) (.ow (.dic hd r)) (h.its.move (Same.refl F) fun a ha => upd_ne fun e => na (e ▸ ha)), List.nodup_cons.mpr ⟨na, h.nd⟩, fun a ha => ?_⟩
  rcases List.mem_cons.mp ha with rfl | ha
  · exact ⟨f, z⟩
  · exact h.own a ha
/-- a new tuple, frozen at once -/
theorem Hf.newT (h : Hf K mg F₀ Z F H l A) {p : Addr} (n : H p = none) {xs : List V} {ds : List Dt} (r : RpA K F xs ds) : Hf K mg F₀ Z (upd F p (.tup xs)) (upd H p (.tup xs)) ((.ref p, .val (.tuple ds)) :: l) A := by
  obtain ⟨f, z, na⟩ := h.fresh n
  have s1 : Same F (upd F p (.tup xs)) := same_up f
  refine ⟨h.old.trans s1, fun b x e => ?_, same_upF h.oth z, fun b x e => ?_, .cons (A := []) (.ow (.val (.tup (.inl (.inl upd_same)) (r.same s1)))) (h.its.move s1 fun a ha => upd_ne fun e => na (e ▸ ha)), h.nd, fun a ha => ?_⟩
  · by_cases hb : b = p
    · subst hb; rw [upd_same] at e ⊢; exact e
    · rw [upd_ne hb] at e ⊢; exact h.frz b x e
  · by_cases hb : b = p
    · subst hb; exact z
    · rw [upd_ne hb] at e; exact h.off b x e
  · exact ⟨by rw [upd_ne (fun e : a = p => na (e ▸ ha))]; exact (h.own a ha).1, (h.own a ha).2⟩
/-- an owned list is written -/
theorem Hf.putL {p : Addr} {ds : List Dt} (h : Hf K mg F₀ Z F H ((.ref p, .lst ds) :: l) A) {xs' : List V} {ds' : List Dt} (r : RpA K F xs' ds') : Hf K mg F₀ Z F (upd H p (.lst xs')) ((.ref p, .lst ds') :: l) A := by
  cases h.its with
  | cons h1 t =>
    cases h1 with
    | ow h1 =>
      cases h1 with
      | lst e r0 =>
        have hp := h.own p (by simp)
        refine ⟨h.old, same_upF h.frz hp.1, same_upF h.oth hp.2, h.off, .cons (A := [p]) (.ow (.lst upd_same r)) (t.move (Same.refl F) fun a ha => upd_ne fun e => ?_), h.nd, h.own⟩
        subst e
        exact (List.nodup_cons.mp h.nd).1 ha
theorem Hf.putD {p : Addr} {es : List (Dt × Dt)} (h : Hf K mg F₀ Z F H ((.ref p, .dic es) :: l) A) {o : HO} {ks' : List (Dt × V)} {es' : List (Dt × Dt)} (hd : DcO (upd H p o) p ks') (r : RpK K F ks' es') : Hf K mg F₀ Z F (upd H p o) ((.ref p, .dic es') :: l) A := by
  cases h.its with
  | cons h1 t =>
    cases h1 with
    | ow h1 =>
      cases h1 with
      | dic e r0 =>
        have hp := h.own p (by simp)
        refine ⟨h.old, same_upF h.frz hp.1, same_upF h.oth hp.2, h.off, .cons (A := [p]) (.ow (.dic hd r)) (t.move (Same.refl F) fun a ha => upd_ne fun e => ?_), h.nd, h.own⟩
        subst e
        exact (List.nodup_cons.mp h.nd).1 ha
theorem Hf.lst {ds : List Dt} (h : Hf K mg F₀ Z F H ((v, .lst ds) :: l) A) : ∃ p xs, v = .ref p ∧ H p = some (.lst xs) ∧ RpA K F xs ds := by
  cases h.its with
  | cons h1 t => cases h1 with | ow h1 => cases h1 with | lst e r0 => exact ⟨_, _, rfl, e, r0⟩
theorem Hf.dic {es : List (Dt × Dt)} (h : Hf K mg F₀ Z F H ((v, .dic es) :: l) A) : ∃ p ks, v = .ref p ∧ DcO H p ks ∧ RpK K F ks es := by
  cases h.its with
  | cons h1 t => cases h1 with | ow h1 => cases h1 with | dic e r0 => exact ⟨_, _, rfl, e, r0⟩
/-- an owned container is frozen -/
theorem Hf.freeze {o : Ow} (h : Hf K mg F₀ Z F H ((v, .ow o) :: l) A) : ∃ F' B, Hf K mg F₀ Z F' H ((v, .val o.frz) :: l) B := by
  have main : ∀ {p : Addr} {x : HO} {B : List Addr}, ItR K mg F H l B → A = p :: B → H p = some x → (∀ F', Same F F' → F' p = some x → Rp K F' v o.frz) → ∃ F' B, Hf K mg F₀ Z F' H ((v, .val o.frz) :: l) B := by
    intro p x B t eA e rp
    subst eA
    have hp := h.own p (by simp)
    have s1 : Same F (upd F p x) := same_up hp.1
    refine ⟨upd F p x, B, h.old.trans s1, fun b y q => ?_, h.oth, fun b y q => ?_, .cons (A := []) (.ow (.val (rp _ s1 upd_same))) (t.move s1 fun _ _ => rfl), (List.nodup_cons.mp h.nd).2, fun a ha => ?_⟩
    · by_cases hb : b = p
      · subst hb; rw [upd_same] at q; cases q; exact e
      · rw [upd_ne hb] at q; exact h.frz b y q
    · by_cases hb : b = p
      · subst hb; exact hp.2
      · rw [upd_ne hb] at q; exact h.off b y q
    · have ne : a ≠ p := fun e => by subst e; exact (List.nodup_cons.mp h.nd).1 ha
      exact ⟨by rw [upd_ne ne]; exact (h.own a (List.mem_cons_of_mem _ ha)).1, (h.own a (List.mem_cons_of_mem _ ha)).2⟩
  cases hi : h.its with
  | cons h1 t =>
    cases h1 with
    | ow h1 =>
      cases h1 with
      | val r => exact ⟨F, _, h⟩
      | lst e r0 => exact main t rfl e fun F' s q => .lst (.inl (.inl q)) (r0.same s)
      | dic e r0 =>
        cases e with
        | k e => exact main t rfl e fun F' s q => .dic (.k q) (r0.same s)
theorem Hld.freeze (h : Hld K mg F₀ Z H ((v, r) :: l)) (e : r.frz = some d) : Hld K mg F₀ Z H ((v, .val d) :: l) := by
  obtain ⟨F, A, h⟩ := h
  cases r with
  | obj c fs => cases e
  | ow o =>
    cases e
    obtain ⟨F', B, h'⟩ := h.freeze
    exact ⟨F', B, h'⟩
theorem Hld.dup (h : Hld K mg F₀ Z H ((v, .val d) :: l)) : Hld K mg F₀ Z H ((v, .val d) :: (v, .val d) :: l) := by
  obtain ⟨F, A, h⟩ := h
  exact ⟨F, A, h.add h.val⟩
end
end DY

/-! The data layer, part B: states, what a reading means over data, expressions. -/
namespace DY
open PySem PySem.Spec PyProof.Rows L2
/-- a slot: nothing known, a thing of its own, or the place of a borrowed thing -/
inductive Sl where
  | un | own (r : Rs) | brw (k : Nat)
abbrev DS := List Sl
abbrev Sg := L2.St
structure Exn where
  nm : Str
  fs : List (Str × Dt)
abbrev M (α : Type) := DS → Option (Except Exn α × DS)
def M.p {α : Type} (a : α) : M α := fun st => some (.ok a, st)
def M.b {α β : Type} (m : M α) (f : α → M β) : M β := fun st => match m st with
  | some (.ok a, st') => f a st'
  | some (.error x, st') => some (.error x, st')
  | none => none
def M.o {α : Type} (o : Option α) : M α := fun st => match o with
  | some a => some (.ok a, st)
  | none => none
def Aft {α : Type} (o : Option (Except Exn α × DS)) (k : α → DS → Prop) (e : Exn → DS → Prop) : Prop := match o with
  | some (.ok a, st) => k a st
  | some (.error x, st) => e x st
  | none => False
theorem Aft.bind {α β : Type} {m : M α} {f : α → M β} {st : DS} {k : β → DS → Prop} {e : Exn → DS → Prop} (h : Aft (M.b m f st) k e) : Aft (m st) (fun a st' => Aft (f a st') k e) e := by
  unfold M.b at h
  cases q : m st with
  | none => rw [q] at h; exact h
  | some x =>
    obtain ⟨x, st'⟩ := x
    rw [q] at h
    cases x with
    | ok a => exact h
    | error x => exact h
theorem Aft.imp {α : Type} {o : Option (Except Exn α × DS)} {k k' : α → DS → Prop} {e e' : Exn → DS → Prop} (h : Aft o k e) (hk : ∀ a st, k a st → k' a st) (he : ∀ x st, e x st → e' x st) : Aft o k' e' := by
  cases o with
  | none => exact h
  | some x =>
    obtain ⟨x, st'⟩ := x
    cases x with
    | ok a => exact hk a st' h
    | error x => exact he x st' h
theorem Aft.opt {α : Type} {o : Option α} {st : DS} {k : α → DS → Prop} {e : Exn → DS → Prop} (h : Aft (M.o o st) k e) : ∃ a, o = some a ∧ k a st := by
  cases o with
  | none => exact h.elim
  | some a => exact ⟨a, rfl, h⟩

/-- the items of the slots -/
def slIt : List (Option V) → DS → Itms
  | v :: vs, s :: st => match v, s with
    | some v, .own r => (v, r) :: slIt vs st
    | _, _ => slIt vs st
  | _, _ => []
/-- n: how many slots are the def's own -/
structure SlOk (n : Nat) (vs : List (Option V)) (st : DS) : Prop where
  len : vs.length = st.length
  own : ∀ (i : Nat) r, st[i]? = some (.own r) → ∃ v, vs[i]? = some (some v)
  brw : ∀ (i : Nat) k, st[i]? = some (.brw k) → n ≤ k ∧ ∃ v, vs[i]? = some (some v) ∧ vs[k]? = some (some v)
theorem slIt_set : ∀ {vs : List (Option V)} {st : DS} {i : Nat} {v : V} (r : Rs), vs[i]? = some (some v) → i < st.length → (slIt vs (st.set i (.own r))).Perm ((v, r) :: slIt vs (st.set i .un))
  | [], _, i, _, _, h, _ => by simp at h
  | _ :: _, [], _, _, _, _, h => by simp at h
  | w :: vs, s :: st, 0, v, r, h, _ => by
    simp at h; subst h
    show (slIt (some v :: vs) (.own r :: st)).Perm _
    exact List.Perm.refl _
  | w :: vs, s :: st, i + 1, v, r, h, hl => by
    have ih := slIt_set (vs := vs) (st := st) (i := i) (v := v) r (by simpa using h) (by simpa using hl)
    show (slIt (w :: vs) (s :: st.set i (.own r))).Perm ((v, r) :: slIt (w :: vs) (s :: st.set i .un))
    cases w with
    | none => exact ih
    | some u =>
      cases s with
      | own q => exact (List.Perm.cons _ ih).trans (List.Perm.swap _ _ _)
      | un => exact ih
      | brw k => exact ih
theorem slIt_val : ∀ {vs : List (Option V)} {st : DS} {i : Nat} (v : Option V), slIt (vs.set i v) (st.set i .un) = slIt vs (st.set i .un)
  | [], _, _, _ => by simp [slIt]
  | _ :: _, [], i, _ => by cases i <;> simp [slIt]
  | w :: vs, s :: st, 0, v => by
    cases v <;> cases w <;> rfl
  | w :: vs, s :: st, i + 1, v => by
    have ih := slIt_val (vs := vs) (st := st) (i := i) v
    show slIt (w :: vs.set i v) (s :: st.set i .un) = slIt (w :: vs) (s :: st.set i .un)
    cases w with
    | none => exact ih
    | some u => cases s <;> simp [slIt, ih]
theorem slIt_drop : ∀ {vs : List (Option V)} {st : DS} (i : Nat), ∃ l, (slIt vs st).Perm (l ++ slIt vs (st.set i .un))
  | [], _, _ => ⟨[], by simp [slIt]⟩
  | _ :: _, [], i => ⟨[], by cases i <;> simp [slIt]⟩
  | w :: vs, s :: st, 0 => by
    cases w with
    | none => exact ⟨[], List.Perm.refl _⟩
    | some u =>
      cases s with
      | own q => exact ⟨[(u, q)], List.Perm.refl _⟩
      | un => exact ⟨[], List.Perm.refl _⟩
      | brw k => exact ⟨[], List.Perm.refl _⟩
  | w :: vs, s :: st, i + 1 => by
    obtain ⟨l, ih⟩ := slIt_drop (vs := vs) (st := st) i
    refine ⟨l, ?_⟩
    show (slIt (w :: vs) (s :: st)).Perm (l ++ slIt (w :: vs) (s :: st.set i .un))
    cases w with
    | none => exact ih
    | some u =>
      cases s with
      | own q => exact (List.Perm.cons _ ih).trans List.perm_middle.symm
      | un => exact ih
      | brw k => exact ih
theorem slIt_same {vs : List (Option V)} {st : DS} {i : Nat} {s : Sl} (h : st[i]? = some s) : st.set i s = st := by
  obtain ⟨hl, e⟩ := List.getElem?_eq_some_iff.mp h
  rw [← e]
  exact List.set_getElem_self hl

/-- the level of a body: what was frozen at its entry, others' things, the borrowed things' values, what is wanted of exceptions -/
structure Lv where
  F₀ : Hp
  Z : Hp
  xv : List V
  W : WX
def Lv.vs (L : Lv) (σ : Sg) : List (Option V) := σ ++ L.xv.map some
structure RelK (K : Fg) (mg : Mg) (L : Lv) (H : Hp) (σ : Sg) (st : DS) (pend : Itms) : Prop where
  ok : SlOk σ.length (L.vs σ) st
  hld : Hld K mg L.F₀ L.Z H (pend ++ slIt (L.vs σ) st)
abbrev Rel (X : Cx) (L : Lv) (H : Hp) (σ : Sg) (st : DS) (pend : Itms) : Prop := RelK X.K X.mg L H σ st pend
/-- an exception: its class by name, its fields -/
structure ExR (K : Fg) (mg : Mg) (F : Hp) (x : Exn) (c : Value) (d : Option Addr) : Prop where
  cls : ∃ C, mg x.nm = some (.ref C) ∧ c = .ref C
  fld : ∃ dd fv, d = some dd ∧ F dd = some (.xd fv) ∧ ∀ f v, x.fs.lookup f = some v → ∃ w, fv.lookup f = some w ∧ Rp K F w v
def RelX (X : Cx) (L : Lv) (H : Hp) (σ : Sg) (st : DS) (x : Exn) (c : Value) (d : Option Addr) : Prop :=
  SlOk σ.length (L.vs σ) st ∧ ∃ F A, Hf X.K X.mg L.F₀ L.Z F H (slIt (L.vs σ) st) A ∧ ExR X.K X.mg F x c d
/-- what is wanted behind an exception -/
def Xw (X : Cx) (L : Lv) (σ : Sg) (x : Exn) (st : DS) : Prop := ∀ c d H', RelX X L H' σ st x c d → L.W c d σ H'
def tD (X : Cx) (L : Lv) (m : M Rs) : TE := fun σ H Q => ∃ pend st, Rel X L H σ st pend ∧ Aft (m st) (fun r st' => ∀ v H', Rel X L H' σ st' ((v, r) :: pend) → Q v H') (Xw X L σ)
def tDT (X : Cx) (L : Lv) (m : M Bool) : TT := fun σ H Q => ∃ pend st, Rel X L H σ st pend ∧ Aft (m st) (fun b st' => ∀ H', Rel X L H' σ st' pend → Q b H') (Xw X L σ)
def tDA (X : Cx) (L : Lv) (m : M (List Rs)) : TA := fun σ H Q => ∃ pend st, Rel X L H σ st pend ∧ Aft (m st) (fun rs st' => ∀ vs H', vs.length = rs.length → Rel X L H' σ st' (vs.zip rs ++ pend) → Q vs H') (Xw X L σ)
abbrev DE (X : Cx) (L : Lv) (e : Expr) (m : M Rs) : Prop := PE X e (tD X L m)
abbrev DT (X : Cx) (L : Lv) (e : Expr) (m : M Bool) : Prop := PT X e (tDT X L m)
abbrev DA (X : Cx) (L : Lv) (es : List Expr) (m : M (List Rs)) : Prop := PA X es (tDA X L m)

section
variable {X : Cx}
theorem peW {e : Expr} {t t' : TE} (h : PE X e t) (w : ∀ σ H Q, t' σ H Q → t σ H Q) : PE X e t' := ⟨fun pins s σ H Q I q => h.run pins s σ H Q I (w σ H Q q)⟩
theorem ptW {e : Expr} {t t' : TT} (h : PT X e t) (w : ∀ σ H Q, t' σ H Q → t σ H Q) : PT X e t' := ⟨fun pins s σ H Q I q => h.run pins s σ H Q I (w σ H Q q)⟩
theorem pwW {e : Expr} {t t' : TT} (h : PW X e t) (w : ∀ σ H Q, t' σ H Q → t σ H Q) : PW X e t' := ⟨fun wh pins s σ H Q I q => h.run wh pins s σ H Q I (w σ H Q q)⟩
theorem paW {e : List Expr} {t t' : TA} (h : PA X e t) (w : ∀ σ H Q, t' σ H Q → t σ H Q) : PA X e t' := ⟨fun pos pins s σ H Q I q => h.run pos pins s σ H Q I (w σ H Q q)⟩
theorem psW {e : Stmt} {t t' : TS} (h : PS X e t) (w : ∀ D σ H, t' D σ H → t D σ H) : PS X e t' := ⟨fun pins s σ H D I q => h.run pins s σ H D I (w D σ H q)⟩
theorem pssW {e : List Stmt} {t t' : TS} (h : PSs X e t) (w : ∀ D σ H, t' D σ H → t D σ H) : PSs X e t' := ⟨fun pins s σ H D I q => h.run pins s σ H D I (w D σ H q)⟩
end

section
variable {X : Cx} {L : Lv} {H H' : Hp} {σ : Sg} {st st' : DS} {pend l : Itms} {v : V} {r : Rs} {d : Dt}
theorem Rel.to (h : Rel X L H σ st pend) (w : Hld X.K X.mg L.F₀ L.Z H (pend ++ slIt (L.vs σ) st) → Hld X.K X.mg L.F₀ L.Z H' (l ++ slIt (L.vs σ) st)) : Rel X L H' σ st l := ⟨h.ok, w h.hld⟩
theorem Rel.pop (h : Rel X L H σ st ((v, r) :: pend)) : Rel X L H σ st pend := h.to fun q => q.drop
theorem Rel.only (h : Rel X L H σ st (pend ++ l)) : Rel X L H σ st l := h.to fun q => (show Hld _ _ _ _ _ (pend ++ (l ++ _)) by rw [← List.append_assoc]; exact q).sub
theorem Rel.scal (h : Rel X L H σ st pend) (e : scalD d = some v) : Rel X L H σ st ((v, .val d) :: pend) := h.to fun q => q.scal e
theorem Rel.freeze (h : Rel X L H σ st ((v, r) :: pend)) (e : r.frz = some d) : Rel X L H σ st ((v, .val d) :: pend) := h.to fun q => Hld.freeze q e
theorem Rel.perm (h : Rel X L H σ st pend) (p : pend.Perm l) : Rel X L H σ st l := h.to fun q => q.perm (p.append_right _)
theorem Rel.swap {w : V} {q : Rs} (h : Rel X L H σ st ((v, r) :: (w, q) :: pend)) : Rel X L H σ st ((w, q) :: (v, r) :: pend) := h.perm (List.Perm.swap _ _ _)
theorem Rel.dup (h : Rel X L H σ st ((v, .val d) :: pend)) : Rel X L H σ st ((v, .val d) :: (v, .val d) :: pend) := h.to fun q => Hld.dup q
/-- the place that a slot means -/
def rootS (st : DS) (i : Nat) : Nat := match st[i]? with
  | some (.brw k) => k
  | _ => i
def lookS (st : DS) (i : Nat) : Option Rs := match st[rootS st i]? with
  | some (.own r) => some r
  | _ => none
theorem vs_get {i : Nat} {v : Option V} (h : σ[i]? = some v) : (L.vs σ)[i]? = some v := by
  unfold Lv.vs
  rw [List.getElem?_append_left (List.getElem?_eq_some_iff.mp h).1]
  exact h
/-- a slot's thing is taken out (the place is then empty) -/
theorem Rel.take (h : Rel X L H σ st pend) {i : Nat} (e : lookS st i = some r) (hi : i < σ.length) : ∃ v, σ[i]? = some (some v) ∧ (L.vs σ)[rootS st i]? = some (some v) ∧ st[rootS st i]? = some (.own r) ∧ Rel X L H σ (st.set (rootS st i) .un) ((v, r) :: pend) := by
  unfold lookS at e
  cases q : st[rootS st i]? with
  | none => rw [q] at e; cases e
  | some s =>
    rw [q] at e
    cases s with
    | un => cases e
    | brw k => cases e
    | own r' =>
      cases e
      obtain ⟨v, hv⟩ := h.ok.own _ _ q
      have hv0 : (L.vs σ)[i]? = some (some v) := by
        unfold rootS at hv q
        cases q2 : st[i]? with
        | none => rw [q2] at hv; exact hv
        | some s =>
          rw [q2] at hv
          cases s with
          | un => exact hv
          | own _ => exact hv
          | brw k =>
            obtain ⟨_, w, h1, h2⟩ := h.ok.brw i k q2
            dsimp only at hv
            rw [hv] at h2; cases h2; exact h1
      have hl := (List.getElem?_eq_some_iff.mp q).1
      refine ⟨v, ?_, hv, rfl, ⟨?_, ?_⟩⟩
      · unfold Lv.vs at hv0
        rw [List.getElem?_append_left hi] at hv0
        exact hv0
      · refine ⟨by rw [List.length_set]; exact h.ok.len, fun j r' hj => ?_, fun j k hj => ?_⟩
        · by_cases hij : rootS st i = j
          · subst hij; rw [List.getElem?_set_self hl] at hj; cases hj
          · rw [List.getElem?_set_ne hij] at hj; exact h.ok.own j r' hj
        · by_cases hij : rootS st i = j
          · subst hij; rw [List.getElem?_set_self hl] at hj; cases hj
          · rw [List.getElem?_set_ne hij] at hj; exact h.ok.brw j k hj
      · have p := slIt_set (vs := L.vs σ) (st := st) (i := rootS st i) r hv hl
        rw [slIt_same (vs := L.vs σ) q] at p
        have p2 : (pend ++ slIt (L.vs σ) st).Perm (pend ++ (v, r) :: slIt (L.vs σ) (st.set (rootS st i) .un)) := p.append_left _
        exact h.hld.perm (p2.trans List.perm_middle)
/-- a thing is put into an empty place whose value it is -/
theorem Rel.put {j : Nat} (h : Rel X L H σ st ((v, r) :: pend)) (hv : (L.vs σ)[j]? = some (some v)) : Rel X L H σ (st.set j (.own r)) pend := by
  have hl : j < st.length := by rw [← h.ok.len]; exact (List.getElem?_eq_some_iff.mp hv).1
  refine ⟨⟨by rw [List.length_set]; exact h.ok.len, fun i r' hj => ?_, fun i k hj => ?_⟩, ?_⟩
  · by_cases hij : j = i
    · subst hij; exact ⟨v, hv⟩
    · rw [List.getElem?_set_ne hij] at hj; exact h.ok.own i r' hj
  · by_cases hij : j = i
    · subst hij; rw [List.getElem?_set_self hl] at hj; cases hj
    · rw [List.getElem?_set_ne hij] at hj; exact h.ok.brw i k hj
  · have p := slIt_set (vs := L.vs σ) (st := st) (i := j) r hv hl
    obtain ⟨l, p3⟩ := slIt_drop (vs := L.vs σ) (st := st) j
    have q1 : Hld X.K X.mg L.F₀ L.Z H (l ++ ((v, r) :: pend ++ slIt (L.vs σ) (st.set j .un))) := by
      refine h.hld.perm ?_
      refine (p3.append_left _).trans ?_
      rw [← List.append_assoc, ← List.append_assoc]
      exact List.Perm.append_right _ List.perm_append_comm
    refine q1.sub.perm ?_
    refine List.Perm.trans ?_ (p.symm.append_left _)
    exact List.perm_middle.symm
/-- a name is stored -/
theorem Rel.set {i : Nat} (h : Rel X L H σ st ((v, r) :: pend)) (hi : i < σ.length) : Rel X L H (σ.set i (some v)) (st.set i (.own r)) pend := by
  have hl : i < st.length := by
    rw [← h.ok.len]; unfold Lv.vs; rw [List.length_append]; omega
  have ev : L.vs (σ.set i (some v)) = (L.vs σ).set i (some v) := by
    unfold Lv.vs; rw [List.set_append_left _ _ hi]
  have hvi : i < (L.vs σ).length := by rw [h.ok.len]; exact hl
  have gi : (L.vs (σ.set i (some v)))[i]? = some (some v) := by rw [ev, List.getElem?_set_self hvi]
  refine ⟨⟨by rw [ev, List.length_set, List.length_set]; exact h.ok.len, fun j r' hj => ?_, fun j k hj => ?_⟩, ?_⟩
  · by_cases hij : i = j
    · subst hij; exact ⟨v, gi⟩
    · rw [List.getElem?_set_ne hij] at hj
      obtain ⟨w, hw⟩ := h.ok.own j r' hj
      exact ⟨w, by rw [ev, List.getElem?_set_ne hij]; exact hw⟩
  · by_cases hij : i = j
    · subst hij; rw [List.getElem?_set_self hl] at hj; cases hj
    · rw [List.getElem?_set_ne hij] at hj
      obtain ⟨h1, w, h2, h3⟩ := h.ok.brw j k hj
      exact ⟨by rw [List.length_set]; exact h1, w, by rw [ev, List.getElem?_set_ne hij]; exact h2, by rw [ev, List.getElem?_set_ne (by omega)]; exact h3⟩
  · obtain ⟨l, p3⟩ := slIt_drop (vs := L.vs σ) (st := st) i
    have q1 : Hld X.K X.mg L.F₀ L.Z H (l ++ ((v, r) :: pend ++ slIt (L.vs σ) (st.set i .un))) := by
      refine h.hld.perm ?_
      refine (p3.append_left _).trans ?_
      rw [← List.append_assoc, ← List.append_assoc]
      exact List.Perm.append_right _ List.perm_append_comm
    refine q1.sub.perm ?_
    have p := slIt_set (vs := L.vs (σ.set i (some v))) (st := st) (i := i) r gi hl
    have e2 : slIt (L.vs (σ.set i (some v))) (st.set i .un) = slIt (L.vs σ) (st.set i .un) := by rw [ev]; exact slIt_val _
    rw [e2] at p
    refine List.Perm.trans ?_ (p.symm.append_left _)
    exact List.perm_middle.symm
end
end DY

/-! The data layer, part C: names, constants, operators, comparisons, tests, displays. -/
namespace DY
open PySem PySem.Spec PyProof.Rows L2

/-! ### combinators -/
/-- a name's datum; an owned container is frozen by it -/
def eVar (i : Nat) : M Rs := fun st => match lookS st i with
  | some (.ow (.val d)) => some (.ok (.val d), st)
  | some (.ow o) => some (.ok (.val o.frz), st.set (rootS st i) (.own (.val o.frz)))
  | _ => none
/-- a name's thing, taken out of its slot -/
def eMove (i : Nat) : M Rs := fun st => match lookS st i with
  | some r => some (.ok r, st.set (rootS st i) .un)
  | none => none
def eC (d : Dt) : M Rs := .p (.val d)
def op2 (g : Dt → Dt → Option Rs) (a b : Rs) : Option Rs := match a.frz, b.frz with
  | some x, some y => g x y
  | _, _ => none
def op1 (g : Dt → Option Rs) (a : Rs) : Option Rs := match a.frz with
  | some x => g x
  | none => none
def e2 (g : Dt → Dt → Option Rs) (a b : M Rs) : M Rs := a.b fun x => b.b fun y => .o (op2 g x y)
def e1 (g : Dt → Option Rs) (a : M Rs) : M Rs := a.b fun x => .o (op1 g x)
def frzs : List Rs → Option (List Dt)
  | [] => some []
  | r :: l => match r.frz, frzs l with
    | some d, some ds => some (d :: ds)
    | _, _ => none
def opL (g : List Dt → Option Rs) (l : List Rs) : Option Rs := match frzs l with
  | some ds => g ds
  | none => none
def eL (g : List Dt → Option Rs) (a : M (List Rs)) : M Rs := a.b fun l => .o (opL g l)
def aNil : M (List Rs) := .p []
def aCons (a : M Rs) (l : M (List Rs)) : M (List Rs) := a.b fun x => l.b fun xs => .p (x :: xs)
def asB : Rs → Option Bool
  | .ow (.val (.bool b)) => some b
  | _ => none
def tV (a : M Rs) : M Bool := a.b fun x => .o (asB x)
def lenLine : Nat := 16777216
def truD : Dt → Option Bool
  | .none => some false
  | .bool b => some b
  | .int i => some (i != 0)
  | .str x => if x.length ≤ lenLine then some ((x.length : Int) != 0) else none
  | .list ds => some (!ds.isEmpty)
  | .tuple ds => some (!ds.isEmpty)
  | .dict es => some (!es.isEmpty)
def truR (r : Rs) : Option Bool := match r.frz with
  | some d => truD d
  | none => none
def tT (a : M Rs) : M Bool := a.b fun x => .o (truR x)
def tAnd' (a b : M Bool) : M Bool := a.b fun c => if c = true then b else .p false
def tOr' (a b : M Bool) : M Bool := a.b fun c => if c = true then .p true else b
def tNot' (a : M Bool) : M Bool := a.b fun c => .p (!c)
/-- x or y, x and y as values -/
def eOr (a b : M Rs) : M Rs := a.b fun x => (M.o (truR x)).b fun c => if c = true then .p x else b
def eAnd (a b : M Rs) : M Rs := a.b fun x => (M.o (truR x)).b fun c => if c = true then b else .p x
def eNot (a : M Rs) : M Rs := a.b fun x => (M.o (truR x)).b fun c => .p (.val (.bool (!c)))
def eIf (c : M Bool) (a b : M Rs) : M Rs := c.b fun k => if k = true then a else b
def mkT (ds : List Dt) : Option Rs := if ds.length ≤ lenLine then some (.val (.tuple ds)) else none
def mkL (ds : List Dt) : Option Rs := if ds.length ≤ lenLine then some (.lst ds) else none
def eTup (a : M (List Rs)) : M Rs := eL mkT a
def eLst (a : M (List Rs)) : M Rs := eL mkL a
theorem lenLine_eq : lenLine = sizeLine := sizeLine_eq.symm

section
variable {X : Cx} {L : Lv} {e a b c : Expr} {es rest : List Expr} {ma mb mc : M Rs} {pos : Pos}

theorem de_var (i : Nat) {x : Str} (hN : X.N[i]? = some x := by rfl) (hv : Vis X.env.scope x := by first | exact Or.inl rfl | exact Or.inr (Or.inl rfl) | exact Or.inr (Or.inr rfl)) (hd : (x == ("__debug__" : Str)) = false := by decide)
    (hcd : (x == ("__classdict__" : Str)) = false := by decide) : DE X L (.Name x pos) (eVar i) := by
  have hn : i < X.N.length := (List.getElem?_eq_some_iff.mp hN).1
  refine ⟨fun pins s σ H Q I h => ?_⟩
  refine (pe_var hN hv hd hcd).run pins s σ H Q I ?_
  obtain ⟨pend, st, R, h⟩ := h
  have hi : i < σ.length := by rw [I.len]; exact hn
  unfold eVar at h
  cases q : lookS st i with
  | none => rw [q] at h; exact h.elim
  | some r =>
    rw [q] at h
    obtain ⟨v, h1, h2, h3, R1⟩ := R.take q hi
    cases r with
    | obj c fs => exact h.elim
    | ow o =>
      cases o with
      | val d =>
        refine ⟨v, h1, h v H ?_⟩
        have R2 := (R1.dup).swap.put h2
        rw [List.set_set, slIt_same (vs := L.vs σ) h3] at R2
        exact R2
      | lst ds =>
        refine ⟨v, h1, h v H ?_⟩
        have R2 := ((R1.freeze (d := .list ds) rfl).dup).swap.put h2
        rw [List.set_set] at R2
        exact R2
      | dic es =>
        refine ⟨v, h1, h v H ?_⟩
        have R2 := ((R1.freeze (d := .dict es) rfl).dup).swap.put h2
        rw [List.set_set] at R2
        exact R2
theorem de_move (i : Nat) {x : Str} (hN : X.N[i]? = some x := by rfl) (hv : Vis X.env.scope x := by first | exact Or.inl rfl | exact Or.inr (Or.inl rfl) | exact Or.inr (Or.inr rfl)) (hd : (x == ("__debug__" : Str)) = false := by decide)
    (hcd : (x == ("__classdict__" : Str)) = false := by decide) : DE X L (.Name x pos) (eMove i) := by
  have hn : i < X.N.length := (List.getElem?_eq_some_iff.mp hN).1
  refine ⟨fun pins s σ H Q I h => ?_⟩
  refine (pe_var hN hv hd hcd).run pins s σ H Q I ?_
  obtain ⟨pend, st, R, h⟩ := h
  have hi : i < σ.length := by rw [I.len]; exact hn
  unfold eMove at h
  cases q : lookS st i with
  | none => rw [q] at h; exact h.elim
  | some r =>
    rw [q] at h
    obtain ⟨v, h1, h2, h3, R1⟩ := R.take q hi
    exact ⟨v, h1, h v H R1⟩
theorem de_c {v : V} {d : Dt} (h : PE X e (tC v)) (r : ∀ F, Rp X.K F v d) : DE X L e (eC d) := peW h fun σ H Q q => by
  obtain ⟨pend, st, R, q⟩ := q
  exact q v H (R.to fun z => by
    obtain ⟨F, A, z⟩ := z
    exact ⟨F, A, z.add (r F)⟩)
theorem de_int {i : Int} {j : Nat} : DE X L (.Constant (.int i) j pos) (eC (.int i)) := de_c pe_int fun _ => .int i
theorem de_bl {k : Bool} {j : Nat} : DE X L (.Constant (.bool k) j pos) (eC (.bool k)) := de_c pe_bl fun _ => .bl k
theorem de_non {j : Nat} : DE X L (.Constant .none j pos) (eC .none) := de_c pe_non fun _ => .non
theorem de_str {x : Str} {j : Nat} : DE X L (.Constant (.str x) j pos) (eC (.str x)) := de_c pe_str fun _ => .str x
theorem de_glob {x : Str} {v : V} {u : Value} {d : Dt} (hm : X.mg x = some u) (r : RelV v u) (rd : ∀ F, Rp X.K F v d) (hg : Gl X x := by rfl) (hd : (x == ("__debug__" : Str)) = false := by decide) : DE X L (.Name x pos) (eC d) :=
  de_c (pe_glob hg hm r hd) rd

/-! ### the general steps -/
/-- what a rule by values gives over data -/
def Sn1 (X : Cx) (r : V → Hp → VK → Prop) (g : Dt → Option Rs) : Prop := ∀ (F₀ Z H : Hp) (l : Itms) (x : V) (a : Dt) (c : Rs) (Q : VK), Hld X.K X.mg F₀ Z H ((x, .val a) :: l) → g a = some c →
  (∀ v H', Hld X.K X.mg F₀ Z H' ((v, c) :: l) → Q v H') → r x H Q
def Sn2 (X : Cx) (r : R2) (g : Dt → Dt → Option Rs) : Prop := ∀ (F₀ Z H : Hp) (l : Itms) (x y : V) (a b : Dt) (c : Rs) (Q : VK), Hld X.K X.mg F₀ Z H ((y, .val b) :: (x, .val a) :: l) → g a b = some c →
  (∀ v H', Hld X.K X.mg F₀ Z H' ((v, c) :: l) → Q v H') → r x y H Q
def SnL (X : Cx) (r : List V → Hp → VK → Prop) (g : List Dt → Option Rs) : Prop := ∀ (F₀ Z H : Hp) (l : Itms) (xs : List V) (as : List Dt) (c : Rs) (Q : VK), xs.length = as.length → Hld X.K X.mg F₀ Z H (xs.zip (as.map Rs.val) ++ l) → g as = some c →
  (∀ v H', Hld X.K X.mg F₀ Z H' ((v, c) :: l) → Q v H') → r xs H Q
theorem Sn2.or {r r' : R2} {g g' : Dt → Dt → Option Rs} (h : Sn2 X r g) (h' : Sn2 X r' g') : Sn2 X (fun x y H Q => r x y H Q ∨ r' x y H Q) (fun a b => (g a b).or (g' a b)) := by
  intro F₀ Z H l x y a b c Q hl e k
  have e : (g a b).or (g' a b) = some c := e
  cases q : g a b with
  | some c' =>
    rw [q] at e
    exact .inl (h F₀ Z H l x y a b c Q hl (q.trans e) k)
  | none =>
    rw [q] at e
    exact .inr (h' F₀ Z H l x y a b c Q hl e k)
theorem opOr {f : Value → Value → Sem Value} {r r' : R2} (h : OpR X f r) (h' : OpR X f r') : OpR X f (fun x y H Q => r x y H Q ∨ r' x y H Q) := by
  intro pins s σ H x y v u Q I rx ry q
  rcases q with q | q
  · exact h pins s σ H x y v u Q I rx ry q
  · exact h' pins s σ H x y v u Q I rx ry q
theorem tOp_of {r : R2} {g : Dt → Dt → Option Rs} (hs : Sn2 X r g) {σ : Sg} {H : Hp} {Q : VK} (q : tD X L (e2 g ma mb) σ H Q) : tOp r (tD X L ma) (tD X L mb) σ H Q := by
  obtain ⟨pend, st, R, q⟩ := q
  refine ⟨pend, st, R, q.bind.imp (fun x st1 q1 v1 H1 R1 => ?_) fun _ _ q => q⟩
  refine ⟨(v1, x) :: pend, st1, R1, q1.bind.imp (fun y st2 q2 v2 H2 R2 => ?_) fun _ _ q => q⟩
  obtain ⟨c, e, q2⟩ := q2.opt
  unfold op2 at e
  cases ex : x.frz with
  | none => rw [ex] at e; cases e
  | some x' =>
    cases ey : y.frz with
    | none => rw [ex, ey] at e; cases e
    | some y' =>
      rw [ex, ey] at e
      have R3 := ((R2.freeze ey).swap.freeze ex).swap
      exact hs _ _ _ _ _ _ _ _ c Q R3.hld e fun v H' hl => q2 v H' ⟨R3.ok, hl⟩
theorem de_op {op : Operator} {r : R2} {g : Dt → Dt → Option Rs} (ho : OpR X (binaryOp op) r) (hs : Sn2 X r g) (ha : DE X L a ma) (hb : DE X L b mb) : DE X L (.BinOp a op b pos) (e2 g ma mb) :=
  peW (pe_op ho ha hb) fun _ _ _ q => tOp_of hs q
theorem de_cmp {op : CmpOp} {r : R2} {g : Dt → Dt → Option Rs} (ho : OpR X (compareOp op) r) (hs : Sn2 X r g) (ha : DE X L a ma) (hb : DE X L b mb) (hm : behindInMarks op b = false) : DE X L (.Compare a [op] [b] pos) (e2 g ma mb) :=
  peW (pe_cmpR ho ha hb hm) fun _ _ _ q => tOp_of hs q
theorem tTest_of {t : TE} {m : M Rs} (w : ∀ σ H Q, tD X L m σ H Q → t σ H Q) {σ : Sg} {H : Hp} {Q : Bool → Hp → Prop} (q : tDT X L (tV m) σ H Q) : tTest t σ H Q := by
  obtain ⟨pend, st, R, q⟩ := q
  refine w σ H _ ⟨pend, st, R, q.bind.imp (fun x st1 q1 v H1 R1 => ?_) fun _ _ q => q⟩
  obtain ⟨k, e, q1⟩ := q1.opt
  unfold asB at e
  split at e
  · cases e
    have hv : v = .bl k := by
      obtain ⟨F, A, z⟩ := R1.hld
      have := z.val
      cases this; rfl
    exact ⟨k, hv, q1 H1 R1.pop⟩
  · cases e
theorem dt_cmp {op : CmpOp} {r : R2} {g : Dt → Dt → Option Rs} (ho : OpR X (compareOp op) r) (hs : Sn2 X r g) (ha : DE X L a ma) (hb : DE X L b mb) (hm : behindInMarks op b = false) : DT X L (.Compare a [op] [b] pos) (tV (e2 g ma mb)) :=
  ptW (pt_cmpR ho ha hb hm) fun _ _ _ q => tTest_of (fun _ _ _ q => tOp_of hs q) q
/-- a chain of two comparisons -/
def eChain (g g' : Dt → Dt → Option Rs) (ma mb mc : M Rs) : M Rs := ma.b fun x => mb.b fun y => (M.o (op2 g x y)).b fun z => (M.o (asB z)).b fun k =>
  if k = true then mc.b fun w => .o (op2 g' y w) else .p (.val (.bool false))
theorem tChain_of {r r' : R2} {g g' : Dt → Dt → Option Rs} (hs : Sn2 X r g) (hs' : Sn2 X r' g') {σ : Sg} {H : Hp} {Q : VK} (q : tD X L (eChain g g' ma mb mc) σ H Q) : tChain r r' (tD X L ma) (tD X L mb) (tD X L mc) σ H Q := by
  obtain ⟨pend, st, R, q⟩ := q
  refine ⟨pend, st, R, q.bind.imp (fun x st1 q1 v1 H1 R1 => ?_) fun _ _ q => q⟩
  refine ⟨(v1, x) :: pend, st1, R1, q1.bind.imp (fun y st2 q2 v2 H2 R2 => ?_) fun _ _ q => q⟩
  obtain ⟨c, e, q2⟩ := q2.bind.opt
  unfold op2 at e
  cases ex : x.frz with
  | none => rw [ex] at e; cases e
  | some x' =>
    cases ey : y.frz with
    | none => rw [ex, ey] at e; cases e
    | some y' =>
      rw [ex, ey] at e
      have R3 := ((R2.freeze ey).swap.freeze ex).swap
      have R4 : Rel X L H2 σ st2 ((v2, .val y') :: (v1, .val x') :: (v2, .val y') :: pend) := R3.dup.perm (List.Perm.cons _ (List.Perm.swap _ _ _))
      refine hs _ _ _ _ _ _ _ _ c _ R4.hld e fun v H' hl => ?_
      have R5 : Rel X L H' σ st2 ((v, c) :: (v2, .val y') :: pend) := ⟨R3.ok, hl⟩
      obtain ⟨k, ek, q3⟩ := q2.bind.opt
      unfold asB at ek
      split at ek
      · cases ek
        have hv : v = .bl k := by
          obtain ⟨F, A, z⟩ := R5.hld
          have := z.val
          cases this; rfl
        refine ⟨k, hv, ?_⟩
        cases k with
        | true =>
          rw [if_pos rfl] at q3 ⊢
          refine ⟨(v2, .val y') :: pend, st2, R5.pop, q3.bind.imp (fun w st4 q4 v4 H4 R6 => ?_) fun _ _ q => q⟩
          obtain ⟨c', e', q4⟩ := q4.opt
          unfold op2 at e'
          rw [ey] at e'
          cases ew : w.frz with
          | none => rw [ew] at e'; cases e'
          | some w' =>
            rw [ew] at e'
            have R7 := R6.freeze ew
            exact hs' _ _ _ _ _ _ _ _ c' Q R7.hld e' fun v H'' hl => q4 v H'' ⟨R7.ok, hl⟩
        | false =>
          rw [if_neg Bool.false_ne_true] at q3 ⊢
          exact q3 _ _ (R5.pop.pop.scal rfl)
      · cases ek
theorem de_chain {op op' : CmpOp} {r r' : R2} {g g' : Dt → Dt → Option Rs} (ho : OpR X (compareOp op) r) (ho' : OpR X (compareOp op') r') (hs : Sn2 X r g) (hs' : Sn2 X r' g') (ha : DE X L a ma) (hb : DE X L b mb) (hc : DE X L c mc)
    (hm : lastMarks [op, op'] [b, c] = false := by with_unfolding_all rfl) : DE X L (.Compare a [op, op'] [b, c] pos) (eChain g g' ma mb mc) := peW (pe_chain ho ho' ha hb hc hm) fun _ _ _ q => tChain_of hs hs' q
theorem dt_chain {op op' : CmpOp} {r r' : R2} {g g' : Dt → Dt → Option Rs} (ho : OpR X (compareOp op) r) (ho' : OpR X (compareOp op') r') (hs : Sn2 X r g) (hs' : Sn2 X r' g') (ha : DE X L a ma) (hb : DE X L b mb) (hc : DE X L c mc)
    (hm : lastMarks [op, op'] [b, c] = false := by with_unfolding_all rfl) : DT X L (.Compare a [op, op'] [b, c] pos) (tV (eChain g g' ma mb mc)) := ptW (pt_chain ho ho' ha hb hc hm) fun _ _ _ q => tTest_of (fun _ _ _ q => tChain_of hs hs' q) q
theorem de_un {op : UnaryOp} {r : V → Hp → VK → Prop} {g : Dt → Option Rs} (ho : UnR X (unaryOp op) r) (hs : Sn1 X r g) (ha : DE X L a ma) : DE X L (.UnaryOp op a pos) (e1 g ma) := peW (pe_un ho ha) fun σ H Q q => by
  obtain ⟨pend, st, R, q⟩ := q
  refine ⟨pend, st, R, q.bind.imp (fun x st1 q1 v1 H1 R1 => ?_) fun _ _ q => q⟩
  obtain ⟨c, e, q1⟩ := q1.opt
  unfold op1 at e
  cases ex : x.frz with
  | none => rw [ex] at e; cases e
  | some x' =>
    rw [ex] at e
    have R2 := R1.freeze ex
    exact hs _ _ _ _ _ _ c Q R2.hld e fun v H' hl => q1 v H' ⟨R2.ok, hl⟩

/-! ### arguments, displays, calls by values -/
theorem da_nil : DA X L [] aNil := paW pa_nil fun σ H Q q => by
  obtain ⟨pend, st, R, q⟩ := q
  exact q [] H rfl R
theorem da_cons {m : M (List Rs)} (ha : DE X L a ma) (hr : DA X L es m) (hs : starEach (a :: es) X.env = (false, eval a X.env) :: starEach es X.env := by rfl) : DA X L (a :: es) (aCons ma m) := paW (pa_cons ha hr hs) fun σ H Q q => by
  obtain ⟨pend, st, R, q⟩ := q
  refine ⟨pend, st, R, q.bind.imp (fun x st1 q1 v1 H1 R1 => ?_) fun _ _ q => q⟩
  refine ⟨(v1, x) :: pend, st1, R1, q1.bind.imp (fun rs st2 q2 vs H2 hl R2 => ?_) fun _ _ q => q⟩
  refine q2 (v1 :: vs) H2 (by simp [hl]) (R2.perm ?_)
  exact List.perm_middle
theorem frzs_rel {H : Hp} {σ : Sg} {st : DS} {pend : Itms} : ∀ {vs : List V} {rs : List Rs} {ds : List Dt}, vs.length = rs.length → frzs rs = some ds → Rel X L H σ st (vs.zip rs ++ pend) → vs.length = ds.length ∧ Rel X L H σ st (vs.zip (ds.map Rs.val) ++ pend)
  | [], [], ds, _, e, R => by cases e; exact ⟨rfl, R⟩
  | v :: vs, r :: rs, ds, hl, e, R => by
    unfold frzs at e
    cases er : r.frz with
    | none => rw [er] at e; cases e
    | some d =>
      cases es : frzs rs with
      | none => rw [er, es] at e; cases e
      | some ds' =>
        rw [er, es] at e
        cases e
        have R1 : Rel X L H σ st ((v, .val d) :: (vs.zip rs ++ pend)) := Rel.freeze R er
        have R2 : Rel X L H σ st (vs.zip rs ++ ((v, .val d) :: pend)) := R1.perm List.perm_middle.symm
        obtain ⟨h1, h2⟩ := frzs_rel (vs := vs) (rs := rs) (by simpa using hl) es R2
        exact ⟨by simp [h1], h2.perm List.perm_middle⟩
  | [], _ :: _, _, h, _, _ => by simp at h
  | _ :: _, [], _, h, _, _ => by simp at h
theorem Hf.args {K : Fg} {mg : Mg} {F₀ Z F H : Hp} {l : Itms} : ∀ {vs : List V} {ds : List Dt} {A : List Addr}, vs.length = ds.length → Hf K mg F₀ Z F H (vs.zip (ds.map Rs.val) ++ l) A → RpA K F vs ds
  | [], [], _, _, _ => .nil
  | v :: vs, d :: ds, A, hl, h => by
    obtain ⟨B, h'⟩ := Hf.drop (show Hf K mg F₀ Z F H ((v, .val d) :: (vs.zip (ds.map Rs.val) ++ l)) A from h)
    exact .cons (Hf.val (l := vs.zip (ds.map Rs.val) ++ l) h) (Hf.args (by simpa using hl) h')
  | [], _ :: _, _, h, _ => by simp at h
  | _ :: _, [], _, h, _ => by simp at h
theorem Hf.sub {K : Fg} {mg : Mg} {F₀ Z F H : Hp} {l : Itms} : ∀ {m : Itms} {A : List Addr}, Hf K mg F₀ Z F H (m ++ l) A → ∃ B, Hf K mg F₀ Z F H l B
  | [], A, h => ⟨A, h⟩
  | (v, r) :: m, A, h => by
    obtain ⟨B, h'⟩ := Hf.drop (show Hf K mg F₀ Z F H ((v, r) :: (m ++ l)) A from h)
    exact Hf.sub h'
theorem tCB_of {r : List V → Hp → VK → Prop} {g : List Dt → Option Rs} {m : M (List Rs)} (hs : SnL X r g) {σ : Sg} {H : Hp} {Q : VK} (q : tD X L (eL g m) σ H Q) : tCB r (tDA X L m) σ H Q := by
  obtain ⟨pend, st, R, q⟩ := q
  refine ⟨pend, st, R, q.bind.imp (fun rs st1 q1 vs H1 hl R1 => ?_) fun _ _ q => q⟩
  obtain ⟨c, e, q1⟩ := q1.opt
  unfold opL at e
  cases ex : frzs rs with
  | none => rw [ex] at e; cases e
  | some ds =>
    rw [ex] at e
    obtain ⟨h1, R2⟩ := frzs_rel hl ex R1
    exact hs _ _ _ (pend ++ slIt (L.vs σ) st1) vs ds c Q h1 (by rw [← List.append_assoc]; exact R2.hld) e fun v H' hl => q1 v H' ⟨R1.ok, hl⟩
theorem de_callB {r : List V → Hp → VK → Prop} {g : List Dt → Option Rs} {m : M (List Rs)} {x : Str} {id : String} {p : Pos} (hc : CallR X (.builtin id) r) (hs : SnL X r g) (hm : X.mg x = none) (hv : bootBuiltins x = some (.builtin id)) (ha : DA X L (a :: es) m) (hg : Gl X x := by rfl) (hn : x ≠ "__name__" := by decide)
    (hdb : (x == ("__debug__" : Str)) = false := by decide) (he : starEach (a :: es) X.env = (false, eval a X.env) :: starEach es X.env := by rfl) (hpl : (backTo pos (starEach es X.env)).any (·.1) = false := by rfl) : DE X L (.Call (.Name x p) (a :: es) [] pos) (eL g m) :=
  peW (pe_callB hc hg hm hv ha hn hdb he hpl) fun _ _ _ q => tCB_of hs q
theorem de_callTy {r : List V → Hp → VK → Prop} {g : List Dt → Option Rs} {m : M (List Rs)} {x : Str} {T : String} {p : Pos} (hc : CallR X (.type T) r) (hs : SnL X r g) (hm : X.mg x = none) (hv : bootBuiltins x = some (.type T)) (ha : DA X L (a :: es) m) (hg : Gl X x := by rfl) (hn : x ≠ "__name__" := by decide)
    (hdb : (x == ("__debug__" : Str)) = false := by decide) (he : starEach (a :: es) X.env = (false, eval a X.env) :: starEach es X.env := by rfl) (hpl : (backTo pos (starEach es X.env)).any (·.1) = false := by rfl) : DE X L (.Call (.Name x p) (a :: es) [] pos) (eL g m) :=
  peW (pe_callTy hc hg hm hv ha hn hdb he hpl) fun _ _ _ q => tCB_of hs q
theorem de_tup {m : M (List Rs)} {k : Nat} (h : DA X L es m) : DE X L (.Tuple es k pos) (eTup m) := peW (pe_tup h) fun σ H Q q => by
  refine tCB_of (r := fun xs H1 Q => xs.length ≤ sizeLine ∧ ∀ p, H1 p = none → Q (.ref p) (upd H1 p (.tup xs))) ?_ q
  intro F₀ Z H l xs as c Q hl h e k
  unfold mkT at e
  split at e
  · rename_i hz
    cases e
    obtain ⟨F, A, h⟩ := h
    refine ⟨by rw [hl, ← lenLine_eq]; exact hz, fun p hp => k _ _ ?_⟩
    obtain ⟨B, h'⟩ := h.sub
    exact ⟨_, B, h'.newT hp (h.args hl)⟩
  · cases e
theorem de_lst {m : M (List Rs)} (h : DA X L es m) : DE X L (.List es pos) (eLst m) := peW (pe_lst h) fun σ H Q q => by
  refine tCB_of (r := fun xs H1 Q => xs.length ≤ sizeLine ∧ ∀ p, H1 p = none → Q (.ref p) (upd H1 p (.lst xs))) ?_ q
  intro F₀ Z H l xs as c Q hl h e k
  unfold mkL at e
  split at e
  · rename_i hz
    cases e
    obtain ⟨F, A, h⟩ := h
    refine ⟨by rw [hl, ← lenLine_eq]; exact hz, fun p hp => k _ _ ?_⟩
    obtain ⟨B, h'⟩ := h.sub
    exact ⟨_, _, h'.newL hp (h.args hl)⟩
  · cases e

/-! ### tests -/
theorem truV_of {F₀ Z H : Hp} {l : Itms} {v : V} {d : Dt} {k : Bool} (h : Hld X.K X.mg F₀ Z H ((v, .val d) :: l)) (e : truD d = some k) : TruV X.K v H k := by
  obtain ⟨F, A, h⟩ := h
  have r := h.val
  have s := h.frz
  cases r <;> simp only [truD, Option.some.injEq] at e
  · exact e.symm
  · exact e.symm
  · exact e.symm
  · rename_i x
    split at e
    · rename_i hz
      cases e
      exact ⟨by rw [← lenLine_eq]; exact hz, rfl⟩
    · cases e
  · rename_i a xs ds hs hr
    refine .inl ⟨xs, s.seq hs, ?_⟩
    rw [← e]
    have := hr.length
    cases xs <;> cases ds <;> simp_all
  · rename_i a xs ds hs hr
    refine .inr (.inl ⟨xs, sqT_same s hs, ?_⟩)
    rw [← e]
    have := hr.length
    cases xs <;> cases ds <;> simp_all
  · rename_i a ks es hs hr
    cases hs with
    | k hs =>
      rename_i kvs
      refine .inr (.inr ⟨kvs, s _ _ hs, ?_⟩)
      rw [← e]
      have := hr.length
      cases kvs <;> cases es <;> simp_all
theorem dt_truth (ha : DE X L a ma) (he : ∀ whole, isTrue a X.env whole = (do let v ← whole; standAt a.pos; holding [v] (truthy v)) := by intro _; rfl) : DT X L a (tT ma) := ptW (pt_truth ha he) fun σ H Q q => by
  obtain ⟨pend, st, R, q⟩ := q
  refine ⟨pend, st, R, q.bind.imp (fun x st1 q1 v1 H1 R1 => ?_) fun _ _ q => q⟩
  obtain ⟨k, e, q1⟩ := q1.opt
  unfold truR at e
  cases ex : x.frz with
  | none => rw [ex] at e; cases e
  | some d =>
    rw [ex] at e
    have R2 := R1.freeze ex
    exact ⟨k, truV_of R2.hld e, q1 H1 R2.pop⟩
abbrev DW (X : Cx) (L : Lv) (e : Expr) (m : M Bool) : Prop := PW X e (tDT X L m)
variable {na nb : M Bool}
theorem dw_and1 (ha : DT X L a na) : DW X L (.BoolOp .And [a] pos) na := pw_and1 ha
theorem dw_or1 (ha : DT X L a na) : DW X L (.BoolOp .Or [a] pos) na := pw_or1 ha
theorem dw_and (ha : DT X L a na) (hb : DW X L (.BoolOp .And (b :: rest) pos) nb) : DW X L (.BoolOp .And (a :: b :: rest) pos) (tAnd' na nb) := pwW (pw_and ha hb) fun σ H Q q => by
  obtain ⟨pend, st, R, q⟩ := q
  refine ⟨pend, st, R, q.bind.imp (fun c st1 q1 H1 R1 => ?_) fun _ _ q => q⟩
  cases c with
  | true =>
    rw [if_pos rfl] at q1 ⊢
    exact ⟨pend, st1, R1, q1⟩
  | false =>
    rw [if_neg Bool.false_ne_true] at q1 ⊢
    exact q1 H1 R1
theorem dw_or (ha : DT X L a na) (hb : DW X L (.BoolOp .Or (b :: rest) pos) nb) : DW X L (.BoolOp .Or (a :: b :: rest) pos) (tOr' na nb) := pwW (pw_or ha hb) fun σ H Q q => by
  obtain ⟨pend, st, R, q⟩ := q
  refine ⟨pend, st, R, q.bind.imp (fun c st1 q1 H1 R1 => ?_) fun _ _ q => q⟩
  cases c with
  | true =>
    rw [if_pos rfl] at q1 ⊢
    exact q1 H1 R1
  | false =>
    rw [if_neg Bool.false_ne_true] at q1 ⊢
    exact ⟨pend, st1, R1, q1⟩
theorem dt_not (ha : DT X L a na) : DT X L (.UnaryOp .Not a pos) (tNot' na) := ptW (pt_not ha) fun σ H Q q => by
  obtain ⟨pend, st, R, q⟩ := q
  exact ⟨pend, st, R, q.bind.imp (fun c st1 q1 H1 R1 => q1 H1 R1) fun _ _ q => q⟩
theorem de_if {mt : M Bool} (hc : DT X L c mt) (ha : DE X L a ma) (hb : DE X L b mb) : DE X L (.IfExp c a b pos) (eIf mt ma mb) := peW (pe_ifExp hc ha hb) fun σ H Q q => by
  obtain ⟨pend, st, R, q⟩ := q
  refine ⟨pend, st, R, q.bind.imp (fun k st1 q1 H1 R1 => ?_) fun _ _ q => q⟩
  cases k with
  | true =>
    rw [if_pos rfl] at q1 ⊢
    exact ⟨pend, st1, R1, q1⟩
  | false =>
    rw [if_neg Bool.false_ne_true] at q1 ⊢
    exact ⟨pend, st1, R1, q1⟩
theorem de_one {op : BoolOp} (ha : DE X L a ma) : DE X L (.BoolOp op [a] pos) ma := pe_one ha
theorem de_or (ha : DE X L a ma) (hb : DE X L (.BoolOp .Or (b :: rest) pos) mb) : DE X L (.BoolOp .Or (a :: b :: rest) pos) (eOr ma mb) := peW (pe_orT ha hb) fun σ H Q q => by
  obtain ⟨pend, st, R, q⟩ := q
  refine ⟨pend, st, R, q.bind.imp (fun x st1 q1 v1 H1 R1 => ?_) fun _ _ q => q⟩
  obtain ⟨k, e, q1⟩ := q1.bind.opt
  unfold truR at e
  cases ex : x.frz with
  | none => rw [ex] at e; cases e
  | some d =>
    rw [ex] at e
    refine ⟨k, truV_of (R1.freeze ex).hld e, ?_⟩
    cases k with
    | true =>
      rw [if_pos rfl] at q1 ⊢
      exact q1 v1 H1 R1
    | false =>
      rw [if_neg Bool.false_ne_true] at q1 ⊢
      exact ⟨pend, st1, R1.pop, q1⟩
theorem de_and (ha : DE X L a ma) (hb : DE X L (.BoolOp .And (b :: rest) pos) mb) : DE X L (.BoolOp .And (a :: b :: rest) pos) (eAnd ma mb) := peW (pe_andT ha hb) fun σ H Q q => by
  obtain ⟨pend, st, R, q⟩ := q
  refine ⟨pend, st, R, q.bind.imp (fun x st1 q1 v1 H1 R1 => ?_) fun _ _ q => q⟩
  obtain ⟨k, e, q1⟩ := q1.bind.opt
  unfold truR at e
  cases ex : x.frz with
  | none => rw [ex] at e; cases e
  | some d =>
    rw [ex] at e
    refine ⟨k, truV_of (R1.freeze ex).hld e, ?_⟩
    cases k with
    | true =>
      rw [if_pos rfl] at q1 ⊢
      exact ⟨pend, st1, R1.pop, q1⟩
    | false =>
      rw [if_neg Bool.false_ne_true] at q1 ⊢
      exact q1 v1 H1 R1
theorem de_not (ha : DE X L a ma) : DE X L (.UnaryOp .Not a pos) (eNot ma) := peW (pe_notT ha) fun σ H Q q => by
  obtain ⟨pend, st, R, q⟩ := q
  refine ⟨pend, st, R, q.bind.imp (fun x st1 q1 v1 H1 R1 => ?_) fun _ _ q => q⟩
  obtain ⟨k, e, q1⟩ := q1.bind.opt
  unfold truR at e
  cases ex : x.frz with
  | none => rw [ex] at e; cases e
  | some d =>
    rw [ex] at e
    exact ⟨k, truV_of (R1.freeze ex).hld e, q1 _ H1 (R1.pop.scal rfl)⟩
end
end DY

/-! The data layer, part D: operators by values over data. -/
namespace DY
open PySem PySem.Spec PyProof.Rows L2

section
variable {X : Cx}
theorem Hf.two {K : Fg} {mg : Mg} {F₀ Z F H : Hp} {l : Itms} {A : List Addr} {x y : V} {a b : Dt} (h : Hf K mg F₀ Z F H ((y, .val b) :: (x, .val a) :: l) A) : Rp K F x a ∧ Rp K F y b ∧ ∃ B, Hf K mg F₀ Z F H l B := by
  obtain ⟨B, h1⟩ := h.drop
  obtain ⟨C, h2⟩ := h1.drop
  exact ⟨h1.val, h.val, C, h2⟩
/-- two ints -/
def iiD (C : Int → Int → Bool) (g : Int → Int → Dt) : Dt → Dt → Option Rs
  | .int i, .int j => if C i j = true then some (.val (g i j)) else none
  | _, _ => none
theorem sn_ii {P : Int → Int → Prop} {C : Int → Int → Bool} {g : Int → Int → V} {g' : Int → Int → Dt} (hC : ∀ i j, C i j = true → P i j) (hg : ∀ i j, scalD (g' i j) = some (g i j)) : Sn2 X (rI P g) (iiD C g') := by
  intro F₀ Z H l x y a b c Q h e k
  obtain ⟨F, A, h⟩ := h
  obtain ⟨r1, r2, B, h3⟩ := h.two
  unfold iiD at e
  split at e
  · cases r1; cases r2
    split at e
    · rename_i i j hc
      cases e
      exact ⟨_, _, rfl, rfl, hC _ _ hc, k _ _ ⟨F, B, h3.add (Rp.scal (hg _ _))⟩⟩
    · cases e
  · cases e
def allC (_ _ : Int) : Bool := true
theorem sn_ii0 {g : Int → Int → V} {g' : Int → Int → Dt} (hg : ∀ i j, scalD (g' i j) = some (g i j)) : Sn2 X (rI0 g) (iiD allC g') := by
  intro F₀ Z H l x y a b c Q h e k
  obtain ⟨i, j, h1, h2, _, h3⟩ := sn_ii (X := X) (P := fun _ _ => True) (C := allC) (g := g) (g' := g') (fun _ _ _ => trivial) hg F₀ Z H l x y a b c Q h e k
  exact ⟨i, j, h1, h2, h3⟩

/-- + of two texts, two lists, two tuples -/
def ssD (g : Str → Str → Option Dt) : Dt → Dt → Option Rs
  | .str x, .str y => (g x y).map Rs.val
  | _, _ => none
def catStr (x y : Str) : Option Dt := if x.length + y.length ≤ lenLine then some (.str (x ++ y)) else none
theorem sn_catS : Sn2 X (fun x y H Q => ∃ i j, x = .str i ∧ y = .str j ∧ i.length + j.length ≤ sizeLine ∧ Q (.str (i ++ j)) H) (ssD catStr) := by
  intro F₀ Z H l x y a b c Q h e k
  obtain ⟨F, A, h⟩ := h
  obtain ⟨r1, r2, B, h3⟩ := h.two
  unfold ssD at e
  split at e
  · cases r1; cases r2
    unfold catStr at e
    split at e
    · rename_i hz
      cases e
      exact ⟨_, _, rfl, rfl, by rw [← lenLine_eq]; exact hz, k _ _ ⟨F, B, h3.add (.str _)⟩⟩
    · cases e
  · cases e
def rCatL (K : Fg) : R2 := fun x y H Q => ∃ (l b : Addr) (xs zs : List V), x = V.ref l ∧ y = V.ref b ∧ SqL K H l xs ∧ SqL K H b zs ∧ xs.length + zs.length ≤ sizeLine ∧ ∀ p, H p = none → Q (.ref p) (upd H p (.lst (xs ++ zs)))
theorem op_catL : OpR X (binaryOp .Add) (rCatL X.K) := by
  intro pins s σ H x y v u Q I rx ry h
  obtain ⟨l, b, xs, zs, rfl, rfl, hH, hB, hz, q⟩ := h
  cases rx
  cases ry
  obtain ⟨its, r1, p1, z1⟩ := I.list hH
  obtain ⟨its2, r2, p2, z2⟩ := I.list hB
  have l1 := r1.length
  have l2 := r2.length
  obtain ⟨⟨c1, d1, da1, s1⟩, ho1, hc1, n1, hd1⟩ := p1.isList
  obtain ⟨⟨c2, d2, da2, s2⟩, ho2, hc2, n2, hd2⟩ := p2.isList
  simp only at hc1 hd1 hc2 hd2
  subst hc1 hd1 hc2 hd2
  have ea : its.toArray ++ its2.toArray = (its ++ its2).toArray := by simp
  have hs : its.toArray.size + its2.toArray.size ≤ sizeLine := by simp only [List.size_toArray]; omega
  refine concat_meets ⟨_, ho1, rfl⟩ ⟨_, ho2, rfl⟩ noFill_list_add seq_list_add PySem.F.slot_list_add PySem.F.entry_list_add (PySem.F.args_list_add_2 _ _) (list_addW l b its.toArray its2.toArray n1 n2 d1 d2 s1 s2 hs) ⟨ho1, ho2, ?_⟩
  rw [ea]
  exact ⟨.ref _, _, I.lnew (t' := s.toks) (r1.append r2) (by rw [List.length_append]; omega), rfl, q _ I.fresh⟩
def catLD : Dt → Dt → Option Rs
  | .list xs, .list ys => if xs.length + ys.length ≤ lenLine then some (.lst (xs ++ ys)) else none
  | _, _ => none
theorem sn_catL : Sn2 X (rCatL X.K) catLD := by
  intro F₀ Z H l x y a b c Q h e k
  obtain ⟨F, A, h⟩ := h
  obtain ⟨r1, r2, B, h3⟩ := h.two
  unfold catLD at e
  split at e
  · cases r1 with | lst s1 t1 => cases r2 with | lst s2 t2 =>
    split at e
    · rename_i hz
      cases e
      have l1 := t1.length
      have l2 := t2.length
      exact ⟨_, _, _, _, rfl, rfl, h3.frz.seq s1, h3.frz.seq s2, by rw [l1, l2, ← lenLine_eq]; exact hz, fun p hp => k _ _ ⟨F, _, h3.newL hp (t1.append t2)⟩⟩
    · cases e
  · cases e
def catTD : Dt → Dt → Option Rs
  | .tuple xs, .tuple ys => if xs.length + ys.length ≤ lenLine then some (.val (.tuple (xs ++ ys))) else none
  | _, _ => none
theorem sn_catT : Sn2 X (rCatA X.K) catTD := by
  intro F₀ Z H l x y a b c Q h e k
  obtain ⟨F, A, h⟩ := h
  obtain ⟨r1, r2, B, h3⟩ := h.two
  unfold catTD at e
  split at e
  · cases r1 with | tup s1 t1 => cases r2 with | tup s2 t2 =>
    split at e
    · rename_i hz
      cases e
      have l1 := t1.length
      have l2 := t2.length
      refine ⟨_, _, _, _, rfl, rfl, sqT_same h3.frz s1, sqT_same h3.frz s2, by rw [l1, l2, ← lenLine_eq]; exact hz, fun e0 => ?_, fun _ e0 => ?_, fun _ _ p hp => ?_⟩
      · subst e0
        cases t1
        exact k _ _ ⟨F, B, h3.add (.tup s2 t2)⟩
      · subst e0
        cases t2
        exact k _ _ ⟨F, B, h3.add (by rw [List.append_nil]; exact .tup s1 t1)⟩
      · exact k _ _ ⟨_, B, h3.newT hp (t1.append t2)⟩
    · cases e
  · cases e
abbrev rAddA (X : Cx) : R2 := fun x y H Q => rI0 (fun i j => .int (i + j)) x y H Q ∨ ((∃ i j, x = .str i ∧ y = .str j ∧ i.length + j.length ≤ sizeLine ∧ Q (.str (i ++ j)) H) ∨ (rCatL X.K x y H Q ∨ rCatA X.K x y H Q))
/-- a + b -/
def addD (a b : Dt) : Option Rs := (iiD allC (fun i j => .int (i + j)) a b).or ((ssD catStr a b).or ((catLD a b).or (catTD a b)))
theorem op_addA : OpR X (binaryOp .Add) (rAddA X) := opOr op_add (opOr op_add_str (opOr op_catL op_catA))
theorem sn_addA : Sn2 X (rAddA X) addD := Sn2.or (sn_ii0 fun _ _ => rfl) (sn_catS.or (sn_catL.or sn_catT))
def subD : Dt → Dt → Option Rs := iiD allC fun i j => .int (i - j)
theorem sn_sub : Sn2 X (rI0 fun i j => .int (i - j)) subD := sn_ii0 fun _ _ => rfl
/-- a // b, a % b by small divisors above 0; the pair (quotient, rest) is Python's -/
def divOk (_ j : Int) : Bool := decide (0 < j) && decide (j < 1073741824)
def fdivD : Dt → Dt → Option Rs := iiD divOk fun i j => .int (i / j)
theorem sn_fdiv : Sn2 X (rI CDiv fun i j => .int (i / j)) fdivD := sn_ii (fun i j h => by simpa [divOk, CDiv] using h) fun _ _ => rfl
def posOk (_ j : Int) : Bool := decide (0 < j)
def modD : Dt → Dt → Option Rs := iiD posOk fun i j => .int (i % j)
theorem sn_mod : Sn2 X (rI (fun _ j => 0 < j) fun i j => .int (i % j)) modD := sn_ii (fun i j h => by simpa [posOk] using h) fun _ _ => rfl
def mulOk (i j : Int) : Bool := (decide (-18446744073709551616 < i) && decide (i < 18446744073709551616)) || (decide (-18446744073709551616 < j) && decide (j < 18446744073709551616))
def powOk (i j : Int) : Bool := decide (0 ≤ j) && decide (j ≤ 1000000) && decide (i.natAbs < 18446744073709551616)
def powD : Dt → Dt → Option Rs := iiD powOk fun i j => .int (i ^ j.toNat)
theorem sn_pow : Sn2 X (rI CPow fun i j => .int (i ^ j.toNat)) powD := sn_ii (fun i j h => by
  simp [powOk] at h
  exact ⟨h.1.1, h.1.2, h.2⟩) fun _ _ => rfl
/-- a text times an int; a list times an int -/
def mulD : Dt → Dt → Option Rs := iiD mulOk fun i j => .int (i * j)
theorem sn_mul : Sn2 X (rI CMul fun i j => .int (i * j)) mulD := sn_ii (fun i j h => by
  simp [mulOk] at h
  rcases h with h | h
  · exact .inl h
  · exact .inr h) fun _ _ => rfl

/-! ### comparisons -/
mutual
theorem Rp.dp {K : Fg} {F : Hp} : ∀ {v : V} {d : Dt}, Rp K F v d → d.plain = true → Dp K F v d
  | _, _, .non, _ => .non
  | _, _, .bl b, _ => .bl b
  | _, _, .int i, _ => .int i
  | _, _, .str x, _ => .str x
  | _, _, .lst h r, e => .lst h (RpA.dp r (by simpa [PyData.plain] using e))
  | _, _, .tup h r, e => .tup h (RpA.dp r (by simpa [PyData.plain] using e))
  | _, _, .dic _ _, e => by simp [PyData.plain] at e
theorem RpA.dp {K : Fg} {F : Hp} : ∀ {vs : List V} {ds : List Dt}, RpA K F vs ds → PyData.plainAll ds = true → DpAll K F vs ds
  | _, _, .nil, _ => .nil
  | _, _, .cons h r, e => by
    rw [PyData.plainAll, Bool.and_eq_true] at e
    exact .cons (Rp.dp h e.1) (RpA.dp r e.2)
end
theorem Rp.reads {pins : List (Addr × Obj)} {σ : Sg} {F H : Hp} {s : Shared} {v : V} {u : Value} {d : Dt} (I : Inv X pins σ H s) (e : Same F H) (h : Rp X.K F v d) (hp : d.plain = true) (r : RelV v u) : ∃ as, Reads s.heap u d as :=
  Dp.reads I d v u ((h.same e).dp hp) r
/-- the data of a heap, known at it -/
def At2 (K : Fg) (P : Dt → Dt → Bool) (g : Dt → Dt → Bool) : R2 := fun x y H Q => ∃ a b, Rp K H x a ∧ Rp K H y b ∧ P a b = true ∧ Q (.bl (g a b)) H
def cmpD (P g : Dt → Dt → Bool) (a b : Dt) : Option Rs := if P a b = true then some (.val (.bool (g a b))) else none
theorem sn_at2 {P g : Dt → Dt → Bool} : Sn2 X (At2 X.K P g) (cmpD P g) := by
  intro F₀ Z H l x y a b c Q h e k
  obtain ⟨F, A, h⟩ := h
  obtain ⟨r1, r2, B, h3⟩ := h.two
  unfold cmpD at e
  split at e
  · rename_i hp
    cases e
    exact ⟨a, b, r1.same h.frz, r2.same h.frz, hp, k _ _ ⟨F, B, h3.add (.bl _)⟩⟩
  · cases e
/-- == over plain data that is not too deep -/
def eqOk (a b : Dt) : Bool := a.plain && b.plain && decide (min a.depth b.depth ≤ 60)
def eqD : Dt → Dt → Option Rs := cmpD eqOk PyData.eqv
def neD : Dt → Dt → Option Rs := cmpD eqOk fun a b => !PyData.eqv a b
theorem op_eqA (hu : X.A.units + 64 < cLine) : OpR X (compareOp .Eq) (At2 X.K eqOk PyData.eqv) := by
  intro pins s σ H x y v u Q I rx ry h
  obtain ⟨a, b, r1, r2, hp, q⟩ := h
  simp only [eqOk, Bool.and_eq_true, decide_eq_true_eq] at hp
  obtain ⟨as, h1⟩ := r1.reads I (Same.refl H) hp.1.1 rx
  obtain ⟨bs, h2⟩ := r2.reads I (Same.refl H) hp.1.2 ry
  exact SeqAt.eq_plain h1 h2 hp.1.1 hp.1.2 (by omega) ⟨.bl _, H, I, rfl, q⟩
theorem op_neA (hu : X.A.units + 64 < cLine) : OpR X (compareOp .NotEq) (At2 X.K eqOk fun a b => !PyData.eqv a b) := by
  intro pins s σ H x y v u Q I rx ry h
  obtain ⟨a, b, r1, r2, hp, q⟩ := h
  simp only [eqOk, Bool.and_eq_true, decide_eq_true_eq] at hp
  obtain ⟨as, h1⟩ := r1.reads I (Same.refl H) hp.1.1 rx
  obtain ⟨bs, h2⟩ := r2.reads I (Same.refl H) hp.1.2 ry
  exact SeqAt.ne_plain h1 h2 hp.1.1 hp.1.2 (by omega) ⟨.bl _, H, I, rfl, q⟩
theorem bll {g : Int → Int → Bool} (i j : Int) : scalD (.bool (g i j)) = some (V.bl (g i j)) := rfl
def ltD : Dt → Dt → Option Rs := iiD allC fun i j => .bool (decide (i < j))
def leD : Dt → Dt → Option Rs := iiD allC fun i j => .bool (decide (i ≤ j))
def gtD : Dt → Dt → Option Rs := iiD allC fun i j => .bool (decide (j < i))
def geD : Dt → Dt → Option Rs := iiD allC fun i j => .bool (decide (j ≤ i))
theorem sn_lt : Sn2 X (rI0 fun i j => .bl (decide (i < j))) ltD := sn_ii0 fun _ _ => rfl
theorem sn_le : Sn2 X (rI0 fun i j => .bl (decide (i ≤ j))) leD := sn_ii0 fun _ _ => rfl
theorem sn_gt : Sn2 X (rI0 fun i j => .bl (decide (j < i))) gtD := sn_ii0 fun _ _ => rfl
theorem sn_ge : Sn2 X (rI0 fun i j => .bl (decide (j ≤ i))) geD := sn_ii0 fun _ _ => rfl
/-- is None; is True, is False -/
def isNonD (a : Dt) : Bool := match a with | .none => true | _ => false
def isD (a b : Dt) : Option Rs := match a, b with
  | a, .none => some (.val (.bool (isNonD a)))
  | .bool a, .bool b => some (.val (.bool (decide (a = b))))
  | _, _ => none
def isNotD (a b : Dt) : Option Rs := match a, b with
  | a, .none => some (.val (.bool (!isNonD a)))
  | .bool a, .bool b => some (.val (.bool (!decide (a = b))))
  | _, _ => none
theorem Rp.isNon {K : Fg} {F : Hp} {v : V} {d : Dt} (r : Rp K F v d) : decide (v = .non) = isNonD d := by
  cases r <;> first | rfl | exact decide_eq_false (fun z => nomatch z)
theorem sn_is : Sn2 X (fun x y H Q => (y = .non ∧ Q (.bl (decide (x = .non))) H) ∨ ∃ a b, x = .bl a ∧ y = .bl b ∧ Q (.bl (decide (a = b))) H) isD := by
  intro F₀ Z H l x y a b c Q h e k
  obtain ⟨F, A, h⟩ := h
  obtain ⟨r1, r2, B, h3⟩ := h.two
  unfold isD at e
  split at e
  · cases e
    cases r2
    exact .inl ⟨rfl, by rw [r1.isNon]; exact k _ _ ⟨F, B, h3.add (.bl _)⟩⟩
  · cases e
    cases r1; cases r2
    exact .inr ⟨_, _, rfl, rfl, k _ _ ⟨F, B, h3.add (.bl _)⟩⟩
  · cases e
theorem op_isA : OpR X (compareOp .Is) (fun x y H Q => (y = .non ∧ Q (.bl (decide (x = .non))) H) ∨ ∃ a b, x = .bl a ∧ y = .bl b ∧ Q (.bl (decide (a = b))) H) := opOr op_isN op_is_bl
theorem sn_isNot : Sn2 X (fun x y H Q => (y = .non ∧ Q (.bl (!decide (x = .non))) H) ∨ ∃ a b, x = .bl a ∧ y = .bl b ∧ Q (.bl (!decide (a = b))) H) isNotD := by
  intro F₀ Z H l x y a b c Q h e k
  obtain ⟨F, A, h⟩ := h
  obtain ⟨r1, r2, B, h3⟩ := h.two
  unfold isNotD at e
  split at e
  · cases e
    cases r2
    exact .inl ⟨rfl, by rw [r1.isNon]; exact k _ _ ⟨F, B, h3.add (.bl _)⟩⟩
  · cases e
    cases r1; cases r2
    exact .inr ⟨_, _, rfl, rfl, k _ _ ⟨F, B, h3.add (.bl _)⟩⟩
  · cases e
theorem op_isNotA : OpR X (compareOp .IsNot) (fun x y H Q => (y = .non ∧ Q (.bl (!decide (x = .non))) H) ∨ ∃ a b, x = .bl a ∧ y = .bl b ∧ Q (.bl (!decide (a = b))) H) := opOr op_notN op_isnot_bl

/-! ### dicts read -/
def keyOf : Dt → Option Key
  | .int i => some (.inl i)
  | .str x => some (.inr x)
  | _ => none
theorem keyOf_kD (k : Key) : keyOf (kD k) = some k := by cases k <;> rfl
theorem keyOf_some {d : Dt} {k : Key} (h : keyOf d = some k) : d = kD k := by
  cases d <;> simp [keyOf] at h <;> subst h <;> rfl
theorem Rp.key {K : Fg} {F : Hp} {v : V} {d : Dt} {k : Key} (r : Rp K F v d) (h : keyOf d = some k) : v = kV k := by
  cases r <;> simp [keyOf] at h <;> subst h <;> rfl
/-- the value at a key -/
def dLook (es : List (Dt × Dt)) (k : Dt) : Option Dt := (es.find? fun e => PyData.eqv e.1 k).map (·.2)
theorem eqv_kD (a b : Key) : PyData.eqv (kD a) (kD b) = decide (a = b) := by
  cases a <;> cases b <;> simp [kD, PyData.eqv, Bool.beq_eq_decide_eq]
theorem look_k {K : Fg} {F : Hp} : ∀ {kvs : List (Key × V)} {es : List (Dt × Dt)} (k : Key), RpK K F (kvs.map fun e => (kD e.1, e.2)) es → (valV kvs k = none ∧ dLook es (kD k) = none) ∨ ∃ v d, valV kvs k = some v ∧ dLook es (kD k) = some d ∧ Rp K F v d
  | [], es, k, h => by cases h; exact .inl ⟨rfl, rfl⟩
  | (k', v') :: kvs, es, k, h => by
    cases h with
    | cons h1 h2 =>
      rename_i d es'
      by_cases hk : k' = k
      · refine .inr ⟨v', d, valV_pos hk, ?_, h1⟩
        unfold dLook
        rw [List.find?_cons_of_pos (by show PyData.eqv (kD k') (kD k) = true; rw [eqv_kD]; exact decide_eq_true hk)]
        rfl
      · have e2 : dLook ((kD k', d) :: es') (kD k) = dLook es' (kD k) := by
          unfold dLook
          rw [List.find?_cons_of_neg (by show ¬ PyData.eqv (kD k') (kD k) = true; rw [eqv_kD]; simp [hk])]
        rw [valV_neg hk]
        show _ ∨ ∃ v d', _ ∧ dLook ((kD k', d) :: es') (kD k) = some d' ∧ _
        rw [e2]
        exact look_k k h2
theorem DcF.get {K : Fg} {F H : Hp} {a : Addr} {ks : List (Dt × V)} {es : List (Dt × Dt)} {kd : Dt} {k : Key} (h : DcF F a ks) (s : Same F H) (r : RpK K F ks es) (hk : keyOf kd = some k) :
    ∃ o, DGet H a (kV k) o ∧ ((o = none ∧ dLook es kd = none) ∨ ∃ v d, o = some v ∧ dLook es kd = some d ∧ Rp K F v d) := by
  cases h with
  | k h =>
    rename_i kvs
    refine ⟨valV kvs k, .inl ⟨kvs, k, .inl (s _ _ h), rfl, rfl⟩, ?_⟩
    · rw [keyOf_some hk]
      exact look_k k r

/-! ### subscripts -/
def rIxDic : R2 := fun x y H Q => ∃ a v, x = .ref a ∧ DGet H a y (some v) ∧ Q v H
theorem ix_dic (hu : X.A.units + 64 < cLine) : IxR X rIxDic := by
  intro value slice pins s σ H x y v u Q I rx ry h hs
  obtain ⟨p, z, rfl, g, q⟩ := h
  obtain rfl : v = Value.ref p := rx
  exact tail_any (dict_typeIs I g) PySem.F.slot_dict_getitem.lookup (d_getItem (by omega) I g ry fun w' s' I' r' => ⟨z, H, I', r', q⟩) hs
abbrev rIxA (X : Cx) : R2 := fun x y H Q => rIx X.K x y H Q ∨ rIxDic x y H Q
theorem ix_A (hu : X.A.units + 64 < cLine) : IxR X (rIxA X) := ix_seq.or (ix_dic hu)
def ixD : Dt → Dt → Option Rs
  | .list xs, .int i => (atI xs i).map Rs.val
  | .tuple xs, .int i => (atI xs i).map Rs.val
  | .str z, .int i => if z.length ≤ lenLine then (atI z.cps.toList i).map fun c => .val (.str ⟨#[c]⟩) else none
  | .dict es, k => if (keyOf k).isSome then (dLook es k).map Rs.val else none
  | _, _ => none
theorem RpA.atI {K : Fg} {F : Hp} {vs : List V} {ds : List Dt} {i : Int} {d : Dt} (r : RpA K F vs ds) (h : atI ds i = some d) : ∃ v, L2.atI vs i = some v ∧ Rp K F v d := by
  unfold L2.atI at h ⊢
  rw [r.length]
  cases q : ixN ds.length i with
  | none => rw [q] at h; cases h
  | some j =>
    rw [q] at h
    exact r.get h
theorem sn_ix : Sn2 X (rIxA X) ixD := by
  intro F₀ Z H l x y a b c Q h e k
  obtain ⟨F, A, h⟩ := h
  obtain ⟨r1, r2, B, h3⟩ := h.two
  unfold ixD at e
  split at e
  · obtain ⟨d, e1, rfl⟩ := Option.map_eq_some_iff.mp e
    cases r2
    cases r1 with | lst s1 t1 =>
    obtain ⟨v, e2, r3⟩ := t1.atI e1
    exact .inl (.inl ⟨_, _, _, v, rfl, rfl, h.frz.seq s1, e2, k _ _ ⟨F, B, h3.add r3⟩⟩)
  · obtain ⟨d, e1, rfl⟩ := Option.map_eq_some_iff.mp e
    cases r2
    cases r1 with | tup s1 t1 =>
    obtain ⟨v, e2, r3⟩ := t1.atI e1
    exact .inl (.inr (.inl ⟨_, _, _, v, rfl, rfl, sqT_same h.frz s1, e2, k _ _ ⟨F, B, h3.add r3⟩⟩))
  · split at e
    · rename_i hz
      obtain ⟨d, e1, rfl⟩ := Option.map_eq_some_iff.mp e
      cases r1; cases r2
      exact .inl (.inr (.inr ⟨_, _, d, rfl, rfl, by rw [← lenLine_eq]; exact hz, e1, k _ _ ⟨F, B, h3.add (.str _)⟩⟩))
    · cases e
  · split at e
    · rename_i hk
      obtain ⟨kk, hk⟩ := Option.isSome_iff_exists.mp hk
      obtain ⟨d, e1, rfl⟩ := Option.map_eq_some_iff.mp e
      have ey := r2.key hk
      subst ey
      cases r1 with | dic s1 t1 =>
      obtain ⟨o, g, w⟩ := s1.get h.frz t1 hk
      rcases w with ⟨_, w⟩ | ⟨v, d', w1, w2, r3⟩
      · rw [w] at e1; cases e1
      · rw [w2] at e1; cases e1
        subst w1
        exact .inr ⟨_, v, rfl, g, k _ _ ⟨F, B, h3.add r3⟩⟩
    · cases e
  · cases e
variable {L : Lv} {a b : Expr} {ma mb : M Rs} {pos : Pos}
theorem de_ix (hu : X.A.units + 64 < cLine) (ha : DE X L a ma) (hb : DE X L b mb) (hs : PlainIx b := by exact fun _ _ => rfl) : DE X L (.Subscript a b pos) (e2 ixD ma mb) := peW (pe_ix (ix_A hu) ha hb hs) fun _ _ _ q => tOp_of sn_ix q

/-! ### in -/
/-- what stands in what -/
def inOk (a b : Dt) : Bool := match a, b with
  | .str _, .str _ => true
  | a, .list xs => a.plain && PyData.plainAll xs && decide (min (PyData.depthAll xs) a.depth ≤ 60)
  | a, .tuple xs => a.plain && PyData.plainAll xs && decide (min (PyData.depthAll xs) a.depth ≤ 60)
  | a, .dict _ => (keyOf a).isSome
  | _, _ => false
def inB (a b : Dt) : Bool := match a, b with
  | .str i, .str j => !(Builtin.Str.occurrences j i 0 j.length 1).isEmpty
  | a, .list xs => xs.any fun y => PyData.eqv y a
  | a, .tuple xs => xs.any fun y => PyData.eqv y a
  | a, .dict es => (dLook es a).isSome
  | _, _ => false
def inD : Dt → Dt → Option Rs := cmpD inOk inB
def notInD : Dt → Dt → Option Rs := cmpD inOk fun a b => !inB a b
theorem isIn_dic {F : Hp} {a : Dt} {es : List (Dt × Dt)} {o : Option V} (w : (o = none ∧ dLook es a = none) ∨ ∃ v d, o = some v ∧ dLook es a = some d ∧ Rp X.K F v d) : o.isSome = inB a (.dict es) := by
  have e : inB a (.dict es) = (dLook es a).isSome := by cases a <;> rfl
  rw [e]
  rcases w with ⟨w1, w2⟩ | ⟨v, d', w1, w2, r3⟩
  · rw [w1, w2]; rfl
  · rw [w1, w2]; rfl
theorem op_inA (hu : X.A.units + 64 < cLine) : OpR X (compareOp .In) (At2 X.K inOk inB) := by
  intro pins s σ H x y v u Q I rx ry h
  obtain ⟨a, b, r1, r2, hp, q⟩ := h
  unfold inOk at hp
  split at hp
  · cases r1; cases r2
    exact op_in_str pins s σ H _ _ v u Q I rx ry ⟨_, _, rfl, rfl, q⟩
  · simp only [Bool.and_eq_true, decide_eq_true_eq] at hp
    obtain ⟨as, h1⟩ := r1.reads I (Same.refl H) hp.1.1 rx
    obtain ⟨bs, h2⟩ := r2.reads I (Same.refl H) (by simpa [PyData.plain] using hp.1.2) ry
    exact SeqAt.in_list_data h2 h1 hp.1.2 hp.1.1 (by omega) ⟨.bl _, H, I, rfl, by cases a <;> exact q⟩
  · simp only [Bool.and_eq_true, decide_eq_true_eq] at hp
    obtain ⟨as, h1⟩ := r1.reads I (Same.refl H) hp.1.1 rx
    obtain ⟨bs, h2⟩ := r2.reads I (Same.refl H) (by simpa [PyData.plain] using hp.1.2) ry
    exact SeqAt.in_tuple_data h2 h1 hp.1.2 hp.1.1 (by omega) ⟨.bl _, H, I, rfl, by cases a <;> exact q⟩
  · obtain ⟨kk, hk⟩ := Option.isSome_iff_exists.mp hp
    have ey := r1.key hk
    subst ey
    cases r2 with | dic s1 t1 =>
    obtain ⟨o, g, w⟩ := s1.get (Same.refl H) t1 hk
    cases ry
    refine d_in (by omega) I g rx fun s' I' => ⟨.bl _, H, I', rfl, ?_⟩
    rename_i es _ _ _ _
    rw [isIn_dic w]
    exact q
  · cases hp
theorem op_notInA (hu : X.A.units + 64 < cLine) : OpR X (compareOp .NotIn) (At2 X.K inOk fun a b => !inB a b) := by
  intro pins s σ H x y v u Q I rx ry h
  obtain ⟨a, b, r1, r2, hp, q⟩ := h
  unfold inOk at hp
  split at hp
  · cases r1; cases r2
    exact op_notIn_str pins s σ H _ _ v u Q I rx ry ⟨_, _, rfl, rfl, q⟩
  · simp only [Bool.and_eq_true, decide_eq_true_eq] at hp
    obtain ⟨as, h1⟩ := r1.reads I (Same.refl H) hp.1.1 rx
    obtain ⟨bs, h2⟩ := r2.reads I (Same.refl H) (by simpa [PyData.plain] using hp.1.2) ry
    exact SeqAt.notIn_list_data h2 h1 hp.1.2 hp.1.1 (by omega) ⟨.bl _, H, I, rfl, by cases a <;> exact q⟩
  · simp only [Bool.and_eq_true, decide_eq_true_eq] at hp
    obtain ⟨as, h1⟩ := r1.reads I (Same.refl H) hp.1.1 rx
    obtain ⟨bs, h2⟩ := r2.reads I (Same.refl H) (by simpa [PyData.plain] using hp.1.2) ry
    exact SeqAt.notIn_tuple_data h2 h1 hp.1.2 hp.1.1 (by omega) ⟨.bl _, H, I, rfl, by cases a <;> exact q⟩
  · obtain ⟨kk, hk⟩ := Option.isSome_iff_exists.mp hp
    have ey := r1.key hk
    subst ey
    cases r2 with | dic s1 t1 =>
    obtain ⟨o, g, w⟩ := s1.get (Same.refl H) t1 hk
    cases ry
    refine d_notIn (by omega) I g rx fun s' I' => ⟨.bl _, H, I', rfl, ?_⟩
    rename_i es _ _ _ _
    rw [isIn_dic w]
    exact q
  · cases hp
end
end DY

/-! The data layer, part F: statements, targets, loops. -/
namespace DY
open PySem PySem.Spec PyProof.Rows L2
inductive Fw where
  | nx | brk | cnt | ret (r : Rs)
def FwR (X : Cx) (L : Lv) (D : Ends) (n : Nat) (pend : Itms) (f : Fw) (st : DS) : Prop := match f with
  | .nx => ∀ σ H, σ.length = n → Rel X L H σ st pend → D.nx σ H
  | .brk => ∀ σ H, σ.length = n → Rel X L H σ st pend → D.bk σ H
  | .cnt => ∀ σ H, σ.length = n → Rel X L H σ st pend → D.ct σ H
  | .ret r => ∀ σ v H, σ.length = n → Rel X L H σ st ((v, r) :: pend) → D.rt v H
def XwN (X : Cx) (L : Lv) (n : Nat) (x : Exn) (st : DS) : Prop := ∀ σ, σ.length = n → Xw X L σ x st
def tS (X : Cx) (L : Lv) (m : M Fw) : TS := fun D σ H => ∃ pend st, Rel X L H σ st pend ∧ Aft (m st) (FwR X L D σ.length pend) (XwN X L σ.length)
abbrev DSt (X : Cx) (L : Lv) (s : Stmt) (m : M Fw) : Prop := PS X s (tS X L m)
abbrev DSs (X : Cx) (L : Lv) (s : List Stmt) (m : M Fw) : Prop := PSs X s (tS X L m)
def sNil : M Fw := .p .nx
def sCons (a b : M Fw) : M Fw := a.b fun f => match f with
  | .nx => b
  | f => .p f
def sDrop (a : M Rs) : M Fw := a.b fun _ => .p .nx
def sRet (a : M Rs) : M Fw := a.b fun r => .p (.ret r)
def sRetN : M Fw := .p (.ret (.val .none))
def sBrk : M Fw := .p .brk
def sCnt : M Fw := .p .cnt
def sIf (c : M Bool) (a b : M Fw) : M Fw := c.b fun k => if k = true then a else b
/-- a target: what it does with a thing -/
abbrev Tg := Rs → DS → Option DS
def gN (i : Nat) : Tg := fun r st => some (st.set i (.own r))
def gsNil : List Dt → DS → Option DS
  | [], st => some st
  | _ :: _, _ => none
def gsCons (g : Tg) (gs : List Dt → DS → Option DS) : List Dt → DS → Option DS
  | d :: ds, st => (g (.val d) st).bind fun st' => gs ds st'
  | [], _ => none
def gT (gs : List Dt → DS → Option DS) : Tg := fun r st => match r with
  | .ow (.val (.tuple ds)) => gs ds st
  | _ => none
def tgM (g : Tg) (r : Rs) : M Fw := fun st => match g r st with
  | some st' => some (.ok .nx, st')
  | none => none
def sAsg (g : Tg) (a : M Rs) : M Fw := a.b (tgM g)

section
variable {X : Cx} {L : Lv} {e a b c : Expr} {s : Stmt} {ss : List Stmt} {ma mb mc : M Rs} {m n : M Fw} {mt : M Bool} {pos : Pos}
theorem Xw.all {σ : Sg} {x : Exn} {st : DS} (h : XwN X L σ.length x st) : Xw X L σ x st := h σ rfl
theorem dss_nil : DSs X L [] sNil := pssW pss_nil fun D σ H q => by
  obtain ⟨pend, st, R, q⟩ := q
  exact q σ H rfl R
theorem dss_cons (h1 : DSt X L s m) (h2 : DSs X L ss n) : DSs X L (s :: ss) (sCons m n) := pssW (pss_cons h1 h2) fun D σ H q => by
  obtain ⟨pend, st, R, q⟩ := q
  refine ⟨pend, st, R, q.bind.imp (fun f st1 q1 => ?_) fun _ _ q => q⟩
  cases f with
  | nx =>
    intro σ' H' hl R'
    refine ⟨pend, st1, R', ?_⟩
    rw [hl]
    exact q1
  | brk => exact q1
  | cnt => exact q1
  | ret r => exact q1
theorem dss_one (h1 : DSt X L s m) : DSs X L [s] m := pss_one h1
theorem ds_pass : DSt X L (.Pass pos) sNil := psW ps_pass fun D σ H q => by
  obtain ⟨pend, st, R, q⟩ := q
  exact q σ H rfl R
theorem ds_break : DSt X L (.Break pos) sBrk := psW ps_break fun D σ H q => by
  obtain ⟨pend, st, R, q⟩ := q
  exact q σ H rfl R
theorem ds_continue : DSt X L (.Continue pos) sCnt := psW ps_continue fun D σ H q => by
  obtain ⟨pend, st, R, q⟩ := q
  exact q σ H rfl R
theorem ds_expr (he : DE X L e ma) (hs : swapsWith e none pos.line X.env = pure false := by rfl) : DSt X L (.Expr e pos) (sDrop ma) := psW (ps_expr he hs) fun D σ H q => by
  obtain ⟨pend, st, R, q⟩ := q
  exact ⟨pend, st, R, q.bind.imp (fun r st1 q1 v H1 R1 => q1 σ H1 rfl R1.pop) fun _ _ q => q _ rfl⟩
theorem ds_ret (he : DE X L e ma) : DSt X L (.Return (some e) pos) (sRet ma) := psW (ps_ret he) fun D σ H q => by
  obtain ⟨pend, st, R, q⟩ := q
  exact ⟨pend, st, R, q.bind.imp (fun r st1 q1 v H1 R1 => q1 σ v H1 rfl R1) fun _ _ q => q _ rfl⟩
theorem ds_retN : DSt X L (.Return none pos) sRetN := psW ps_retN fun D σ H q => by
  obtain ⟨pend, st, R, q⟩ := q
  exact q σ _ H rfl (R.scal rfl)
theorem ds_if {p q : List Stmt} (hc : DT X L c mt) (ha : DSs X L p m) (hb : DSs X L q n) : DSt X L (.If c p q pos) (sIf mt m n) := psW (ps_if hc ha hb) fun D σ H q => by
  obtain ⟨pend, st, R, q⟩ := q
  refine ⟨pend, st, R, q.bind.imp (fun k st1 q1 H1 R1 => ?_) fun _ _ q => q _ rfl⟩
  cases k with
  | true =>
    rw [if_pos rfl] at q1 ⊢
    exact ⟨pend, st1, R1, q1⟩
  | false =>
    rw [if_neg Bool.false_ne_true] at q1 ⊢
    exact ⟨pend, st1, R1, q1⟩

/-! ### targets -/
/-- the slots but those of I are as they were -/
structure Off (I : List Nat) (σ σ' : Sg) : Prop where
  len : σ'.length = σ.length
  at_ : ∀ j, j ∉ I → σ'[j]? = σ[j]?
theorem Off.refl (σ : Sg) : Off [] σ σ := ⟨rfl, fun _ _ => rfl⟩
theorem Off.trans {I J : List Nat} {a b c : Sg} (h : Off I a b) (k : Off J b c) : Off (I ++ J) a c := ⟨k.len.trans h.len, fun j hj => (k.at_ j fun z => hj (List.mem_append_right _ z)).trans (h.at_ j fun z => hj (List.mem_append_left _ z))⟩
def tgG (X : Cx) (L : Lv) (I : List Nat) (g : Tg) : TG := fun v σ H Q => ∃ pend r st st', Rel X L H σ st ((v, r) :: pend) ∧ g r st = some st' ∧ ∀ σ', Off I σ σ' → Rel X L H σ' st' pend → Q σ' H
def tgGs (X : Cx) (L : Lv) (I : List Nat) (gs : List Dt → DS → Option DS) : TGs := fun vs σ H Q => ∃ pend ds st st', vs.length = ds.length ∧ Rel X L H σ st (vs.zip (ds.map Rs.val) ++ pend) ∧ gs ds st = some st' ∧ ∀ σ', Off I σ σ' → Rel X L H σ' st' pend → Q σ' H
abbrev DG (X : Cx) (L : Lv) (I : List Nat) (e : Expr) (g : Tg) : Prop := PG X e (tgG X L I g)
abbrev DGs (X : Cx) (L : Lv) (I : List Nat) (es : List Expr) (gs : List Dt → DS → Option DS) : Prop := PGs X es (tgGs X L I gs)
theorem pgW {t t' : TG} (h : PG X e t) (w : ∀ v σ H Q, σ.length = X.N.length → t' v σ H Q → t v σ H Q) : PG X e t' := ⟨fun pins s σ H v u Q I r q => h.run pins s σ H v u Q I r (w v σ H Q I.len q)⟩
theorem pgsW {es : List Expr} {t t' : TGs} (h : PGs X es t) (w : ∀ v σ H Q, σ.length = X.N.length → t' v σ H Q → t v σ H Q) : PGs X es t' := ⟨fun pins s σ H vs us Q I r q => h.run pins s σ H vs us Q I r (w vs σ H Q I.len q)⟩
theorem dg_name (i : Nat) {x : Str} (nd : X.N.Nodup) (hi : X.N[i]? = some x := by rfl) (hx : Loc X.env.scope x := by first | exact Or.inl rfl | exact Or.inr rfl) (hf : X.fn x = true ∨ X.env.scope.names.lookup x = some .local := by first | exact .inl rfl | exact .inr rfl) : DG X L [i] (.Name x pos) (gN i) :=
  pgW (pg_name nd hi hx hf) fun v σ H Q hl q => by
    obtain ⟨pend, r, st, st', R, e, q⟩ := q
    cases e
    have hl2 : i < σ.length := by rw [hl]; exact (List.getElem?_eq_some_iff.mp hi).1
    exact q _ ⟨by rw [List.length_set], fun j hj => List.getElem?_set_ne (fun e => hj (by simp [e]))⟩ (R.set hl2)
theorem dgs_nil : DGs X L [] [] gsNil := pgsW pgs_nil fun vs σ H Q hl q => by
  obtain ⟨pend, ds, st, st', h1, R, e, q⟩ := q
  cases ds with
  | cons => cases e
  | nil =>
    cases e
    cases vs with
    | cons => simp at h1
    | nil => exact ⟨rfl, q σ (Off.refl σ) R⟩
theorem dgs_cons {es : List Expr} {g : Tg} {gs : List Dt → DS → Option DS} {I J : List Nat} (h1 : DG X L I e g) (h2 : DGs X L J es gs) (hs : (assignEach (e :: es) X.env).map (·.2) = assign e X.env :: (assignEach es X.env).map (·.2) := by rfl) : DGs X L (I ++ J) (e :: es) (gsCons g gs) :=
  pgsW (pgs_cons h1 h2 hs) fun vs σ H Q hl q => by
    obtain ⟨pend, ds, st, st', h1, R, e, q⟩ := q
    cases ds with
    | nil => cases e
    | cons d ds =>
      cases vs with
      | nil => simp at h1
      | cons v vs =>
        unfold gsCons at e
        obtain ⟨st1, e1, e2⟩ := Option.bind_eq_some_iff.mp e
        refine ⟨v, vs, rfl, vs.zip (ds.map Rs.val) ++ pend, .val d, st, st1, R, e1, fun σ' hl' R' => ?_⟩
        exact ⟨pend, ds, st1, st', by simpa using h1, R', e2, fun σ2 hl2 R2 => q σ2 (hl'.trans hl2) R2⟩
theorem dg_tup {es : List Expr} {gs : List Dt → DS → Option DS} {k n : Nat} {I : List Nat} (hc : X.calm = true) (h : DGs X L I es gs) (hn : (assignEach es X.env).length = n := by rfl) (hl : ∀ ds st st', gs ds st = some st' → ds.length = n) (hst : (assignEach es X.env).findIdx? (·.1) = none := by rfl) : DG X L I (.Tuple es k pos) (gT gs) :=
  pgW (pg_tup hc h hn hst) fun v σ H Q _ q => by
    obtain ⟨pend, r, st, st', R, e, q⟩ := q
    unfold gT at e
    split at e
    · rename_i ds
      obtain ⟨F, A, z⟩ := R.hld
      have rp := z.val
      cases rp with
      | tup s1 t1 =>
        rename_i p xs
        refine ⟨p, xs, rfl, sqT_same z.frz s1, by rw [t1.length]; exact hl _ _ _ e, pend, ds, st, st', t1.length, ⟨R.ok, ?_⟩, e, q⟩
        obtain ⟨B, z1⟩ := Hf.drop (l := pend ++ slIt (L.vs σ) st) z
        have key : ∀ {xs : List V} {ds : List Dt} {A : List Addr}, RpA X.K F xs ds → Hf X.K X.mg L.F₀ L.Z F H (pend ++ slIt (L.vs σ) st) A → Hf X.K X.mg L.F₀ L.Z F H (xs.zip (ds.map Rs.val) ++ (pend ++ slIt (L.vs σ) st)) A := by
          intro xs ds A r h
          induction xs generalizing ds with
          | nil => cases r; exact h
          | cons x xs ih =>
            cases r with
            | cons r1 r2 => exact Hf.add (l := xs.zip (List.map Rs.val _) ++ (pend ++ slIt (L.vs σ) st)) (ih r2) r1
        refine ⟨F, B, ?_⟩
        rw [List.append_assoc]
        exact key t1 z1
    · cases e
theorem gsN_nil {ds : List Dt} {st st' : DS} (h : gsNil ds st = some st') : ds.length = 0 := by
  cases ds with
  | nil => rfl
  | cons => cases h
theorem gsN_cons {g : Tg} {gs : List Dt → DS → Option DS} {k : Nat} (hg : ∀ ds st st', gs ds st = some st' → ds.length = k) {ds : List Dt} {st st' : DS} (h : gsCons g gs ds st = some st') : ds.length = k + 1 := by
  cases ds with
  | nil => cases h
  | cons d ds =>
    unfold gsCons at h
    obtain ⟨st1, e1, e2⟩ := Option.bind_eq_some_iff.mp h
    rw [List.length_cons, hg _ _ _ e2]
theorem ds_asg {g : Tg} {tg : Expr} {I : List Nat} (he : DE X L e ma) (hg : DG X L I tg g) (hs : swapsWithSole [tg] e pos.line X.env = pure false := by rfl) (hw : swappedStores [tg] e X.env = pure none := by rfl)
    (h1 : (assignEach [tg] X.env).map (·.2) = [assign tg X.env] := by rfl) : DSt X L (.Assign [tg] e pos) (sAsg g ma) := psW (ps_asg he hg hs hw h1) fun D σ H q => by
  obtain ⟨pend, st, R, q⟩ := q
  refine ⟨pend, st, R, q.bind.imp (fun r st1 q1 v H1 R1 => ?_) fun _ _ q => q _ rfl⟩
  unfold tgM at q1
  cases e1 : g r st1 with
  | none => rw [e1] at q1; exact q1.elim
  | some st2 =>
    rw [e1] at q1
    exact ⟨pend, r, st1, st2, R1, e1, fun σ' hl R2 => q1 σ' H1 hl.len R2⟩

/-! ### while -/
def whileN (c : M Bool) (b : M Fw) : Nat → M Fw
  | 0 => fun _ => none
  | n + 1 => c.b fun k => if k = true then b.b fun f => (match f with
      | .nx => whileN c b n
      | .cnt => whileN c b n
      | .brk => .p .nx
      | .ret r => .p (.ret r)) else .p .nx
/-- fu: how many turns at most, by the state -/
def sWhile (fu : DS → Nat) (c : M Bool) (b : M Fw) : M Fw := fun st => whileN c b (fu st) st
theorem ds_while {body : List Stmt} (fu : DS → Nat) (hp : PassesOwn (model X.prog X.w) X.A X.env X.xe) (hc : DT X L c mt) (hb : DSs X L body m) : DSt X L (.While c body [] pos) (sWhile fu mt m) := psW (ps_while hp hc hb) fun D σ H q => by
  obtain ⟨pend, st, R, q⟩ := q
  refine ⟨fun k σ' H' => σ'.length = σ.length ∧ ∃ st', Rel X L H' σ' st' pend ∧ Aft (whileN mt m k st') (FwR X L D σ.length pend) (XwN X L σ.length), ⟨fu st, rfl, st, R, q⟩, fun k σ' H' w => ?_⟩
  obtain ⟨hl, st', R', w⟩ := w
  cases k with
  | zero => exact w.elim
  | succ k =>
    refine ⟨pend, st', R', w.bind.imp (fun t st1 q1 H1 R1 => ?_) fun x st1 q => q σ' hl⟩
    cases t with
    | false =>
      rw [if_neg Bool.false_ne_true] at q1 ⊢
      exact q1 σ' H1 hl R1
    | true =>
      rw [if_pos rfl] at q1 ⊢
      refine ⟨fun σ2 H2 => σ2.length = σ.length ∧ ∃ st2, Rel X L H2 σ2 st2 pend ∧ Aft (whileN mt m k st2) (FwR X L D σ.length pend) (XwN X L σ.length), fun σ2 H2 n => ⟨k, Nat.lt_succ_self k, n⟩, ?_⟩
      refine ⟨pend, st1, R1, q1.bind.imp (fun f st2 q2 => ?_) fun x st2 q => by rw [hl]; exact q⟩
      rw [hl]
      cases f with
      | nx => exact fun σ2 H2 hl2 R2 => ⟨hl2, st2, R2, q2⟩
      | cnt => exact fun σ2 H2 hl2 R2 => ⟨hl2, st2, R2, q2⟩
      | brk => exact fun σ2 H2 hl2 R2 => q2 σ2 H2 hl2 R2
      | ret r => exact fun σ2 v H2 hl2 R2 => q2 σ2 v H2 hl2 R2

/-! ### for -/
/-- what is walked: the items of v, whose datum is d -/
inductive Src (K : Fg) : It → V → Dt → List Dt → Prop
  | lst (a : Addr) (ds : List Dt) : Src K (Itl K a) (.ref a) (.list ds) ds
  | tup (a : Addr) (ds : List Dt) : Src K (Itt K a) (.ref a) (.tuple ds) ds
  | str (x : Str) : Src K (Its x) (.str x) (.str x) (x.cps.toList.map fun c => .str ⟨#[c]⟩)
  | rng (lo : Int) (n : Nat) : Src K (Itr lo n) .non .none ((List.range n).map fun i => .int (lo + (i : Nat)))
theorem Src.stop {J : It} {v : V} {d : Dt} {ds : List Dt} {H : Hp} {σ : Sg} {st : DS} {pend : Itms} (s : Src X.K J v d ds) (R : Rel X L H σ st ((v, .val d) :: pend)) {i : Nat} (h : ds.length ≤ i) : J.stop i H := by
  obtain ⟨F, A, z⟩ := R.hld
  have rp := z.val
  cases s with
  | lst a ds => cases rp with | lst s1 t1 => exact ⟨_, z.frz.seq s1, by rw [t1.length]; exact h⟩
  | tup a ds => cases rp with | tup s1 t1 => exact ⟨_, sqT_same z.frz s1, by rw [t1.length]; exact h⟩
  | str x =>
    show x.cps.size ≤ i
    simpa using h
  | rng lo n =>
    show n ≤ i
    simpa using h
theorem Src.go {J : It} {v : V} {d : Dt} {ds : List Dt} {H : Hp} {σ : Sg} {st : DS} {pend : Itms} (s : Src X.K J v d ds) (R : Rel X L H σ st ((v, .val d) :: pend)) {i : Nat} {y : Dt} (h : ds[i]? = some y) :
    J.go i H ∧ ∀ x H', J.yld i H x H' → H' = H ∧ Rel X L H σ st ((x, .val y) :: (v, .val d) :: pend) := by
  obtain ⟨F, A, z⟩ := R.hld
  have rp := z.val
  cases s with
  | lst a ds =>
    cases rp with
    | lst s1 t1 =>
      obtain ⟨x, hx, rx⟩ := t1.get h
      refine ⟨⟨_, x, z.frz.seq s1, hx⟩, fun x' H' y' => ⟨y'.1, R.ok, F, A, ?_⟩⟩
      have e := y'.2 _ (z.frz.seq s1)
      rw [hx] at e; cases e
      exact z.add rx
  | tup a ds =>
    cases rp with
    | tup s1 t1 =>
      obtain ⟨x, hx, rx⟩ := t1.get h
      refine ⟨⟨_, x, sqT_same z.frz s1, hx⟩, fun x' H' y' => ⟨y'.1, R.ok, F, A, ?_⟩⟩
      have e := y'.2 _ (sqT_same z.frz s1)
      rw [hx] at e; cases e
      exact z.add rx
  | str x =>
    obtain ⟨hl, e⟩ := List.getElem?_eq_some_iff.mp h
    have hl2 : i < x.cps.size := by simpa using hl
    refine ⟨hl2, fun x' H' y' => ⟨y'.1, R.ok, F, A, ?_⟩⟩
    obtain ⟨c, hc, rfl⟩ := y'.2
    have e2 : y = .str ⟨#[c]⟩ := by
      rw [List.getElem?_map, Array.getElem?_toList, hc] at h
      cases h; rfl
    subst e2
    exact z.add (.str _)
  | rng lo n =>
    obtain ⟨hl, e⟩ := List.getElem?_eq_some_iff.mp h
    have hl2 : i < n := by simpa using hl
    refine ⟨hl2, fun x' H' y' => ⟨y'.1, R.ok, F, A, ?_⟩⟩
    have e2 : y = .int (lo + (i : Nat)) := by rw [← e]; simp
    rw [y'.2, e2]
    exact z.add (.int _)
/-- what is walked by a loop or a comprehension -/
abbrev Wk := M (List Dt)
def tW (X : Cx) (L : Lv) (m : Wk) : TI := fun σ H R => ∃ pend st, Rel X L H σ st pend ∧ Aft (m st) (fun ds st' => ∀ J v d H', Src X.K J v d ds → Rel X L H' σ st' ((v, .val d) :: pend) → R J H') (Xw X L σ)
abbrev DI (X : Cx) (L : Lv) (tg e : Expr) (m : Wk) : Prop := PI X tg e (tW X L m)
theorem piW {tg : Expr} {t t' : TI} (h : PI X tg e t) (w : ∀ σ H R, t' σ H R → t σ H R) : PI X tg e t' := ⟨fun pins s σ H R I q => h.run pins s σ H R I (w σ H R q)⟩
/-- an item of a walk, then the rest -/
def forL (g : Tg) (b : M Fw) : List Dt → M Fw
  | [] => .p .nx
  | d :: ds => (tgM g (.val d)).b fun _ => b.b fun f => (match f with
      | .nx => forL g b ds
      | .cnt => forL g b ds
      | .brk => .p .nx
      | .ret r => .p (.ret r))
def sFor (w : Wk) (g : Tg) (b : M Fw) : M Fw := w.b fun ds => forL g b ds
theorem ds_for {iter tg : Expr} {body : List Stmt} {w : Wk} {g : Tg} {I : List Nat} (hp : PassesOwn (model X.prog X.w) X.A X.env X.xe) (hc : X.calm = true) (hi : DI X L tg iter w) (hg : DG X L I tg g) (hb : DSs X L body m)
    (hs : ∀ x, foldedSetIterable iter X.env x = pure x := by intro _; rfl) : DSt X L (.For tg iter body [] pos) (sFor w g m) := psW (ps_for hp hc hi hg hb hs) fun D σ H q => by
  obtain ⟨pend, st, R, q⟩ := q
  refine ⟨pend, st, R, q.bind.imp (fun ds st1 q1 J v d H1 src R1 => ?_) fun _ _ q => q _ rfl⟩
  refine ⟨fun i k σ' H' => σ'.length = σ.length ∧ k = ds.length - i ∧ ∃ st', Rel X L H' σ' st' ((v, .val d) :: pend) ∧ Aft (forL g m (ds.drop i) st') (FwR X L D σ.length pend) (XwN X L σ.length), ⟨ds.length, rfl, by simp, st1, R1, by rw [List.drop_zero]; exact q1⟩, fun i k σ' H' w => ?_⟩
  obtain ⟨hl, hk, st', R', w⟩ := w
  by_cases hlt : i < ds.length
  · have hy : ds[i]? = some ds[i] := List.getElem?_eq_getElem hlt
    have hd : ds.drop i = ds[i] :: ds.drop (i + 1) := List.drop_eq_getElem_cons hlt
    obtain ⟨go, yld⟩ := src.go R' hy
    rw [hd] at w
    refine .inr ⟨go, fun σ2 H2 => σ2.length = σ.length ∧ ∃ st2, Rel X L H2 σ2 st2 ((v, .val d) :: pend) ∧ Aft (forL g m (ds.drop (i + 1)) st2) (FwR X L D σ.length pend) (XwN X L σ.length), fun σ2 H2 n => ⟨ds.length - (i + 1), by omega, n.1, rfl, n.2⟩, fun x H2 y => ?_⟩
    obtain ⟨rfl, R2⟩ := yld x H2 y
    have w1 := w.bind
    unfold tgM at w1
    cases e1 : g (.val ds[i]) st' with
    | none => rw [e1] at w1; exact w1.elim
    | some st2 =>
      rw [e1] at w1
      have w2 := Aft.bind (show Aft ((M.b m _) st2) _ _ from w1)
      refine ⟨(v, .val d) :: pend, .val ds[i], st', st2, R2, e1, fun σ3 hl3 R3 => ?_⟩
      refine ⟨(v, .val d) :: pend, st2, R3, w2.imp (fun f st3 q3 => ?_) fun x st3 q => by rw [hl3.len, hl]; exact q⟩
      rw [hl3.len, hl]
      cases f with
      | nx => exact fun σ4 H4 hl4 R4 => ⟨hl4, st3, R4, q3⟩
      | cnt => exact fun σ4 H4 hl4 R4 => ⟨hl4, st3, R4, q3⟩
      | brk => exact fun σ4 H4 hl4 R4 => q3 σ4 H4 hl4 R4.pop
      | ret r => exact fun σ4 v4 H4 hl4 R4 => q3 σ4 v4 H4 hl4 (R4.swap.pop)
  · refine .inl ⟨src.stop R' (by omega), ?_⟩
    rw [List.drop_eq_nil_of_le (by omega)] at w
    exact w σ' H' hl R'.pop
end
end DY

/-! The data layer, part G: what a def promises over data; calls. -/
namespace DY
open PySem PySem.Spec PyProof.Rows L2
inductive Ar where
  | val (d : Dt) | brw (k : Nat)
abbrev Fn := List Ar → List Rs → Option (Except Exn Rs × List Rs)
def argIt : List V → List Ar → Itms
  | v :: vs, .val d :: as => (v, .val d) :: argIt vs as
  | _ :: vs, .brw _ :: as => argIt vs as
  | _, _ => []
/-- the borrowed arguments' values -/
def ArOk (xv vs : List V) (as : List Ar) : Prop := vs.length = as.length ∧ ∀ (i k : Nat), as[i]? = some (.brw k) → ∃ v, vs[i]? = some v ∧ xv[k]? = some v
def spD (K : Fg) (mg : Mg) (n : Nat) (f : Fn) : Sp := fun vs H Q E => vs.length = n ∧ ∃ (args : List Ar) (xv : List V) (ext : List Rs) (F₀ Z : Hp), ArOk xv vs args ∧ xv.length = ext.length ∧
  Hld K mg F₀ Z H (argIt vs args ++ xv.zip ext) ∧ (match f args ext with
    | some (.ok r, ext') => ext'.length = ext.length → ∀ v H', Hld K mg F₀ Z H' ((v, r) :: xv.zip ext') → Q v H'
    | some (.error x, ext') => ext'.length = ext.length → ∀ c d H' F A, Hf K mg F₀ Z F H' (xv.zip ext') A → ExR K mg F x c d → E c d H'
    | none => False)

/-! ### the frame -/
theorem Hf.frame {K : Fg} {mg : Mg} {F₀ Z F H : Hp} {B O : Itms} {A : List Addr} (h : Hf K mg F₀ Z F H (B ++ O) A) :
    ∃ Z₁ A₁, Hf K mg F Z₁ F H B A₁ ∧ ∀ F' H' B' A', Hf K mg F Z₁ F' H' B' A' → ∃ A'', Hf K mg F₀ Z F' H' (B' ++ O) A'' := by
  obtain ⟨A₁, A₂, eA, i1, i2⟩ := h.its.split
  subst eA
  have nd := List.nodup_append.mp h.nd
  refine ⟨fun b => if b ∈ A₂ then H b else Z b, A₁, ⟨Same.refl F, h.frz, fun b o e => ?_, fun b o e => ?_, i1, nd.1, fun a ha => ⟨(h.own a (List.mem_append_left _ ha)).1, ?_⟩⟩, fun F' H' B' A' h' => ⟨A' ++ A₂, h.old.trans h'.old, h'.frz, fun b o e => ?_, fun b o e => ?_, h'.its.append (i2.move h'.old fun a ha => ?_), List.nodup_append.mpr ⟨h'.nd, nd.2.1, fun a ha b hb e => ?_⟩, fun a ha => ?_⟩⟩
  · by_cases hb : b ∈ A₂
    · rw [if_pos hb] at e; exact e
    · rw [if_neg hb] at e; exact h.oth b o e
  · by_cases hb : b ∈ A₂
    · have := (h.own b (List.mem_append_right _ hb)).1
      rw [e] at this; cases this
    · show (if b ∈ A₂ then H b else Z b) = none
      rw [if_neg hb]; exact h.off b o e
  · show (if a ∈ A₂ then H a else Z a) = none
    rw [if_neg fun hb => nd.2.2 a ha a hb rfl]
    exact (h.own a (List.mem_append_left _ ha)).2
  · have hb : b ∉ A₂ := fun hb => by
      have := (h.own b (List.mem_append_right _ hb)).2
      rw [e] at this; cases this
    refine h'.oth b o ?_
    show (if b ∈ A₂ then H b else Z b) = some o
    rw [if_neg hb]; exact e
  · have z := h'.off b o e
    have z : (if b ∈ A₂ then H b else Z b) = none := z
    by_cases hb : b ∈ A₂
    · rw [if_pos hb] at z
      obtain ⟨x, q⟩ := i2.there b hb
      rw [q] at z; cases z
    · rw [if_neg hb] at z; exact z
  · obtain ⟨x, q⟩ := i2.there a ha
    rw [q]
    refine h'.oth a x ?_
    show (if a ∈ A₂ then H a else Z a) = some x
    rw [if_pos ha]; exact q
  · subst e
    have z : (if a ∈ A₂ then H a else Z a) = none := (h'.own a ha).2
    rw [if_pos hb] at z
    obtain ⟨x, q⟩ := i2.there a hb
    rw [q] at z; cases z
  · rcases List.mem_append.mp ha with ha | ha
    · obtain ⟨z1, z2⟩ := h'.own a ha
      have z2 : (if a ∈ A₂ then H a else Z a) = none := z2
      refine ⟨z1, ?_⟩
      by_cases hb : a ∈ A₂
      · rw [if_pos hb] at z2
        obtain ⟨x, q⟩ := i2.there a hb
        rw [q] at z2; cases z2
      · rw [if_neg hb] at z2; exact z2
    · refine ⟨?_, (h.own a (List.mem_append_right _ ha)).2⟩
      cases q : F' a with
      | none => rfl
      | some x =>
        have z : (if a ∈ A₂ then H a else Z a) = none := h'.off a x q
        rw [if_pos ha] at z
        obtain ⟨x, q⟩ := i2.there a ha
        rw [q] at z; cases z

/-! ### a def's body -/
def initS (n : Nat) (as : List Ar) : DS := as.map (fun a => match a with
  | .val d => .own (.val d)
  | .brw k => .brw (n + k)) ++ List.replicate (n - as.length) .un
def ownsOf : DS → Option (List Rs)
  | [] => some []
  | .own r :: st => (ownsOf st).map (r :: ·)
  | _ :: _ => none
def runD (n : Nat) (m : M Fw) : Fn := fun args ext => match m (initS n args ++ ext.map Sl.own) with
  | some (.ok f, st) => (match f with
    | .ret r => (ownsOf (st.drop n)).map fun e => (.ok r, e)
    | .nx => (ownsOf (st.drop n)).map fun e => (.ok (.val .none), e)
    | _ => none)
  | some (.error x, st) => (ownsOf (st.drop n)).map fun e => (.error x, e)
  | none => none
theorem slIt_app : ∀ {vs ws : List (Option V)} {st tt : DS}, vs.length = st.length → slIt (vs ++ ws) (st ++ tt) = slIt vs st ++ slIt ws tt
  | [], _, [], _, _ => rfl
  | v :: vs, ws, s :: st, tt, h => by
    have ih := slIt_app (vs := vs) (ws := ws) (st := st) (tt := tt) (by simpa using h)
    cases v with
    | none => exact ih
    | some u =>
      cases s with
      | own r => exact congrArg _ ih
      | un => exact ih
      | brw k => exact ih
  | [], _, _ :: _, _, h => by simp at h
  | _ :: _, _, [], _, h => by simp at h
theorem slIt_cut {vs ws : List (Option V)} {st : DS} {n : Nat} (h : vs.length = n) (hn : n ≤ st.length) : slIt (vs ++ ws) st = slIt vs (st.take n) ++ slIt ws (st.drop n) := by
  have e := slIt_app (vs := vs) (ws := ws) (st := st.take n) (tt := st.drop n) (by rw [h, List.length_take]; omega)
  rw [List.take_append_drop] at e
  exact e
theorem slIt_own : ∀ (xv : List V) (ext : List Rs), slIt (xv.map some) (ext.map Sl.own) = xv.zip ext
  | [], _ => rfl
  | _ :: _, [] => rfl
  | v :: vs, r :: rs => congrArg _ (slIt_own vs rs)
theorem slIt_un : ∀ (vs : List (Option V)) (n : Nat), slIt vs (List.replicate n .un) = []
  | [], n => by cases n <;> rfl
  | v :: vs, 0 => rfl
  | v :: vs, n + 1 => by
    show slIt (v :: vs) (.un :: List.replicate n .un) = []
    cases v <;> exact slIt_un vs n
theorem slIt_args (n : Nat) : ∀ {vs : List V} {as : List Ar}, vs.length = as.length → slIt (vs.map some) (as.map (fun a => match a with
  | .val d => Sl.own (.val d)
  | .brw k => .brw (n + k))) = argIt vs as
  | [], [], _ => rfl
  | v :: vs, a :: as, h => by
    have ih := slIt_args n (vs := vs) (as := as) (by simpa using h)
    cases a with
    | val d => exact congrArg _ ih
    | brw k => exact ih
  | [], _ :: _, h => by simp at h
  | _ :: _, [], h => by simp at h
theorem ownsOf_eq : ∀ {st : DS} {e : List Rs}, ownsOf st = some e → st = e.map Sl.own
  | [], e, h => by cases h; rfl
  | .own r :: st, e, h => by
    unfold ownsOf at h
    obtain ⟨e', h1, rfl⟩ := Option.map_eq_some_iff.mp h
    rw [ownsOf_eq h1]; rfl
  | .un :: st, e, h => by cases h
  | .brw k :: st, e, h => by cases h
theorem start_len {N : List Str} {vs : List V} (h : vs.length ≤ N.length) : (L2.start N vs).length = N.length := by
  unfold L2.start
  rw [List.length_append, List.length_map, List.length_replicate]
  omega
theorem rel_start {X : Cx} {L : Lv} {H : Hp} {vs : List V} {as : List Ar} {ext : List Rs} (hn : vs.length ≤ X.N.length) (ok : ArOk L.xv vs as) (hx : L.xv.length = ext.length) (h : Hld X.K X.mg L.F₀ L.Z H (argIt vs as ++ L.xv.zip ext)) :
    Rel X L H (L2.start X.N vs) (initS X.N.length as ++ ext.map Sl.own) [] := by
  have hl := start_len hn
  have hal : as.length = vs.length := ok.1.symm
  have il : (initS X.N.length as).length = X.N.length := by
    unfold initS
    rw [List.length_append, List.length_map, List.length_replicate]
    omega
  have getv : ∀ (i : Nat) (a : Ar), as[i]? = some a → ∃ v, vs[i]? = some v ∧ (L.vs (L2.start X.N vs))[i]? = some (some v) := fun i a e => by
    have hi : i < vs.length := by rw [← hal]; exact (List.getElem?_eq_some_iff.mp e).1
    refine ⟨vs[i], List.getElem?_eq_getElem hi, ?_⟩
    unfold Lv.vs L2.start
    rw [List.append_assoc, List.getElem?_append_left (by simpa using hi), List.getElem?_map, List.getElem?_eq_getElem hi]
    rfl
  have inits : ∀ (i : Nat), (initS X.N.length as)[i]? = (if i < as.length then (as[i]?).map (fun a => match a with
      | .val d => Sl.own (.val d)
      | .brw k => .brw (X.N.length + k)) else if i < X.N.length then some Sl.un else none) := fun i => by
    unfold initS
    by_cases hi : i < as.length
    · rw [if_pos hi, List.getElem?_append_left (by simpa using hi), List.getElem?_map]
    · rw [if_neg hi, List.getElem?_append_right (by simpa using hi), List.getElem?_replicate, List.length_map]
      by_cases hj : i < X.N.length
      · rw [if_pos hj, if_pos (by omega)]
      · rw [if_neg hj, if_neg (by omega)]
  refine ⟨⟨?_, fun i r e => ?_, fun i k e => ?_⟩, ?_⟩
  · unfold Lv.vs
    rw [List.length_append, List.length_append, hl, il, List.length_map, List.length_map, hx]
  · by_cases hi : i < X.N.length
    · rw [List.getElem?_append_left (by omega), inits] at e
      by_cases h2 : i < as.length
      · obtain ⟨v, _, q⟩ := getv i as[i] (List.getElem?_eq_getElem h2)
        exact ⟨v, q⟩
      · rw [if_neg h2, if_pos hi] at e; cases e
    · rw [List.getElem?_append_right (by omega), il] at e
      have hl2 := (List.getElem?_eq_some_iff.mp e).1
      rw [List.length_map, ← hx] at hl2
      refine ⟨L.xv[i - X.N.length], ?_⟩
      unfold Lv.vs
      rw [List.getElem?_append_right (by omega), hl, List.getElem?_map, List.getElem?_eq_getElem hl2]
      rfl
  · by_cases hi : i < X.N.length
    · rw [List.getElem?_append_left (by omega), inits] at e
      by_cases h2 : i < as.length
      · rw [if_pos h2, List.getElem?_eq_getElem h2] at e
        obtain ⟨v, hv, q⟩ := getv i as[i] (List.getElem?_eq_getElem h2)
        cases ha : as[i] with
        | val d => rw [ha] at e; cases e
        | brw j =>
          rw [ha] at e
          cases e
          refine ⟨by omega, v, q, ?_⟩
          obtain ⟨w, h3, h4⟩ := ok.2 i j (by rw [List.getElem?_eq_getElem h2, ha])
          rw [hv] at h3; cases h3
          unfold Lv.vs
          rw [List.getElem?_append_right (by omega), hl, List.getElem?_map, Nat.add_sub_cancel_left, h4]
          rfl
      · rw [if_neg h2, if_pos hi] at e; cases e
    · rw [List.getElem?_append_right (by omega), il, List.getElem?_map] at e
      cases q : ext[i - X.N.length]? with
      | none => rw [q] at e; cases e
      | some r => rw [q] at e; cases e
  · have e1 : slIt (L.vs (L2.start X.N vs)) (initS X.N.length as ++ ext.map Sl.own) = argIt vs as ++ L.xv.zip ext := by
      unfold Lv.vs
      rw [slIt_app (by rw [hl, il]), slIt_own]
      unfold L2.start initS
      rw [slIt_app (by rw [List.length_map, List.length_map]; exact ok.1), slIt_args _ ok.1, slIt_un, List.append_nil]
    rw [e1]
    exact h
theorem rel_end {X : Cx} {L : Lv} {H : Hp} {σ : Sg} {st : DS} {pend : Itms} {n : Nat} {ext' : List Rs} (hs : σ.length = n) (R : Rel X L H σ st pend) (e : ownsOf (st.drop n) = some ext') : ext'.length = L.xv.length ∧ Hld X.K X.mg L.F₀ L.Z H (pend ++ L.xv.zip ext') := by
  have e1 := ownsOf_eq e
  have hl := R.ok.len
  unfold Lv.vs at hl
  rw [List.length_append, List.length_map, hs] at hl
  have hn : n ≤ st.length := by omega
  have e3 : slIt (L.vs σ) st = slIt σ (st.take n) ++ L.xv.zip ext' := by
    unfold Lv.vs
    rw [slIt_cut hs hn, e1, slIt_own]
  refine ⟨?_, ?_⟩
  · have := congrArg List.length e1
    rw [List.length_drop, List.length_map] at this
    omega
  · have h := R.hld
    rw [e3] at h
    refine Hld.sub (l := slIt σ (st.take n)) (h.perm ?_)
    rw [← List.append_assoc, ← List.append_assoc]
    exact List.Perm.append_right _ List.perm_append_comm

section
variable {P : Program} {w : World} {K : Fg} {mg : Mg} {base : Heap}
/-- THE RULE for a def -/
theorem fnD {x qual : Str} {st : Stmt} {f : Addr} {fd : FuncData} {N ps : List Str} {k : Nat} {m : M Fw} (F : Fun K x qual st f fd) (S : FnScope N ps (defScope st)) (hp : ps.length ≤ N.length)
    (hbody : ∀ (cdv : Value) (A : Around) (outer : List Env) (s : Shared) (H : Hp) (E : XK) (L : Lv), Room k (A.deeper (envOfC qual (defScope st) s.heap.objs.size f cdv)) →
      Takes (cxOf (L2.CX P w) P w K mg base N qual (defScope st) f cdv A outer s H E) L.W → PassesOwn (model P w) (A.deeper (envOfC qual (defScope st) s.heap.objs.size f cdv)) (envOfC qual (defScope st) s.heap.objs.size f cdv) (cxOf (L2.CX P w) P w K mg base N qual (defScope st) f cdv A outer s H E).xe →
      DSs (cxOf (L2.CX P w) P w K mg base N qual (defScope st) f cdv A outer s H E) L (defBody st) m) : FnOk P w K mg base (L2.CX P w) (k + 1) f fd ps (spD K mg ps.length (runD N.length m)) := by
  refine F.okX S (fun vs H Q E h => h.1) (fun cdv A outer s H vs Q E hr h => ?_)
  obtain ⟨hl, args, xv, ext, F₀, Z, ok, hx, hh, res⟩ := h
  have tk : Takes (cxOf (L2.CX P w) P w K mg base N qual (defScope st) f cdv A outer s H E) (fun cls d _ H => E cls d H) := takes_of rfl rfl rfl rfl
  have po : PassesOwn (model P w) (A.deeper (envOfC qual (defScope st) s.heap.objs.size f cdv)) (envOfC qual (defScope st) s.heap.objs.size f cdv) (cxOf (L2.CX P w) P w K mg base N qual (defScope st) f cdv A outer s H E).xe := passes_of (X := cxOf (L2.CX P w) P w K mg base N qual (defScope st) f cdv A outer s H E) rfl
  refine ⟨_, hbody cdv A outer s H E ⟨F₀, Z, xv, fun cls d _ H => E cls d H⟩ hr tk po, ?_⟩
  have R0 := rel_start (X := cxOf (L2.CX P w) P w K mg base N qual (defScope st) f cdv A outer s H E) (L := ⟨F₀, Z, xv, fun cls d _ H => E cls d H⟩) (H := H) (vs := vs) (as := args) (ext := ext) (by show vs.length ≤ N.length; omega) ok hx hh
  have sl : (L2.start N vs).length = N.length := start_len (by omega)
  refine ⟨[], _, R0, ?_⟩
  unfold runD at res
  show Aft (m (initS N.length args ++ ext.map Sl.own)) _ _
  cases q : m (initS N.length args ++ ext.map Sl.own) with
  | none => rw [q] at res; exact res
  | some y =>
    obtain ⟨y, st'⟩ := y
    rw [q] at res
    cases y with
    | ok fl =>
      cases fl with
      | brk => exact res.elim
      | cnt => exact res.elim
      | nx =>
        cases q2 : ownsOf (st'.drop N.length) with
        | none => dsimp only at res; rw [q2] at res; exact res.elim
        | some e =>
          dsimp only at res; rw [q2] at res
          intro σ H' hσ R'
          obtain ⟨h1, h2⟩ := rel_end (hσ.trans sl) (R'.scal (d := .none) rfl) q2
          exact res (h1.trans hx) _ H' h2
      | ret r =>
        cases q2 : ownsOf (st'.drop N.length) with
        | none => dsimp only at res; rw [q2] at res; exact res.elim
        | some e =>
          dsimp only at res; rw [q2] at res
          intro σ v H' hσ R'
          obtain ⟨h1, h2⟩ := rel_end (hσ.trans sl) R' q2
          exact res (h1.trans hx) v H' h2
    | error x =>
      cases q2 : ownsOf (st'.drop N.length) with
      | none => dsimp only at res; rw [q2] at res; exact res.elim
      | some e =>
        dsimp only at res; rw [q2] at res
        intro σ hσ c d H' RX
        obtain ⟨ok', F, A', hf, ex⟩ := RX
        have hσ' : σ.length = N.length := hσ.trans sl
        have e1 := ownsOf_eq q2
        have hl2 := ok'.len
        unfold Lv.vs at hl2
        rw [List.length_append, List.length_map] at hl2
        have hl3 : σ.length + xv.length = st'.length := hl2
        have e3 : slIt (Lv.vs ⟨F₀, Z, xv, fun cls d _ H => E cls d H⟩ σ) st' = slIt σ (st'.take N.length) ++ xv.zip e := by
          show slIt (σ ++ xv.map some) st' = _
          rw [slIt_cut hσ' (by omega), e1, slIt_own]
        rw [e3] at hf
        obtain ⟨B, hf2⟩ := Hf.sub hf
        refine res ?_ c d H' F B hf2 ex
        have := congrArg List.length e1
        rw [List.length_drop, List.length_map] at this
        omega
end

/-! ### calls -/
inductive Ag where
  | v (r : Rs) | b (i : Nat)
/-- the arguments' things; a borrowed one stays in its place -/
def agIt : List V → List Ag → Itms
  | v :: vs, .v r :: as => (v, r) :: agIt vs as
  | _ :: vs, .b _ :: as => agIt vs as
  | _, _ => []
def tDG (X : Cx) (L : Lv) (m : M (List Ag)) : TA := fun σ H Q => ∃ pend st, Rel X L H σ st pend ∧ Aft (m st) (fun as st' => ∀ vs H', vs.length = as.length → (∀ (j i : Nat), as[j]? = some (Ag.b i) → i < σ.length ∧ ∃ v, vs[j]? = some v ∧ σ[i]? = some (some v)) → Rel X L H' σ st' (agIt vs as ++ pend) → Q vs H') (Xw X L σ)
abbrev DAg (X : Cx) (L : Lv) (es : List Expr) (m : M (List Ag)) : Prop := PA X es (tDG X L m)
def agNil : M (List Ag) := .p []
def agV (a : M Rs) (l : M (List Ag)) : M (List Ag) := a.b fun x => l.b fun xs => .p (.v x :: xs)
def hasS (i : Nat) : M Unit := fun st => match lookS st i with
  | some _ => some (.ok (), st)
  | none => none
def agB (i : Nat) (l : M (List Ag)) : M (List Ag) := (hasS i).b fun _ => l.b fun xs => .p (.b i :: xs)
section
variable {X : Cx} {L : Lv} {e a b c : Expr} {es : List Expr} {ma : M Rs} {pos : Pos}
theorem dg_nil : DAg X L [] agNil := paW pa_nil fun σ H Q q => by
  obtain ⟨pend, st, R, q⟩ := q
  exact q [] H rfl (fun j i h => by simp at h) R
theorem dg_v {m : M (List Ag)} (ha : DE X L a ma) (hr : DAg X L es m) (hs : starEach (a :: es) X.env = (false, eval a X.env) :: starEach es X.env := by rfl) : DAg X L (a :: es) (agV ma m) := paW (pa_cons ha hr hs) fun σ H Q q => by
  obtain ⟨pend, st, R, q⟩ := q
  refine ⟨pend, st, R, q.bind.imp (fun x st1 q1 v1 H1 R1 => ?_) fun _ _ q => q⟩
  refine ⟨(v1, x) :: pend, st1, R1, q1.bind.imp (fun rs st2 q2 vs H2 hl hb R2 => ?_) fun _ _ q => q⟩
  refine q2 (v1 :: vs) H2 (by simp [hl]) (fun j i h => ?_) (R2.perm List.perm_middle)
  cases j with
  | zero => simp at h
  | succ j => exact hb j i (by simpa using h)
theorem dg_b (i : Nat) {x : Str} {p : Pos} {m : M (List Ag)} (hr : DAg X L es m) (hN : X.N[i]? = some x := by rfl) (hv : Vis X.env.scope x := by first | exact Or.inl rfl | exact Or.inr (Or.inl rfl) | exact Or.inr (Or.inr rfl)) (hd : (x == ("__debug__" : Str)) = false := by decide)
    (hcd : (x == ("__classdict__" : Str)) = false := by decide) (hn : i < X.N.length := by decide) (hs : starEach (.Name x p :: es) X.env = (false, eval (.Name x p) X.env) :: starEach es X.env := by rfl) : DAg X L (.Name x p :: es) (agB i m) := by
  refine ⟨fun pos pins s σ H Q I q => (pa_cons (pe_var hN hv hd hcd) hr hs).run pos pins s σ H Q I ?_⟩
  obtain ⟨pend, st, R, q⟩ := q
  have hi : i < σ.length := by rw [I.len]; exact hn
  have q1 := q.bind
  unfold hasS at q1
  cases e : lookS st i with
  | none => rw [e] at q1; exact q1.elim
  | some r =>
    rw [e] at q1
    obtain ⟨v, h1, _, _, _⟩ := R.take e hi
    refine ⟨v, h1, pend, st, R, (show Aft ((M.b m _) st) _ _ from q1).bind.imp (fun rs st2 q2 vs H2 hl hb R2 => ?_) fun _ _ q => q⟩
    refine q2 (v :: vs) H2 (by simp [hl]) (fun j i' h => ?_) R2
    cases j with
    | zero =>
      have e2 : i = i' := by simpa using h
      subst e2
      exact ⟨hi, v, rfl, h1⟩
    | succ j => exact hb j i' (by simpa using h)
/-- the borrowed places, in order; the arguments as the callee has them -/
def agArs : List Ag → Nat → Option (List Ar × List Nat)
  | [], _ => some ([], [])
  | .v r :: as, k => match r.frz, agArs as k with
    | some d, some (l, is) => some (.val d :: l, is)
    | _, _ => none
  | .b i :: as, k => match agArs as (k + 1) with
    | some (l, is) => some (.brw k :: l, i :: is)
    | none => none
/-- the borrowed things are taken out -/
def takeS : List Nat → DS → Option (List Rs × DS)
  | [], st => some ([], st)
  | i :: is, st => match lookS st i with
    | some r => (takeS is (st.set (rootS st i) .un)).map fun x => (r :: x.1, x.2)
    | none => none
/-- .. and put back; st: the state that tells the places -/
def putS : List Nat → List Rs → DS → DS → DS
  | i :: is, r :: rs, st, tt => putS is rs st (tt.set (rootS st i) (.own r))
  | _, _, _, tt => tt
def callF (f : Fn) (as : List Ag) : M Rs := fun st => match agArs as 0 with
  | some (l, is) => (match takeS is st with
    | some (rs, st1) => (match f l rs with
      | some (.ok r, rs') => some (.ok r, putS is rs' st st1)
      | some (.error x, rs') => some (.error x, putS is rs' st st1)
      | none => none)
    | none => none)
  | none => none
def eCall (f : Fn) (m : M (List Ag)) : M Rs := m.b fun as => callF f as
theorem agArs_ok {σ : Sg} {st : DS} {H : Hp} {pend : Itms} : ∀ {as : List Ag} {vs : List V} {k : Nat} {l : List Ar} {is : List Nat}, agArs as k = some (l, is) → vs.length = as.length → Rel X L H σ st (agIt vs as ++ pend) →
    (∀ (j i : Nat), as[j]? = some (Ag.b i) → i < σ.length ∧ ∃ v, vs[j]? = some v ∧ σ[i]? = some (some v)) →
    Rel X L H σ st (argIt vs l ++ pend) ∧ vs.length = l.length ∧ (∀ i ∈ is, i < σ.length) ∧ (∀ (j n : Nat), l[j]? = some (.brw n) → k ≤ n ∧ ∃ i v, is[n - k]? = some i ∧ vs[j]? = some v ∧ σ[i]? = some (some v))
  | [], [], k, l, is, e, _, R, _ => by
    cases e
    exact ⟨R, rfl, (fun i hi => by cases hi), (fun j n h => by simp at h)⟩
  | .v r :: as, v :: vs, k, l, is, e, hl, R, hb => by
    unfold agArs at e
    cases er : r.frz with
    | none => rw [er] at e; cases e
    | some d =>
      cases ea : agArs as k with
      | none => rw [er, ea] at e; cases e
      | some x =>
        obtain ⟨l', is'⟩ := x
        rw [er, ea] at e
        cases e
        have R1 : Rel X L H σ st ((v, .val d) :: (agIt vs as ++ pend)) := Rel.freeze R er
        have R2 : Rel X L H σ st (agIt vs as ++ ((v, .val d) :: pend)) := R1.perm List.perm_middle.symm
        obtain ⟨R3, h1, h2, h3⟩ := agArs_ok ea (by simpa using hl) R2 fun j i h => by
          have := hb (j + 1) i (by simpa using h)
          simpa using this
        refine ⟨R3.perm List.perm_middle, by simp [h1], h2, fun j n h => ?_⟩
        cases j with
        | zero => simp at h
        | succ j =>
          have := h3 j n (by simpa using h)
          simpa using this
  | .b i :: as, v :: vs, k, l, is, e, hl, R, hb => by
    unfold agArs at e
    cases ea : agArs as (k + 1) with
    | none => rw [ea] at e; cases e
    | some x =>
      obtain ⟨l', is'⟩ := x
      rw [ea] at e
      cases e
      obtain ⟨R3, h1, h2, h3⟩ := agArs_ok (vs := vs) ea (by simpa using hl) R fun j i h => by
        have := hb (j + 1) i (by simpa using h)
        simpa using this
      obtain ⟨hi, w, hw, hσ⟩ := hb 0 i rfl
      have : v = w := by simpa using hw
      subst this
      refine ⟨R3, by simp [h1], fun j hj => ?_, fun j n h => ?_⟩
      · rcases List.mem_cons.mp hj with rfl | hj
        · exact hi
        · exact h2 j hj
      · cases j with
        | zero =>
          have : k = n := by simpa using h
          subst this
          exact ⟨Nat.le_refl _, i, v, by simp, rfl, hσ⟩
        | succ j =>
          obtain ⟨h4, i', v', h5, h6, h7⟩ := h3 j n (by simpa using h)
          refine ⟨by omega, i', v', ?_, by simpa using h6, h7⟩
          have : n - k = n - (k + 1) + 1 := by omega
          rw [this]
          simpa using h5
  | [], _ :: _, _, _, _, _, hl, _, _ => by simp at hl
  | _ :: _, [], _, _, _, _, hl, _, _ => by simp at hl
theorem rootS_set_un {st : DS} {i j : Nat} (h : (∀ k, st[j]? ≠ some (.brw k))) : rootS (st.set j .un) i = rootS st i := by
  unfold rootS
  by_cases e : j = i
  · subst e
    cases q : st[j]? with
    | none => rw [List.set_eq_of_length_le (by exact List.getElem?_eq_none_iff.mp q), q]
    | some s =>
      rw [List.getElem?_set_self (List.getElem?_eq_some_iff.mp q).1]
      cases s with
      | brw k => exact absurd q (h k)
      | un => rfl
      | own r => rfl
  · rw [List.getElem?_set_ne e]
theorem takeS_ok {σ : Sg} {H : Hp} : ∀ {is : List Nat} {st st1 : DS} {rs : List Rs} {pend : Itms}, takeS is st = some (rs, st1) → (∀ i ∈ is, i < σ.length) → Rel X L H σ st pend →
    ∃ xv : List V, xv.length = rs.length ∧ rs.length = is.length ∧ Rel X L H σ st1 (xv.zip rs ++ pend) ∧ (∀ (j i : Nat), is[j]? = some i → ∃ v, xv[j]? = some v ∧ σ[i]? = some (some v) ∧ (L.vs σ)[rootS st i]? = some (some v)) ∧
      ∀ H' rs' pend', rs'.length = is.length → Rel X L H' σ st1 (xv.zip rs' ++ pend') → Rel X L H' σ (putS is rs' st st1) pend'
  | [], st, st1, rs, pend, e, _, R => by
    cases e
    refine ⟨[], rfl, rfl, R, fun j i h => by simp at h, fun H' rs' pend' hl R' => ?_⟩
    cases rs' with
    | nil => exact R'
    | cons => simp at hl
  | i :: is, st, st1, rs, pend, e, hi, R => by
    unfold takeS at e
    cases er : lookS st i with
    | none => rw [er] at e; cases e
    | some r =>
      rw [er] at e
      obtain ⟨x, ex, e2⟩ := Option.map_eq_some_iff.mp e
      obtain ⟨rs0, st0⟩ := x
      cases e2
      obtain ⟨v, h1, h2, h3, R1⟩ := R.take er (hi i List.mem_cons_self)
      obtain ⟨xv, l1, l2, R2, g, put⟩ := takeS_ok ex (fun j hj => hi j (List.mem_cons_of_mem _ hj)) R1
      have rt : ∀ j, rootS (st.set (rootS st i) .un) j = rootS st j := fun j => rootS_set_un fun k z => by rw [h3] at z; cases z
      refine ⟨v :: xv, by simp [l1], by simp [l2], R2.perm List.perm_middle, fun j i' h => ?_, fun H' rs' pend' hl R' => ?_⟩
      · cases j with
        | zero =>
          have : i = i' := by simpa using h
          subst this
          exact ⟨v, rfl, h1, h2⟩
        | succ j =>
          obtain ⟨w, g1, g2, g3⟩ := g j i' (by simpa using h)
          exact ⟨w, by simpa using g1, g2, by rw [rt] at g3; exact g3⟩
      · cases rs' with
        | nil => simp at hl
        | cons r' rs' =>
          have R3 : Rel X L H' σ st0 (xv.zip rs' ++ ((v, r') :: pend')) := Rel.perm (pend := (v, r') :: (xv.zip rs' ++ pend')) R' List.perm_middle.symm
          have R4 := put H' rs' ((v, r') :: pend') (by simpa using hl) R3
          -- the first place is put back last, over the others
          show Rel X L H' σ (putS is rs' st (st0.set (rootS st i) (.own r'))) pend'
          have R5 := R4.put h2
          have ps : ∀ (is : List Nat) (rs : List Rs) (t1 t2 : DS), (∀ j, rootS t1 j = rootS t2 j) → ∀ tt, putS is rs t1 tt = putS is rs t2 tt := by
            intro is
            induction is with
            | nil => intro rs t1 t2 h tt; rfl
            | cons i is ih =>
              intro rs t1 t2 h tt
              cases rs with
              | nil => rfl
              | cons r rs =>
                show putS is rs t1 (tt.set (rootS t1 i) (.own r)) = putS is rs t2 (tt.set (rootS t2 i) (.own r))
                rw [h i]
                exact ih rs t1 t2 h _
          have ne : ∀ j ∈ is, rootS st j ≠ rootS st i := fun j hj e => by
            obtain ⟨n, hn⟩ := List.getElem?_of_mem hj
            have : ∀ {is : List Nat} {tt t2 : DS} {rs : List Rs} {n j : Nat}, takeS is tt = some (rs, t2) → is[n]? = some j → (∀ k, rootS tt k = rootS st k) → tt[rootS st i]? = some .un → rootS st j ≠ rootS st i := by
              intro is
              induction is with
              | nil => intro tt t2 rs n j h h2; simp at h2
              | cons i0 is ih =>
                intro tt t2 rs n j h h2 h3 h4
                unfold takeS at h
                cases q : lookS tt i0 with
                | none => rw [q] at h; cases h
                | some r0 =>
                  rw [q] at h
                  obtain ⟨y, ey, _⟩ := Option.map_eq_some_iff.mp h
                  have nz : rootS tt i0 ≠ rootS st i := fun z => by
                    unfold lookS at q
                    rw [z, h4] at q; cases q
                  cases n with
                  | zero =>
                    have : i0 = j := by simpa using h2
                    subst this
                    rw [← h3]; exact nz
                  | succ n =>
                    have q3 : ∃ r1, tt[rootS tt i0]? = some (.own r1) := by
                      unfold lookS at q
                      cases q4 : tt[rootS tt i0]? with
                      | none => rw [q4] at q; cases q
                      | some s => cases s with
                        | own r1 => exact ⟨r1, rfl⟩
                        | un => rw [q4] at q; cases q
                        | brw k => rw [q4] at q; cases q
                    obtain ⟨r1, q3⟩ := q3
                    exact ih ey (by simpa using h2) (fun k => (rootS_set_un fun k z => by rw [q3] at z; cases z).trans (h3 k)) (by rw [List.getElem?_set_ne nz]; exact h4)
            exact this ex hn rt (List.getElem?_set_self (List.getElem?_eq_some_iff.mp h3).1) e
          have comm : ∀ (is : List Nat) (rs : List Rs) (tt : DS), (∀ j ∈ is, rootS st j ≠ rootS st i) → putS is rs st (tt.set (rootS st i) (.own r')) = (putS is rs st tt).set (rootS st i) (.own r') := by
            intro is
            induction is with
            | nil => intro rs tt _; rfl
            | cons j is ih =>
              intro rs tt hne
              cases rs with
              | nil => rfl
              | cons r rs =>
                show putS is rs st ((tt.set (rootS st i) (.own r')).set (rootS st j) (.own r)) = (putS is rs st (tt.set (rootS st j) (.own r))).set (rootS st i) (.own r')
                rw [List.set_comm _ _ (Ne.symm (hne j List.mem_cons_self))]
                exact ih rs _ fun k hk => hne k (List.mem_cons_of_mem _ hk)
          rw [ps is rs' _ st rt] at R5
          rw [comm is rs' st0 ne]
          exact R5
theorem argIt_perm {vs : List V} {l : List Ar} {rest : Itms} : True := trivial
/-- f(e, ..) -/
theorem tCall_of {f : Fn} {n : Nat} {m : M (List Ag)} {σ : Sg} {H : Hp} {Q : VK} (hn : ∀ st as st', m st = some (.ok as, st') → as.length = n) (q : tD X L (eCall f m) σ H Q) : tCallS (spD X.K X.mg n f) (WE L.W) (tDG X L m) σ H Q := by
  obtain ⟨pend, st, R, q⟩ := q
  have qb := q.bind
  refine ⟨pend, st, R, ?_⟩
  cases em : m st with
  | none => rw [em] at qb; exact qb.elim
  | some y =>
    obtain ⟨y, st1⟩ := y
    rw [em] at qb
    cases y with
    | error x => exact qb
    | ok as =>
      intro vs H1 hl hb R1
      have q1 : Aft (callF f as st1) _ _ := qb
      have hlen := hn st as st1 em
      unfold callF at q1
      cases ea : agArs as 0 with
      | none => rw [ea] at q1; exact q1.elim
      | some x =>
        obtain ⟨l, is⟩ := x
        rw [ea] at q1
        dsimp only at q1
        obtain ⟨R2, h1, h2, h3⟩ := agArs_ok ea hl R1 hb
        cases et : takeS is st1 with
        | none => rw [et] at q1; exact q1.elim
        | some x =>
          obtain ⟨rs, st2⟩ := x
          rw [et] at q1
          dsimp only at q1
          obtain ⟨xv, l1, l2, R3, g, put⟩ := takeS_ok et h2 R2
          obtain ⟨F, A, z⟩ := R3.hld
          have pz : (xv.zip rs ++ (argIt vs l ++ pend) ++ slIt (L.vs σ) st2).Perm ((argIt vs l ++ xv.zip rs) ++ (pend ++ slIt (L.vs σ) st2)) := by
            have p1 : (xv.zip rs ++ (argIt vs l ++ pend)).Perm ((argIt vs l ++ xv.zip rs) ++ pend) := by
              rw [← List.append_assoc]
              exact List.Perm.append_right _ List.perm_append_comm
            rw [← List.append_assoc (argIt vs l ++ xv.zip rs)]
            exact List.Perm.append_right _ p1
          obtain ⟨A', z'⟩ := z.perm pz
          obtain ⟨Z₁, A₁, zf, back⟩ := z'.frame
          refine ⟨hl.trans hlen, l, xv, rs, F, Z₁, ⟨h1, fun j k hk => ?_⟩, l1, ⟨F, A₁, zf⟩, ?_⟩
          · obtain ⟨_, i, v, g1, g2, g3⟩ := h3 j k hk
            obtain ⟨w, g4, g5, _⟩ := g k i (by simpa using g1)
            rw [g3] at g5; cases g5
            exact ⟨v, g2, g4⟩
          · cases ef : f l rs with
            | none => rw [ef] at q1; exact q1
            | some y =>
              obtain ⟨y, rs'⟩ := y
              rw [ef] at q1
              cases y with
              | ok r =>
                intro hl' v H' hh
                obtain ⟨F', B', hf'⟩ := hh
                obtain ⟨A'', h5⟩ := back F' H' _ B' hf'
                refine q1 v H' ?_
                refine put H' rs' ((v, r) :: pend) (hl'.trans l2) ⟨R3.ok, ?_⟩
                refine Hld.perm ⟨F', A'', h5⟩ ?_
                show ((v, r) :: xv.zip rs' ++ (pend ++ slIt (L.vs σ) st2)).Perm _
                rw [List.cons_append, List.append_assoc]
                exact List.perm_middle.symm
              | error x =>
                intro hl' c d H' F' B' hf' ex
                obtain ⟨A'', h5⟩ := back F' H' _ B' hf'
                refine q1 c d H' ?_
                -- the items of the slots, put back, in the frozen heap F'
                have key : Rel X L H' σ st2 (xv.zip rs' ++ pend) := ⟨R3.ok, by rw [List.append_assoc]; exact ⟨F', A'', h5⟩⟩
                have ok2 := (put H' rs' pend (hl'.trans l2) key).ok
                refine ⟨ok2, F', ?_⟩
                have : ∃ l0, (xv.zip rs' ++ (pend ++ slIt (L.vs σ) st2)).Perm (l0 ++ slIt (L.vs σ) (putS is rs' st1 st2)) := by
                  have pp : ∀ (is : List Nat) (xv : List V) (rs : List Rs) (tt : DS), xv.length = rs.length → rs.length = is.length → (∀ (j i : Nat), is[j]? = some i → ∃ v, xv[j]? = some v ∧ (L.vs σ)[rootS st1 i]? = some (some v)) → (L.vs σ).length = tt.length →
                      ∃ l0, (xv.zip rs ++ slIt (L.vs σ) tt).Perm (l0 ++ slIt (L.vs σ) (putS is rs st1 tt)) := by
                    intro is
                    induction is with
                    | nil =>
                      intro xv rs tt a1 a2 a3 a4
                      cases rs with
                      | nil => exact ⟨[], by cases xv <;> exact List.Perm.refl _⟩
                      | cons => simp at a2
                    | cons i is ih =>
                      intro xv rs tt a1 a2 a3 a4
                      cases rs with
                      | nil => simp at a2
                      | cons r rs =>
                        cases xv with
                        | nil => simp at a1
                        | cons v xv =>
                          obtain ⟨v', b1, b2⟩ := a3 0 i rfl
                          have : v = v' := by simpa using b1
                          subst this
                          have hlt : rootS st1 i < tt.length := by rw [← a4]; exact (List.getElem?_eq_some_iff.mp b2).1
                          obtain ⟨l1, p1⟩ := slIt_drop (vs := L.vs σ) (st := tt) (rootS st1 i)
                          have p2 := slIt_set (vs := L.vs σ) (st := tt) (i := rootS st1 i) r b2 hlt
                          obtain ⟨l0, p3⟩ := ih xv rs (tt.set (rootS st1 i) (.own r)) (by simpa using a1) (by simpa using a2) (fun j i' h => by
                            have := a3 (j + 1) i' (by simpa using h)
                            simpa using this) (by rw [List.length_set]; exact a4)
                          refine ⟨l1 ++ l0, ?_⟩
                          show ((v, r) :: (xv.zip rs ++ slIt (L.vs σ) tt)).Perm (l1 ++ l0 ++ slIt (L.vs σ) (putS is rs st1 (tt.set (rootS st1 i) (.own r))))
                          rw [List.append_assoc]
                          refine List.Perm.trans ?_ (p3.append_left l1)
                          refine List.Perm.trans ?_ ((p2.symm.append_left (xv.zip rs)).append_left l1)
                          refine List.Perm.trans ((p1.append_left (xv.zip rs)).cons (v, r)) ?_
                          have q1 : ((v, r) :: (xv.zip rs ++ (l1 ++ slIt (L.vs σ) (tt.set (rootS st1 i) .un)))).Perm (l1 ++ ((v, r) :: (xv.zip rs ++ slIt (L.vs σ) (tt.set (rootS st1 i) .un)))) := by
                            refine List.Perm.trans (List.Perm.cons _ ?_) List.perm_middle.symm
                            rw [← List.append_assoc, ← List.append_assoc]
                            exact List.Perm.append_right _ List.perm_append_comm
                          exact q1.trans ((List.perm_middle.symm).append_left l1)
                  obtain ⟨l0, p0⟩ := pp is xv rs' st2 (by omega) (hl'.trans l2) (fun j i h => by
                    obtain ⟨v, g1, _, g3⟩ := g j i h
                    exact ⟨v, g1, g3⟩) R3.ok.len
                  refine ⟨pend ++ l0, ?_⟩
                  rw [List.append_assoc]
                  refine List.Perm.trans ?_ (p0.append_left pend)
                  rw [← List.append_assoc, ← List.append_assoc]
                  exact List.Perm.append_right _ List.perm_append_comm
                obtain ⟨l0, p0⟩ := this
                obtain ⟨A3, h6⟩ := h5.perm p0
                obtain ⟨A4, h7⟩ := Hf.sub h6
                exact ⟨A4, h7, ex⟩
theorem de_call {f : Fn} {n k : Nat} {fa : Addr} {fd : FuncData} {ps : List Str} {x : Str} {p : Pos} {m : M (List Ag)} (G : FnOk X.prog X.w X.K X.mg X.base (L2.CX X.prog X.w) k fa fd ps (spD X.K X.mg n f)) (hr : Room k X.A) (hm : X.mg x = some (.ref fa)) (hk : PySem.W.keepIn X.K (.ref fa) = true)
    (hb : Binds X.K fd ps []) (tk : Takes X L.W) (ha : DAg X L (e :: es) m) (hn : ∀ st as st', m st = some (.ok as, st') → as.length = n) (hg : Gl X x := by rfl) (hdb : (x == ("__debug__" : Str)) = false := by decide)
    (he : starEach (e :: es) X.env = (false, eval e X.env) :: starEach es X.env := by rfl) (hpl : (backTo pos (starEach es X.env)).any (·.1) = false := by rfl) : DE X L (.Call (.Name x p) (e :: es) [] pos) (eCall f m) :=
  peW (pe_callS G hr hg hm hk hb (fun σ => passAt tk σ) ha hdb he hpl) fun _ _ _ q => tCall_of hn q
theorem len_agNil {st : DS} {as : List Ag} {st' : DS} (h : agNil st = some (.ok as, st')) : as.length = 0 := by cases h; rfl
theorem len_agV {m : M (List Ag)} {n : Nat} (hn : ∀ st as st', m st = some (.ok as, st') → as.length = n) {st : DS} {as : List Ag} {st' : DS} (h : agV ma m st = some (.ok as, st')) : as.length = n + 1 := by
  unfold agV M.b at h
  cases q : ma st with
  | none => rw [q] at h; cases h
  | some y =>
    obtain ⟨y, st1⟩ := y
    rw [q] at h
    cases y with
    | error x => cases h
    | ok x =>
      dsimp only at h
      cases q2 : m st1 with
      | none => rw [q2] at h; cases h
      | some y =>
        obtain ⟨y, st2⟩ := y
        rw [q2] at h
        cases y with
        | error x => cases h
        | ok xs =>
          have := hn st1 xs st2 q2
          cases h
          simp [this]
theorem len_agB {i : Nat} {m : M (List Ag)} {n : Nat} (hn : ∀ st as st', m st = some (.ok as, st') → as.length = n) {st : DS} {as : List Ag} {st' : DS} (h : agB i m st = some (.ok as, st')) : as.length = n + 1 := by
  unfold agB M.b at h
  cases q : hasS i st with
  | none => rw [q] at h; cases h
  | some y =>
    obtain ⟨y, st1⟩ := y
    rw [q] at h
    cases y with
    | error x => cases h
    | ok x =>
      dsimp only at h
      cases q2 : m st1 with
      | none => rw [q2] at h; cases h
      | some y =>
        obtain ⟨y, st2⟩ := y
        rw [q2] at h
        cases y with
        | error x => cases h
        | ok xs =>
          have := hn st1 xs st2 q2
          cases h
          simp [this]
end
end DY

/-! The data layer, part H: what is walked, comprehensions. -/
namespace DY
open PySem PySem.Spec PyProof.Rows L2

/-! ### walks -/
def itemsD : Dt → Option (List Dt)
  | .list ds => some ds
  | .tuple ds => some ds
  | .str x => some (x.cps.toList.map fun c => .str ⟨#[c]⟩)
  | _ => none
def itemsR (r : Rs) : Option (List Dt) := match r.frz with
  | some d => itemsD d
  | none => none
def wVal (a : M Rs) : Wk := a.b fun r => .o (itemsR r)
def intsFrom (lo : Int) (n : Nat) : List Dt := (List.range n).map fun i => .int (lo + (i : Nat))
def rngLim (i : Int) : Bool := decide (-4611686018427387904 ≤ i) && decide (i < 4611686018427387904)
def rng1 : List Rs → Option (List Dt)
  | [.ow (.val (.int j))] => if rngLim j = true then some (intsFrom 0 j.toNat) else none
  | _ => none
def rng2 : List Rs → Option (List Dt)
  | [.ow (.val (.int i)), .ow (.val (.int j))] => if rngLim i = true ∧ rngLim j = true then some (intsFrom i (j - i).toNat) else none
  | _ => none
def wRng1 (a : M (List Rs)) : Wk := a.b fun l => .o (rng1 l)
def wRng2 (a : M (List Rs)) : Wk := a.b fun l => .o (rng2 l)
section
variable {X : Cx} {L : Lv} {e a b tg : Expr} {es : List Expr} {ma : M Rs} {pos : Pos}
theorem piOr {t t' : TI} (h : PI X tg e t) (h' : PI X tg e t') : PI X tg e (fun σ H R => t σ H R ∨ t' σ H R) := ⟨fun pins s σ H R I q => by
  rcases q with q | q
  · exact h.run pins s σ H R I q
  · exact h'.run pins s σ H R I q⟩
theorem di_val (ha : DE X L e ma) : DI X L tg e (wVal ma) := piW (piOr (pi_list ha) (piOr (pi_tup ha) (pi_str ha))) fun σ H R q => by
  obtain ⟨pend, st, R0, q⟩ := q
  have qb := q.bind
  cases em : ma st with
  | none => rw [em] at qb; exact qb.elim
  | some y =>
    obtain ⟨y, st1⟩ := y
    rw [em] at qb
    cases y with
    | error x => exact .inl ⟨pend, st, R0, by rw [em]; exact qb⟩
    | ok r =>
      obtain ⟨ds, e1, q1⟩ := Aft.opt (show Aft (M.o (itemsR r) st1) _ _ from qb)
      unfold itemsR at e1
      cases er : r.frz with
      | none => rw [er] at e1; cases e1
      | some d =>
        rw [er] at e1
        cases d with
        | list xs =>
          cases e1
          refine .inl ⟨pend, st, R0, ?_⟩
          rw [em]
          intro v H1 R1
          have R2 := R1.freeze er
          have R2' := R2
          obtain ⟨F, A, z⟩ := R2'.hld
          have rp := z.val
          cases rp with
          | lst s1 t1 =>
            rename_i p ys
            exact ⟨p, rfl, ⟨ys, z.frz.seq s1⟩, q1 _ _ _ H1 (.lst p _) R2⟩
        | tuple xs =>
          cases e1
          refine .inr (.inl ⟨pend, st, R0, ?_⟩)
          rw [em]
          intro v H1 R1
          have R2 := R1.freeze er
          have R2' := R2
          obtain ⟨F, A, z⟩ := R2'.hld
          have rp := z.val
          cases rp with
          | tup s1 t1 =>
            rename_i p ys
            exact ⟨p, rfl, ⟨ys, sqT_same z.frz s1⟩, q1 _ _ _ H1 (.tup p _) R2⟩
        | str x =>
          cases e1
          refine .inr (.inr ⟨pend, st, R0, ?_⟩)
          rw [em]
          intro v H1 R1
          have R2 := R1.freeze er
          have R2' := R2
          obtain ⟨F, A, z⟩ := R2'.hld
          have rp := z.val
          cases rp
          exact ⟨x, rfl, q1 _ _ _ H1 (.str x) R2⟩
        | none => cases e1
        | bool b => cases e1
        | int i => cases e1
        | dict es => cases e1
theorem rngLim_ok {i : Int} (h : rngLim i = true) : -(2 ^ 62) ≤ i ∧ i < 2 ^ 62 := by
  simp only [rngLim, Bool.and_eq_true, decide_eq_true_eq] at h
  omega
theorem one_int {X : Cx} {L : Lv} {H : Hp} {σ : Sg} {st : DS} {pend : Itms} {v : V} {i : Int} (R : Rel X L H σ st ((v, .val (.int i)) :: pend)) : v = .int i := by
  obtain ⟨F, A, z⟩ := R.hld
  have rp := z.val
  cases rp
  rfl
theorem di_range1 {m : M (List Rs)} {p : Pos} (hm : X.mg "range" = none) (ha : DA X L [a] m) (hg : Gl X "range" := by rfl) (hs : starEach [a] X.env = [(false, eval a X.env)] := by rfl) : DI X L tg (.Call (.Name "range" p) [a] [] pos) (wRng1 m) :=
  piW (pi_range1 hg hm ha hs) fun σ H R q => by
    obtain ⟨pend, st, R0, q⟩ := q
    refine ⟨pend, st, R0, q.bind.imp (fun rs st1 q1 vs H1 hl R1 => ?_) fun _ _ q => q⟩
    obtain ⟨ds, e1, q1⟩ := q1.opt
    unfold rng1 at e1
    split at e1
    · rename_i j
      split at e1
      · rename_i hj
        cases e1
        cases vs with
        | nil => simp at hl
        | cons v vs =>
          cases vs with
          | cons => simp at hl
          | nil =>
            have R2 : Rel X L H1 σ st1 ((v, .val (.int j)) :: pend) := R1
            have ev := one_int R2
            subst ev
            exact ⟨j, rfl, (rngLim_ok hj).1, (rngLim_ok hj).2, q1 (Itr 0 j.toNat) .non .none H1 (.rng 0 j.toNat) (R2.pop.scal rfl)⟩
      · cases e1
    · cases e1
theorem di_range2 {m : M (List Rs)} {p : Pos} (hm : X.mg "range" = none) (ha : DA X L [a, b] m) (hg : Gl X "range" := by rfl) (hs : starEach [a, b] X.env = [(false, eval a X.env), (false, eval b X.env)] := by rfl) (hs2 : starEach [b] X.env = [(false, eval b X.env)] := by rfl) :
    DI X L tg (.Call (.Name "range" p) [a, b] [] pos) (wRng2 m) :=
  piW (pi_range2 hg hm ha hs hs2) fun σ H R q => by
    obtain ⟨pend, st, R0, q⟩ := q
    refine ⟨pend, st, R0, q.bind.imp (fun rs st1 q1 vs H1 hl R1 => ?_) fun _ _ q => q⟩
    obtain ⟨ds, e1, q1⟩ := q1.opt
    unfold rng2 at e1
    split at e1
    · rename_i i j
      split at e1
      · rename_i hj
        cases e1
        match vs, hl with
        | [v, w], _ =>
          have R2 : Rel X L H1 σ st1 ((v, .val (.int i)) :: (w, .val (.int j)) :: pend) := R1
          have ev := one_int R2
          have ew := one_int R2.pop
          subst ev ew
          exact ⟨i, j, rfl, ⟨(rngLim_ok hj.1).1, (rngLim_ok hj.1).2, (rngLim_ok hj.2).1, (rngLim_ok hj.2).2⟩, q1 (Itr i (j - i).toNat) .non .none H1 (.rng i (j - i).toNat) (R2.pop.pop.scal rfl)⟩
      · cases e1
    · cases e1
end

/-! ### hidden slots -/
def hideS : List Nat → DS → DS
  | [], st => st
  | i :: own, st => (hideS own st).set i .un
def itAt (vs : List (Option V)) (st : DS) (i : Nat) : Itms := match vs[i]?, st[i]? with
  | some (some v), some (.own r) => [(v, r)]
  | _, _ => []
def hidIt (vs : List (Option V)) : List Nat → DS → Itms
  | [], _ => []
  | i :: own, st => itAt vs (hideS own st) i ++ hidIt vs own st
def restS : List Nat → DS → DS → DS
  | [], _, tt => tt
  | i :: own, st, tt => restS own st (match (hideS own st)[i]? with
    | some s => tt.set i s
    | none => tt)
theorem slIt_at : ∀ {vs : List (Option V)} {st : DS} (i : Nat), vs.length = st.length → (slIt vs st).Perm (itAt vs st i ++ slIt vs (st.set i .un))
  | [], [], _, _ => by simp [slIt, itAt]
  | w :: vs, s :: st, 0, _ => by
    cases w with
    | none => cases s <;> exact List.Perm.refl _
    | some u => cases s <;> exact List.Perm.refl _
  | w :: vs, s :: st, i + 1, h => by
    have ih := slIt_at (vs := vs) (st := st) i (by simpa using h)
    have e : itAt (w :: vs) (s :: st) (i + 1) = itAt vs st i := by unfold itAt; simp
    rw [e]
    show (slIt (w :: vs) (s :: st)).Perm (itAt vs st i ++ slIt (w :: vs) (s :: st.set i .un))
    cases w with
    | none => exact ih
    | some u =>
      cases s with
      | own q => exact (List.Perm.cons _ ih).trans List.perm_middle.symm
      | un => exact ih
      | brw k => exact ih
  | [], _ :: _, _, h => by simp at h
  | _ :: _, [], _, h => by simp at h
theorem hideS_len : ∀ (own : List Nat) (st : DS), (hideS own st).length = st.length
  | [], _ => rfl
  | i :: own, st => by unfold hideS; rw [List.length_set, hideS_len own st]
theorem hideS_un : ∀ {own : List Nat} {st : DS} {i : Nat}, i ∈ own → i < st.length → (hideS own st)[i]? = some .un
  | j :: own, st, i, h, hl => by
    unfold hideS
    by_cases e : j = i
    · subst e
      exact List.getElem?_set_self (by rw [hideS_len]; exact hl)
    · rw [List.getElem?_set_ne e]
      rcases List.mem_cons.mp h with h | h
      · exact absurd h.symm e
      · exact hideS_un h hl
theorem hideS_out : ∀ {own : List Nat} {st : DS} {i : Nat}, i ∉ own → (hideS own st)[i]? = st[i]?
  | [], _, _, _ => rfl
  | j :: own, st, i, h => by
    unfold hideS
    rw [List.getElem?_set_ne fun e => h (by simp [e])]
    exact hideS_out fun z => h (List.mem_cons_of_mem _ z)
theorem hidIt_perm {vs : List (Option V)} : ∀ (own : List Nat) {st : DS}, vs.length = st.length → (slIt vs st).Perm (hidIt vs own st ++ slIt vs (hideS own st))
  | [], st, _ => List.Perm.refl _
  | i :: own, st, h => by
    have ih := hidIt_perm own h
    have p := slIt_at (vs := vs) (st := hideS own st) i (by rw [hideS_len]; exact h)
    refine ih.trans ?_
    refine (p.append_left _).trans ?_
    show (hidIt vs own st ++ (itAt vs (hideS own st) i ++ slIt vs ((hideS own st).set i .un))).Perm (itAt vs (hideS own st) i ++ hidIt vs own st ++ slIt vs ((hideS own st).set i .un))
    rw [← List.append_assoc]
    exact List.Perm.append_right _ List.perm_append_comm
theorem restS_len : ∀ (own : List Nat) (st tt : DS), (restS own st tt).length = tt.length
  | [], _, _ => rfl
  | i :: own, st, tt => by
    unfold restS
    rw [restS_len own]
    split
    · rw [List.length_set]
    · rfl
theorem restS_get : ∀ {own : List Nat} {st tt : DS} {j : Nat}, st.length = tt.length → (restS own st tt)[j]? = if j ∈ own then st[j]? else tt[j]?
  | [], st, tt, j, _ => by simp [restS]
  | i :: own, st, tt, j, h => by
    unfold restS
    have hl : (match (hideS own st)[i]? with
      | some s => tt.set i s
      | none => tt).length = tt.length := by
      split
      · rw [List.length_set]
      · rfl
    rw [restS_get (by rw [hl]; exact h)]
    by_cases h1 : j ∈ own
    · rw [if_pos h1, if_pos (List.mem_cons_of_mem _ h1)]
    · rw [if_neg h1]
      by_cases h2 : j = i
      · subst h2
        rw [if_pos List.mem_cons_self, hideS_out h1]
        cases q : st[j]? with
        | none =>
          show tt[j]? = none
          rw [List.getElem?_eq_none_iff] at q ⊢
          omega
        | some s =>
          have : j < tt.length := by rw [← h]; exact (List.getElem?_eq_some_iff.mp q).1
          exact List.getElem?_set_self this
      · rw [if_neg (by simp [h1, h2])]
        split
        · rw [List.getElem?_set_ne (Ne.symm h2)]
        · rfl
theorem restS_perm {vs : List (Option V)} : ∀ (own : List Nat) {st tt : DS}, vs.length = st.length → st.length = tt.length → (∀ i ∈ own, i < tt.length → tt[i]? = some .un) → (slIt vs (restS own st tt)).Perm (hidIt vs own st ++ slIt vs tt)
  | [], st, tt, _, _, _ => List.Perm.refl _
  | i :: own, st, tt, h, h2, hu => by
    unfold restS
    have key : ∀ tt2 : DS, tt2 = (match (hideS own st)[i]? with
      | some s => tt.set i s
      | none => tt) → (slIt vs (restS own st tt2)).Perm (hidIt vs (i :: own) st ++ slIt vs tt) := by
      intro tt2 e
      have l2 : tt2.length = tt.length := by
        rw [e]
        split
        · rw [List.length_set]
        · rfl
      have ih := restS_perm own (st := st) (tt := tt2) h (by rw [l2]; exact h2) (fun j hj hl => by
        rw [l2] at hl
        rw [e]
        by_cases ej : i = j
        · subst ej
          rw [hideS_un hj (by omega)]
          exact List.getElem?_set_self hl
        · split
          · rw [List.getElem?_set_ne ej]
            exact hu j (List.mem_cons_of_mem _ hj) hl
          · exact hu j (List.mem_cons_of_mem _ hj) hl)
      refine ih.trans ?_
      show (hidIt vs own st ++ slIt vs tt2).Perm (itAt vs (hideS own st) i ++ hidIt vs own st ++ slIt vs tt)
      have p : (slIt vs tt2).Perm (itAt vs (hideS own st) i ++ slIt vs tt) := by
        by_cases hi : i < tt.length
        · have ut := hu i List.mem_cons_self hi
          have p1 := slIt_at (vs := vs) (st := tt2) i (by rw [l2]; omega)
          have e1 : tt2.set i .un = tt := by
            rw [e]
            split
            · rw [List.set_set]; exact slIt_same (vs := vs) ut
            · exact slIt_same (vs := vs) ut
          have e2 : itAt vs tt2 i = itAt vs (hideS own st) i := by
            unfold itAt
            have : tt2[i]? = (hideS own st)[i]? := by
              rw [e]
              have hh : i < (hideS own st).length := by rw [hideS_len]; omega
              rw [List.getElem?_eq_getElem hh]
              exact List.getElem?_set_self hi
            rw [this]
          rw [e1, e2] at p1
          exact p1
        · have hn : (hideS own st)[i]? = none := by
            rw [List.getElem?_eq_none_iff, hideS_len]; omega
          have e1 : tt2 = tt := by rw [e, hn]
          have e2 : itAt vs (hideS own st) i = [] := by
            unfold itAt
            rw [hn]
            cases vs[i]? with
            | none => rfl
            | some o => cases o <;> rfl
          rw [e1, e2]
          exact List.Perm.refl _
      refine (p.append_left _).trans ?_
      rw [← List.append_assoc]
      exact List.Perm.append_right _ List.perm_append_comm
    exact key _ rfl
theorem wipe_get : ∀ {vs : List Nat} {σ : Sg} {j : Nat}, (wipe σ vs)[j]? = if j ∈ vs ∧ j < σ.length then some none else σ[j]?
  | [], σ, j => by simp [wipe]
  | v :: vs, σ, j => by
    unfold wipe
    by_cases e : v = j
    · subst e
      by_cases hl : v < σ.length
      · rw [List.getElem?_set_self (by rw [wipe_length]; exact hl), if_pos ⟨List.mem_cons_self, hl⟩]
      · rw [List.set_eq_of_length_le (by rw [wipe_length]; omega), wipe_get, if_neg (by simp [hl]), if_neg (by simp [hl])]
    · rw [List.getElem?_set_ne e, wipe_get]
      by_cases h1 : j ∈ vs ∧ j < σ.length
      · rw [if_pos h1, if_pos ⟨List.mem_cons_of_mem _ h1.1, h1.2⟩]
      · rw [if_neg h1, if_neg fun z => h1 ⟨(List.mem_cons.mp z.1).resolve_left fun q => e q.symm, z.2⟩]
theorem wipe_off {own I : List Nat} {σ σ' : Sg} (o : Off I (wipe σ own) σ') (h : ∀ i ∈ I, i ∈ own) : wipe σ' own = wipe σ own := by
  refine List.ext_getElem? fun j => ?_
  rw [wipe_get, wipe_get]
  have hl : σ'.length = σ.length := by rw [o.len, wipe_length]
  rw [hl]
  by_cases h1 : j ∈ own ∧ j < σ.length
  · rw [if_pos h1, if_pos h1]
  · rw [if_neg h1, if_neg h1]
    by_cases h2 : j ∈ own
    · have : ¬ j < σ.length := fun z => h1 ⟨h2, z⟩
      rw [List.getElem?_eq_none_iff.mpr (by omega), List.getElem?_eq_none_iff.mpr (by omega)]
    · rw [o.at_ j fun z => h2 (h j z), wipe_get, if_neg h1]
theorem slIt_congr : ∀ {vs ws : List (Option V)} {st : DS}, vs.length = ws.length → (∀ (i : Nat), st[i]? = some .un ∨ vs[i]? = ws[i]?) → slIt vs st = slIt ws st
  | [], [], _, _, _ => rfl
  | v :: vs, w :: ws, [], _, _ => by simp [slIt]
  | v :: vs, w :: ws, s :: st, hl, h => by
    have ih := slIt_congr (vs := vs) (ws := ws) (st := st) (by simpa using hl) fun i => by
      have := h (i + 1)
      simpa using this
    have h0 := h 0
    simp at h0
    rcases h0 with h0 | h0
    · subst h0
      cases v <;> cases w <;> exact ih
    · subst h0
      cases v with
      | none => exact ih
      | some u =>
        cases s with
        | own r => exact congrArg _ ih
        | un => exact ih
        | brw k => exact ih
  | [], _ :: _, _, h, _ => by simp at h
  | _ :: _, [], _, h, _ => by simp at h
theorem vs_wipe {L : Lv} {σ : Sg} {own : List Nat} (ho : ∀ i ∈ own, i < σ.length) (j : Nat) : (L.vs (wipe σ own))[j]? = if j ∈ own then some none else (L.vs σ)[j]? := by
  unfold Lv.vs
  by_cases hj : j < σ.length
  · rw [List.getElem?_append_left (by rw [wipe_length]; exact hj), List.getElem?_append_left hj, wipe_get]
    by_cases h1 : j ∈ own
    · rw [if_pos ⟨h1, hj⟩, if_pos h1]
    · rw [if_neg (by simp [h1]), if_neg h1]
  · rw [List.getElem?_append_right (by rw [wipe_length]; omega), List.getElem?_append_right (by omega), wipe_length, if_neg fun z => hj (ho j z)]
theorem Rel.toWipe {X : Cx} {L : Lv} {H : Hp} {σ : Sg} {st : DS} {pend : Itms} {own : List Nat} (R : Rel X L H σ st pend) (ho : ∀ i ∈ own, i < σ.length) (hu : ∀ i ∈ own, st[i]? = some .un) : Rel X L H (wipe σ own) st pend := by
  have hl : (L.vs (wipe σ own)).length = (L.vs σ).length := by unfold Lv.vs; rw [List.length_append, List.length_append, wipe_length]
  refine ⟨⟨hl.trans R.ok.len, fun i r h => ?_, fun i k h => ?_⟩, ?_⟩
  · obtain ⟨v, hv⟩ := R.ok.own i r h
    have : i ∉ own := fun z => by rw [hu i z] at h; cases h
    exact ⟨v, by rw [vs_wipe ho, if_neg this]; exact hv⟩
  · obtain ⟨h1, v, h2, h3⟩ := R.ok.brw i k h
    have : i ∉ own := fun z => by rw [hu i z] at h; cases h
    have h4 : k ∉ own := fun z => by have := ho k z; omega
    exact ⟨by rw [wipe_length]; exact h1, v, by rw [vs_wipe ho, if_neg this]; exact h2, by rw [vs_wipe ho, if_neg h4]; exact h3⟩
  · rw [slIt_congr hl fun i => ?_]
    · exact R.hld
    · by_cases z : i ∈ own
      · exact .inl (hu i z)
      · exact .inr (by rw [vs_wipe ho, if_neg z])
theorem Rel.ofWipe {X : Cx} {L : Lv} {H : Hp} {σ : Sg} {st : DS} {pend : Itms} {own : List Nat} (R : Rel X L H (wipe σ own) st pend) (ho : ∀ i ∈ own, i < σ.length) (hu : ∀ i ∈ own, st[i]? = some .un) : Rel X L H σ st pend := by
  have hl : (L.vs (wipe σ own)).length = (L.vs σ).length := by unfold Lv.vs; rw [List.length_append, List.length_append, wipe_length]
  refine ⟨⟨hl.symm.trans R.ok.len, fun i r h => ?_, fun i k h => ?_⟩, ?_⟩
  · obtain ⟨v, hv⟩ := R.ok.own i r h
    have : i ∉ own := fun z => by rw [hu i z] at h; cases h
    rw [vs_wipe ho, if_neg this] at hv
    exact ⟨v, hv⟩
  · obtain ⟨h1, v, h2, h3⟩ := R.ok.brw i k h
    rw [wipe_length] at h1
    have : i ∉ own := fun z => by rw [hu i z] at h; cases h
    have h4 : k ∉ own := fun z => by have := ho k z; omega
    rw [vs_wipe ho, if_neg this] at h2
    rw [vs_wipe ho, if_neg h4] at h3
    exact ⟨h1, v, h2, h3⟩
  · rw [← slIt_congr hl fun i => ?_]
    · exact R.hld
    · by_cases z : i ∈ own
      · exact .inl (hu i z)
      · exact .inr (by rw [vs_wipe ho, if_neg z])
theorem SlOk.hide {n : Nat} {vs : List (Option V)} {st : DS} (h : SlOk n vs st) (own : List Nat) : SlOk n vs (hideS own st) := by
  refine ⟨by rw [hideS_len]; exact h.len, fun i r e => ?_, fun i k e => ?_⟩
  · by_cases z : i ∈ own
    · have hl : i < st.length := by rw [← hideS_len own st]; exact (List.getElem?_eq_some_iff.mp e).1
      rw [hideS_un z hl] at e; cases e
    · rw [hideS_out z] at e; exact h.own i r e
  · by_cases z : i ∈ own
    · have hl : i < st.length := by rw [← hideS_len own st]; exact (List.getElem?_eq_some_iff.mp e).1
      rw [hideS_un z hl] at e; cases e
    · rw [hideS_out z] at e; exact h.brw i k e
/-- the block's own slots are hidden; what stood there waits -/
theorem Rel.hide {X : Cx} {L : Lv} {H : Hp} {σ : Sg} {st : DS} {pend : Itms} {own : List Nat} (R : Rel X L H σ st pend) (ho : ∀ i ∈ own, i < σ.length) : Rel X L H (wipe σ own) (hideS own st) (pend ++ hidIt (L.vs σ) own st) := by
  have hs : σ.length ≤ st.length := by
    have := R.ok.len
    unfold Lv.vs at this
    rw [List.length_append] at this
    omega
  refine Rel.toWipe ⟨R.ok.hide own, R.hld.perm ?_⟩ ho fun i hi => hideS_un hi (by have := ho i hi; omega)
  rw [List.append_assoc]
  exact (hidIt_perm own R.ok.len).append_left _
theorem Rel.unhide {X : Cx} {L : Lv} {H H' : Hp} {σ : Sg} {st tt : DS} {pend pend0 : Itms} {own : List Nat} (R0 : Rel X L H' σ st pend0) (R : Rel X L H (wipe σ own) tt (pend ++ hidIt (L.vs σ) own st)) (ho : ∀ i ∈ own, i < σ.length) (hu : ∀ i ∈ own, tt[i]? = some .un) : Rel X L H σ (restS own st tt) pend := by
  have R1 := R.ofWipe ho hu
  have hl : st.length = tt.length := R0.ok.len.symm.trans R1.ok.len
  refine ⟨⟨by rw [restS_len]; exact R1.ok.len, fun i r e => ?_, fun i k e => ?_⟩, ?_⟩
  · rw [restS_get hl] at e
    split at e
    · exact R0.ok.own i r e
    · exact R1.ok.own i r e
  · rw [restS_get hl] at e
    split at e
    · exact R0.ok.brw i k e
    · exact R1.ok.brw i k e
  · refine R1.hld.perm ?_
    rw [List.append_assoc]
    exact ((restS_perm own R0.ok.len hl fun i hi _ => hu i hi).symm).append_left _

/-! ### [e for x in xs if t], {k: v for x in xs if t} -/
def Lv.no (L : Lv) : Lv := { L with W := fun _ _ _ _ => False }
def lcL (own : List Nat) (g : Tg) (t : M Bool) (e : M Rs) : List Dt → List Dt → DS → Option (List Dt × DS)
  | [], acc, st => some (acc, st)
  | d :: ds, acc, st => match g (.val d) st with
    | none => none
    | some st1 => match t st1 with
      | some (.ok true, st2) => (match e st2 with
        | some (.ok r, st3) => (match r.frz with
          | some x => if acc.length < lenLine then lcL own g t e ds (acc ++ [x]) (hideS own st3) else none
          | none => none)
        | _ => none)
      | some (.ok false, st2) => lcL own g t e ds acc (hideS own st2)
      | _ => none
def eLc (own : List Nat) (w : Wk) (g : Tg) (t : M Bool) (e : M Rs) : M Rs := w.b fun ds => fun st => match lcL own g t e ds [] (hideS own st) with
  | some (acc, st') => some (.ok (.lst acc), restS own st st')
  | none => none
def tYes' : M Bool := .p true
abbrev DTs (X : Cx) (L : Lv) (ifs : List Expr) (m : M Bool) : Prop := PTs X ifs (tDT X L m)
theorem dts_nil {X : Cx} {L : Lv} : DTs X L [] tYes' := ⟨fun pins s σ H Q I q => by
  obtain ⟨pend, st, R, q⟩ := q
  exact pts_nil.run pins s σ H Q I (q H R)⟩
theorem dts_one {X : Cx} {L : Lv} {c : Expr} {m : M Bool} (h : DT X L c m) : DTs X L [c] m := pts_one h
section
variable {X : Cx} {L : Lv} {elt tg iter : Expr} {ifs : List Expr} {scope : Scope} {own : List (Str × Nat)} {pos : Pos} {w : Wk} {g : Tg} {I : List Nat} {mt : M Bool} {me mk : M Rs}
theorem lcUn {own : List Nat} {g : Tg} {t : M Bool} {e : M Rs} : ∀ {ds acc : List Dt} {st : DS} {a : List Dt} {st' : DS} {n : Nat}, lcL own g t e ds acc st = some (a, st') → (∀ i ∈ own, st[i]? = some .un) → True := fun _ _ => trivial
theorem tLc_of {σ : Sg} {H : Hp} {Q : VK} (hN : σ.length = X.N.length) (ok : ∀ i ∈ own.map (·.2), i < X.N.length) (hI : ∀ i ∈ I, i ∈ own.map (·.2)) (q : tD X L (eLc (own.map (·.2)) w g mt me) σ H Q) :
    tLc (tW X L w) (tgG X L.no I g) (tDT X L.no mt) (tD X L.no me) (own.map (·.2)) σ H Q := by
  obtain ⟨pend, st, R, q⟩ := q
  refine ⟨pend, st, R, q.bind.imp (fun ds st1 q1 J v d H1 src R1 D hD => ?_) fun _ _ q => q⟩
  have ho : ∀ i ∈ own.map (·.2), i < σ.length := fun i hi => by rw [hN]; exact ok i hi
  have hst : ∀ {tt : DS} {H : Hp} {p : Itms} {σ : Sg}, Rel X L H σ tt p → σ.length ≤ tt.length := fun {tt H p σ} R => by
    have := R.ok.len
    unfold Lv.vs at this
    rw [List.length_append] at this
    omega
  cases el : lcL (own.map (·.2)) g mt me ds [] (hideS (own.map (·.2)) st1) with
  | none =>
    have q1 : Aft (match lcL (own.map (·.2)) g mt me ds [] (hideS (own.map (·.2)) st1) with
      | some (acc, st') => some (.ok (Rs.lst acc), restS (own.map (·.2)) st1 st')
      | none => none) _ _ := q1
    rw [el] at q1; exact q1.elim
  | some y =>
    obtain ⟨accf, stf⟩ := y
    have q1 : Aft (match lcL (own.map (·.2)) g mt me ds [] (hideS (own.map (·.2)) st1) with
      | some (acc, st') => some (.ok (Rs.lst acc), restS (own.map (·.2)) st1 st')
      | none => none) _ _ := q1
    rw [el] at q1
    have Rh := R1.hide ho
    have Rn : Rel X L (upd H1 D (.lst [])) (wipe σ (own.map (·.2))) (hideS (own.map (·.2)) st1) ((.ref D, .lst []) :: ((v, .val d) :: pend ++ hidIt (L.vs σ) (own.map (·.2)) st1)) := by
      refine ⟨Rh.ok, ?_⟩
      obtain ⟨F, A, z⟩ := Rh.hld
      exact ⟨F, _, z.newL hD .nil⟩
    refine ⟨fun i k H' => k = ds.length - i ∧ ∃ acc st', (∀ j ∈ own.map (·.2), st'[j]? = some .un) ∧ Rel X L H' (wipe σ (own.map (·.2))) st' ((.ref D, .lst acc) :: ((v, .val d) :: pend ++ hidIt (L.vs σ) (own.map (·.2)) st1)) ∧ lcL (own.map (·.2)) g mt me (ds.drop i) acc st' = some (accf, stf),
      ⟨ds.length, by simp, [], _, fun j hj => hideS_un hj (Nat.lt_of_lt_of_le (ho j hj) (hst R1)), Rn, by rw [List.drop_zero]; exact el⟩, fun i k H' w => ?_⟩
    obtain ⟨hk, acc, st', hu, R2, el2⟩ := w
    by_cases hlt : i < ds.length
    · have hy : ds[i]? = some ds[i] := List.getElem?_eq_getElem hlt
      have hd : ds.drop i = ds[i] :: ds.drop (i + 1) := List.drop_eq_getElem_cons hlt
      rw [hd] at el2
      have R2' : Rel X L H' (wipe σ (own.map (·.2))) st' ((v, .val d) :: (.ref D, .lst acc) :: (pend ++ hidIt (L.vs σ) (own.map (·.2)) st1)) := Rel.swap R2
      obtain ⟨go, yld⟩ := src.go R2' hy
      refine .inr ⟨go, fun H2 => ∃ acc st', (∀ j ∈ own.map (·.2), st'[j]? = some .un) ∧ Rel X L H2 (wipe σ (own.map (·.2))) st' ((.ref D, .lst acc) :: ((v, .val d) :: pend ++ hidIt (L.vs σ) (own.map (·.2)) st1)) ∧ lcL (own.map (·.2)) g mt me (ds.drop (i + 1)) acc st' = some (accf, stf),
        fun H2 n => ⟨ds.length - (i + 1), by omega, rfl, n⟩, fun x H2 y => ?_⟩
      obtain ⟨rfl, R3⟩ := yld x H2 y
      unfold lcL at el2
      cases eg : g (.val ds[i]) st' with
      | none => rw [eg] at el2; cases el2
      | some st2 =>
        rw [eg] at el2
        dsimp only at el2
        refine ⟨_, .val ds[i], st', st2, ⟨R3.ok, R3.hld⟩, eg, fun σ2 hoff R4 => ⟨wipe_off hoff hI, ?_⟩⟩
        have R4 : Rel X L H2 σ2 st2 ((v, .val d) :: (.ref D, .lst acc) :: (pend ++ hidIt (L.vs σ) (own.map (·.2)) st1)) := ⟨R4.ok, R4.hld⟩
        have ho2 : ∀ i ∈ own.map (·.2), i < σ2.length := fun i hi => by rw [hoff.len, wipe_length]; exact ho i hi
        have ew := wipe_off hoff hI
        have back : ∀ {tt : DS} {H3 : Hp} {ac : List Dt}, Rel X L H3 σ2 tt ((.ref D, .lst ac) :: ((v, .val d) :: pend ++ hidIt (L.vs σ) (own.map (·.2)) st1)) → (∀ j ∈ own.map (·.2), (hideS (own.map (·.2)) tt)[j]? = some .un) ∧ Rel X L H3 (wipe σ (own.map (·.2))) (hideS (own.map (·.2)) tt) ((.ref D, .lst ac) :: ((v, .val d) :: pend ++ hidIt (L.vs σ) (own.map (·.2)) st1)) := fun {tt H3 ac} R5 => by
          refine ⟨fun j hj => hideS_un hj (Nat.lt_of_lt_of_le (ho2 j hj) (hst R5)), ?_⟩
          have R6 := R5.hide ho2
          rw [ew] at R6
          have R7 : Rel X L H3 (wipe σ (own.map (·.2))) (hideS (own.map (·.2)) tt) (hidIt (L.vs σ2) (own.map (·.2)) tt ++ ((.ref D, .lst ac) :: ((v, .val d) :: pend ++ hidIt (L.vs σ) (own.map (·.2)) st1))) := R6.perm List.perm_append_comm
          exact R7.only
        refine ⟨_, st2, ⟨R4.ok, R4.hld⟩, ?_⟩
        cases et : mt st2 with
        | none => rw [et] at el2; cases el2
        | some y =>
          obtain ⟨y, st3⟩ := y
          rw [et] at el2
          cases y with
          | error x => cases el2
          | ok b =>
            intro H3 R5
            have R5 : Rel X L H3 σ2 st3 ((v, .val d) :: (.ref D, .lst acc) :: (pend ++ hidIt (L.vs σ) (own.map (·.2)) st1)) := ⟨R5.ok, R5.hld⟩
            cases b with
            | false =>
              rw [if_neg Bool.false_ne_true]
              dsimp only at el2
              obtain ⟨b1, b2⟩ := back (ac := acc) R5.swap
              exact ⟨acc, _, b1, b2, el2⟩
            | true =>
              rw [if_pos rfl]
              dsimp only at el2
              refine ⟨_, st3, ⟨R5.ok, R5.hld⟩, ?_⟩
              cases ee : me st3 with
              | none => rw [ee] at el2; cases el2
              | some y =>
                obtain ⟨y, st4⟩ := y
                rw [ee] at el2
                cases y with
                | error x => cases el2
                | ok r =>
                  intro z H4 R6
                  dsimp only at el2
                  cases er : r.frz with
                  | none => rw [er] at el2; cases el2
                  | some xd =>
                    rw [er] at el2
                    dsimp only at el2
                    split at el2
                    · rename_i hz
                      have R6 : Rel X L H4 σ2 st4 ((z, r) :: (v, .val d) :: (.ref D, .lst acc) :: (pend ++ hidIt (L.vs σ) (own.map (·.2)) st1)) := ⟨R6.ok, R6.hld⟩
                      have R7 := R6.freeze er
                      have R8 : Rel X L H4 σ2 st4 ((.ref D, .lst acc) :: (z, .val xd) :: (v, .val d) :: (pend ++ hidIt (L.vs σ) (own.map (·.2)) st1)) := R7.perm (by
                        refine (List.Perm.cons _ (List.Perm.swap _ _ _)).trans (List.Perm.swap _ _ _))
                      obtain ⟨F, A, hz2⟩ := R8.hld
                      obtain ⟨p, xs, ep, hp, rp⟩ := hz2.lst
                      cases ep
                      have rz : Rp X.K F z xd := by
                        obtain ⟨B, h3⟩ := hz2.drop
                        exact h3.val
                      refine ⟨xs, hp, by rw [rp.length, ← lenLine_eq]; exact hz, ?_⟩
                      have R9 : Rel X L (upd H4 D (.lst (xs ++ [z]))) σ2 st4 ((.ref D, .lst (acc ++ [xd])) :: (z, .val xd) :: (v, .val d) :: (pend ++ hidIt (L.vs σ) (own.map (·.2)) st1)) := ⟨R8.ok, F, A, hz2.putL (rp.append (.cons rz .nil))⟩
                      obtain ⟨b1, b2⟩ := back (ac := acc ++ [xd]) (Rel.pop (v := z) (r := .val xd) (R9.swap))
                      exact ⟨acc ++ [xd], _, b1, b2, el2⟩
                    · cases el2
    · refine .inl ⟨src.stop (Rel.swap R2) (by omega), ?_⟩
      rw [List.drop_eq_nil_of_le (by omega)] at el2
      cases el2
      refine q1 _ H' ?_
      have R3 : Rel X L H' (wipe σ (own.map (·.2))) stf (((.ref D, .lst accf) :: pend) ++ hidIt (L.vs σ) (own.map (·.2)) st1) := Rel.pop (v := v) (r := .val d) (Rel.swap R2)
      exact Rel.unhide R1 R3 ho hu
theorem de_lc (hc : X.calm = true) (hN : X.N.Nodup) (hi : DI X L tg iter w) (ok : BlkOk X.N X.env.scope scope own)
    (hg : ∀ (s : Shared) (H : Hp) (C : Addr) (cl : List (Str × Addr)) (fp : List Addr), DG (X.blk s H scope (compEnvC scope cl C X.env) fp) L.no I tg g)
    (ht : ∀ (s : Shared) (H : Hp) (C : Addr) (cl : List (Str × Addr)) (fp : List Addr), DTs (X.blk s H scope (compEnvC scope cl C X.env) fp) L.no ifs mt)
    (he : ∀ (s : Shared) (H : Hp) (C : Addr) (cl : List (Str × Addr)) (fp : List Addr), DE (X.blk s H scope (compEnvC scope cl C X.env) fp) L.no elt me)
    (hI : ∀ i ∈ I, i ∈ own.map (·.2) := by decide) (hs : ∀ x, foldedSetIterable iter X.env x = pure x := by intro _; rfl) : DE X L (.ListComp elt [⟨tg, iter, ifs, 0⟩] scope pos) (eLc (own.map (·.2)) w g mt me) :=
  ⟨fun pins s σ H Q I' q => (pe_lc hc hN hi ok (g := tgG X L.no I g) (tt := tDT X L.no mt) (te := tD X L.no me) (fun s H C cl fp => hg s H C cl fp) (fun s H C cl fp => ht s H C cl fp) (fun s H C cl fp => he s H C cl fp) hs).run pins s σ H Q I' (tLc_of I'.len (fun i hi' => by
    obtain ⟨p, hp, rfl⟩ := List.mem_map.mp hi'
    exact (List.getElem?_eq_some_iff.mp (ok.ix p hp)).1) hI q)⟩
/-- name = [..] on one line, the name a local -/
theorem ds_setLc {i : Nat} {y : Str} {py spos : Pos} (hc : X.calm = true) (hN : X.N.Nodup) (hsw : swapsWith (.ListComp elt [⟨tg, iter, ifs, 0⟩] scope pos) (some (.Name y py)) spos.line X.env = pure true) (hi : DI X L tg iter w) (ok : BlkOk X.N X.env.scope scope own)
    (hg : ∀ (s : Shared) (H : Hp) (C : Addr) (cl : List (Str × Addr)) (fp : List Addr), DG (X.blk s H scope (compEnvC scope cl C X.env) fp) L.no I tg g)
    (ht : ∀ (s : Shared) (H : Hp) (C : Addr) (cl : List (Str × Addr)) (fp : List Addr), DTs (X.blk s H scope (compEnvC scope cl C X.env) fp) L.no ifs mt)
    (he : ∀ (s : Shared) (H : Hp) (C : Addr) (cl : List (Str × Addr)) (fp : List Addr), DE (X.blk s H scope (compEnvC scope cl C X.env) fp) L.no elt me)
    (hI : ∀ i ∈ I, i ∈ own.map (·.2) := by decide) (hy : X.N[i]? = some y := by rfl) (hyl : X.env.scope.names.lookup y = some .local := by rfl) (hs : ∀ x, foldedSetIterable iter X.env x = pure x := by intro _; rfl) : DSt X L (.Assign [.Name y py] (.ListComp elt [⟨tg, iter, ifs, 0⟩] scope pos) spos) (sAsg (gN i) (eLc (own.map (·.2)) w g mt me)) :=
  ⟨fun pins s σ H D I' q => (ps_setLc hc hN hy hyl hsw hi ok (g := tgG X L.no I g) (tt := tDT X L.no mt) (te := tD X L.no me) (fun s H C cl fp => hg s H C cl fp) (fun s H C cl fp => ht s H C cl fp) (fun s H C cl fp => he s H C cl fp) hs).run pins s σ H D I' (by
    obtain ⟨pend, st, R, q⟩ := q
    refine tLc_of (Q := fun x H1 => gName i x σ H1 D.nx) I'.len (fun i hi' => by
      obtain ⟨p, hp, rfl⟩ := List.mem_map.mp hi'
      exact (List.getElem?_eq_some_iff.mp (ok.ix p hp)).1) hI ⟨pend, st, R, q.bind.imp (fun r st1 q1 v H1 R1 => ?_) fun _ _ q => q _ rfl⟩
    have hl : i < σ.length := by rw [I'.len]; exact (List.getElem?_eq_some_iff.mp hy).1
    exact q1 (σ.set i (some v)) H1 (by rw [List.length_set]) (R1.set hl))⟩
end
end DY

/-! The data layer, part I: slices, builtins by values. -/
namespace DY
open PySem PySem.Spec PyProof.Rows L2

/-! ### slices -/
def cutL {α : Type} (xs : List α) (lo hi : Option Int) : List α := (xs.drop (HT.sIx xs.length 0 lo)).take (HT.sIx xs.length xs.length hi - HT.sIx xs.length 0 lo)
def slD (a : Dt) (lo hi : Option Int) : Option Rs := match a with
  | .list xs => some (.lst (cutL xs lo hi))
  | .tuple xs => some (.val (.tuple (cutL xs lo hi)))
  | .str z => if z.length ≤ lenLine then some (.val (.str (cutS z lo hi))) else none
  | _ => none
def asI : Rs → Option (Option Int)
  | .ow (.val (.int i)) => some (some i)
  | _ => none
abbrev Pt := M (Option Int)
def pNo : Pt := .p none
def pSome (m : M Rs) : Pt := m.b fun r => .o (asI r)
def slF (x : Rs) (l u : Option Int) : Option Rs := match x.frz with
  | some d => slD d l u
  | none => none
def eSl (m : M Rs) (ml mh : Pt) : M Rs := m.b fun x => ml.b fun l => mh.b fun u => .o (slF x l u)
def tDO (X : Cx) (L : Lv) (m : Pt) : TO := fun σ H Q => ∃ pend st, Rel X L H σ st pend ∧ Aft (m st) (fun o st' => ∀ H', Rel X L H' σ st' pend → Q o H') (Xw X L σ)
abbrev DO (X : Cx) (L : Lv) (e : Option Expr) (m : Pt) : Prop := PO X e (tDO X L m)
theorem RpA.cut {K : Fg} {F : Hp} {vs : List V} {ds : List Dt} (r : RpA K F vs ds) (lo hi : Option Int) : RpA K F (cutV vs lo hi) (cutL ds lo hi) := by
  unfold cutV cutL
  rw [r.length]
  exact (r.drop _).take _
theorem cutL_whole {α : Type} {xs : List α} {lo hi : Option Int} (h : HT.sIx xs.length 0 lo = 0 ∧ HT.sIx xs.length xs.length hi = xs.length) : cutL xs lo hi = xs := by
  unfold cutL
  rw [h.1, h.2]
  simp
section
variable {X : Cx} {L : Lv} {e a b : Expr} {es : List Expr} {m ma mb : M Rs} {ml mh : Pt} {lo hi : Option Expr} {pos p2 : Pos}
theorem do_no : DO X L none pNo := ⟨fun pins s σ H Q I q => by
  obtain ⟨pend, st, R, q⟩ := q
  exact po_none.run pins s σ H Q I (q H R)⟩
theorem do_some (h : DE X L e m) : DO X L (some e) (pSome m) := ⟨fun pins s σ H Q I q => by
  refine (po_some h).run pins s σ H Q I ?_
  obtain ⟨pend, st, R, q⟩ := q
  refine ⟨pend, st, R, q.bind.imp (fun r st1 q1 v H1 R1 => ?_) fun _ _ q => q⟩
  obtain ⟨o, e1, q1⟩ := q1.opt
  unfold asI at e1
  split at e1
  · cases e1
    have ev := one_int R1
    subst ev
    exact ⟨_, rfl, q1 H1 R1.pop⟩
  · cases e1⟩
abbrev rSlAll (X : Cx) : V → Option Int → Option Int → Hp → VK → Prop := fun x lo hi H Q => rSlL X.K x lo hi H Q ∨ (rSlA X.K x lo hi H Q ∨ rSlS x lo hi H Q)
theorem sl_all : SlR X (rSlAll X) := sl_list.or (sl_tupA.or sl_str)
theorem de_sl (he : DE X L e m) (hl : DO X L lo ml) (hh : DO X L hi mh) : DE X L (.Subscript e (.Slice lo hi none p2) pos) (eSl m ml mh) := peW (pe_slice sl_all he hl hh) fun σ H Q q => by
  obtain ⟨pend, st, R, q⟩ := q
  refine ⟨pend, st, R, q.bind.imp (fun x st1 q1 v H1 R1 => ?_) fun _ _ q => q⟩
  refine ⟨(v, x) :: pend, st1, R1, q1.bind.imp (fun l st2 q2 H2 R2 => ?_) fun _ _ q => q⟩
  refine ⟨(v, x) :: pend, st2, R2, q2.bind.imp (fun u st3 q3 H3 R3 => ?_) fun _ _ q => q⟩
  obtain ⟨c, e1, q4⟩ := q3.opt
  unfold slF at e1
  cases ex : x.frz with
  | none => rw [ex] at e1; cases e1
  | some d =>
    rw [ex] at e1
    have R4 := R3.freeze ex
    obtain ⟨F, A, z⟩ := R4.hld
    have rp := z.val
    obtain ⟨B, z2⟩ := (show Hf X.K X.mg L.F₀ L.Z F H3 ((v, .val d) :: (pend ++ slIt (L.vs σ) st3)) A from z).drop
    have e1 : slD d l u = some c := e1
    unfold slD at e1
    split at e1
    · cases e1
      cases rp with | lst s1 t1 =>
      exact .inl ⟨_, _, rfl, z.frz.seq s1, fun p hp => q4 _ _ ⟨R4.ok, F, _, z2.newL hp (t1.cut l u)⟩⟩
    · cases e1
      cases rp with | tup s1 t1 =>
      refine .inr (.inl ⟨_, _, rfl, sqT_same z.frz s1, fun w => q4 _ _ ⟨R4.ok, F, B, ?_⟩, fun w p hp => q4 _ _ ⟨R4.ok, _, B, z2.newT hp (t1.cut l u)⟩⟩)
      have e2 := t1.length
      rw [cutL_whole (by rw [← e2]; exact w)]
      exact z2.add (.tup s1 t1)
    · split at e1
      · rename_i hz
        cases e1
        cases rp
        exact .inr (.inr ⟨_, rfl, by rw [← lenLine_eq]; exact hz, q4 _ _ ⟨R4.ok, F, B, z2.add (.str _)⟩⟩)
      · cases e1
    · cases e1

/-! ### calls of builtins -/
theorem SnL.or {r r' : List V → Hp → VK → Prop} {g g' : List Dt → Option Rs} (h : SnL X r g) (h' : SnL X r' g') : SnL X (fun x H Q => r x H Q ∨ r' x H Q) (fun a => (g a).or (g' a)) := by
  intro F₀ Z H l xs as c Q hl hd e k
  have e : (g as).or (g' as) = some c := e
  cases q : g as with
  | some c' =>
    rw [q] at e
    exact .inl (h F₀ Z H l xs as c Q hl hd (q.trans e) k)
  | none =>
    rw [q] at e
    exact .inr (h' F₀ Z H l xs as c Q hl hd e k)
theorem Hf.one {K : Fg} {mg : Mg} {F₀ Z F H : Hp} {l : Itms} {A : List Addr} {xs : List V} {a : Dt} (hl : xs.length = [a].length) (h : Hf K mg F₀ Z F H (xs.zip ([a].map Rs.val) ++ l) A) : ∃ x, xs = [x] ∧ Rp K F x a ∧ ∃ B, Hf K mg F₀ Z F H l B := by
  match xs, hl with
  | [x], _ =>
    have h : Hf K mg F₀ Z F H ((x, .val a) :: l) A := h
    obtain ⟨B, h2⟩ := h.drop
    exact ⟨x, rfl, h.val, B, h2⟩
theorem Hf.both {K : Fg} {mg : Mg} {F₀ Z F H : Hp} {l : Itms} {A : List Addr} {xs : List V} {a b : Dt} (hl : xs.length = [a, b].length) (h : Hf K mg F₀ Z F H (xs.zip ([a, b].map Rs.val) ++ l) A) : ∃ x y, xs = [x, y] ∧ Rp K F x a ∧ Rp K F y b ∧ ∃ B, Hf K mg F₀ Z F H l B := by
  match xs, hl with
  | [x, y], _ =>
    have h : Hf K mg F₀ Z F H ((x, .val a) :: (y, .val b) :: l) A := h
    obtain ⟨B, h2⟩ := h.drop
    obtain ⟨C, h3⟩ := h2.drop
    exact ⟨x, y, rfl, h.val, h2.val, C, h3⟩
/-- len -/
def lenD : List Dt → Option Rs
  | [.str y] => if y.length ≤ lenLine then some (.val (.int y.length)) else none
  | [.list ds] => some (.val (.int ds.length))
  | [.tuple ds] => some (.val (.int ds.length))
  | [.dict es] => some (.val (.int es.length))
  | _ => none
abbrev rLenA (X : Cx) : List V → Hp → VK → Prop := fun xs H Q => (∃ x n, xs = [x] ∧ LenV X.K x H n ∧ Q (.int n) H) ∨ ∃ a kvs, xs = [V.ref a] ∧ H a = some (.dK kvs) ∧ Q (.int kvs.length) H
theorem cr_lenA : CallR X (.builtin "len") (rLenA X) := call_len.or call_lenD
theorem sn_len : SnL X (rLenA X) lenD := by
  intro F₀ Z H l xs as c Q hl h e k
  obtain ⟨F, A, h⟩ := h
  unfold lenD at e
  split at e
  · split at e
    · rename_i hz
      cases e
      obtain ⟨x, rfl, r1, B, h3⟩ := h.one hl
      cases r1
      exact .inl ⟨_, _, rfl, ⟨by rw [← lenLine_eq]; exact hz, rfl⟩, k _ _ ⟨F, B, h3.add (.int _)⟩⟩
    · cases e
  · cases e
    obtain ⟨x, rfl, r1, B, h3⟩ := h.one hl
    cases r1 with | lst s1 t1 =>
    exact .inl ⟨_, _, rfl, .inl ⟨_, h.frz.seq s1, rfl⟩, by rw [t1.length]; exact k _ _ ⟨F, B, h3.add (.int _)⟩⟩
  · cases e
    obtain ⟨x, rfl, r1, B, h3⟩ := h.one hl
    cases r1 with | tup s1 t1 =>
    exact .inl ⟨_, _, rfl, .inr ⟨_, sqT_same h.frz s1, rfl⟩, by rw [t1.length]; exact k _ _ ⟨F, B, h3.add (.int _)⟩⟩
  · cases e
    obtain ⟨x, rfl, r1, B, h3⟩ := h.one hl
    cases r1 with | dic s1 t1 =>
    cases s1 with | k s1 =>
    rename_i kvs
    have el := t1.length
    rw [List.length_map] at el
    exact .inr ⟨_, _, rfl, h.frz _ _ s1, by rw [el]; exact k _ _ ⟨F, B, h3.add (.int _)⟩⟩
  · cases e
/-- abs -/
def absD : List Dt → Option Rs
  | [.int i] => some (.val (.int (if i < 0 then -i else i)))
  | _ => none
theorem sn_abs : SnL X (fun xs H Q => ∃ i, xs = [.int i] ∧ Q (.int (if i < 0 then -i else i)) H) absD := by
  intro F₀ Z H l xs as c Q hl h e k
  obtain ⟨F, A, h⟩ := h
  unfold absD at e
  split at e
  · cases e
    obtain ⟨x, rfl, r1, B, h3⟩ := h.one hl
    cases r1
    exact ⟨_, rfl, k _ _ ⟨F, B, h3.add (.int _)⟩⟩
  · cases e
def asInts : List Dt → Option (List Int)
  | [] => some []
  | .int i :: ds => (asInts ds).map (i :: ·)
  | _ => none
theorem asInts_some : ∀ {ds : List Dt} {ns : List Int}, asInts ds = some ns → ds = ns.map PyData.int
  | [], ns, h => by cases h; rfl
  | .int i :: ds, ns, h => by
    obtain ⟨ms, e, rfl⟩ := Option.map_eq_some_iff.mp h
    rw [asInts_some e]; rfl
def asStrs : List Dt → Option (List Str)
  | [] => some []
  | .str i :: ds => (asStrs ds).map (i :: ·)
  | _ => none
theorem asStrs_some : ∀ {ds : List Dt} {ns : List Str}, asStrs ds = some ns → ds = ns.map PyData.str
  | [], ns, h => by cases h; rfl
  | .str i :: ds, ns, h => by
    obtain ⟨ms, e, rfl⟩ := Option.map_eq_some_iff.mp h
    rw [asStrs_some e]; rfl
/-- sum of a list of ints -/
def sumD : List Dt → Option Rs
  | [.list ds] => (asInts ds).map fun ns => .val (.int ns.sum)
  | _ => none
theorem sn_sum : SnL X (rSum X.K) sumD := by
  intro F₀ Z H l xs as c Q hl h e k
  obtain ⟨F, A, h⟩ := h
  unfold sumD at e
  split at e
  · obtain ⟨ns, e1, rfl⟩ := Option.map_eq_some_iff.mp e
    obtain ⟨x, rfl, r1, B, h3⟩ := h.one hl
    have e2 := asInts_some e1
    subst e2
    cases r1 with | lst s1 t1 =>
    have e3 := t1.ints_inv
    subst e3
    exact ⟨_, ns, rfl, h.frz.seq s1, k _ _ ⟨F, B, h3.add (.int _)⟩⟩
  · cases e
/-- str of an int -/
def strD : List Dt → Option Rs
  | [.int i] => if i.natAbs.log2 < 1920 then some (.val (.str (toString i))) else none
  | _ => none
theorem sn_str : SnL X (fun xs H Q => ∃ i : Int, xs = [.int i] ∧ i.natAbs.log2 < 1920 ∧ Q (.str (toString i)) H) strD := by
  intro F₀ Z H l xs as c Q hl h e k
  obtain ⟨F, A, h⟩ := h
  unfold strD at e
  split at e
  · split at e
    · rename_i hz
      cases e
      obtain ⟨x, rfl, r1, B, h3⟩ := h.one hl
      cases r1
      exact ⟨_, rfl, hz, k _ _ ⟨F, B, h3.add (.str _)⟩⟩
    · cases e
  · cases e
/-- int of a text -/
def intD : List Dt → Option Rs
  | [.str a] => if a.length ≤ 640 then (PySem.intText? a).map fun n => .val (.int n) else none
  | _ => none
theorem sn_int : SnL X (fun xs H Q => ∃ a n, xs = [.str a] ∧ PySem.intText? a = some n ∧ a.length ≤ 640 ∧ Q (.int n) H) intD := by
  intro F₀ Z H l xs as c Q hl h e k
  obtain ⟨F, A, h⟩ := h
  unfold intD at e
  split at e
  · split at e
    · rename_i hz
      obtain ⟨n, e1, rfl⟩ := Option.map_eq_some_iff.mp e
      obtain ⟨x, rfl, r1, B, h3⟩ := h.one hl
      cases r1
      exact ⟨_, _, rfl, e1, hz, k _ _ ⟨F, B, h3.add (.int _)⟩⟩
    · cases e
  · cases e
/-- tuple(x) -/
def tupD : List Dt → Option Rs
  | [.list ds] => some (.val (.tuple ds))
  | [.tuple ds] => some (.val (.tuple ds))
  | _ => none
theorem sn_tup : SnL X (fun xs H Q => ∃ p ys, xs = [.ref p] ∧ ((SqL X.K H p ys ∧ ∀ l, H l = none → Q (.ref l) (upd H l (.tup ys))) ∨ (SqT X.K H p ys ∧ Q (.ref p) H))) tupD := by
  intro F₀ Z H l xs as c Q hl h e k
  obtain ⟨F, A, h⟩ := h
  unfold tupD at e
  split at e
  · cases e
    obtain ⟨x, rfl, r1, B, h3⟩ := h.one hl
    cases r1 with | lst s1 t1 =>
    exact ⟨_, _, rfl, .inl ⟨h.frz.seq s1, fun p hp => k _ _ ⟨_, B, h3.newT hp t1⟩⟩⟩
  · cases e
    obtain ⟨x, rfl, r1, B, h3⟩ := h.one hl
    cases r1 with | tup s1 t1 =>
    exact ⟨_, _, rfl, .inr ⟨sqT_same h.frz s1, k _ _ ⟨F, B, h3.add (.tup s1 t1)⟩⟩⟩
  · cases e
/-- list(x) -/
def lstD : List Dt → Option Rs
  | [.list ds] => some (.lst ds)
  | [.tuple ds] => some (.lst ds)
  | [.dict es] => some (.lst (es.map (·.1)))
  | _ => none
abbrev rLstA (X : Cx) : List V → Hp → VK → Prop := fun xs H Q => (∃ p ys, xs = [.ref p] ∧ (SqL X.K H p ys ∨ SqT X.K H p ys) ∧ ∀ l, H l = none → Q (.ref l) (upd H l (.lst ys))) ∨ rListD xs H Q
theorem cr_lstA (hc : X.calm = true) : CallR X (.type "list") (rLstA X) := call_list_of.or (call_list_dK hc)
theorem RpA.keys {K : Fg} {F : Hp} {ks : List Key} : RpA K F (ks.map kV) (ks.map kD) := by
  induction ks with
  | nil => exact .nil
  | cons a r ih =>
    refine .cons ?_ ih
    cases a
    · exact .int _
    · exact .str _
theorem sn_lst : SnL X (rLstA X) lstD := by
  intro F₀ Z H l xs as c Q hl h e k
  obtain ⟨F, A, h⟩ := h
  unfold lstD at e
  split at e
  · cases e
    obtain ⟨x, rfl, r1, B, h3⟩ := h.one hl
    cases r1 with | lst s1 t1 =>
    exact .inl ⟨_, _, rfl, .inl (h.frz.seq s1), fun p hp => k _ _ ⟨F, _, h3.newL hp t1⟩⟩
  · cases e
    obtain ⟨x, rfl, r1, B, h3⟩ := h.one hl
    cases r1 with | tup s1 t1 =>
    exact .inl ⟨_, _, rfl, .inr (sqT_same h.frz s1), fun p hp => k _ _ ⟨F, _, h3.newL hp t1⟩⟩
  · cases e
    obtain ⟨x, rfl, r1, B, h3⟩ := h.one hl
    cases r1 with | dic s1 t1 =>
    cases s1 with | k s1 =>
    rename_i kvs
    refine .inr ⟨_, kvs, rfl, h.frz _ _ s1, fun p hp => k _ _ ⟨F, _, h3.newL hp ?_⟩⟩
    have e1 := t1.keys
    rw [← e1, List.map_map]
    have : (kvs.map fun kv => kV kv.1) = (kvs.map (·.1)).map kV := by rw [List.map_map]; rfl
    rw [this]
    have : (kvs.map ((fun x : Dt × V => x.1) ∘ fun e : Key × V => (kD e.1, e.2))) = (kvs.map (·.1)).map kD := by rw [List.map_map]; rfl
    rw [this]
    exact RpA.keys
  · cases e
/-- max, min of two ints -/
def max2D : List Dt → Option Rs
  | [.int i, .int j] => some (.val (.int (if j > i then j else i)))
  | _ => none
def min2D : List Dt → Option Rs
  | [.int i, .int j] => some (.val (.int (if j < i then j else i)))
  | _ => none
theorem sn_max2 : SnL X (fun xs H Q => ∃ i j : Int, xs = [.int i, .int j] ∧ Q (.int (if j > i then j else i)) H) max2D := by
  intro F₀ Z H l xs as c Q hl h e k
  obtain ⟨F, A, h⟩ := h
  unfold max2D at e
  split at e
  · cases e
    obtain ⟨x, y, rfl, r1, r2, B, h3⟩ := h.both hl
    cases r1; cases r2
    exact ⟨_, _, rfl, k _ _ ⟨F, B, h3.add (.int _)⟩⟩
  · cases e
theorem sn_min2 : SnL X (fun xs H Q => ∃ i j : Int, xs = [.int i, .int j] ∧ Q (.int (if j < i then j else i)) H) min2D := by
  intro F₀ Z H l xs as c Q hl h e k
  obtain ⟨F, A, h⟩ := h
  unfold min2D at e
  split at e
  · cases e
    obtain ⟨x, y, rfl, r1, r2, B, h3⟩ := h.both hl
    cases r1; cases r2
    exact ⟨_, _, rfl, k _ _ ⟨F, B, h3.add (.int _)⟩⟩
  · cases e
end
end DY

/-! The data layer, part J: sorted, isinstance, methods of builtins. -/
namespace DY
open PySem PySem.Spec PyProof.Rows L2

/-! ### sorted -/
def tupNe : Dt → Bool
  | .tuple (_ :: _) => true
  | _ => false
def noTup : Dt → Bool
  | .none => false
  | .tuple _ => false
  | _ => true
def sortOk (ds : List Dt) : Bool := PyData.plainAll ds && (ds.all fun d => ds.all fun e => PySem.W.alike d e) && (ds.all tupNe || ds.all noTup) && decide (PyData.depthAll ds ≤ 60)
def dLe : Dt → Dt → Bool := PySem.W.dataLe false id
def sortL (ds : List Dt) : Option (List Dt) := if ds.length < 2 then some ds else if sortOk ds = true then some (ds.mergeSort dLe) else none
def sortedD : List Dt → Option Rs
  | [.list ds] => (sortL ds).map Rs.lst
  | _ => none
def rSortDt (K : Fg) : List V → Hp → VK → Prop := fun vs H Q => ∃ a xs ds es, vs = [V.ref a] ∧ SqL K H a xs ∧ RpA K H xs ds ∧ sortL ds = some es ∧ ∀ ys p, ys.length = es.length → (∀ F, Same F H → RpA K F xs ds → RpA K F ys es) → H p = none → Q (.ref p) (upd H p (.lst ys))
theorem each_of {X : Cx} {pins : List (Addr × Obj)} {σ : Sg} {H : Hp} {s : Shared} : ∀ {xs : List V} {vs : List Value} {ds : List Dt}, Vals xs vs → xs.length = ds.length → PySem.W.EachIs (fun u (p : V × Dt) => RelV p.1 u) vs (xs.zip ds)
  | [], _, [], .nil, _ => .nil
  | x :: xs, _, d :: ds, .cons r t, h => .cons r (each_of (X := X) (pins := pins) (σ := σ) (H := H) (s := s) t (by simpa using h))
  | [], _, _ :: _, _, h => by simp at h
  | _ :: _, _, [], _, h => by simp at h
theorem plainAll_mem : ∀ {ds : List Dt} {d : Dt}, PyData.plainAll ds = true → d ∈ ds → d.plain = true
  | e :: ds, d, h, m => by
    rw [PyData.plainAll, Bool.and_eq_true] at h
    rcases List.mem_cons.mp m with rfl | m
    · exact h.1
    · exact plainAll_mem h.2 m
theorem depthAll_mem : ∀ {ds : List Dt} {d : Dt}, d ∈ ds → d.depth ≤ PyData.depthAll ds
  | e :: ds, d, m => by
    rw [PyData.depthAll]
    rcases List.mem_cons.mp m with rfl | m
    · exact Nat.le_max_left _ _
    · exact Nat.le_trans (depthAll_mem m) (Nat.le_max_right _ _)
theorem each_reads {X : Cx} {pins : List (Addr × Obj)} {σ : Sg} {H : Hp} {s : Shared} (I : Inv X pins σ H s) : ∀ {xs : List V} {vs : List Value} {ds : List Dt}, Vals xs vs → RpA X.K H xs ds → PyData.plainAll ds = true → PySem.W.EachIs (fun u (p : V × Dt) => ∃ as, Reads s.heap u p.2 as) vs (xs.zip ds)
  | [], _, _, .nil, h, _ => by cases h; exact .nil
  | x :: xs, _, _, .cons r t, h, hp => by
    cases h with
    | cons h rest =>
      rw [PyData.plainAll, Bool.and_eq_true] at hp
      exact .cons (h.reads I (Same.refl H) hp.1 r) (each_reads I t rest hp.2)
theorem zip_snd : ∀ {xs : List V} {ds : List Dt}, xs.length = ds.length → (xs.zip ds).map (·.2) = ds
  | [], [], _ => rfl
  | x :: xs, d :: ds, h => by
    show d :: (xs.zip ds).map (·.2) = _
    rw [zip_snd (by simpa using h)]
  | [], _ :: _, h => by simp at h
  | _ :: _, [], h => by simp at h
theorem vals_each : ∀ {out : List Value} {zs : List (V × Dt)}, PySem.W.EachIs (fun u (p : V × Dt) => RelV p.1 u) out zs → Vals (zs.map (·.1)) out
  | _, _, .nil => .nil
  | _, _, .cons r t => .cons r (vals_each t)
theorem rpa_pairs {K : Fg} {F : Hp} : ∀ {zs : List (V × Dt)}, (∀ p ∈ zs, Rp K F p.1 p.2) → RpA K F (zs.map (·.1)) (zs.map (·.2))
  | [], _ => .nil
  | p :: zs, h => .cons (h p List.mem_cons_self) (rpa_pairs fun q m => h q (List.mem_cons_of_mem _ m))
theorem rpa_zip {K : Fg} {F : Hp} : ∀ {xs : List V} {ds : List Dt}, RpA K F xs ds → ∀ p ∈ xs.zip ds, Rp K F p.1 p.2
  | _, _, .nil, p, m => by cases m
  | _, _, .cons h t, p, m => by
    rcases List.mem_cons.mp m with rfl | m
    · exact h
    · exact rpa_zip t p m
theorem swo_no : SrtO.Swo fun (_ _ : Value) => false := ⟨fun _ _ _ => rfl, fun _ _ _ _ _ => rfl⟩
theorem cr_sortedDt {X : Cx} (hu : X.A.units + 64 < cLine) : CallR X (.builtin "sorted") (rSortDt X.K) := by
  intro pins s σ H vs us Q I r h
  obtain ⟨a, xs, ds, es, rfl, hs, rp, hso, q⟩ := h
  obtain ⟨its, rv, hl, hz⟩ := I.list hs
  obtain ⟨u, rfl, ru⟩ := vals1 r
  obtain rfl : u = Value.ref a := ru
  have hxd := rp.length
  unfold sortL at hso
  split at hso
  · rename_i h2
    cases hso
    refine SrtO.sorted_ord swo_no hl.isList (by rw [← rv.length]; exact hz) (fun h3 => absurd h3 (by rw [← rv.length, hxd]; omega)) fun out h1 hb => ?_
    have eo : out = its := by
      have p := hb.perm
      have l2 := rv.length
      match its, out, p, l2 with
      | [], out, p, _ => exact p.eq_nil
      | [x], out, p, _ => exact List.perm_singleton.mp p
      | x :: y :: r, _, _, l2 => simp at l2; omega
    subst eo
    obtain ⟨ep, he'⟩ := PyProof.Rows.sortedAll_at s.heap out out.toArray
    exact ⟨.ref _, upd H (s.heap.objs.size + 1) (.lst xs), I.laid (t' := s.toks) (fun _ _ => PyProof.Rows.sortedAll_old) (Nat.le_succ _) ⟨hz, out, ep, rv, he'⟩, rfl, q _ _ hxd (fun F _ r => r) (I.hok.fresh (Nat.le_succ _))⟩
  · split at hso
    · rename_i hok
      cases hso
      simp only [sortOk, Bool.and_eq_true, Bool.or_eq_true, decide_eq_true_eq] at hok
      obtain ⟨⟨⟨hp, hal⟩, hk⟩, hd⟩ := hok
      have ez := zip_snd hxd
      have lz : (xs.zip ds).length = xs.length := by rw [List.length_zip]; omega
      refine PySem.W.sorted_data (β := V × Dt) (enc := fun p => p.2) (bs := xs.zip ds) (R := fun u p => RelV p.1 u) hl.isList (each_of (X := X) (pins := pins) (σ := σ) (H := H) (s := s) rv hxd) (each_reads I rv rp hp) ?_ ?_ (by rw [lz]; exact hz) (fun p hm => ?_) fun out ho hE => ?_
      · rw [ez]
        intro d hd1 e he1
        exact List.all_eq_true.mp (List.all_eq_true.mp hal d hd1) e he1
      · rw [ez]
        rcases hk with hk | hk
        · refine .inl fun d hm => ?_
          have := List.all_eq_true.mp hk d hm
          unfold tupNe at this
          split at this
          · exact ⟨_, _, rfl⟩
          · cases this
        · refine .inr fun d hm => ?_
          have := List.all_eq_true.mp hk d hm
          refine ⟨fun e => ?_, fun ys e => ?_⟩ <;> subst e <;> cases this
      · have m2 : p.2 ∈ ds := by rw [← ez]; exact List.mem_map.mpr ⟨p, hm, rfl⟩
        have := depthAll_mem m2
        show X.A.units + 2 + p.2.depth < cLine
        omega
      · have hm : ((xs.zip ds).mergeSort (PySem.W.dataLe false fun p => p.2)).map (·.2) = ds.mergeSort dLe := by
          have := PySem.W.sort_maps (r := PySem.W.dataLe false fun p : V × Dt => p.2) (s := dLe) (fun p : V × Dt => p.2) (l := xs.zip ds) fun a _ b _ => rfl
          rw [this, ez]
        have hvo := vals_each hE
        obtain ⟨ep, he'⟩ := PyProof.Rows.sortedAll_at s.heap its out.toArray
        have hl2 : (((xs.zip ds).mergeSort (PySem.W.dataLe false fun p => p.2)).map (·.1)).length = xs.length := by
          rw [List.length_map, List.length_mergeSort, lz]
        refine ⟨.ref _, upd H (s.heap.objs.size + 1) (.lst _), I.laid (t' := s.toks) (fun _ _ => PyProof.Rows.sortedAll_old) (Nat.le_succ _) ⟨by rw [hl2]; exact hz, out, ep, hvo, he'⟩, rfl, q _ _ ?_ (fun F _ r => ?_) (I.hok.fresh (Nat.le_succ _))⟩
        · rw [hl2, List.length_mergeSort, hxd]
        · rw [← hm]
          refine rpa_pairs fun p hp => rpa_zip r p ?_
          exact (List.mergeSort_perm _ _).mem_iff.mp hp
    · cases hso
section
variable {X : Cx} {L : Lv}
theorem sn_sortedDt : SnL X (rSortDt X.K) sortedD := by
  intro F₀ Z H l xs as c Q hl h e k
  obtain ⟨F, A, h⟩ := h
  unfold sortedD at e
  split at e
  · obtain ⟨es, e1, rfl⟩ := Option.map_eq_some_iff.mp e
    obtain ⟨x, rfl, r1, B, h3⟩ := h.one hl
    cases r1 with | lst s1 t1 =>
    exact ⟨_, _, _, es, rfl, h.frz.seq s1, t1.same h.frz, e1, fun ys p _ hr hp => k _ _ ⟨F, _, h3.newL hp (hr F h.frz t1)⟩⟩
  · cases e

/-! ### isinstance with a builtin's name -/
def tyN : Dt → String
  | .none => "NoneType"
  | .bool _ => "bool"
  | .int _ => "int"
  | .str _ => "str"
  | .list _ => "list"
  | .tuple _ => "tuple"
  | .dict _ => "dict"
def isiB (T : String) (d : Dt) : Bool := decide (tyN d = T) || (decide (tyN d = "bool") && decide (T = "int"))
def isiN : List String := ["bool", "int", "str", "list", "tuple", "dict"]
theorem kit_isi {T : String} (h : T ∈ isiN) (d : Dt) : kitB (tyN d) T = some (isiB T d) := by
  have hd : tyN d ∈ ["NoneType", "bool", "int", "str", "list", "tuple", "dict"] := by cases d <;> simp [tyN]
  have key : ∀ T ∈ isiN, ∀ n ∈ ["NoneType", "bool", "int", "str", "list", "tuple", "dict"], kitB n T = some (decide (n = T) || (decide (n = "bool") && decide (T = "int"))) := by decide +kernel
  exact key T h _ hd
theorem tyx_of {K : Fg} {F H : Hp} {v : V} {d : Dt} (s : Same F H) (r : Rp K F v d) : TyX K H v (.type (tyN d)) := by
  cases r with
  | non => exact .base .non
  | bl b => exact .base (.bl b)
  | int i => exact .base (.int i)
  | str x => exact .base (.str x)
  | lst h r =>
    rcases s.seq h with (h | ⟨o, h⟩) | h
    · exact .base (.lst h)
    · exact .base (.frz h)
    · obtain ⟨o, _, _, e, c, _⟩ := h
      exact .kList e c
  | tup h r =>
    rcases sqT_same s h with (h | ⟨o, h⟩) | h
    · exact .base (.tup h)
    · exact .fTuple h
    · obtain ⟨o, _, _, e, c, _⟩ := h
      exact .kTuple e c
  | dic h r =>
    cases h with
    | k h => exact .base (.dK (s _ _ h))
def eIsi (T : String) (m : M Rs) : M Rs := m.b fun r => .o (match r.frz with
  | some d => some (Rs.val (.bool (isiB T d)))
  | none => none)
theorem de_isi {a : Expr} {ma : M Rs} {T : String} {y : Str} {p py pos : Pos} (hm : X.mg "isinstance" = none) (hy : X.mg y = none) (hv : bootBuiltins y = some (.type T)) (ha : DE X L a ma) (hT : T ∈ isiN := by decide) (hg : Gl X "isinstance" := by rfl) (hgy : Gl X y := by rfl)
    (hny : y ≠ "__name__" := by decide) (hdy : (y == ("__debug__" : Str)) = false := by decide)
    (he : starEach [a, .Name y py] X.env = (false, eval a X.env) :: starEach [.Name y py] X.env := by rfl) (he2 : starEach [.Name y py] X.env = (false, eval (.Name y py) X.env) :: starEach [] X.env := by rfl)
    (hpl : (backTo pos (starEach [.Name y py] X.env)).any (·.1) = false := by rfl) : DE X L (.Call (.Name "isinstance" p) [a, .Name y py] [] pos) (eIsi T ma) :=
  peW (pe_callB call_isi hg hm (by rfl) (pa_cons ha (pa_cons (pe_bltn (v := .ty T) (u := .type T) hgy hy hv rfl hny hdy) pa_nil he2) he) (by decide) (by decide) he hpl) fun σ H Q q => by
    obtain ⟨pend, st, R, q⟩ := q
    refine ⟨pend, st, R, q.bind.imp (fun r st1 q1 v H1 R1 => ?_) fun _ _ q => q⟩
    obtain ⟨c, e1, q1⟩ := q1.opt
    cases er : r.frz with
    | none => rw [er] at e1; cases e1
    | some d =>
      rw [er] at e1
      cases e1
      have R2 := R1.freeze er
      have R3 := R2
      obtain ⟨F, A, z⟩ := R3.hld
      exact ⟨v, .ty T, _, _, _, rfl, .ty T, tyx_of z.frz z.val, kit_ty (kit_isi hT d), q1 _ _ (R2.pop.scal rfl)⟩

/-! ### methods of builtins -/
/-- the receiver's thing, the arguments: the receiver afterwards, the result -/
abbrev Mth := Ow → List Rs → Option (Ow × Rs)
def SnM (X : Cx) (r : V → List V → Hp → VK → Prop) (f : Mth) : Prop := ∀ (F₀ Z H : Hp) (l : Itms) (x : V) (o : Ow) (xs : List V) (as : List Rs) (o' : Ow) (c : Rs) (Q : VK), xs.length = as.length →
  Hld X.K X.mg F₀ Z H ((x, .ow o) :: (xs.zip as ++ l)) → f o as = some (o', c) → (∀ v H', Hld X.K X.mg F₀ Z H' ((x, .ow o') :: (v, c) :: l) → Q v H') → r x xs H Q
def tyO (T : String) : Ow → Bool
  | .val (.str _) => decide (T = "str")
  | .val (.list _) => decide (T = "list")
  | .lst _ => decide (T = "list")
  | .val (.dict _) => decide (T = "dict")
  | .dic _ => decide (T = "dict")
  | _ => false
theorem tyO_is {K : Fg} {F H : Hp} {v : V} {o : Ow} {A : List Addr} {T : String} (s : Same F H) (h : OwR K F H v o A) (ht : tyO T o = true) : tyV K T v H := by
  cases h with
  | val r =>
    cases r <;> simp [tyO] at ht
    · subst ht; rfl
    · rename_i h1 t1
      subst ht; exact .inl ⟨rfl, _, s.seq h1⟩
    · rename_i h1 t1
      subst ht
      cases h1 with
      | k h1 => exact .inr (.inr (.inl ⟨rfl, .inl ⟨_, s _ _ h1⟩⟩))
  | lst e r =>
    simp [tyO] at ht
    subst ht
    exact .inl ⟨rfl, _, .inl (.inl e)⟩
  | dic e r =>
    simp [tyO] at ht
    subst ht
    cases e with
    | k e => exact .inr (.inr (.inl ⟨rfl, .inl ⟨_, e⟩⟩))
theorem Hf.owr {K : Fg} {mg : Mg} {F₀ Z F H : Hp} {l : Itms} {A : List Addr} {v : V} {o : Ow} (h : Hf K mg F₀ Z F H ((v, .ow o) :: l) A) : ∃ B, OwR K F H v o B := by
  cases h.its with
  | cons h1 t => cases h1 with | ow h1 => exact ⟨_, h1⟩
def hasT (T : String) (i : Nat) : M Unit := fun st => match lookS st i with
  | some (.ow o) => if tyO T o = true then some (.ok (), st) else none
  | _ => none
def mtS (i : Nat) (f : Mth) (rs : List Rs) : M Rs := fun st => match lookS st i with
  | some (.ow o) => (match f o rs with
    | some (o', c) => some (.ok c, st.set (rootS st i) (.own (.ow o')))
    | none => none)
  | _ => none
/-- x.m(..), x a name -/
def eMt (T : String) (i : Nat) (f : Mth) (m : M (List Rs)) : M Rs := (hasT T i).b fun _ => m.b (mtS i f)
def okT (T : String) (r : Rs) : Option Dt := match r.frz with
  | some d => if tyO T (.val d) = true then some d else none
  | none => none
def mtV (f : Mth) (d : Dt) (rs : List Rs) : Option Rs := (f (.val d) rs).map (·.2)
/-- e.m(..), nothing of it is kept -/
def eMv (T : String) (f : Mth) (mo : M Rs) (m : M (List Rs)) : M Rs := mo.b fun x => (M.o (okT T x)).b fun d => m.b fun rs => .o (mtV f d rs)
theorem tMt_args {T : String} {i : Nat} {f : Mth} {r : V → List V → Hp → VK → Prop} {st1 : DS} {H1 : Hp} {σ : Sg} {rs : List Rs} {vs : List V} {pend : Itms} {v : V} {Q : VK} (hs : SnM X r f) (hi : i < σ.length) (ev : σ[i]? = some (some v)) (hl : vs.length = rs.length)
    (R2 : Rel X L H1 σ st1 (vs.zip rs ++ pend)) (q : Aft (mtS i f rs st1) (fun r st' => ∀ v H', Rel X L H' σ st' ((v, r) :: pend) → Q v H') (Xw X L σ)) : r v vs H1 Q := by
  unfold mtS at q
  cases eo : lookS st1 i with
  | none => rw [eo] at q; exact q.elim
  | some ro =>
    rw [eo] at q
    cases ro with
    | obj c fs => exact q.elim
    | ow o =>
      dsimp only at q
      cases ef : f o rs with
      | none => rw [ef] at q; exact q.elim
      | some oc =>
        obtain ⟨o', c⟩ := oc
        rw [ef] at q
        obtain ⟨v', h1, h2, h3, R4⟩ := R2.take eo hi
        have : v' = v := by rw [ev] at h1; cases h1; rfl
        subst this
        refine hs L.F₀ L.Z H1 (pend ++ slIt (L.vs σ) (st1.set (rootS st1 i) .un)) v' o vs rs o' c Q hl ?_ ef fun w H' hld => ?_
        · have := R4.hld
          rw [List.cons_append, List.append_assoc] at this
          exact this
        · refine q w H' ?_
          have R5 : Rel X L H' σ (st1.set (rootS st1 i) .un) ((v', .ow o') :: (w, c) :: pend) := ⟨R4.ok, hld⟩
          have R6 := R5.put h2
          rw [List.set_set] at R6
          exact R6
theorem tyS_is {T : String} {i : Nat} {o : Ow} {st : DS} {σ : Sg} {H : Hp} {pend : Itms} (R : Rel X L H σ st pend) (hi : i < σ.length) (eo : lookS st i = some (.ow o)) (ht : tyO T o = true) : ∃ v, σ[i]? = some (some v) ∧ tyV X.K T v H := by
  obtain ⟨v, h1, h2, h3, R1⟩ := R.take eo hi
  obtain ⟨F, A, z⟩ := R1.hld
  obtain ⟨B, w⟩ := Hf.owr z
  exact ⟨v, h1, tyO_is z.frz w ht⟩
variable {e : Expr} {es : List Expr} {name : Str} {apos cpos p : Pos} {T id : String} {r : V → List V → Hp → VK → Prop} {f : Mth} {m : M (List Rs)} {x : Str}
theorem tBM_of {i : Nat} {t : TA} (hs : SnM X r f) {σ : Sg} {H : Hp} {Q : VK} (hi : i < σ.length) (q : tD X L (eMt T i f m) σ H Q) : tBM X.K T r (tVar i) (tDA X L m) σ H Q := by
  obtain ⟨pend, st, R, q⟩ := q
  have q := q.bind
  unfold hasT at q
  cases eo : lookS st i with
  | none => rw [eo] at q; exact q.elim
  | some ro =>
    rw [eo] at q
    cases ro with
    | obj c fs => exact q.elim
    | ow o =>
      dsimp only at q
      split at q
      · rename_i ht
        obtain ⟨v, h1, ty⟩ := tyS_is R hi eo ht
        refine ⟨v, h1, ty, pend, st, R, (Aft.bind (show Aft (M.b m (mtS i f) st) _ _ from q)).imp (fun rs st1 q1 vs H1 hl R2 => ?_) fun _ _ q => q⟩
        exact tMt_args (T := T) hs hi h1 hl R2 q1
      · exact q.elim
theorem tBM0_of {i : Nat} (hs : SnM X r f) {σ : Sg} {H : Hp} {Q : VK} (hi : i < σ.length) (q : tD X L (eMt T i f aNil) σ H Q) : tBM0 X.K T r (tVar i) σ H Q := by
  obtain ⟨pend, st, R, q⟩ := q
  have q := q.bind
  unfold hasT at q
  cases eo : lookS st i with
  | none => rw [eo] at q; exact q.elim
  | some ro =>
    rw [eo] at q
    cases ro with
    | obj c fs => exact q.elim
    | ow o =>
      dsimp only at q
      split at q
      · rename_i ht
        obtain ⟨v, h1, ty⟩ := tyS_is R hi eo ht
        exact ⟨v, h1, ty, tMt_args (T := T) (vs := []) (rs := []) hs hi h1 rfl R (show Aft (mtS i f [] st) _ _ from q)⟩
      · exact q.elim
theorem tBMv_of {mo : M Rs} (hs : SnM X r f) {σ : Sg} {H : Hp} {Q : VK} (q : tD X L (eMv T f mo m) σ H Q) : tBM X.K T r (tD X L mo) (tDA X L m) σ H Q := by
  obtain ⟨pend, st, R, q⟩ := q
  refine ⟨pend, st, R, q.bind.imp (fun x st1 q1 v H1 R1 => ?_) fun _ _ q => q⟩
  obtain ⟨d, e1, q2⟩ := q1.bind.opt
  unfold okT at e1
  cases ex : x.frz with
  | none => rw [ex] at e1; cases e1
  | some d' =>
    rw [ex] at e1
    dsimp only at e1
    split at e1
    · rename_i ht
      cases e1
      have R2 := R1.freeze ex
      have ty : tyV X.K T v H1 := by
        obtain ⟨F, A, z⟩ := R2.hld
        exact tyO_is z.frz (.val z.val) ht
      refine ⟨ty, (v, .val d) :: pend, st1, R2, q2.bind.imp (fun rs st2 q3 vs H2 hl R3 => ?_) fun _ _ q => q⟩
      obtain ⟨c, e2, q4⟩ := q3.opt
      obtain ⟨oc, e3, rfl⟩ := Option.map_eq_some_iff.mp (show (f (.val d) rs).map (·.2) = some c from e2)
      obtain ⟨o', c⟩ := oc
      have R5 := R3.perm (l := (v, .val d) :: (vs.zip rs ++ pend)) List.perm_middle
      refine hs L.F₀ L.Z H2 (pend ++ slIt (L.vs σ) st2) v (.val d) vs rs o' c Q hl ?_ e3 fun w H' hld => ?_
      · have := R5.hld
        rw [List.cons_append, List.append_assoc] at this
        exact this
      · exact q4 w H' ⟨R5.ok, Hld.drop hld⟩
    · cases e1
theorem tBMv0_of {mo : M Rs} (hs : SnM X r f) {σ : Sg} {H : Hp} {Q : VK} (q : tD X L (eMv T f mo aNil) σ H Q) : tBM0 X.K T r (tD X L mo) σ H Q := by
  obtain ⟨pend, st, R, q⟩ := q
  refine ⟨pend, st, R, q.bind.imp (fun x st1 q1 v H1 R1 => ?_) fun _ _ q => q⟩
  obtain ⟨d, e1, q2⟩ := q1.bind.opt
  unfold okT at e1
  cases ex : x.frz with
  | none => rw [ex] at e1; cases e1
  | some d' =>
    rw [ex] at e1
    dsimp only at e1
    split at e1
    · rename_i ht
      cases e1
      have R2 := R1.freeze ex
      have ty : tyV X.K T v H1 := by
        obtain ⟨F, A, z⟩ := R2.hld
        exact tyO_is z.frz (.val z.val) ht
      refine ⟨ty, ?_⟩
      obtain ⟨c, e2, q4⟩ := (show Aft (M.o (mtV f d []) st1) _ _ from q2).opt
      obtain ⟨oc, e3, rfl⟩ := Option.map_eq_some_iff.mp (show (f (.val d) []).map (·.2) = some c from e2)
      obtain ⟨o', c⟩ := oc
      refine hs L.F₀ L.Z H1 (pend ++ slIt (L.vs σ) st1) v (.val d) [] [] o' c Q rfl R2.hld e3 fun w H' hld => q4 w H' ⟨R2.ok, Hld.drop hld⟩
    · cases e1
theorem de_mt (i : Nat) (pa : PlainAttrs T) (slot : Slot T name id) (hty : typeOf (.builtin id) = pure (.type "method_descriptor")) (hm : MtR X id r) (hs : SnM X r f) (ha : DA X L (e :: es) m)
    (hN : X.N[i]? = some x := by rfl) (hv : Vis X.env.scope x := by first | exact Or.inl rfl | exact Or.inr (Or.inl rfl) | exact Or.inr (Or.inr rfl)) (hd : (x == ("__debug__" : Str)) = false := by decide) (hcd : (x == ("__classdict__" : Str)) = false := by decide)
    (hbase : attributeBase (.Name x p) name X.env (eval (.Name x p) X.env) = eval (.Name x p) X.env := by rfl)
    (hfew : ((backTo cpos (starEach (e :: es) X.env)).all (fun x => !x.1) && (backToKw cpos (keywordEach [] X.env)).all (fun x => x.1.isSome)
      && decide ((e :: es).length + ([] : List Keyword).length + (if ([] : List Keyword).isEmpty then 0 else 1) < 30)) = true := by rfl)
    (hline : (apos.endLine == cpos.line) = true := by rfl) (hst : starEach (e :: es) X.env = (false, eval e X.env) :: starEach es X.env := by rfl) (hplain : (backTo cpos (starEach es X.env)).any (·.1) = false := by rfl) :
    DE X L (.Call (.Attribute (.Name x p) name apos) (e :: es) [] cpos) (eMt T i f m) := ⟨fun pins s σ H Q I q =>
  (pe_bm pa slot hty hm (pe_var (pos := p) hN hv hd hcd) ha hbase hfew hline hst hplain).run pins s σ H Q I (tBM_of (t := tDA X L m) hs (by rw [I.len]; exact (List.getElem?_eq_some_iff.mp hN).1) q)⟩
theorem de_mt0 (i : Nat) (pa : PlainAttrs T) (slot : Slot T name id) (hty : typeOf (.builtin id) = pure (.type "method_descriptor")) (hm : MtR X id r) (hs : SnM X r f)
    (hN : X.N[i]? = some x := by rfl) (hv : Vis X.env.scope x := by first | exact Or.inl rfl | exact Or.inr (Or.inl rfl) | exact Or.inr (Or.inr rfl)) (hd : (x == ("__debug__" : Str)) = false := by decide) (hcd : (x == ("__classdict__" : Str)) = false := by decide)
    (hbase : attributeBase (.Name x p) name X.env (eval (.Name x p) X.env) = eval (.Name x p) X.env := by rfl)
    (hline : (apos.endLine == cpos.line) = true := by rfl) :
    DE X L (.Call (.Attribute (.Name x p) name apos) [] [] cpos) (eMt T i f aNil) := ⟨fun pins s σ H Q I q =>
  (pe_bm0 pa slot hty hm (pe_var (pos := p) hN hv hd hcd) hbase hline).run pins s σ H Q I (tBM0_of hs (by rw [I.len]; exact (List.getElem?_eq_some_iff.mp hN).1) q)⟩
variable {o : Expr} {mo : M Rs}
theorem de_mv (pa : PlainAttrs T) (slot : Slot T name id) (hty : typeOf (.builtin id) = pure (.type "method_descriptor")) (hm : MtR X id r) (hs : SnM X r f) (ho : DE X L o mo) (ha : DA X L (e :: es) m)
    (hbase : attributeBase o name X.env (eval o X.env) = eval o X.env := by rfl)
    (hfew : ((backTo cpos (starEach (e :: es) X.env)).all (fun x => !x.1) && (backToKw cpos (keywordEach [] X.env)).all (fun x => x.1.isSome)
      && decide ((e :: es).length + ([] : List Keyword).length + (if ([] : List Keyword).isEmpty then 0 else 1) < 30)) = true := by rfl)
    (hline : (apos.endLine == cpos.line) = true := by rfl) (hst : starEach (e :: es) X.env = (false, eval e X.env) :: starEach es X.env := by rfl) (hplain : (backTo cpos (starEach es X.env)).any (·.1) = false := by rfl) :
    DE X L (.Call (.Attribute o name apos) (e :: es) [] cpos) (eMv T f mo m) :=
  peW (pe_bm pa slot hty hm ho ha hbase hfew hline hst hplain) fun _ _ _ q => tBMv_of hs q
theorem de_mv0 (pa : PlainAttrs T) (slot : Slot T name id) (hty : typeOf (.builtin id) = pure (.type "method_descriptor")) (hm : MtR X id r) (hs : SnM X r f) (ho : DE X L o mo)
    (hbase : attributeBase o name X.env (eval o X.env) = eval o X.env := by rfl)
    (hline : (apos.endLine == cpos.line) = true := by rfl) :
    DE X L (.Call (.Attribute o name apos) [] [] cpos) (eMv T f mo aNil) :=
  peW (pe_bm0 pa slot hty hm ho hbase hline) fun _ _ _ q => tBMv0_of hs q
end
end DY

/-! The data layer, part K: the methods; dicts: displays, stores, comprehensions. -/
namespace DY
open PySem PySem.Spec PyProof.Rows L2
section
variable {X : Cx} {L : Lv}
theorem Hld.drop2 {K : Fg} {mg : Mg} {F₀ Z H : Hp} {l : Itms} {x v : V} {r q : Rs} (h : Hld K mg F₀ Z H ((x, r) :: (v, q) :: l)) : Hld K mg F₀ Z H ((x, r) :: l) := (h.perm (List.Perm.swap _ _ _)).drop
theorem Hld.scal2 {K : Fg} {mg : Mg} {F₀ Z H : Hp} {l : Itms} {x v : V} {r : Rs} {d : Dt} (h : Hld K mg F₀ Z H ((x, r) :: l)) (e : scalD d = some v) : Hld K mg F₀ Z H ((x, r) :: (v, .val d) :: l) := (h.scal e).perm (List.Perm.swap _ _ _)
/-- a method over frozen arguments -/
def frzF (f : Ow → List Dt → Option (Ow × Rs)) : Mth := fun o rs => match frzs rs with
  | some as => f o as
  | none => none
theorem frzs_hld {K : Fg} {mg : Mg} {F₀ Z H : Hp} : ∀ {l : Itms} {vs : List V} {rs : List Rs} {ds : List Dt}, vs.length = rs.length → frzs rs = some ds → Hld K mg F₀ Z H (vs.zip rs ++ l) → vs.length = ds.length ∧ Hld K mg F₀ Z H (vs.zip (ds.map Rs.val) ++ l)
  | _, [], [], ds, _, e, R => by cases e; exact ⟨rfl, R⟩
  | l, v :: vs, r :: rs, ds, hl, e, R => by
    unfold frzs at e
    cases er : r.frz with
    | none => rw [er] at e; cases e
    | some d =>
      cases es : frzs rs with
      | none => rw [er, es] at e; cases e
      | some ds' =>
        rw [er, es] at e
        cases e
        have R1 : Hld K mg F₀ Z H ((v, .val d) :: (vs.zip rs ++ l)) := Hld.freeze R er
        have R2 : Hld K mg F₀ Z H (vs.zip rs ++ ((v, .val d) :: l)) := R1.perm List.perm_middle.symm
        obtain ⟨h1, h2⟩ := frzs_hld (vs := vs) (rs := rs) (by simpa using hl) es R2
        exact ⟨by simp [h1], h2.perm List.perm_middle⟩
  | _, [], _ :: _, _, h, _, _ => by simp at h
  | _, _ :: _, [], _, h, _, _ => by simp at h
def SnMd (X : Cx) (r : V → List V → Hp → VK → Prop) (f : Ow → List Dt → Option (Ow × Rs)) : Prop := ∀ (F₀ Z H : Hp) (l : Itms) (x : V) (o : Ow) (xs : List V) (as : List Dt) (o' : Ow) (c : Rs) (Q : VK), xs.length = as.length →
  Hld X.K X.mg F₀ Z H ((x, .ow o) :: (xs.zip (as.map Rs.val) ++ l)) → f o as = some (o', c) → (∀ v H', Hld X.K X.mg F₀ Z H' ((x, .ow o') :: (v, c) :: l) → Q v H') → r x xs H Q
theorem SnMd.of {r : V → List V → Hp → VK → Prop} {f : Ow → List Dt → Option (Ow × Rs)} (h : SnMd X r f) : SnM X r (frzF f) := by
  intro F₀ Z H l x o xs rs o' c Q hl hld e k
  unfold frzF at e
  cases er : frzs rs with
  | none => rw [er] at e; cases e
  | some as =>
    rw [er] at e
    obtain ⟨h1, h2⟩ := frzs_hld hl er (hld.perm List.perm_middle.symm)
    exact h F₀ Z H l x o xs as o' c Q h1 (h2.perm List.perm_middle) e k

/-! ### lists -/
def appendF : Mth := frzF fun o as => match o, as with
  | .lst ds, [d] => if ds.length < lenLine then some (.lst (ds ++ [d]), .val .none) else none
  | _, _ => none
theorem sm_append : SnM X rAppend appendF := SnMd.of fun F₀ Z H l x o xs as o' c Q hl h e k => by
  split at e
  · rename_i ds d
    split at e
    · rename_i hz
      cases e
      match xs, hl with
      | [v], _ =>
        obtain ⟨F, A, h⟩ := h
        obtain ⟨p, ys, rfl, hp, r⟩ := h.lst
        have h : Hf X.K X.mg F₀ Z F H ((.ref p, .lst ds) :: (v, .val d) :: l) A := h
        obtain ⟨B, h1⟩ := h.drop
        have h2 := h.putL (r.append (.cons h1.val .nil))
        refine ⟨p, ys, v, rfl, rfl, hp, by rw [r.length, ← lenLine_eq]; exact hz, k _ _ ?_⟩
        exact Hld.scal2 (Hld.drop2 ⟨F, _, h2⟩) rfl
    · cases e
  · cases e
def extendF : Mth := fun o as => match o, as with
  | .lst ds, [.ow (.lst es)] => if ds.length + es.length ≤ lenLine then some (.lst (ds ++ es), .val .none) else none
  | _, _ => none
theorem sm_extend : SnM X rExtend extendF := fun F₀ Z H l x o xs as o' c Q hl h e k => by
  unfold extendF at e
  split at e
  · rename_i ds es
    split at e
    · rename_i hz
      cases e
      match xs, hl with
      | [v], _ =>
        obtain ⟨F, A, h⟩ := h
        obtain ⟨p, ys, rfl, hp, r⟩ := h.lst
        have h : Hf X.K X.mg F₀ Z F H ((.ref p, .lst ds) :: (v, .lst es) :: l) A := h
        obtain ⟨B, h1⟩ := h.drop
        obtain ⟨b, zs, rfl, hb, r2⟩ := h1.lst
        have h2 := h.putL (r.append r2)
        refine ⟨p, b, ys, zs, rfl, rfl, hp, hb, by rw [r.length, r2.length, ← lenLine_eq]; exact hz, k _ _ ?_⟩
        exact Hld.scal2 (Hld.drop2 ⟨F, _, h2⟩) rfl
    · cases e
  · cases e
def popF : Mth := fun o as => match o, as with
  | .lst ds, [] => (ds[ds.length - 1]?).map fun d => (.lst ds.dropLast, .val d)
  | _, _ => none
theorem RpA.dropLast {K : Fg} {F : Hp} {vs : List V} {ds : List Dt} (r : RpA K F vs ds) : RpA K F vs.dropLast ds.dropLast := by
  rw [List.dropLast_eq_take, List.dropLast_eq_take, r.length]
  exact r.take _
theorem sm_pop : SnM X rPop popF := fun F₀ Z H l x o xs as o' c Q hl h e k => by
  unfold popF at e
  split at e
  · rename_i ds
    obtain ⟨d, e1, e2⟩ := Option.map_eq_some_iff.mp e
    cases e2
    match xs, hl with
    | [], _ =>
      obtain ⟨F, A, h⟩ := h
      obtain ⟨p, ys, rfl, hp, r⟩ := h.lst
      have h : Hf X.K X.mg F₀ Z F H ((.ref p, .lst ds) :: l) A := h
      obtain ⟨v, hv, rv⟩ := r.get e1
      have h2 := h.putL r.dropLast
      refine ⟨p, ys, v, rfl, rfl, hp, by rw [r.length]; exact hv, k _ _ ?_⟩
      exact Hld.perm ⟨F, _, h2.add rv⟩ (List.Perm.swap _ _ _)
  · cases e
def popAtF : Mth := frzF fun o as => match o, as with
  | .lst ds, [.int i] => if -(2 ^ 62) ≤ i ∧ i < 2 ^ 62 then (match seqIndex? i ds.length with
    | some k => (ds[k]?).map fun d => (.lst (ds.eraseIdx k), .val d)
    | none => none) else none
  | _, _ => none
theorem RpA.eraseIdx {K : Fg} {F : Hp} : ∀ {vs : List V} {ds : List Dt} (n : Nat), RpA K F vs ds → RpA K F (vs.eraseIdx n) (ds.eraseIdx n)
  | _, _, _, .nil => .nil
  | _, _, 0, .cons h r => r
  | _, _, n + 1, .cons h r => .cons h (RpA.eraseIdx n r)
theorem sm_popAt : SnM X rPopAt popAtF := SnMd.of fun F₀ Z H l x o xs as o' c Q hl h e k => by
  split at e
  · rename_i ds i
    split at e
    · rename_i hz
      cases es : seqIndex? i ds.length with
      | none => rw [es] at e; cases e
      | some j =>
        rw [es] at e
        obtain ⟨d, e1, e2⟩ := Option.map_eq_some_iff.mp e
        cases e2
        match xs, hl with
        | [v], _ =>
          obtain ⟨F, A, h⟩ := h
          obtain ⟨p, ys, rfl, hp, r⟩ := h.lst
          have h : Hf X.K X.mg F₀ Z F H ((.ref p, .lst ds) :: (v, .val (.int i)) :: l) A := h
          obtain ⟨B, h1⟩ := h.drop
          have rv := h1.val
          cases rv
          obtain ⟨w, hw, rw⟩ := r.get e1
          have h2 := h.putL (r.eraseIdx j)
          refine ⟨p, ys, i, j, w, rfl, rfl, hp, by omega, by omega, by rw [r.length]; exact es, hw, k _ _ ?_⟩
          have h3 := Hld.drop2 ⟨F, _, h2⟩
          obtain ⟨B2, h4⟩ := h2.perm (List.Perm.swap _ _ _)
          obtain ⟨B3, h5⟩ := h4.drop
          exact Hld.perm ⟨F, _, h5.add rw⟩ (List.Perm.swap _ _ _)
    · cases e
  · cases e
def reverseF : Mth := fun o as => match o, as with
  | .lst ds, [] => some (.lst ds.reverse, .val .none)
  | _, _ => none
theorem sm_reverse : SnM X rReverse reverseF := fun F₀ Z H l x o xs as o' c Q hl h e k => by
  unfold reverseF at e
  split at e
  · rename_i ds
    cases e
    match xs, hl with
    | [], _ =>
      obtain ⟨F, A, h⟩ := h
      obtain ⟨p, ys, rfl, hp, r⟩ := h.lst
      have h : Hf X.K X.mg F₀ Z F H ((.ref p, .lst ds) :: l) A := h
      have h2 := h.putL r.reverse
      exact ⟨p, ys, rfl, rfl, hp, k _ _ (Hld.scal2 ⟨F, _, h2⟩ rfl)⟩
  · cases e
/-! ### index -/
def idxD (ds : List Dt) (d : Dt) : Option Nat := ds.findIdx? fun z => PyData.eqv z d
def rIndexP (K : Fg) : V → List V → Hp → VK → Prop := fun x xs H Q => ∃ (a : Addr) (y : V) (d : Dt) (ds : List Dt) (j : Nat), x = V.ref a ∧ xs = [y] ∧ (∃ vs, SqL K H a vs ∧ RpA K H vs ds) ∧ Rp K H y d ∧
  d.plain = true ∧ PyData.plainAll ds = true ∧ min (PyData.depthAll ds) d.depth ≤ 60 ∧ idxD ds d = some j ∧ Q (.int (j : Nat)) H
theorem mt_indexP (hu : X.A.units + 65 < cLine) : MtR X "list.index" (rIndexP X.K) := by
  intro pins s σ H x xs v us Q I rx rxs h
  obtain ⟨a, y, d, ds, j, rfl, rfl, ⟨vs, hs, rp⟩, hy, pd, pds, dep, hj, q⟩ := h
  cases rx
  cases rxs with
  | cons ry rt =>
    rename_i uy ut
    cases rt
    obtain ⟨bs, r1⟩ := hy.reads I (Same.refl H) pd ry
    obtain ⟨its, rv, ⟨⟨cls, dd, data, sls⟩, n, ho, hc, hdn, hdt⟩, hlen⟩ := I.list hs
    simp only at hc hdt
    subst hc hdt
    obtain ⟨as, h4⟩ := Dp.readsAll I ds _ its (rp.dp pds) rv
    have hmap : its.map (SeqAt.readOf s.heap) = ds := SeqAt.readsAll_map_plain ds its as pds h4
    have hvl := rv.length
    have hrl := rp.length
    have hsl := sizeLine_eq
    obtain ⟨hjd, hjt, hjn⟩ := List.findIdx?_eq_some_iff_getElem.mp hj
    have at_ : ∀ (m : Nat) (hm : m < its.toArray.size) (hd : m < ds.length), SeqAt.readOf s.heap its.toArray[m] = ds[m] := by
      intro m hm hd
      have hml : m < its.length := by simpa using hm
      have : (its.map (SeqAt.readOf s.heap))[m]? = ds[m]? := by rw [hmap]
      rw [List.getElem?_map, List.getElem?_eq_getElem hml, List.getElem?_eq_getElem hd] at this
      have e1 : SeqAt.readOf s.heap its[m] = ds[m] := Option.some.inj this
      simpa using e1
    have hjs : j < its.toArray.size := by rw [List.size_toArray]; omega
    refine call_meets PySem.F.slot_list_index ⟨_, ho, rfl⟩ PySem.F.entry_list_index (PySem.F.args_list_index_2 _ _)
      (SeqAt.list_indexAt a its.toArray n dd sls uy (fun u => PyData.eqv (SeqAt.readOf s.heap u) d) j hjs (by omega) ?_ ?_) ⟨ho, SeqAt.items_plain (vs := its.toArray) (show ReadsAll s.heap its.toArray.toList ds as from h4) r1 pds pd (by omega), ?_⟩
    · show PyData.eqv (SeqAt.readOf s.heap its.toArray[j]) d = true
      rw [at_ j hjs hjd]
      exact hjt
    · intro m hm hmj
      show PyData.eqv (SeqAt.readOf s.heap its.toArray[m]) d = false
      rw [at_ m hm (by omega)]
      have := hjn m hmj
      simpa using this
    · exact ⟨.int (j : Nat), H, I.tok _, ⟨_, rfl⟩, q⟩
def indexOk (ds : List Dt) (d : Dt) : Bool := d.plain && PyData.plainAll ds && decide (min (PyData.depthAll ds) d.depth ≤ 60)
def indexF : Mth := frzF fun o as => match o, as with
  | .lst ds, [d] => if indexOk ds d = true then (idxD ds d).map fun (j : Nat) => (.lst ds, .val (.int j)) else none
  | .val (.list ds), [d] => if indexOk ds d = true then (idxD ds d).map fun (j : Nat) => (.val (.list ds), .val (.int j)) else none
  | _, _ => none
theorem sm_index : SnM X (rIndexP X.K) indexF := SnMd.of fun F₀ Z H l x o xs as o' c Q hl h e k => by
  split at e
  · rename_i ds d
    split at e
    · rename_i hz
      obtain ⟨j, e1, e2⟩ := Option.map_eq_some_iff.mp e
      cases e2
      simp only [indexOk, Bool.and_eq_true, decide_eq_true_eq] at hz
      match xs, hl with
      | [v], _ =>
        obtain ⟨F, A, h⟩ := h
        obtain ⟨p, ys, rfl, hp, r⟩ := h.lst
        have h : Hf X.K X.mg F₀ Z F H ((.ref p, .lst ds) :: (v, .val d) :: l) A := h
        obtain ⟨B, h1⟩ := h.drop
        refine ⟨p, v, d, ds, j, rfl, rfl, ⟨ys, .inl (.inl hp), r.same h.frz⟩, h1.val.same h.frz, hz.1.1, hz.1.2, hz.2, e1, k _ _ ?_⟩
        exact Hld.scal2 (Hld.drop2 ⟨F, _, h⟩) rfl
    · cases e
  · rename_i ds d
    split at e
    · rename_i hz
      obtain ⟨j, e1, e2⟩ := Option.map_eq_some_iff.mp e
      cases e2
      simp only [indexOk, Bool.and_eq_true, decide_eq_true_eq] at hz
      match xs, hl with
      | [v], _ =>
        obtain ⟨F, A, h⟩ := h
        have h : Hf X.K X.mg F₀ Z F H ((x, .val (.list ds)) :: (v, .val d) :: l) A := h
        obtain ⟨B, h1⟩ := h.drop
        have rl := h.val
        cases rl with | lst s1 t1 =>
        refine ⟨_, v, d, ds, j, rfl, rfl, ⟨_, h.frz.seq s1, t1.same h.frz⟩, h1.val.same h.frz, hz.1.1, hz.1.2, hz.2, e1, k _ _ ?_⟩
        exact Hld.scal2 (Hld.drop2 ⟨F, _, h⟩) rfl
    · cases e
  · cases e
/-! ### texts -/
def joinF : Mth := frzF fun o as => match o, as with
  | .val (.str a), [.list ds] => (asStrs ds).bind fun ys => if (ys.map (·.length)).sum + ys.length * a.length ≤ 16777216 then some (.val (.str a), .val (.str (Txt.join a ys))) else none
  | .val (.str a), [.tuple ds] => (asStrs ds).bind fun ys => if (ys.map (·.length)).sum + ys.length * a.length ≤ 16777216 then some (.val (.str a), .val (.str (Txt.join a ys))) else none
  | _, _ => none
theorem sm_join : SnM X (fun x xs H Q => ∃ a p, ∃ ys : List Str, x = .str a ∧ xs = [.ref p] ∧ (SqL X.K H p (ys.map V.str) ∨ SqT X.K H p (ys.map V.str)) ∧
    (ys.map (·.length)).sum + ys.length * a.length ≤ 16777216 ∧ Q (.str (Txt.join a ys)) H) joinF := SnMd.of fun F₀ Z H l x o xs as o' c Q hl h e k => by
  split at e
  · rename_i a ds
    obtain ⟨ys, e1, e2⟩ := Option.bind_eq_some_iff.mp e
    split at e2
    · rename_i hz
      cases e2
      match xs, hl with
      | [v], _ =>
        obtain ⟨F, A, h⟩ := h
        have h : Hf X.K X.mg F₀ Z F H ((x, .val (.str a)) :: (v, .val (.list ds)) :: l) A := h
        obtain ⟨B, h1⟩ := h.drop
        have r1 := h.val
        cases r1
        have r2 := h1.val
        cases r2 with | lst s1 t1 =>
        rw [asStrs_some e1] at t1
        have := t1.strs_inv
        subst this
        refine ⟨a, _, ys, rfl, rfl, .inl (h.frz.seq s1), hz, k _ _ ?_⟩
        exact Hld.scal2 (Hld.drop2 ⟨F, _, h⟩) rfl
    · cases e2
  · rename_i a ds
    obtain ⟨ys, e1, e2⟩ := Option.bind_eq_some_iff.mp e
    split at e2
    · rename_i hz
      cases e2
      match xs, hl with
      | [v], _ =>
        obtain ⟨F, A, h⟩ := h
        have h : Hf X.K X.mg F₀ Z F H ((x, .val (.str a)) :: (v, .val (.tuple ds)) :: l) A := h
        obtain ⟨B, h1⟩ := h.drop
        have r1 := h.val
        cases r1
        have r2 := h1.val
        cases r2 with | tup s1 t1 =>
        rw [asStrs_some e1] at t1
        have := t1.strs_inv
        subst this
        refine ⟨a, _, ys, rfl, rfl, .inr (sqT_same h.frz s1), hz, k _ _ ?_⟩
        exact Hld.scal2 (Hld.drop2 ⟨F, _, h⟩) rfl
    · cases e2
  · cases e
def splitF : Mth := frzF fun o as => match o, as with
  | .val (.str a), [.str b] => if (b.length == 0) = false ∧ a.length + 2 ≤ lenLine then some (.val (.str a), .lst ((Txt.split a b).map PyData.str)) else none
  | _, _ => none
theorem sm_split : SnM X (fun x xs H Q => ∃ a b, x = .str a ∧ xs = [.str b] ∧ (b.length == 0) = false ∧ a.length + 2 ≤ sizeLine ∧ rNewStrs (Txt.split a b) H Q) splitF := SnMd.of fun F₀ Z H l x o xs as o' c Q hl h e k => by
  split at e
  · rename_i a b
    split at e
    · rename_i hz
      cases e
      match xs, hl with
      | [v], _ =>
        obtain ⟨F, A, h⟩ := h
        have h : Hf X.K X.mg F₀ Z F H ((x, .val (.str a)) :: (v, .val (.str b)) :: l) A := h
        obtain ⟨B, h1⟩ := h.drop
        obtain ⟨B2, h2⟩ := h1.drop
        have r1 := h.val
        cases r1
        have r2 := h1.val
        cases r2
        refine ⟨a, b, rfl, rfl, hz.1, by rw [← lenLine_eq]; exact hz.2, fun p hp => k _ _ ?_⟩
        exact Hld.scal ⟨F, _, h2.newL hp (RpA.strs (Txt.split a b))⟩ rfl
    · cases e
  · cases e
/-- of a text alone, a scalar -/
def txt0F (C : Str → Bool) (g : Str → Dt) : Mth := fun o as => match o, as with
  | .val (.str a), [] => if C a = true then some (.val (.str a), .val (g a)) else none
  | _, _ => none
theorem sm_txt0 {P : Str → Prop} {C : Str → Bool} {g : Str → Dt} {g' : Str → V} (hC : ∀ a, C a = true → P a) (hg : ∀ a, scalD (g a) = some (g' a)) : SnM X (fun x xs H Q => ∃ a, x = .str a ∧ xs = [] ∧ P a ∧ Q (g' a) H) (txt0F C g) := fun F₀ Z H l x o xs as o' c Q hl h e k => by
  unfold txt0F at e
  split at e
  · rename_i a
    split at e
    · rename_i hz
      cases e
      match xs, hl with
      | [], _ =>
        obtain ⟨F, A, h⟩ := h
        have h : Hf X.K X.mg F₀ Z F H ((x, .val (.str a)) :: l) A := h
        have r1 := h.val
        cases r1
        exact ⟨a, rfl, rfl, hC a hz, k _ _ (Hld.scal2 ⟨F, _, h⟩ (hg a))⟩
    · cases e
  · cases e
def allS (_ : Str) : Bool := true
def isalnumF : Mth := txt0F allS fun a => .bool (Txt.isalnum a)
theorem sm_isalnum : SnM X (fun x xs H Q => ∃ a, x = .str a ∧ xs = [] ∧ True ∧ Q (.bl (Txt.isalnum a)) H) isalnumF := sm_txt0 (fun _ _ => trivial) fun _ => rfl
def isasciiF : Mth := txt0F allS fun a => .bool (Txt.isascii a)
theorem sm_isascii : SnM X (fun x xs H Q => ∃ a, x = .str a ∧ xs = [] ∧ True ∧ Q (.bl (Txt.isascii a)) H) isasciiF := sm_txt0 (fun _ _ => trivial) fun _ => rfl

/-! ### dicts -/
/-- in its place, or at the end -/
def dPut (es : List (Dt × Dt)) (k v : Dt) : List (Dt × Dt) := if (es.any fun e => PyData.eqv e.1 k) = true then es.map (fun e => if PyData.eqv e.1 k = true then (e.1, v) else e) else es ++ [(k, v)]
theorem RpK.append {K : Fg} {F : Hp} : ∀ {ks ls : List (Dt × V)} {es fs : List (Dt × Dt)}, RpK K F ks es → RpK K F ls fs → RpK K F (ks ++ ls) (es ++ fs)
  | _, _, _, _, .nil, s => s
  | _, _, _, _, .cons h r, s => .cons h (RpK.append r s)
theorem rpk_put {K : Fg} {F : Hp} {kvs : List (Key × V)} {es : List (Dt × Dt)} {k : Key} {v : V} {d : Dt} (r : RpK K F (kvs.map fun e => (kD e.1, e.2)) es) (h : Rp K F v d) : RpK K F ((putK kvs k v).map fun e => (kD e.1, e.2)) (dPut es (kD k) d) := by
  have any_eq : ∀ {kvs : List (Key × V)} {es : List (Dt × Dt)}, RpK K F (kvs.map fun e => (kD e.1, e.2)) es → (kvs.any fun kv => decide (kv.1 = k)) = es.any fun e => PyData.eqv e.1 (kD k) := by
    intro kvs
    induction kvs with
    | nil => intro es r; cases r; rfl
    | cons a t ih =>
      intro es r
      cases r with
      | cons h1 h2 =>
        rw [List.any_cons, List.any_cons, ih h2, eqv_kD]
  have map_eq : ∀ {kvs : List (Key × V)} {es : List (Dt × Dt)}, RpK K F (kvs.map fun e => (kD e.1, e.2)) es → RpK K F ((kvs.map fun kv => if kv.1 = k then (kv.1, v) else kv).map fun e => (kD e.1, e.2)) (es.map fun e => if PyData.eqv e.1 (kD k) = true then (e.1, d) else e) := by
    intro kvs
    induction kvs with
    | nil => intro es r; cases r; exact .nil
    | cons a t ih =>
      intro es r
      cases r with
      | cons h1 h2 =>
        have h3 := ih h2
        rename_i d' es'
        show RpK K F (((if a.1 = k then (a.1, v) else a) :: t.map fun kv => if kv.1 = k then (kv.1, v) else kv).map fun e => (kD e.1, e.2)) ((if PyData.eqv (kD a.1) (kD k) = true then (kD a.1, d) else (kD a.1, d')) :: _)
        by_cases e : a.1 = k
        · rw [if_pos e, if_pos (by rw [eqv_kD]; exact decide_eq_true e)]
          exact .cons h h3
        · rw [if_neg e, if_neg (by rw [eqv_kD]; simp [e])]
          exact .cons h1 h3
  unfold putK dPut
  rw [any_eq r]
  split
  · exact map_eq r
  · rw [List.map_append]
    exact r.append (.cons h .nil)
theorem Hf.dicK {K : Fg} {mg : Mg} {F₀ Z F H : Hp} {l : Itms} {A : List Addr} {v : V} {es : List (Dt × Dt)} (h : Hf K mg F₀ Z F H ((v, .dic es) :: l) A) : ∃ p kvs, v = .ref p ∧ H p = some (.dK kvs) ∧ RpK K F (kvs.map fun e => (kD e.1, e.2)) es := by
  obtain ⟨p, ks, e, hp, r⟩ := h.dic
  cases hp with
  | k hp => exact ⟨p, _, e, hp, r⟩
theorem Hf.putDK {K : Fg} {mg : Mg} {F₀ Z F H : Hp} {l : Itms} {A : List Addr} {p : Addr} {es es' : List (Dt × Dt)} {kvs : List (Key × V)} (h : Hf K mg F₀ Z F H ((.ref p, .dic es) :: l) A) (r : RpK K F (kvs.map fun e => (kD e.1, e.2)) es') : Hf K mg F₀ Z F (upd H p (.dK kvs)) ((.ref p, .dic es') :: l) A :=
  h.putD (.k upd_same) r
def rSetd : V → List V → Hp → VK → Prop := fun x xs H Q => ∃ a kvs k d, x = .ref a ∧ xs = [kV k, d] ∧ H a = some (.dK kvs) ∧ kvs.length < sizeLine ∧ (∀ v, valV kvs k = some v → Q v H) ∧ (valV kvs k = none → Q d (upd H a (.dK (putK kvs k d))))
theorem mt_setd : MtR X "dict.setdefault" rSetd := by
  intro pins s σ H x xs v us Q I rx rs h
  obtain ⟨a, kvs, k, d, rfl, rfl, e, hl, h1, h2⟩ := h
  obtain ⟨u1, u2, rfl, r1, r2⟩ := vals2 rs
  cases (show v = Value.ref a from rx)
  exact d_setd I e r1 r2 hl (fun v hv w' s4 I4 rw' => ⟨v, _, I4, rw', h1 v hv⟩) fun hn w' s4 I4 rw' => ⟨d, _, I4, rw', h2 hn⟩
def setdF : Mth := frzF fun o as => match o, as with
  | .dic es, [k, d] => if (keyOf k).isSome ∧ es.length < lenLine then (match dLook es k with
    | some v => some (.dic es, .val v)
    | none => some (.dic (dPut es k d), .val d)) else none
  | _, _ => none
theorem sm_setd : SnM X rSetd setdF := SnMd.of fun F₀ Z H l x o xs as o' c Q hl h e k => by
  split at e
  · rename_i es kd d
    split at e
    · rename_i hz
      obtain ⟨kk, hk⟩ := Option.isSome_iff_exists.mp hz.1
      match xs, hl with
      | [y, v], _ =>
        obtain ⟨F, A, h⟩ := h
        obtain ⟨p, kvs, rfl, hp, r⟩ := h.dicK
        have h : Hf X.K X.mg F₀ Z F H ((.ref p, .dic es) :: (y, .val kd) :: (v, .val d) :: l) A := h
        obtain ⟨B, h1⟩ := h.drop
        obtain ⟨B2, h2⟩ := h1.drop
        have ey := h1.val.key hk
        subst ey
        have ekd := keyOf_some hk
        subst ekd
        have hlen : kvs.length < sizeLine := by
          have := r.length
          rw [List.length_map] at this
          rw [this, ← lenLine_eq]; exact hz.2
        have h0 : Hld X.K X.mg F₀ Z H ((.ref p, .dic es) :: l) := Hld.drop2 (Hld.drop2 ⟨F, A, h⟩)
        have lk := look_k (K := X.K) (F := F) kk r
        refine ⟨p, kvs, kk, v, rfl, rfl, hp, hlen, fun w hw => ?_, fun hn => ?_⟩
        · rcases lk with ⟨l1, _⟩ | ⟨w', d', l1, l2, rw⟩
          · rw [l1] at hw; cases hw
          · rw [l1] at hw; cases hw
            rw [l2] at e
            cases e
            obtain ⟨B3, h3⟩ := h.perm (m := (v, .val d) :: (kV kk, .val (kD kk)) :: (.ref p, .dic es) :: l) (by
              refine (List.Perm.swap _ _ _).trans ?_
              refine (List.Perm.cons _ (List.Perm.swap _ _ _)).trans ?_
              exact List.Perm.swap _ _ _)
            obtain ⟨B4, h4⟩ := h3.drop
            obtain ⟨B5, h5⟩ := h4.drop
            exact k _ _ (Hld.perm ⟨F, _, h5.add rw⟩ (List.Perm.swap _ _ _))
        · rcases lk with ⟨l1, l2⟩ | ⟨w', d', l1, l2, rw⟩
          · rw [l2] at e
            cases e
            have h3 := h.putDK (rpk_put (k := kk) r h2.val)
            exact k _ _ (Hld.drop2 ⟨F, _, h3⟩)
          · rw [l1] at hn; cases hn
    · cases e
  · cases e
def rDGet1 : V → List V → Hp → VK → Prop := fun x xs H Q => ∃ a y o, x = .ref a ∧ xs = [y] ∧ DGet H a y o ∧ Q (o.getD .non) H
def rDGet2 : V → List V → Hp → VK → Prop := fun x xs H Q => ∃ a y z o, x = .ref a ∧ xs = [y, z] ∧ DGet H a y o ∧ Q (o.getD z) H
theorem mt_get1 (hu : X.A.units + 1 < cLine) : MtR X "dict.get" rDGet1 := by
  intro pins s σ H x xs v us Q I rx rs h
  obtain ⟨a, y, o, rfl, rfl, g, q⟩ := h
  obtain ⟨u1, rfl, r1⟩ := vals1 rs
  cases (show v = Value.ref a from rx)
  exact d_get1 hu I g r1 fun w' s' I' r' => ⟨_, H, I', r', q⟩
theorem mt_get2 (hu : X.A.units + 1 < cLine) : MtR X "dict.get" rDGet2 := by
  intro pins s σ H x xs v us Q I rx rs h
  obtain ⟨a, y, z, o, rfl, rfl, g, q⟩ := h
  obtain ⟨u1, u2, rfl, r1, r2⟩ := vals2 rs
  cases (show v = Value.ref a from rx)
  exact d_get2 hu I g r1 r2 fun w' s' I' r' => ⟨_, H, I', r', q⟩
end
end DY

/-! The data layer, part L: looking at an own container, stores, dict displays, dict comprehensions. -/
namespace DY
open PySem PySem.Spec PyProof.Rows L2
section
variable {X : Cx} {L : Lv}

/-! ### looking at a slot's thing where it stands -/
/-- what a slot holds, as data, for one look -/
def seeS (i : Nat) : M Dt := fun st => match lookS st i with
  | some (.ow o) => some (.ok o.frz, st)
  | _ => none
theorem see_at {i : Nat} {st : DS} {σ : Sg} {H : Hp} {pend : Itms} {P : Dt → DS → Prop} {E : Exn → DS → Prop} (R : Rel X L H σ st pend) (hi : i < σ.length) (q : Aft (seeS i st) P E) : ∃ v o, σ[i]? = some (some v) ∧ P o.frz st ∧
    (∃ F F', Same F H ∧ Same F' H ∧ Same F F' ∧ Rp X.K F' v o.frz ∧ (∃ B, OwR X.K F H v o B) ∧ (∀ w d, Rp X.K F w d → Rel X L H σ st ((w, .val d) :: pend)) ∧ (∀ w d, (w, Rs.val d) ∈ pend → Rp X.K F w d)) := by
  unfold seeS at q
  cases eo : lookS st i with
  | none => rw [eo] at q; exact q.elim
  | some ro =>
    rw [eo] at q
    cases ro with
    | obj c fs => exact q.elim
    | ow o =>
      obtain ⟨v, h1, h2, h3, R1⟩ := R.take eo hi
      refine ⟨v, o, h1, q, ?_⟩
      obtain ⟨F, A, z⟩ := R1.hld
      have z : Hf X.K X.mg L.F₀ L.Z F H ((v, .ow o) :: (pend ++ slIt (L.vs σ) (st.set (rootS st i) .un))) A := z
      obtain ⟨B, w⟩ := Hf.owr z
      have z2 := z
      have main : ∃ F', Same F' H ∧ Same F F' ∧ Rp X.K F' v o.frz := by
        cases w with
        | val r => exact ⟨F, z.frz, Same.refl F, r⟩
        | @lst p xs ds e r =>
          have hp : F p = none := by
            cases z2.its with
            | cons h1 t => cases h1 with | ow h1 => cases h1 with | lst e r => exact (z2.own p (by simp)).1
          refine ⟨upd F p (.lst xs), fun b y q => ?_, same_up hp, .lst (.inl (.inl upd_same)) (r.same (same_up hp))⟩
          by_cases hb : b = p
          · subst hb; rw [upd_same] at q; cases q; exact e
          · rw [upd_ne hb] at q; exact z.frz b y q
        | @dic p ks es e r =>
          cases e with
          | @k kvs e =>
            have hp : F p = none := by
              cases z2.its with
              | cons h1 t => cases h1 with | ow h1 => cases h1 with | dic e r => exact (z2.own p (by simp)).1
            refine ⟨upd F p (.dK kvs), fun b y q => ?_, same_up hp, .dic (.k upd_same) (r.same (same_up hp))⟩
            by_cases hb : b = p
            · subst hb; rw [upd_same] at q; cases q; exact e
            · rw [upd_ne hb] at q; exact z.frz b y q
      obtain ⟨F', s1, s2, r⟩ := main
      refine ⟨F, F', z.frz, s1, s2, r, ⟨B, w⟩, fun u d hu => ?_, fun w d hm => Hf.mem z (List.mem_cons_of_mem _ (List.mem_append_left _ hm))⟩
      have R4 : Rel X L H σ (st.set (rootS st i) .un) ((u, .val d) :: (v, .ow o) :: pend) := ⟨R1.ok, F, A, Hf.add z hu⟩
      have R5 := R4.swap.put h2
      rw [List.set_set, slIt_same (vs := L.vs σ) h3] at R5
      exact R5
variable {e a b : Expr} {es : List Expr} {m ma mb : M Rs} {pos p : Pos} {x : Str}
/-- len(x) -/
def lenO (d : Dt) : Option Rs := lenD [d]
def eLenS (i : Nat) : M Rs := (seeS i).b fun d => .o (lenO d)
theorem len_rp {F H : Hp} {v : V} {d : Dt} {c : Rs} {Q : VK} (s : Same F H) (r : Rp X.K F v d) (e : lenO d = some c) (k : ∀ n : Nat, c = .val (.int n) → Q (.int n) H) : rLenA X [v] H Q := by
  unfold lenO lenD at e
  split at e
  · rename_i y h1
    cases h1
    split at e
    · rename_i hz
      cases e
      cases r
      exact .inl ⟨_, _, rfl, ⟨by rw [← lenLine_eq]; exact hz, rfl⟩, k _ rfl⟩
    · cases e
  · rename_i h1
    cases h1
    cases e
    cases r with | lst s1 t1 =>
    exact .inl ⟨_, _, rfl, .inl ⟨_, s.seq s1, rfl⟩, by rw [t1.length]; exact k _ rfl⟩
  · rename_i h1
    cases h1
    cases e
    cases r with | tup s1 t1 =>
    exact .inl ⟨_, _, rfl, .inr ⟨_, sqT_same s s1, rfl⟩, by rw [t1.length]; exact k _ rfl⟩
  · rename_i h1
    cases h1
    cases e
    cases r with | dic s1 t1 =>
    cases s1 with | k s1 =>
    have el := t1.length
    rw [List.length_map] at el
    exact .inr ⟨_, _, rfl, s _ _ s1, by rw [el]; exact k _ rfl⟩
  · cases e
theorem de_lenS (i : Nat) {pp : Pos} (hm : X.mg "len" = none) (hN : X.N[i]? = some x := by rfl) (hv : Vis X.env.scope x := by first | exact Or.inl rfl | exact Or.inr (Or.inl rfl) | exact Or.inr (Or.inr rfl)) (hd : (x == ("__debug__" : Str)) = false := by decide)
    (hcd : (x == ("__classdict__" : Str)) = false := by decide) (hg : Gl X "len" := by rfl) (he : starEach [.Name x p] X.env = (false, eval (.Name x p) X.env) :: starEach [] X.env := by rfl) (hpl : (backTo pos (starEach [] X.env)).any (·.1) = false := by rfl) :
    DE X L (.Call (.Name "len" pp) [.Name x p] [] pos) (eLenS i) := ⟨fun pins s σ H Q I q => by
  refine (pe_callB cr_lenA hg hm (by rfl) (pa_cons (pe_var (pos := p) hN hv hd hcd) pa_nil he) (by decide) (by decide) he hpl).run pins s σ H Q I ?_
  have hi : i < σ.length := by rw [I.len]; exact (List.getElem?_eq_some_iff.mp hN).1
  obtain ⟨pend, st, R, q⟩ := q
  obtain ⟨v, o, h1, q1, F, F', s1, s2, s3, r, _⟩ := see_at R hi q.bind
  obtain ⟨c, e1, q2⟩ := q1.opt
  exact ⟨v, h1, len_rp s2 r e1 fun n hc => by subst hc; exact q2 _ _ (R.scal rfl)⟩⟩
/-- the truth of x -/
def tTS (i : Nat) : M Bool := (seeS i).b fun d => .o (truD d)
theorem tru_rp {F H : Hp} {v : V} {d : Dt} {k : Bool} (s : Same F H) (r : Rp X.K F v d) (e : truD d = some k) : TruV X.K v H k :=
  truV_of (X := X) (F₀ := F) (Z := fun _ => none) (l := []) ⟨F, [], ⟨Same.refl F, s, (fun _ _ h => nomatch h), (fun _ _ _ => rfl), .cons (A := []) (B := []) (.ow (.val r)) .nil, List.nodup_nil, (fun _ h => nomatch h)⟩⟩ e
theorem dt_truthS (i : Nat) (hN : X.N[i]? = some x := by rfl) (hv : Vis X.env.scope x := by first | exact Or.inl rfl | exact Or.inr (Or.inl rfl) | exact Or.inr (Or.inr rfl)) (hd : (x == ("__debug__" : Str)) = false := by decide)
    (hcd : (x == ("__classdict__" : Str)) = false := by decide) (he : ∀ whole, isTrue (.Name x p) X.env whole = (do let v ← whole; standAt p; holding [v] (truthy v)) := by intro _; rfl) : DT X L (.Name x p) (tTS i) := ⟨fun pins s σ H Q I q => by
  refine (pt_truth (pe_var (pos := p) hN hv hd hcd) he).run pins s σ H Q I ?_
  have hi : i < σ.length := by rw [I.len]; exact (List.getElem?_eq_some_iff.mp hN).1
  obtain ⟨pend, st, R, q⟩ := q
  obtain ⟨v, o, h1, q1, F, F', s1, s2, s3, r, _⟩ := see_at R hi q.bind
  obtain ⟨k, e1, q2⟩ := q1.opt
  exact ⟨v, h1, k, tru_rp s2 r e1, q2 H R⟩⟩
/-- two data, a truth value or an int of them: heap as it is -/
def SnP (X : Cx) (r : R2) (g : Dt → Dt → Option Rs) : Prop := ∀ (F H : Hp) (x y : V) (a b : Dt) (c : Rs) (Q : VK), Same F H → Rp X.K F x a → Rp X.K F y b → g a b = some c → (∀ v d, c = .val d → scalD d = some v → Q v H) → r x y H Q
theorem snp_at2 {P g : Dt → Dt → Bool} : SnP X (At2 X.K P g) (cmpD P g) := by
  intro F H x y a b c Q s r1 r2 e k
  unfold cmpD at e
  split at e
  · rename_i hp
    cases e
    exact ⟨a, b, r1.same s, r2.same s, hp, k _ _ rfl rfl⟩
  · cases e
/-- a op x, x looked at: in, not in, == -/
def e2S (g : Dt → Dt → Option Rs) (ma : M Rs) (i : Nat) : M Rs := ma.b fun x => (seeS i).b fun d => .o (op2 g x (.val d))
theorem tOpS_of {r : R2} {g : Dt → Dt → Option Rs} (hs : SnP X r g) {i : Nat} {σ : Sg} {H : Hp} {Q : VK} (hi : i < σ.length) (q : tD X L (e2S g ma i) σ H Q) : tOp r (tD X L ma) (tVar i) σ H Q := by
  obtain ⟨pend, st, R, q⟩ := q
  refine ⟨pend, st, R, q.bind.imp (fun y st1 q1 v1 H1 R1 => ?_) fun _ _ q => q⟩
  cases ey : y.frz with
  | none =>
    obtain ⟨v, o, h1, q2, _⟩ := see_at R1 hi q1.bind
    obtain ⟨c, e1, q2⟩ := q2.opt
    unfold op2 at e1
    rw [ey] at e1
    cases e1
  | some dy =>
    have R2 := R1.freeze ey
    obtain ⟨v, o, h1, q2, F, F', s1, s2, s3, r1, _, _, mem⟩ := see_at R2 hi q1.bind
    obtain ⟨c, e1, q2⟩ := q2.opt
    unfold op2 at e1
    rw [ey] at e1
    refine ⟨v, h1, hs F' H1 v1 v dy o.frz c Q s2 ((mem v1 dy List.mem_cons_self).same s3) r1 e1 fun w d hc hsc => ?_⟩
    subst hc
    exact q2 _ _ (R2.pop.scal hsc)
theorem de_cmpS (i : Nat) {op : CmpOp} {r : R2} {g : Dt → Dt → Option Rs} (ho : OpR X (compareOp op) r) (hs : SnP X r g) (ha : DE X L a ma) (hm : behindInMarks op (.Name x p) = false) (hN : X.N[i]? = some x := by rfl)
    (hv : Vis X.env.scope x := by first | exact Or.inl rfl | exact Or.inr (Or.inl rfl) | exact Or.inr (Or.inr rfl)) (hd : (x == ("__debug__" : Str)) = false := by decide)
    (hcd : (x == ("__classdict__" : Str)) = false := by decide) : DE X L (.Compare a [op] [.Name x p] pos) (e2S g ma i) := ⟨fun pins s σ H Q I q =>
  (pe_cmpR ho ha (pe_var (pos := p) hN hv hd hcd) hm).run pins s σ H Q I (tOpS_of hs (by rw [I.len]; exact (List.getElem?_eq_some_iff.mp hN).1) q)⟩
theorem dt_cmpS (i : Nat) {op : CmpOp} {r : R2} {g : Dt → Dt → Option Rs} (ho : OpR X (compareOp op) r) (hs : SnP X r g) (ha : DE X L a ma) (hm : behindInMarks op (.Name x p) = false) (hN : X.N[i]? = some x := by rfl)
    (hv : Vis X.env.scope x := by first | exact Or.inl rfl | exact Or.inr (Or.inl rfl) | exact Or.inr (Or.inr rfl)) (hd : (x == ("__debug__" : Str)) = false := by decide)
    (hcd : (x == ("__classdict__" : Str)) = false := by decide) : DT X L (.Compare a [op] [.Name x p] pos) (tV (e2S g ma i)) := ⟨fun pins s σ H Q I q => by
  have hi : i < σ.length := by rw [I.len]; exact (List.getElem?_eq_some_iff.mp hN).1
  refine (pt_cmpR ho ha (pe_var (pos := p) hN hv hd hcd) hm).run pins s σ H Q I ?_
  obtain ⟨pend, st, R, q⟩ := q
  refine tOpS_of hs hi ⟨pend, st, R, q.bind.imp (fun x st1 q1 v1 H1 R1 => ?_) fun _ _ q => q⟩
  obtain ⟨k, e, q1⟩ := q1.opt
  unfold asB at e
  split at e
  · cases e
    have hv : v1 = .bl k := by
      obtain ⟨F, A, z⟩ := R1.hld
      have := z.val
      cases this; rfl
    exact ⟨k, hv, q1 H1 R1.pop⟩
  · cases e⟩
/-- x[b], x looked at -/
def hasO (i : Nat) : M Unit := fun st => match lookS st i with
  | some (.ow o) => some (.ok (), st)
  | _ => none
def eIxS (i : Nat) (mb : M Rs) : M Rs := (hasO i).b fun _ => mb.b fun y => (seeS i).b fun d => .o (op2 ixD (.val d) y)
theorem ixO {F H : Hp} {v w : V} {o : Ow} {k : Dt} {c : Rs} {B : List Addr} (s : Same F H) (h : OwR X.K F H v o B) (r : Rp X.K F w k) (e : ixD o.frz k = some c) : ∃ z d, c = .val d ∧ Rp X.K F z d ∧ ∀ Q : VK, Q z H → rIxA X v w H Q := by
  cases h with
  | val r1 =>
    unfold ixD at e
    split at e
    · rename_i xs i hd
      obtain ⟨d, e1, rfl⟩ := Option.map_eq_some_iff.mp e
      simp only [Ow.frz] at hd
      subst hd
      cases r
      cases r1 with | lst s1 t1 =>
      obtain ⟨z, e2, r3⟩ := t1.atI e1
      exact ⟨z, d, rfl, r3, fun Q q => .inl (.inl ⟨_, _, _, z, rfl, rfl, s.seq s1, e2, q⟩)⟩
    · rename_i xs i hd
      obtain ⟨d, e1, rfl⟩ := Option.map_eq_some_iff.mp e
      simp only [Ow.frz] at hd
      subst hd
      cases r
      cases r1 with | tup s1 t1 =>
      obtain ⟨z, e2, r3⟩ := t1.atI e1
      exact ⟨z, d, rfl, r3, fun Q q => .inl (.inr (.inl ⟨_, _, _, z, rfl, rfl, sqT_same s s1, e2, q⟩))⟩
    · rename_i x i hd
      simp only [Ow.frz] at hd
      subst hd
      split at e
      · rename_i hz
        obtain ⟨d, e1, rfl⟩ := Option.map_eq_some_iff.mp e
        cases r1; cases r
        exact ⟨_, _, rfl, .str _, fun Q q => .inl (.inr (.inr ⟨_, _, d, rfl, rfl, by rw [← lenLine_eq]; exact hz, e1, q⟩))⟩
      · cases e
    · rename_i es hd
      simp only [Ow.frz] at hd
      subst hd
      split at e
      · rename_i hk
        obtain ⟨kk, hk⟩ := Option.isSome_iff_exists.mp hk
        obtain ⟨d, e1, rfl⟩ := Option.map_eq_some_iff.mp e
        have ey := r.key hk
        subst ey
        cases r1 with | dic s1 t1 =>
        obtain ⟨o, g, w⟩ := s1.get s t1 hk
        rcases w with ⟨_, w⟩ | ⟨v, d', w1, w2, r3⟩
        · rw [w] at e1; cases e1
        · rw [w2] at e1; cases e1
          subst w1
          exact ⟨v, _, rfl, r3, fun Q q => .inr ⟨_, v, rfl, g, q⟩⟩
      · cases e
    · cases e
  | lst hp r1 =>
    rename_i p xs ds
    unfold ixD at e
    simp only [Ow.frz] at e
    split at e
    · rename_i hd
      cases hd
      obtain ⟨d, e1, rfl⟩ := Option.map_eq_some_iff.mp e
      cases r
      obtain ⟨z, e2, r3⟩ := r1.atI e1
      exact ⟨z, d, rfl, r3, fun Q q => .inl (.inl ⟨_, _, _, z, rfl, rfl, .inl (.inl hp), e2, q⟩)⟩
    all_goals first | (rename_i hd; cases hd) | cases e
  | @dic p ks es hp r1 =>
    cases hp with
    | @k kvs hp =>
      have e : (if (keyOf k).isSome = true then (dLook es k).map Rs.val else none) = some c := e
      split at e
      · rename_i hk
        obtain ⟨kk, hk⟩ := Option.isSome_iff_exists.mp hk
        obtain ⟨d, e1, rfl⟩ := Option.map_eq_some_iff.mp e
        have ey := r.key hk
        subst ey
        rw [keyOf_some hk] at e1
        rcases look_k kk r1 with ⟨_, w2⟩ | ⟨v', d', w1, w2, r3⟩
        · rw [w2] at e1; cases e1
        · rw [w2] at e1; cases e1
          exact ⟨v', _, rfl, r3, fun Q q => .inr ⟨_, v', rfl, .inl ⟨_, kk, .inl hp, rfl, w1.symm⟩, q⟩⟩
      · cases e
theorem tIxS_of {i : Nat} {σ : Sg} {H : Hp} {Q : VK} (hi : i < σ.length) (q : tD X L (eIxS i mb) σ H Q) : tOp (rIxA X) (tVar i) (tD X L mb) σ H Q := by
  obtain ⟨pend, st, R, q⟩ := q
  have q := q.bind
  unfold hasO at q
  cases eo : lookS st i with
  | none => rw [eo] at q; exact q.elim
  | some ro =>
    rw [eo] at q
    cases ro with
    | obj c fs => exact q.elim
    | ow o0 =>
      obtain ⟨v0, h0, _⟩ := R.take eo hi
      refine ⟨v0, h0, pend, st, R, (Aft.bind (show Aft (M.b mb _ st) _ _ from q)).imp (fun y st1 q1 v1 H1 R1 => ?_) fun _ _ q => q⟩
      cases ey : y.frz with
      | none =>
        obtain ⟨v, o, h1, q2, _⟩ := see_at R1 hi (Aft.bind q1)
        obtain ⟨c, e1, q2⟩ := Aft.opt q2
        unfold op2 at e1
        rw [ey] at e1
        cases e1
      | some dy =>
        have R2 := R1.freeze ey
        obtain ⟨v, o, h1, q2, F, F', s1, s2, s3, r1, ⟨B, w⟩, back, mem⟩ := see_at R2 hi (Aft.bind q1)
        obtain ⟨c, e1, q2⟩ := Aft.opt q2
        have : v0 = v := by rw [h0] at h1; cases h1; rfl
        subst this
        unfold op2 at e1
        rw [ey] at e1
        obtain ⟨zz, d, rfl, rz, fin⟩ := ixO s1 w (mem v1 dy List.mem_cons_self) (show ixD o.frz dy = some c from e1)
        exact fin Q (q2 zz H1 ((back zz d rz).perm ((List.Perm.cons _ (List.Perm.refl _))) |>.swap.pop))
theorem de_ixS (i : Nat) (hu : X.A.units + 64 < cLine) (hb : DE X L b mb) (hs : PlainIx b := by exact fun _ _ => rfl) (hN : X.N[i]? = some x := by rfl)
    (hv : Vis X.env.scope x := by first | exact Or.inl rfl | exact Or.inr (Or.inl rfl) | exact Or.inr (Or.inr rfl)) (hd : (x == ("__debug__" : Str)) = false := by decide)
    (hcd : (x == ("__classdict__" : Str)) = false := by decide) : DE X L (.Subscript (.Name x p) b pos) (eIxS i mb) := ⟨fun pins s σ H Q I q =>
  (pe_ix (ix_A hu) (pe_var (pos := p) hN hv hd hcd) hb hs).run pins s σ H Q I (tIxS_of (by rw [I.len]; exact (List.getElem?_eq_some_iff.mp hN).1) q)⟩

/-! ### stores: x[b] = e -/
theorem PSet.or {t t' : TSet} (h : PSet X t) (h' : PSet X t') : PSet X (fun o i v H Q => t o i v H Q ∨ t' o i v H Q) := by
  intro pins s σ H o i v ov iv u Q I ro ri rv q
  rcases q with q | q
  · exact h pins s σ H o i v ov iv u Q I ro ri rv q
  · exact h' pins s σ H o i v ov iv u Q I ro ri rv q
def stO (o : Ow) (k d : Dt) : Option Ow := match o, k with
  | .lst ds, .int j => (ixN ds.length j).map fun n => .lst (ds.set n d)
  | .dic es, k => if (keyOf k).isSome ∧ es.length < lenLine then some (.dic (dPut es k d)) else none
  | _, _ => none
abbrev rStA : TSet := fun o i v H Q => rSetL o i v H Q ∨ rSetD o i v H Q
theorem st_A (hu : X.A.units + 1 < cLine) : PSet X rStA := PSet.or set_list (set_dict hu)
def stS (i : Nat) (k d : Rs) : M Fw := fun st => match k.frz, d.frz, lookS st i with
  | some k, some d, some (.ow o) => (match stO o k d with
    | some o' => some (.ok .nx, st.set (rootS st i) (.own (.ow o')))
    | none => none)
  | _, _, _ => none
def sSub (i : Nat) (mb mv : M Rs) : M Fw := mv.b fun d => (hasO i).b fun _ => mb.b fun k => stS i k d
theorem ds_sub (i : Nat) {v : Expr} {mv : M Rs} {spos : Pos} (hu : X.A.units + 1 < cLine) (hv : DE X L v mv) (hb : DE X L b mb) (hN : X.N[i]? = some x := by rfl)
    (hvi : Vis X.env.scope x := by first | exact Or.inl rfl | exact Or.inr (Or.inl rfl) | exact Or.inr (Or.inr rfl)) (hd : (x == ("__debug__" : Str)) = false := by decide)
    (hcd : (x == ("__classdict__" : Str)) = false := by decide)
    (ha : ∀ v, assign (.Subscript (.Name x p) b pos) X.env v = (do
      let ov ← holding [v] (eval (.Name x p) X.env)
      let iv ← holding [v, ov] (eval b X.env)
      standAt pos
      holding [v, ov, iv] (setItem ov iv v)
      release [v, ov, iv] []) := by intro _; rfl)
    (hs : swapsWithSole [.Subscript (.Name x p) b pos] v spos.line X.env = pure false := by rfl) (hw : swappedStores [.Subscript (.Name x p) b pos] v X.env = pure none := by rfl)
    (h1 : (assignEach [.Subscript (.Name x p) b pos] X.env).map (·.2) = [assign (.Subscript (.Name x p) b pos) X.env] := by rfl) : DSt X L (.Assign [.Subscript (.Name x p) b pos] v spos) (sSub i mb mv) := ⟨fun pins s σ H D I q => by
  refine (ps_asg hv (pg_sub (pe_var (pos := p) hN hvi hd hcd) hb (st_A hu) ha) hs hw h1).run pins s σ H D I ?_
  have hi : i < σ.length := by rw [I.len]; exact (List.getElem?_eq_some_iff.mp hN).1
  obtain ⟨pend, st, R, q⟩ := q
  refine ⟨pend, st, R, q.bind.imp (fun d st1 q1 v1 H1 R1 => ?_) fun _ _ q => q _ rfl⟩
  have q1 := Aft.bind q1
  unfold hasO at q1
  cases eo : lookS st1 i with
  | none => rw [eo] at q1; exact q1.elim
  | some ro =>
    rw [eo] at q1
    cases ro with
    | obj c fs => exact q1.elim
    | ow o0 =>
      obtain ⟨v0, h0, _⟩ := R1.take eo hi
      refine ⟨v0, h0, (v1, d) :: pend, st1, R1, (Aft.bind (show Aft (M.b mb _ st1) _ _ from q1)).imp (fun k st2 q2 w H2 R2 => ?_) fun _ _ q => q _ rfl⟩
      unfold stS at q2
      cases ek : k.frz with
      | none => rw [ek] at q2; exact q2.elim
      | some k' =>
        cases ed : d.frz with
        | none => rw [ek, ed] at q2; exact q2.elim
        | some d' =>
          cases eo2 : lookS st2 i with
          | none => rw [ek, ed, eo2] at q2; exact q2.elim
          | some ro2 =>
            rw [ek, ed, eo2] at q2
            cases ro2 with
            | obj c fs => exact q2.elim
            | ow o =>
              dsimp only at q2
              cases es : stO o k' d' with
              | none => rw [es] at q2; exact q2.elim
              | some o' =>
                rw [es] at q2
                have R3 := ((R2.freeze ek).swap.freeze ed).swap
                obtain ⟨v', g1, g2, g3, R4⟩ := R3.take eo2 hi
                have : v' = v0 := by rw [h0] at g1; cases g1; rfl
                subst this
                have fin : ∀ {H3 : Hp}, Hld X.K X.mg L.F₀ L.Z H3 ((v', .ow o') :: (pend ++ slIt (L.vs σ) (st2.set (rootS st2 i) .un))) → D.nx σ H3 := fun {H3} hld => by
                  have R5 : Rel X L H3 σ (st2.set (rootS st2 i) .un) ((v', .ow o') :: pend) := ⟨R4.ok, hld⟩
                  have R6 := R5.put g2
                  rw [List.set_set] at R6
                  exact q2 σ H3 rfl R6
                obtain ⟨F, A, z⟩ := R4.hld
                have z : Hf X.K X.mg L.F₀ L.Z F H2 ((v', .ow o) :: (w, .val k') :: (v1, .val d') :: (pend ++ slIt (L.vs σ) (st2.set (rootS st2 i) .un))) A := z
                obtain ⟨B, z1⟩ := z.drop
                obtain ⟨B2, z2⟩ := z1.drop
                unfold stO at es
                split at es
                · rename_i ds j
                  obtain ⟨n, e1, rfl⟩ := Option.map_eq_some_iff.mp es
                  obtain ⟨p, ys, rfl, hp, r⟩ := z.lst
                  have rw := z1.val
                  cases rw
                  have h3 := z.putL (r.set n z2.val)
                  exact .inl ⟨p, ys, _, n, rfl, rfl, hp, by rw [r.length]; exact e1, fin (Hld.drop2 (Hld.drop2 ⟨F, _, h3⟩))⟩
                · rename_i es0
                  split at es
                  · rename_i hk
                    cases es
                    obtain ⟨kk, hk1⟩ := Option.isSome_iff_exists.mp hk.1
                    obtain ⟨p, kvs, rfl, hp, r⟩ := z.dicK
                    have ew := z1.val.key hk1
                    subst ew
                    have ekd := keyOf_some hk1
                    subst ekd
                    have hlen : kvs.length < sizeLine := by
                      have := r.length
                      rw [List.length_map] at this
                      rw [this, ← lenLine_eq]; exact hk.2
                    have h3 := z.putDK (rpk_put (k := kk) r z2.val)
                    exact .inr ⟨p, _, rfl, DPut.k hp hlen, fin (Hld.drop2 (Hld.drop2 ⟨F, _, h3⟩))⟩
                  · cases es
                · cases es⟩
/-! ### {} -/
def eDnew : M Rs := .p (.dic [])
theorem de_dnew : DE X L (.Dict [] [] pos) eDnew := peW pe_dnewK fun σ H Q q => by
  obtain ⟨pend, st, R, q⟩ := q
  intro p hp
  refine q _ _ ⟨R.ok, ?_⟩
  obtain ⟨F, A, z⟩ := R.hld
  exact ⟨F, _, Hf.newD z hp (.k upd_same) .nil⟩
end

/-! ### {k: v for ..} -/
def dcL (own : List Nat) (g : Tg) (t : M Bool) (ek ev : M Rs) : List Dt → List (Dt × Dt) → DS → Option (List (Dt × Dt) × DS)
  | [], acc, st => some (acc, st)
  | d :: ds, acc, st => match g (.val d) st with
    | none => none
    | some st1 => match t st1 with
      | some (.ok true, st2) => (match ek st2 with
        | some (.ok k, st3) => (match ev st3 with
          | some (.ok r, st4) => (match k.frz, r.frz with
            | some k, some x => if (keyOf k).isSome ∧ acc.length < lenLine then dcL own g t ek ev ds (dPut acc k x) (hideS own st4) else none
            | _, _ => none)
          | _ => none)
        | _ => none)
      | some (.ok false, st2) => dcL own g t ek ev ds acc (hideS own st2)
      | _ => none
def eDc (own : List Nat) (w : Wk) (g : Tg) (t : M Bool) (ek ev : M Rs) : M Rs := w.b fun ds => fun st => match dcL own g t ek ev ds [] (hideS own st) with
  | some (acc, st') => some (.ok (.dic acc), restS own st st')
  | none => none
section
variable {X : Cx} {L : Lv} {kx vx tg iter : Expr} {ifs : List Expr} {scope : Scope} {own : List (Str × Nat)} {pos : Pos} {w : Wk} {g : Tg} {I : List Nat} {mt : M Bool} {mk me : M Rs}
theorem tDc_of {σ : Sg} {H : Hp} {Q : VK} (hN : σ.length = X.N.length) (ok : ∀ i ∈ own.map (·.2), i < X.N.length) (hI : ∀ i ∈ I, i ∈ own.map (·.2)) (q : tD X L (eDc (own.map (·.2)) w g mt mk me) σ H Q) :
    tDc (tW X L w) (tgG X L.no I g) (tDT X L.no mt) (tD X L.no mk) (tD X L.no me) (own.map (·.2)) σ H Q := by
  obtain ⟨pend, st, R, q⟩ := q
  refine ⟨pend, st, R, q.bind.imp (fun ds st1 q1 J v d H1 src R1 D hD => ?_) fun _ _ q => q⟩
  have ho : ∀ i ∈ own.map (·.2), i < σ.length := fun i hi => by rw [hN]; exact ok i hi
  have hst : ∀ {tt : DS} {H : Hp} {p : Itms} {σ : Sg}, Rel X L H σ tt p → σ.length ≤ tt.length := fun {tt H p σ} R => by
    have := R.ok.len
    unfold Lv.vs at this
    rw [List.length_append] at this
    omega
  generalize hO : own.map (·.2) = O at *
  cases el : dcL O g mt mk me ds [] (hideS O st1) with
  | none =>
    have q1 : Aft (match dcL O g mt mk me ds [] (hideS O st1) with
      | some (acc, st') => some (.ok (Rs.dic acc), restS O st1 st')
      | none => none) _ _ := q1
    rw [el] at q1; exact q1.elim
  | some y =>
    obtain ⟨accf, stf⟩ := y
    have q1 : Aft (match dcL O g mt mk me ds [] (hideS O st1) with
      | some (acc, st') => some (.ok (Rs.dic acc), restS O st1 st')
      | none => none) _ _ := q1
    rw [el] at q1
    have Rh := R1.hide ho
    have Rn : Rel X L (upd H1 D (.dK [])) (wipe σ O) (hideS O st1) ((.ref D, .dic []) :: ((v, .val d) :: pend ++ hidIt (L.vs σ) O st1)) := by
      refine ⟨Rh.ok, ?_⟩
      obtain ⟨F, A, z⟩ := Rh.hld
      exact ⟨F, _, z.newD hD (.k upd_same) .nil⟩
    refine ⟨fun i k H' => k = ds.length - i ∧ ∃ acc st', (∀ j ∈ O, st'[j]? = some .un) ∧ Rel X L H' (wipe σ O) st' ((.ref D, .dic acc) :: ((v, .val d) :: pend ++ hidIt (L.vs σ) O st1)) ∧ dcL O g mt mk me (ds.drop i) acc st' = some (accf, stf),
      ⟨ds.length, by simp, [], _, fun j hj => hideS_un hj (Nat.lt_of_lt_of_le (ho j hj) (hst R1)), Rn, by rw [List.drop_zero]; exact el⟩, fun i k H' w => ?_⟩
    obtain ⟨hk, acc, st', hu, R2, el2⟩ := w
    by_cases hlt : i < ds.length
    · have hy : ds[i]? = some ds[i] := List.getElem?_eq_getElem hlt
      have hd : ds.drop i = ds[i] :: ds.drop (i + 1) := List.drop_eq_getElem_cons hlt
      rw [hd] at el2
      have R2' : Rel X L H' (wipe σ O) st' ((v, .val d) :: (.ref D, .dic acc) :: (pend ++ hidIt (L.vs σ) O st1)) := Rel.swap R2
      obtain ⟨go, yld⟩ := src.go R2' hy
      refine .inr ⟨go, fun H2 => ∃ acc st', (∀ j ∈ O, st'[j]? = some .un) ∧ Rel X L H2 (wipe σ O) st' ((.ref D, .dic acc) :: ((v, .val d) :: pend ++ hidIt (L.vs σ) O st1)) ∧ dcL O g mt mk me (ds.drop (i + 1)) acc st' = some (accf, stf),
        fun H2 n => ⟨ds.length - (i + 1), by omega, rfl, n⟩, fun x H2 y => ?_⟩
      obtain ⟨rfl, R3⟩ := yld x H2 y
      unfold dcL at el2
      cases eg : g (.val ds[i]) st' with
      | none => rw [eg] at el2; cases el2
      | some st2 =>
        rw [eg] at el2
        dsimp only at el2
        refine ⟨_, .val ds[i], st', st2, ⟨R3.ok, R3.hld⟩, eg, fun σ2 hoff R4 => ⟨wipe_off hoff hI, ?_⟩⟩
        have R4 : Rel X L H2 σ2 st2 ((v, .val d) :: (.ref D, .dic acc) :: (pend ++ hidIt (L.vs σ) O st1)) := ⟨R4.ok, R4.hld⟩
        have ho2 : ∀ i ∈ O, i < σ2.length := fun i hi => by rw [hoff.len, wipe_length]; exact ho i hi
        have ew := wipe_off hoff hI
        have back : ∀ {tt : DS} {H3 : Hp} {ac : List (Dt × Dt)}, Rel X L H3 σ2 tt ((.ref D, .dic ac) :: ((v, .val d) :: pend ++ hidIt (L.vs σ) O st1)) → (∀ j ∈ O, (hideS O tt)[j]? = some .un) ∧ Rel X L H3 (wipe σ O) (hideS O tt) ((.ref D, .dic ac) :: ((v, .val d) :: pend ++ hidIt (L.vs σ) O st1)) := fun {tt H3 ac} R5 => by
          refine ⟨fun j hj => hideS_un hj (Nat.lt_of_lt_of_le (ho2 j hj) (hst R5)), ?_⟩
          have R6 := R5.hide ho2
          rw [ew] at R6
          have R7 : Rel X L H3 (wipe σ O) (hideS O tt) (hidIt (L.vs σ2) O tt ++ ((.ref D, .dic ac) :: ((v, .val d) :: pend ++ hidIt (L.vs σ) O st1))) := R6.perm List.perm_append_comm
          exact R7.only
        refine ⟨_, st2, ⟨R4.ok, R4.hld⟩, ?_⟩
        cases et : mt st2 with
        | none => rw [et] at el2; cases el2
        | some y =>
          obtain ⟨y, st3⟩ := y
          rw [et] at el2
          cases y with
          | error x => cases el2
          | ok b =>
            intro H3 R5
            have R5 : Rel X L H3 σ2 st3 ((v, .val d) :: (.ref D, .dic acc) :: (pend ++ hidIt (L.vs σ) O st1)) := ⟨R5.ok, R5.hld⟩
            cases b with
            | false =>
              rw [if_neg Bool.false_ne_true]
              dsimp only at el2
              obtain ⟨b1, b2⟩ := back (ac := acc) R5.swap
              exact ⟨acc, _, b1, b2, el2⟩
            | true =>
              rw [if_pos rfl]
              dsimp only at el2
              refine ⟨_, st3, ⟨R5.ok, R5.hld⟩, ?_⟩
              cases ek : mk st3 with
              | none => rw [ek] at el2; cases el2
              | some y =>
                obtain ⟨y, st4⟩ := y
                rw [ek] at el2
                cases y with
                | error x => cases el2
                | ok rk =>
                  intro zk H4 R6
                  dsimp only at el2
                  refine ⟨_, st4, ⟨R6.ok, R6.hld⟩, ?_⟩
                  cases ee : me st4 with
                  | none => rw [ee] at el2; cases el2
                  | some y =>
                    obtain ⟨y, st5⟩ := y
                    rw [ee] at el2
                    cases y with
                    | error x => cases el2
                    | ok r =>
                      intro z H5 R7
                      dsimp only at el2
                      cases erk : rk.frz with
                      | none => rw [erk] at el2; cases el2
                      | some kd =>
                        cases er : r.frz with
                        | none => rw [erk, er] at el2; cases el2
                        | some xd =>
                          rw [erk, er] at el2
                          dsimp only at el2
                          split at el2
                          · rename_i hz
                            have R7 : Rel X L H5 σ2 st5 ((z, r) :: (zk, rk) :: (v, .val d) :: (.ref D, .dic acc) :: (pend ++ hidIt (L.vs σ) O st1)) := ⟨R7.ok, R7.hld⟩
                            have R8 : Rel X L H5 σ2 st5 ((zk, .val kd) :: (z, .val xd) :: (v, .val d) :: (.ref D, .dic acc) :: (pend ++ hidIt (L.vs σ) O st1)) := (R7.freeze er).swap.freeze erk
                            have R9 : Rel X L H5 σ2 st5 ((.ref D, .dic acc) :: (zk, .val kd) :: (z, .val xd) :: (v, .val d) :: (pend ++ hidIt (L.vs σ) O st1)) := R8.perm (by
                              refine (List.Perm.cons _ (List.Perm.cons _ (List.Perm.swap _ _ _))).trans ?_
                              refine (List.Perm.cons _ (List.Perm.swap _ _ _)).trans ?_
                              exact List.Perm.swap _ _ _)
                            obtain ⟨F, A, hz2⟩ := R9.hld
                            have hz2 : Hf X.K X.mg L.F₀ L.Z F H5 ((.ref D, .dic acc) :: (zk, .val kd) :: (z, .val xd) :: ((v, .val d) :: (pend ++ hidIt (L.vs σ) O st1) ++ slIt (L.vs σ2) st5)) A := hz2
                            obtain ⟨p, kvs, ep, hp, rp⟩ := hz2.dicK
                            cases ep
                            obtain ⟨B1, h3⟩ := hz2.drop
                            obtain ⟨B2, h4⟩ := h3.drop
                            obtain ⟨kk, hk1⟩ := Option.isSome_iff_exists.mp hz.1
                            have ew2 := h3.val.key hk1
                            subst ew2
                            have ekd := keyOf_some hk1
                            subst ekd
                            have hlen : kvs.length < sizeLine := by
                              have := rp.length
                              rw [List.length_map] at this
                              rw [this, ← lenLine_eq]; exact hz.2
                            refine ⟨kvs, kk, rfl, hp, hlen, ?_⟩
                            have R10 : Rel X L (upd H5 D (.dK (putK kvs kk z))) σ2 st5 ((.ref D, .dic (dPut acc (kD kk) xd)) :: (v, .val d) :: (pend ++ hidIt (L.vs σ) O st1)) := ⟨R9.ok, Hld.drop2 (Hld.drop2 ⟨F, A, hz2.putDK (rpk_put (k := kk) rp h4.val)⟩)⟩
                            obtain ⟨b1, b2⟩ := back (ac := dPut acc (kD kk) xd) R10
                            exact ⟨dPut acc (kD kk) xd, _, b1, b2, el2⟩
                          · cases el2
    · refine .inl ⟨src.stop (Rel.swap R2) (by omega), ?_⟩
      rw [List.drop_eq_nil_of_le (by omega)] at el2
      cases el2
      refine q1 _ H' ?_
      have R3 : Rel X L H' (wipe σ O) stf (((.ref D, .dic accf) :: pend) ++ hidIt (L.vs σ) O st1) := Rel.pop (v := v) (r := .val d) (Rel.swap R2)
      exact Rel.unhide R1 R3 ho hu
theorem de_dc (hc : X.calm = true) (hN : X.N.Nodup) (hi : DI X L tg iter w) (ok : BlkOk X.N X.env.scope scope own)
    (hg : ∀ (s : Shared) (H : Hp) (C : Addr) (cl : List (Str × Addr)) (fp : List Addr), DG (X.blk s H scope (compEnvC scope cl C X.env) fp) L.no I tg g)
    (ht : ∀ (s : Shared) (H : Hp) (C : Addr) (cl : List (Str × Addr)) (fp : List Addr), DTs (X.blk s H scope (compEnvC scope cl C X.env) fp) L.no ifs mt)
    (hk : ∀ (s : Shared) (H : Hp) (C : Addr) (cl : List (Str × Addr)) (fp : List Addr), DE (X.blk s H scope (compEnvC scope cl C X.env) fp) L.no kx mk)
    (he : ∀ (s : Shared) (H : Hp) (C : Addr) (cl : List (Str × Addr)) (fp : List Addr), DE (X.blk s H scope (compEnvC scope cl C X.env) fp) L.no vx me)
    (hI : ∀ i ∈ I, i ∈ own.map (·.2) := by decide) (hs : ∀ x, foldedSetIterable iter X.env x = pure x := by intro _; rfl) : DE X L (.DictComp kx vx [⟨tg, iter, ifs, 0⟩] scope pos) (eDc (own.map (·.2)) w g mt mk me) :=
  ⟨fun pins s σ H Q I' q => (pe_dc hc hN hi ok (g := tgG X L.no I g) (tt := tDT X L.no mt) (tk := tD X L.no mk) (tv := tD X L.no me) (fun s H C cl fp => hg s H C cl fp) (fun s H C cl fp => ht s H C cl fp) (fun s H C cl fp => hk s H C cl fp) (fun s H C cl fp => he s H C cl fp) hs).run pins s σ H Q I' (tDc_of I'.len (fun i hi' => by
    obtain ⟨p, hp, rfl⟩ := List.mem_map.mp hi'
    exact (List.getElem?_eq_some_iff.mp (ok.ix p hp)).1) hI q)⟩
end
end DY

/-! The data layer, part M: C(e) of an own exception class, over ValueError, whose __init__ says super().__init__('..'); self.f = e. -/
namespace DY
open PySem PySem.Spec PySem.Calls PyProof.Rows L2

/-- what the written part says of such a class -/
structure SupC (P : Program) (K : Fg) (C : Addr) (f : Str) : Prop where
  ex : OexC K C
  nof : PySem.W.findIn K (.ref C) f = some none
  all : ∃ (fI cc cda : Addr) (oc ccl cl : Value) (od cdd cld : Option Addr) (osl ccs csl : Array (Option Value)) (name qual : Str) (params : Arguments) (scope : Scope) (dV kV doc pm ct : Value) (an : Option Addr) (vs : Array Value) (file : Str) (tf : Tok) (ar : Arg)
    (p0 p1 p2 p3 p4 p5 p6 p7 p8 p9 : Pos) (j : Nat) (msg y : Str),
    PySem.W.findIn K (.ref C) "__init__" = some (some (.ref fI)) ∧ PySem.W.typeIn K (.ref fI) = some (.type "function") ∧
    K.lookup fI = some ⟨oc, od, .func (PySem.W.ksFn name qual params [.Expr (.Call (.Attribute (.Call (.Name "super" p0) [] [] p1) "__init__" p2) [.Constant (.str msg) j p3] [] p4) p5, .Assign [.Attribute (.Name "self" p6) f p7] (.Name y p8) p9] scope dV kV doc pm an (.ref cda) ct cc), osl⟩ ∧
    PySem.W.codeIn K (.ref cda) qual = true ∧ K.lookup cda = some ⟨ccl, cdd, .fields vs, ccs⟩ ∧ vs[2]? = some (.str file tf) ∧ ((P.main.file : Str) == file) = true ∧
    K.lookup cc = some ⟨cl, cld, .cell (some (.ref C)), csl⟩ ∧ (params.posonlyargs ++ params.args).head? = some ar ∧ ar.arg = ("self" : Str) ∧
    (∀ (s : Shared) (a u : Value), BindsTo s (PySem.W.ksFn name qual params [.Expr (.Call (.Attribute (.Call (.Name "super" p0) [] [] p1) "__init__" p2) [.Constant (.str msg) j p3] [] p4) p5, .Assign [.Attribute (.Name "self" p6) f p7] (.Name y p8) p9] scope dV kV doc pm an (.ref cda) ct cc) ⟨[a, u], []⟩ [(("self" : Str), a), (y, u)]) ∧
    scope.kind = .function ∧ scope.isCoroutine = false ∧ scope.isGenerator = false ∧ (∀ x ∈ scope.names, x.2 ≠ .cell) ∧ scope.names.lookup ("self" : Str) = some .local ∧ scope.names.lookup y = some .local ∧ (y == ("self" : Str)) = false ∧ (y == ("__debug__" : Str)) = false ∧
    scope.names.lookup ("super" : Str) = some .globalImplicit ∧ scope.names.lookup ("__class__" : Str) = some .free ∧
    (∀ env : Env, ∃ pl : Sem Bool, eval (.Call (.Attribute (.Call (.Name "super" p0) [] [] p1) "__init__" p2) [.Constant (.str msg) j p3] [] p4) env = (do
      let ov ← attributeBase (.Call (.Name "super" p0) [] [] p1) "__init__" env (eval (.Call (.Name "super" p0) [] [] p1) env)
      standAt p2.atName
      let (f, first) ← holding [ov] (getMethod ov "__init__" pl)
      callWith p4 f first (backTo p4 (starEach [.Constant (.str msg) j p3] env)) []))
  sup : PySem.W.ks_superIn K C C "__init__" = some (some (.builtin "ValueError.__init__"))
  val : PySem.W.subIn K (.ref C) (.type "ValueError") = some true
  opq : PySem.W.nsIn K cStatics "thirdparty.any" = some none
  nos : PySem.W.nsIn K mainGlobals "super" = some none
  top : (P.main.scope.names.lookup ("super" : Str)).isSome = false

section
variable {P : Program} {w : World} {A : Around} {R : Result → Shared → Prop} {K : Fg} {mg mb : Mg}
/-- super().__init__ bound to the object at e, called with texts -/
theorem init_bound {E : Value → Shared → Prop} {h : Heap} {g : Array GenState} {d : Drawn} {t : Nat} {os : OsState} {C e u t0 : Addr} {rest : List Value} {Q : Value → Shared → Prop} (X : K.In h) (T : OexC K C) (he : h.get? e = some (PySem.HandSPX.excO C t0))
    (hu : h.get? u = some (PySem.W.kxs_mw "ValueError.__init__" e)) (hz : rest.length ≤ sizeLine)
    (hq : ∀ h' t1, (∀ b o, b ≠ e → h.get? b = some o → h'.get? b = some o) → h'.get? e = some (PySem.HandSPX.excO C t1) → Q .none ⟨h', g, d, t, os⟩) : wpAny (model P w) A (call (.ref u) rest) Q E ⟨h, g, d, t, os⟩ := by
  obtain ⟨nm, q, N, bs, bm, sn, sub, ab, col, dd, k0, k1, k2, k3, k5, hC, hbm⟩ := T.cls
  refine wpAny_call (codeAny_of_tree ?_)
  show wpAny _ A.in1 (callAny (.ref u) ⟨rest, []⟩) _ _ _
  simp only [callAny]
  refine wpAny_bind (wpAny_load hu ?_)
  simp only [PySem.W.kxs_mw, show (Value.type "method-wrapper" == Value.type "method" || Value.type "method-wrapper" == Value.type "builtin_function_or_method" || Value.type "method-wrapper" == Value.type "method-wrapper") = true by decide, if_true]
  refine PySem.W.KFB.if_so (by decide) ?_
  refine wpAny_bind (PySem.W.check_bound_init PySem.F.excBase_ValueError.toExcCallFacts (X _ _ hC) he rfl ?_)
  refine wpAny_bind (wpAny_pure (wpAny_pure ?_))
  exact ⟨PySem.plainId_quiet PySem.F.excBase_ValueError.init.plain _, codeAny_builtin PySem.F.excBase_ValueError.initEntry (PySem.W.exc_init_tree (cls := .ref C) (t0 := t0) (dv := none) (c2 := .none) (c3 := .none) (b4 := .bool false) he hz fun h' k h1 _ => hq h' _ k h1)⟩
/-- the call of such an __init__ -/
theorem sup_call {s : Shared} {C fI e t0 : Addr} {f : Str} {u : Value} (hroom : A.depth < recursionLimit) (X : K.In s.heap) (lim : s.heap.NoLimit) (G : s.heap.Ns mainGlobals mg) (B : s.heap.Ns builtinsNs mb) (hg : mg "super" = none) (hb : mb "super" = some (.type "super"))
    (S : SupC P K C f) (iC : PySem.W.findIn K (.ref C) "__init__" = some (some (.ref fI))) (hKe : ∀ o, K.lookup e ≠ some o) (he : s.heap.get? e = some (PySem.HandSPX.excO C t0))
    (hq : ∀ h' tk dx t1, (∀ b o, b ≠ e → s.heap.get? b = some o → h'.get? b = some o) → s.heap.objs.size ≤ dx → dx ≠ e → h'.get? e = some ({ cls := .ref C, dict := some dx, data := .fields #[.ref t1, .none, .none, .none, .bool false, .none] } : Obj) →
      h'.Ns1 dx (fun y => if y = f then some u else none) → R (.ok (.ret .none)) ⟨h', s.gens, s.drawn, tk, s.os⟩) : codeAny (model P w) A (.call (.ref fI) ⟨[.ref e, u], []⟩) R s := by
  obtain ⟨fI', cc, cda, oc, ccl, cl, od, cdd, cld, osl, ccs, csl, name, qual, params, scope, dV, kV, doc, pm, ct, an, vs, file, tf, ar, p0, p1, p2, p3, p4, p5, p6, p7, p8, p9, j, msg, y, iC', tI, lkF, hcd, lkD, hvs, hfile, lkC, hp, har, hbind, hk, hco, hgen, hcell, hls, hly, hys, hyd, hks, hkc, hev⟩ := S.all
  rw [iC] at iC'
  cases iC'
  have hsup := S.sup
  obtain ⟨nm, q, N, bs, bm, sn, sub, ab, col, dd, k0, k1, k2, k3, k5, hCK, hbm⟩ := S.ex.cls
  have hcl : PySem.W.clsIn K C = some { name := nm, bases := bs, mro := .ref C :: bm, ns := N, qualname := q, hasDict := true, slotNames := sn, subclasses := sub, abstract := ab, collection := col, hasDel := false } := by unfold PySem.W.clsIn; rw [hCK] <;> rfl
  unfold PySem.W.ks_superIn at hsup
  rw [hcl] at hsup
  have hsup : PySem.W.alongIn K "__init__" (((Value.ref C :: bm).dropWhile (· != .ref C)).drop 1) = some (some (.builtin "ValueError.__init__")) := hsup
  refine PySem.ks_codeAny_call_defAt (binds := [(("self" : Str), .ref e), (y, u)]) hroom (X _ _ lkF) rfl lim (PySem.W.codeRec_of X hcd) rfl (hbind s (.ref e) u) hcell (fun z hz => ?_) (fun h₁ hns kp => ?_) hco hgen hk
  · rcases List.mem_cons.mp hz with rfl | hz
    · exact hls
    · rcases List.mem_cons.mp hz with rfl | hz
      · exact hly
      · cases hz
  · have X1 : K.In h₁ := X.keeps kp
    have he1 := kp _ _ he
    have hv1 : ([(("self" : Str), Value.ref e), (y, u)].reverse.lookup ("self" : Str)) = some (.ref e) := by
      show List.lookup ("self" : Str) [(y, u), (("self" : Str), Value.ref e)] = _
      have h1 : (("self" : Str) == y) = false := by rw [beq_eq_false_iff_ne] at hys ⊢; exact Ne.symm hys
      rw [List.lookup_cons, h1]
      rfl
    have hv2 : ([(("self" : Str), Value.ref e), (y, u)].reverse.lookup y) = some u := by
      show List.lookup y [(y, u), (("self" : Str), Value.ref e)] = _
      rw [List.lookup_cons, beq_self_eq_true]
    have hLe : s.heap.objs.size ≠ e := Nat.ne_of_gt (Heap.lt_size he)
    have I1 : PySem.W.InstAt h₁ e (PySem.HandSPX.excO C t0) C none := ⟨he1, rfl, rfl, trivial⟩
    refine PySem.ks_wpAt_execs_cons (PySem.ks_wpAt_Expr_any (PySem.ks_wpAt_MethodCall ?_ (hev _).choose_spec) (by unfold interactive; rw [show (callEnv (PySem.W.ksFn name qual params _ scope dV kV doc pm an (.ref cda) ct cc) s.heap.objs.size fI).scope.kind = ScopeKind.function from hk]; rfl))
    refine PySem.ks_wpAt_super_base hks hkc (by decide) rfl (X1 _ _ lkF) rfl hp rfl (X1 _ _ lkD) rfl hvs hfile S.top ?_
    refine PySem.W.ks_loadName_global hk hks (loadGlobal_builtin (G.keeps kp) hg (B.keeps kp) hb ⟨rfl, ?_⟩)
    refine wpAny_loadName_free hk hkc rfl ⟨_, X1 _ _ lkC, rfl⟩ ?_
    rw [har]
    refine wpAny_loadName_local hk hls hns hv1 ?_
    refine PySem.ks_wpAny_isType_cls (X1 _ _ hCK) rfl ⟨rfl, ?_⟩
    refine PySem.ks_wpAny_call_super (X1 _ _ hCK) rfl he1 rfl (fun c z => nomatch z) (PySem.W.looks_mroIn X1 (by unfold PySem.W.mroIn; rw [hcl]; simp)) fun h2 hso kp2 => ?_
    have X2 : K.In h2 := X1.keeps kp2
    have I2 : PySem.W.InstAt h2 e (PySem.HandSPX.excO C t0) C none := ⟨kp2 _ _ he1, rfl, rfl, trivial⟩
    refine PySem.W.kxs_getMethod PySem.W.kxs_ValueError hso (PySem.W.looks_opaque X2 S.opq) (l₀ := .ref C :: bm) (fun A Q E s k q => wpAny_bind ((PySem.W.looks_clsIn X2 hcl) A _ E s k (wpAny_pure q))) rfl X2 hsup (I2.type.andThen (PySem.W.looks_subIn X2 S.val)) (PySem.W.ks_ne X2 I2 hcl) (by decide) ?_
    have kp3 : ∀ b o, h2.get? b = some o → (h2.push (PySem.W.kxs_mw "ValueError.__init__" e)).get? b = some o := fun b o z => Heap.get?_push_of_some _ z
    refine PySem.W.kxs_callWith (i := "ValueError.__init__") (x := e) rfl (evalArgs_plain (spliced_cons (Calls.Constant_str (pos := p3) (k := j) (spliced_nil ⟨Heap.get?_push_size _ rfl, ?_⟩))))
    refine init_bound (X2.keeps kp3) S.ex (kp3 _ _ (kp2 _ _ he1)) (Heap.get?_push_size _ rfl) (by rw [sizeLine_eq]; show 1 ≤ _; omega) fun h4 t4 kp4 he4 => ?_
    have all4 : ∀ b o, b ≠ e → h₁.get? b = some o → h4.get? b = some o := fun b o hb z => kp4 b o hb (kp3 _ _ (kp2 _ _ z))
    have X4 : K.In h4 := fun b o z => by
      have z1 := X1 b o z
      exact all4 b o (fun hbe => hKe o (hbe ▸ z)) z1
    have hns4 := hns.at fun o z => all4 _ o hLe z
    refine PySem.ks_wpAt_execs_cons (PySem.ks_wpAt_Assign_Attr ?_)
    refine wpAt_of_wpAny (wpAny_Name (wpAny_loadName_local hk hly hns4 hv2 ?_) hyd)
    refine wpAny_Name (wpAny_loadName_local hk hls hns4 hv1 ?_) (by decide)
    refine PySem.W.set_plain X4 (ox := { cls := .ref C, dict := none, data := .fields #[.ref t4, .none, .none, .none, .bool false, .none] }) (od := none) ⟨he4, rfl, rfl, trivial⟩ S.ex.sa ?_
    refine PySem.HandSPX.exc_osa X4 he4 hcl (show PySem.HandSPX.refsVE (.ref C :: bm) = true from hbm) rfl S.nof fun h5 tk5 dx kp5 hdx hde he5 hn5 => ?_
    refine wpAt_of_wpAny (wpAny_execs_nil ?_)
    have sz : s.heap.objs.size ≤ h4.objs.size := by
      obtain ⟨o, _, _, ho, _⟩ := hns4
      exact Nat.le_of_lt (Heap.lt_size ho)
    exact hq h5 tk5 dx t4 (fun b o hb z => kp5 b o hb (all4 b o hb (kp b o z))) (Nat.le_trans sz hdx) hde he5 hn5
end
end DY

/-! The data layer, part N: raise, try .. except. -/
namespace DY
open PySem PySem.Spec PySem.Calls PyProof.Rows L2

/-! ### raise C(e) -/
theorem Hf.newZ {K : Fg} {mg : Mg} {F₀ Z F H : Hp} {l : Itms} {A : List Addr} (h : Hf K mg F₀ Z F H l A) {p : Addr} (n : H p = none) (o : HO) : Hf K mg F₀ Z (upd F p o) (upd H p o) l A ∧ Same F (upd F p o) := by
  obtain ⟨f, z, na⟩ := h.fresh n
  have s1 : Same F (upd F p o) := same_up f
  refine ⟨⟨h.old.trans s1, fun b x e => ?_, same_upF h.oth z, fun b x e => ?_, h.its.move s1 fun a ha => upd_ne fun e => na (e ▸ ha), h.nd, fun a ha => ?_⟩, s1⟩
  · by_cases hb : b = p
    · subst hb; rw [upd_same] at e ⊢; exact e
    · rw [upd_ne hb] at e ⊢; exact h.frz b x e
  · by_cases hb : b = p
    · subst hb; exact z
    · rw [upd_ne hb] at e; exact h.off b x e
  · exact ⟨by rw [upd_ne (fun e : a = p => na (e ▸ ha))]; exact (h.own a ha).1, (h.own a ha).2⟩
theorem boot_super : bootBuiltins "super" = some (.type "super") := by rfl
section
variable {X : Cx} {L : Lv} {e : Expr} {x : Str} {C : Addr} {f : Str} {p pos rpos : Pos} {ma : M Rs}
/-- what C(e) is asked -/
def tMkS (C : Addr) (f : Str) (ta : TE) : Sg → Hp → XK → Prop := fun σ H Q => ta σ H fun v H1 => ∀ d, H1 d = none → Q (.ref C) (some d) (upd H1 d (.xd [(f, v)]))
theorem pmk_sup {k : Nat} {ta : TE} (S : SupC X.prog X.K C f) (hr : Room (k + 1) X.A) (hg : Gl X x) (hm : X.mg x = some (.ref C)) (ha : PE X e ta) (hdb : (x == ("__debug__" : Str)) = false := by decide)
    (he : starEach [e] X.env = (false, eval e X.env) :: starEach [] X.env := by rfl) (hpl : (backTo pos (starEach [] X.env)).any (·.1) = false := by rfl) : PMk X (.Call (.Name x p) [e] [] pos) (tMkS C f ta) := by
  intro pins s σ H Q I h
  have T := S.ex
  obtain ⟨nm, q, N, bs, bm, sn, sub, ab, col, dd, k0, k1, k2, k3, k5, hCK, hbm⟩ := S.ex.cls
  obtain ⟨fI, iC, tI⟩ : ∃ fI, PySem.W.findIn X.K (.ref C) "__init__" = some (some (.ref fI)) ∧ PySem.W.typeIn X.K (.ref fI) = some (.type "function") := by
    obtain ⟨fI, _, _, _, _, _, _, _, _, _, _, _, _, _, _, _, _, _, _, _, _, _, _, _, _, _, _, _, _, _, _, _, _, _, _, _, _, _, _, iC, tI, _⟩ := S.all
    exact ⟨fI, iC, tI⟩
  refine wpAny_Call_Name_kw (ld_glob I hg hm ?_ hdb)
  refine PySem.W.callWith_K (h₀ := X.base) I.ok.mod.kin T.kC (thn ((pa_cons ha pa_nil he).run pos pins s σ H (fun vs H1 => match vs with
    | [v] => ∀ d, H1 d = none → Q (.ref C) (some d) (upd H1 d (.xd [(f, v)]))
    | _ => False) I h) fun us s1 ⟨vs, H1, I1, r1, q1⟩ => ⟨I1.kIn, ?_⟩) he hpl
  show wpAny _ _ (call (.ref C) us) _ _ _
  obtain ⟨v, rfl⟩ : ∃ v, vs = [v] := by
    cases vs with
    | nil => exact q1.elim
    | cons v vs =>
      cases vs with
      | nil => exact ⟨v, rfl⟩
      | cons => exact q1.elim
  obtain ⟨u, rfl, rv⟩ := r1.one
  have q1 : ∀ d, H1 d = none → Q (.ref C) (some d) (upd H1 d (.xd [(f, v)])) := q1
  obtain ⟨hp, g, dr, tk, os⟩ := s1
  have hn : H1 (hp.objs.size + 1) = none := I1.hok.fresh (Nat.le_succ _)
  have kk : ∀ b o, hp.get? b = some o → ((hp.push (PySem.W.kdv_tup [u])).push (PySem.HandSPX.excO C hp.objs.size)).get? b = some o := fun b o e => Heap.get?_push_of_some _ (Heap.get?_push_of_some _ e)
  have hget : ((hp.push (PySem.W.kdv_tup [u])).push (PySem.HandSPX.excO C hp.objs.size)).get? (hp.objs.size + 1) = some (PySem.HandSPX.excO C hp.objs.size) := by heap_get
  have szz : hp.objs.size ≤ ((hp.push (PySem.W.kdv_tup [u])).push (PySem.HandSPX.excO C hp.objs.size)).objs.size := by
    have z : hp.objs.size + 1 < ((hp.push (PySem.W.kdv_tup [u])).push (PySem.HandSPX.excO C hp.objs.size)).objs.size := Heap.lt_size hget
    exact Nat.le_of_lt (Nat.lt_of_succ_lt z)
  have kb : ∀ b o, X.base.get? b = some o → ((hp.push (PySem.W.kdv_tup [u])).push (PySem.HandSPX.excO C hp.objs.size)).get? b = some o := fun b o z => kk b o (I1.bk b o z)
  obtain ⟨mb, hB, hmb⟩ := I.ok.mod.blt
  have hKe : ∀ o, X.K.lookup (hp.objs.size + 1) ≠ some o := fun o z => by
    have := Heap.lt_size (I1.kIn _ _ z)
    have : hp.objs.size + 1 < hp.objs.size := this
    omega
  have hdep := (hr.make C [u] []).depth
  have kIn2 := I1.kIn.keeps kk
  have lim2 := I1.nolimit.keeps kk
  have glb2 := I.ok.mod.glob.keeps kb
  have blt2 := hB.keeps kb
  have hms : X.mg "super" = none := PySem.W.mg_none_of I.ok.mod.kin I.ok.mod.glob S.nos
  have hbs : mb "super" = some (.type "super") := (hmb "super" (by decide)).trans boot_super
  refine wpAny_call (PySem.HandSPX.call_own F.excBase_ValueError (fun Y => PySem.HandSPX.refsVE_contains Y bm hbm) (I1.kIn _ _ hCK) (PySem.W.looks_findIn I1.kIn iC) (fun self => PySem.W.bind_fn I1.kIn self tI) (by rw [sizeLine_eq]; show 1 ≤ _; omega)
    (sup_call (s := ⟨(hp.push (PySem.W.kdv_tup [u])).push (PySem.HandSPX.excO C hp.objs.size), g, dr, tk, os⟩) (mg := X.mg) (mb := mb) hdep kIn2 lim2 glb2 blt2 hms hbs S iC hKe hget fun h' tk' dx t1 keep hdx hde he' hn' => ⟨rfl, ?_⟩))
  obtain ⟨G, g1', g2'⟩ := restrict h' fun b => decide (b ≠ hp.objs.size + 1)
  have gk : ∀ b, b ≠ hp.objs.size + 1 → G.get? b = h'.get? b := fun b hb => g1' b (decide_eq_true hb)
  have ge : G.get? (hp.objs.size + 1) = none := g2' _ (by simp)
  have nha : ∀ {b : Addr} {o : Obj}, hp.get? b = some o → b ≠ hp.objs.size + 1 := fun {b o} z => Nat.ne_of_lt (Nat.lt_succ_of_lt (Heap.lt_size z))
  have kG : ∀ b o, hp.get? b = some o → G.get? b = some o := fun b o z => (gk b (nha z)).trans (keep b o (nha z) (kk b o z))
  have ok1 : ObjOk X.prog X.w (upd H1 dx (.xd [(f, v)])) G dx (.xd [(f, v)]) := ⟨_, hn'.at fun o y => (gk dx hde).trans y, relO_put (fs := []) rv fun g => True.intro⟩
  have J : Inv X pins σ (upd H1 dx (.xd [(f, v)])) ⟨G, g, dr, tk', os⟩ := I1.laid (t' := tk') (a := dx) (o := .xd [(f, v)]) (h' := G) kG (Nat.le_trans szz hdx) ok1
  have hdn : H1 dx = none := I1.hok.fresh (Nat.le_trans szz hdx)
  refine ⟨hp.objs.size + 1, _, _, ⟨G, g, dr, tk', os⟩, _, .ref C, some dx, rfl, J, fun b o z => ?_, ge, he', ⟨rfl, rfl⟩, rfl, rfl, ?_, rfl, J.bare, raises_own T.exC T.tyC, q1 dx hdn⟩
  · have hba : b ≠ hp.objs.size + 1 := fun z2 => by rw [z2] at z; rw [show G.get? (hp.objs.size + 1) = none from ge] at z; cases z
    exact (gk b hba).symm.trans z
  · rw [upd_ne (Ne.symm hde)]; exact hn
def sRaise (nm : Str) (f : Str) (ma : M Rs) : M Fw := ma.b fun r => fun st => match r.frz with
  | some d => some (.error ⟨nm, [(f, d)]⟩, st)
  | none => none
theorem ds_raise {k : Nat} (S : SupC X.prog X.K C f) (hc : X.calm = true) (tk : Takes X L.W) (hr : Room (k + 1) X.A) (hm : X.mg x = some (.ref C)) (ha : DE X L e ma) (hg : Gl X x := by rfl) (hdb : (x == ("__debug__" : Str)) = false := by decide)
    (he : starEach [e] X.env = (false, eval e X.env) :: starEach [] X.env := by rfl) (hpl : (backTo pos (starEach [] X.env)).any (·.1) = false := by rfl) : DSt X L (.Raise (some (.Call (.Name x p) [e] [] pos)) none rpos) (sRaise x f ma) :=
  psW (ps_raise hc tk (pmk_sup S hr hg hm ha hdb he hpl)) fun D σ H q => by
    obtain ⟨pend, st, R, q⟩ := q
    refine ⟨pend, st, R, q.bind.imp (fun r st1 q1 v H1 R1 d hd => ?_) fun _ _ q => q _ rfl⟩
    cases er : r.frz with
    | none =>
      have q1 : Aft (match r.frz with
        | some d => some (.error ⟨x, [(f, d)]⟩, st1)
        | none => none) _ _ := q1
      rw [er] at q1; exact q1.elim
    | some dd =>
      have q1 : Aft (match r.frz with
        | some d => some (.error ⟨x, [(f, d)]⟩, st1)
        | none => none) _ _ := q1
      rw [er] at q1
      have R2 := R1.freeze er
      obtain ⟨F, A, z⟩ := R2.hld
      have rp := z.val
      obtain ⟨h2, s2⟩ := z.newZ hd (.xd [(f, v)])
      obtain ⟨B, h3⟩ := Hf.sub (m := (v, .val dd) :: pend) h2
      refine q1 σ rfl _ _ _ ⟨R2.ok, _, B, h3, ⟨C, hm, rfl⟩, d, [(f, v)], rfl, upd_same, fun g w hw => ?_⟩
      have hw : (if g == f then some dd else (List.lookup g ([] : List (Str × Dt)))) = some w := by
        rw [← hw, List.lookup_cons]
        cases g == f <;> rfl
      rw [List.lookup_cons]
      cases hgf : g == f with
      | true =>
        rw [hgf] at hw
        cases hw
        exact ⟨v, rfl, rp.same s2⟩
      | false =>
        rw [hgf] at hw
        cases hw
end

/-! ### try: .. except C as n: .. -/
/-- the slot i is the exception's, its value the last of the borrowed -/
def enterS (i : Nat) (st : DS) : DS := st.set i (.brw st.length) ++ [.un]
def offS (k i : Nat) (st : DS) : Bool := (List.range st.length).all fun j => decide (j = i) || (match st[j]? with
  | some (.brw k') => decide (k' ≠ k)
  | _ => true)
def leaveS (i : Nat) (st : DS) : Option DS := if offS (st.length - 1) i st = true ∧ st ≠ [] then some (st.dropLast.set i .un) else none
theorem offS_at {k i : Nat} {st : DS} (h : offS k i st = true) {j : Nat} (hj : j ≠ i) : st[j]? ≠ some (.brw k) := fun e => by
  have hl := (List.getElem?_eq_some_iff.mp e).1
  have := List.all_eq_true.mp h j (List.mem_range.mpr hl)
  rw [e] at this
  simp [hj] at this
def sTryAs (i : Nat) (hit : Str → Option Bool) (m : M Fw) (su : Exn → M Fw) : M Fw := fun st => match m st with
  | some (.ok f, st1) => some (.ok f, st1)
  | some (.error x, st1) => (match hit x.nm with
    | some true => (match su x (enterS i st1) with
      | some (.ok f, st2) => (match leaveS i st2 with
        | some st3 => some (.ok f, st3)
        | none => none)
      | _ => none)
    | some false => some (.error x, st1)
    | none => none)
  | none => none
def Lv.exc (L : Lv) (F : Hp) (v : V) : Lv := ⟨F, L.Z, L.xv ++ [v], fun _ _ _ _ => False⟩
theorem vs_exc {L : Lv} {F : Hp} {v : V} {σ : Sg} : (L.exc F v).vs σ = L.vs σ ++ [some v] := by
  unfold Lv.vs Lv.exc
  rw [List.map_append, ← List.append_assoc]
  rfl
theorem slIt_set_brw : ∀ {vs : List (Option V)} {st : DS} (i k : Nat), slIt vs (st.set i (.brw k)) = slIt vs (st.set i .un)
  | [], st, i, k => by cases st <;> cases i <;> simp [slIt]
  | v :: vs, [], i, k => by simp
  | v :: vs, s :: st, 0, k => by cases v <;> rfl
  | v :: vs, s :: st, i + 1, k => by
    show slIt (v :: vs) (s :: st.set i (.brw k)) = slIt (v :: vs) (s :: st.set i .un)
    have := slIt_set_brw (vs := vs) (st := st) i k
    cases v with
    | none => exact this
    | some u => cases s <;> simp [slIt, this]
theorem vs_set {L : Lv} {σ : Sg} {i : Nat} {v : Option V} (hi : i < σ.length) : L.vs (σ.set i v) = (L.vs σ).set i v := by
  unfold Lv.vs
  rw [List.set_append_left _ _ hi]
theorem SlOk.enter {L : Lv} {F : Hp} {σ : Sg} {st : DS} {i : Nat} {v : V} (h : SlOk σ.length (L.vs σ) st) (hi : i < σ.length) : SlOk (σ.set i (some v)).length ((L.exc F v).vs (σ.set i (some v))) (enterS i st) := by
  have hl := h.len
  have hlt : i < st.length := by
    rw [← hl]; unfold Lv.vs; rw [List.length_append]; omega
  have hn : σ.length ≤ st.length := by
    rw [← hl]; unfold Lv.vs; rw [List.length_append]; omega
  rw [vs_exc, vs_set hi, List.length_set]
  unfold enterS
  have hvl : ((L.vs σ).set i (some v)).length = st.length := by rw [List.length_set, hl]
  have vat : ∀ j, j < st.length → j ≠ i → ((L.vs σ).set i (some v) ++ [some v])[j]? = (L.vs σ)[j]? := fun j hj hne => by
    rw [List.getElem?_append_left (by rw [hvl]; exact hj), List.getElem?_set_ne (Ne.symm hne)]
  have vai : ((L.vs σ).set i (some v) ++ [some v])[i]? = some (some v) := by
    rw [List.getElem?_append_left (by rw [hvl]; exact hlt), List.getElem?_set_self (by rw [hl]; exact hlt)]
  have val : ((L.vs σ).set i (some v) ++ [some v])[st.length]? = some (some v) := by
    rw [List.getElem?_append_right (by rw [hvl]; exact Nat.le_refl _), hvl, Nat.sub_self]
    rfl
  have sat : ∀ (j : Nat) (s : Sl), (st.set i (.brw st.length) ++ [.un])[j]? = some s → (j = st.length ∧ s = .un) ∨ (j = i ∧ s = .brw st.length) ∨ (j < st.length ∧ j ≠ i ∧ st[j]? = some s) := fun j s e => by
    by_cases hj : j < st.length
    · rw [List.getElem?_append_left (by rw [List.length_set]; exact hj)] at e
      by_cases hji : j = i
      · subst hji
        rw [List.getElem?_set_self hj] at e
        cases e
        exact .inr (.inl ⟨rfl, rfl⟩)
      · rw [List.getElem?_set_ne (Ne.symm hji)] at e
        exact .inr (.inr ⟨hj, hji, e⟩)
    · rw [List.getElem?_append_right (by rw [List.length_set]; omega), List.length_set] at e
      have : j - st.length = 0 := by
        have := (List.getElem?_eq_some_iff.mp e).1
        simp at this
        omega
      rw [this] at e
      cases e
      exact .inl ⟨by omega, rfl⟩
  refine ⟨by simp [hl], fun j r e => ?_, fun j k e => ?_⟩
  · rcases sat j _ e with ⟨_, z⟩ | ⟨_, z⟩ | ⟨h1, h2, h3⟩
    · cases z
    · cases z
    · obtain ⟨w, hw⟩ := h.own j r h3
      exact ⟨w, by rw [vat j h1 h2]; exact hw⟩
  · rcases sat j _ e with ⟨_, z⟩ | ⟨hji, z⟩ | ⟨h1, h2, h3⟩
    · cases z
    · cases z
      subst hji
      exact ⟨hn, v, vai, val⟩
    · obtain ⟨a1, w, a2, a3⟩ := h.brw j k h3
      have hk : k < st.length := by rw [← hl]; exact (List.getElem?_eq_some_iff.mp a3).1
      exact ⟨a1, w, by rw [vat j h1 h2]; exact a2, by rw [vat k hk (by omega)]; exact a3⟩
theorem slIt_enter {L : Lv} {F : Hp} {σ : Sg} {st : DS} {i : Nat} {v : V} (hl : (L.vs σ).length = st.length) (hi : i < σ.length) : slIt ((L.exc F v).vs (σ.set i (some v))) (enterS i st) = slIt (L.vs σ) (st.set i .un) := by
  unfold enterS
  rw [vs_exc, vs_set hi, slIt_app (by rw [List.length_set, List.length_set, hl]), slIt_set_brw, slIt_val]
  show _ ++ [] = _
  rw [List.append_nil]
theorem SlOk.leave {L : Lv} {F : Hp} {σ : Sg} {st st3 : DS} {i : Nat} {v : V} (h : SlOk σ.length ((L.exc F v).vs σ) st) (hi : i < σ.length) (e : leaveS i st = some st3) :
    SlOk (σ.set i none).length (L.vs (σ.set i none)) st3 ∧ ∃ l, (slIt ((L.exc F v).vs σ) st).Perm (l ++ slIt (L.vs (σ.set i none)) st3) := by
  unfold leaveS at e
  split at e
  · rename_i hh
    obtain ⟨hoff, hne⟩ := hh
    cases e
    have hl := h.len
    rw [vs_exc] at h ⊢
    rw [vs_exc, List.length_append] at hl
    have hl : (L.vs σ).length + 1 = st.length := hl
    have hdl : st.dropLast.length = (L.vs σ).length := by rw [List.length_dropLast]; omega
    have est : st = st.dropLast ++ [st.getLast hne] := (List.dropLast_concat_getLast hne).symm
    have hil : i < (L.vs σ).length := by unfold Lv.vs; rw [List.length_append]; omega
    have hat : ∀ (j : Nat) (s : Sl), (st.dropLast.set i .un)[j]? = some s → (j = i ∧ s = .un) ∨ (j ≠ i ∧ j < (L.vs σ).length ∧ st[j]? = some s) := fun j s e => by
      by_cases hji : j = i
      · subst hji
        rw [List.getElem?_set_self (by rw [hdl]; exact hil)] at e
        cases e
        exact .inl ⟨rfl, rfl⟩
      · rw [List.getElem?_set_ne (Ne.symm hji)] at e
        have hj := (List.getElem?_eq_some_iff.mp e).1
        rw [hdl] at hj
        refine .inr ⟨hji, hj, ?_⟩
        rw [est, List.getElem?_append_left (by rw [hdl]; exact hj)]
        exact e
    have vat : ∀ j, j < (L.vs σ).length → j ≠ i → (L.vs (σ.set i none))[j]? = (L.vs σ ++ [some v])[j]? := fun j hj hne => by
      rw [vs_set hi, List.getElem?_set_ne (Ne.symm hne), List.getElem?_append_left hj]
    refine ⟨⟨by rw [vs_set hi, List.length_set, List.length_set, hdl], fun j r e => ?_, fun j k e => ?_⟩, ?_⟩
    · rcases hat j _ e with ⟨_, z⟩ | ⟨h1, h2, h3⟩
      · cases z
      · obtain ⟨w, hw⟩ := h.own j r h3
        exact ⟨w, by rw [vat j h2 h1]; exact hw⟩
    · rcases hat j _ e with ⟨_, z⟩ | ⟨h1, h2, h3⟩
      · cases z
      · obtain ⟨a1, w, a2, a3⟩ := h.brw j k h3
        have hk : k < st.length := by rw [← h.len]; exact (List.getElem?_eq_some_iff.mp a3).1
        have hk2 : k ≠ st.length - 1 := fun z => offS_at hoff h1 (z ▸ h3)
        exact ⟨by rw [List.length_set]; exact a1, w, by rw [vat j h2 h1]; exact a2, by rw [vat k (by omega) (by omega)]; exact a3⟩
    · obtain ⟨l, p⟩ := slIt_drop (vs := L.vs σ) (st := st.dropLast) i
      have e2 : slIt (L.vs (σ.set i none)) (st.dropLast.set i .un) = slIt (L.vs σ) (st.dropLast.set i .un) := by rw [vs_set hi, slIt_val]
      rw [e2]
      have e3 : slIt (L.vs σ ++ [some v]) st = slIt (L.vs σ) st.dropLast ++ slIt [some v] [st.getLast hne] := by
        conv => lhs; rw [est]
        exact slIt_app hdl.symm
      rw [e3]
      refine ⟨slIt [some v] [st.getLast hne] ++ l, ?_⟩
      rw [List.append_assoc]
      exact List.perm_append_comm.trans (p.append_left _)
  · cases e
section
variable {X : Cx} {L : Lv} {x n : Str} {c : Value} {i : Nat} {body suite : List Stmt} {b₀ : Stmt} {np pos pos' : Pos} {hit : Str → Option Bool} {m : M Fw} {su : Exn → M Fw}
theorem ds_tryAs (i : Nat) (hs : X.stack = X.env :: X.outer) (hf : X.env.frame = some X.env.locals) (hN : X.N.Nodup) (hc : Names X x c) (tk : Takes X L.W)
    (hh : ∀ nm b, hit nm = some b → ∀ C, X.mg nm = some (.ref C) → PySem.W.exmOne X.K (.ref C) c = some b)
    (hb : ∀ (L : Lv) (pn : List (Addr × Obj)) (xe : Value → Shared → Prop), Takes (X.tr pn xe) L.W → PassesOwn (model X.prog X.w) X.A X.env xe → DSs (X.tr pn xe) L body m)
    (hsu : ∀ (L : Lv) (a : Addr) (oe : Obj) (cls : Value) (d : Option Addr) (pn : List (Addr × Obj)) (y : Exn), Zc cls d oe → (∃ vs, oe.data = .fields vs) → ExR X.K X.mg L.F₀ y cls d → L.xv.getLast? = some (.ref a) → DSs (X.suite a ((a, oe) :: pn)) L (b₀ :: suite) (su y))
    (hi : X.N[i]? = some n := by rfl) (hln : X.env.kindOf n = some .local := by rfl) : DSt X L (.Try body [.ExceptHandler (some (.Name x np)) (some n) (b₀ :: suite) pos'] [] [] pos) (sTryAs i hit m su) := ⟨fun pins s σ H D I q => by
  have hil : i < σ.length := by rw [I.len]; exact (List.getElem?_eq_some_iff.mp hi).1
  obtain ⟨pend, st, R, q⟩ := q
  obtain ⟨F, A, z⟩ := R.hld
  obtain ⟨A0, z0⟩ := z.perm (m := slIt (L.vs σ) st ++ pend) List.perm_append_comm
  obtain ⟨Z₁, A₁, zf, back⟩ := z0.frame
  -- the suite's reading
  refine (ps_try_as (Wout := L.W) hs hf hN hi hln hc tk (tb := fun W => tS X ⟨F, Z₁, L.xv, W⟩ m)
    (ts := fun a cls d D σ H => ∃ (y : Exn) (F' : Hp) (st : DS), ExR X.K X.mg F' y cls d ∧ Rel X (Lv.exc ⟨F, Z₁, L.xv, L.W⟩ F' (.ref a)) H σ st [] ∧ Aft (su y st) (FwR X (Lv.exc ⟨F, Z₁, L.xv, L.W⟩ F' (.ref a)) D σ.length []) (fun _ _ => False))
    (fun W pn xe tk po => hb ⟨F, Z₁, L.xv, W⟩ pn xe tk po) (fun a oe cls d pn hz hfd => ⟨fun pins s σ H D I q => ?_⟩)).run pins s σ H D I ?_
  · obtain ⟨y, F', st, ex, R, q⟩ := q
    exact (hsu (Lv.exc ⟨F, Z₁, L.xv, L.W⟩ F' (.ref a)) a oe cls d pn y hz hfd ex (by unfold Lv.exc; simp)).run pins s σ H D I ⟨[], st, R, q.imp (fun _ _ q => q) fun _ _ q => q.elim⟩
  · have nret : ∀ {σ' : Sg} {H' : Hp} {st' : DS} {l : Itms}, Rel X ⟨F, Z₁, L.xv, wAs X.K c i (fun a cls d D σ H => ∃ (y : Exn) (F' : Hp) (st : DS), ExR X.K X.mg F' y cls d ∧ Rel X (Lv.exc ⟨F, Z₁, L.xv, L.W⟩ F' (.ref a)) H σ st [] ∧ Aft (su y st) (FwR X (Lv.exc ⟨F, Z₁, L.xv, L.W⟩ F' (.ref a)) D σ.length []) (fun _ _ => False)) L.W D⟩ H' σ' st' l → Rel X L H' σ' st' (l ++ pend) := fun {σ' H' st' l} R' => by
      refine ⟨R'.ok, ?_⟩
      obtain ⟨F', A', z'⟩ := R'.hld
      obtain ⟨A'', h5⟩ := back F' H' _ A' z'
      refine Hld.perm ⟨F', A'', h5⟩ ?_
      show (l ++ slIt (L.vs σ') st' ++ pend).Perm _
      rw [List.append_assoc, List.append_assoc]
      exact List.Perm.append_left _ List.perm_append_comm
    refine ⟨[], st, ⟨R.ok, F, A₁, zf⟩, ?_⟩
    unfold sTryAs at q
    cases em : m st with
    | none => rw [em] at q; exact q.elim
    | some w =>
      obtain ⟨w, st1⟩ := w
      rw [em] at q
      cases w with
      | ok f =>
        have q : FwR X L D σ.length pend f st1 := q
        cases f with
        | nx => exact fun σ' H' hl R' => q σ' H' hl (nret R')
        | brk => exact fun σ' H' hl R' => q σ' H' hl (nret R')
        | cnt => exact fun σ' H' hl R' => q σ' H' hl (nret R')
        | ret r => exact fun σ' v H' hl R' => q σ' v H' hl (nret R')
      | error y =>
        dsimp only at q
        intro σ' hl cls d H' rx
        obtain ⟨ok1, F', A', z', ex⟩ := rx
        have ok1 : SlOk σ'.length (L.vs σ') st1 := ok1
        have z' : Hf X.K X.mg F Z₁ F' H' (slIt (L.vs σ') st1) A' := z'
        obtain ⟨C, hC, rfl⟩ := ex.cls
        cases eh : hit y.nm with
        | none => rw [eh] at q; exact q.elim
        | some b =>
          rw [eh] at q
          refine ⟨b, hh _ _ eh C hC, fun hbt a ha => ?_, fun hbf => ?_⟩
          · subst hbt
            dsimp only at q
            have hi' : i < σ'.length := by rw [hl]; exact hil
            cases es : su y (enterS i st1) with
            | none => rw [es] at q; exact q.elim
            | some w =>
              obtain ⟨w, st2⟩ := w
              rw [es] at q
              cases w with
              | error y' => exact q.elim
              | ok f =>
                dsimp only at q
                cases el : leaveS i st2 with
                | none => rw [el] at q; exact q.elim
                | some st3 =>
                  rw [el] at q
                  obtain ⟨l0, p0⟩ := slIt_drop (vs := L.vs σ') (st := st1) i
                  obtain ⟨A2, z2⟩ := z'.perm p0
                  obtain ⟨A3, z3⟩ := Hf.sub z2
                  refine ⟨y, F', enterS i st1, ex, ⟨SlOk.enter (L := L) (F := F') ok1 hi', F', A3, ⟨Same.refl F', z3.frz, z3.oth, z3.off, ?_, z3.nd, z3.own⟩⟩, ?_⟩
                  · show ItR X.K X.mg F' H' ([] ++ slIt ((Lv.exc L F' (.ref a)).vs (σ'.set i (some (.ref a)))) (enterS i st1)) A3
                    rw [slIt_enter ok1.len hi']
                    exact z3.its
                  · rw [es]
                    have fin : ∀ {σ2 : Sg} {H2 : Hp} {l : Itms}, σ2.length = (σ'.set i (some (.ref a))).length → Rel X (Lv.exc ⟨F, Z₁, L.xv, L.W⟩ F' (.ref a)) H2 σ2 st2 l → (σ2.set i none).length = σ.length ∧ Rel X L H2 (σ2.set i none) st3 (l ++ pend) := fun {σ2 H2 l} hl2 R2 => by
                      rw [List.length_set] at hl2
                      obtain ⟨k1, l1, p1⟩ := SlOk.leave (L := L) (F := F') R2.ok (by omega) el
                      refine ⟨by rw [List.length_set]; omega, k1, ?_⟩
                      obtain ⟨F2, A2, y2⟩ := R2.hld
                      have y3 : Hf X.K X.mg F Z₁ F2 H2 (l ++ slIt ((Lv.exc L F' (.ref a)).vs σ2) st2) A2 := ⟨z3.old.trans y2.old, y2.frz, y2.oth, y2.off, y2.its, y2.nd, y2.own⟩
                      obtain ⟨A4, y4⟩ := y3.perm (p1.append_left l)
                      obtain ⟨A5, y5⟩ := y4.perm (m := l1 ++ (l ++ slIt (L.vs (σ2.set i none)) st3)) (by
                        rw [← List.append_assoc, ← List.append_assoc]
                        exact List.Perm.append_right _ List.perm_append_comm)
                      obtain ⟨A6, y6⟩ := Hf.sub y5
                      obtain ⟨A7, y7⟩ := back F2 H2 _ A6 y6
                      refine Hld.perm ⟨F2, A7, y7⟩ ?_
                      rw [List.append_assoc, List.append_assoc]
                      exact List.Perm.append_left _ List.perm_append_comm
                    have q : FwR X L D σ.length pend f st3 := q
                    cases f with
                    | nx => exact fun σ2 H2 hl2 R2 => q _ H2 (fin hl2 R2).1 (fin hl2 R2).2
                    | brk => exact fun σ2 H2 hl2 R2 => q _ H2 (fin hl2 R2).1 (fin hl2 R2).2
                    | cnt => exact fun σ2 H2 hl2 R2 => q _ H2 (fin hl2 R2).1 (fin hl2 R2).2
                    | ret r => exact fun σ2 v H2 hl2 R2 => q _ v H2 (fin hl2 R2).1 (fin hl2 R2).2
          · subst hbf
            refine q σ' hl _ _ _ ⟨ok1, F', ?_⟩
            obtain ⟨A4, y4⟩ := back F' H' _ A' z'
            obtain ⟨A5, y5⟩ := y4.perm (m := pend ++ slIt (L.vs σ') st1) List.perm_append_comm
            obtain ⟨A6, y6⟩ := Hf.sub y5
            exact ⟨A6, y6, ex⟩⟩
end
end DY

/-! The data layer, part O: the caught error: its field, its class. -/
namespace DY
open PySem PySem.Spec PySem.Calls PyProof.Rows L2
/-- the slot is the caught error's -/
def isEx (i : Nat) (st : DS) : Bool := match st[i]? with
  | some (.brw k) => decide (k + 1 = st.length)
  | _ => false
def eXf (i : Nat) (f : Str) (nms : List Str) (y : Exn) : M Rs := fun st => if isEx i st = true ∧ y.nm ∈ nms then (match y.fs.lookup f with
  | some d => some (.ok (.val d), st)
  | none => none) else none
def eXis (i : Nat) (isx : Str → Option Bool) (y : Exn) : M Rs := fun st => if isEx i st = true then (match isx y.nm with
  | some b => some (.ok (.val (.bool b)), st)
  | none => none) else none
structure IsxC (K : Fg) (C : Addr) : Prop where
  cl : (PySem.W.clsIn K C).isSome = true
  ga : PySem.W.findIn K (.ref C) "__getattribute__" = some (some (.builtin "BaseException.__getattribute__"))
  gt : PySem.W.findIn K (.ref C) "__getattr__" = some none
  sb : PySem.W.subIn K (.ref C) (.type "BaseException") = some true
  ca : PySem.W.findIn K (.ref C) "__class__" = some (some (.builtin "object.__class__"))
  sp : PySem.W.specialIn K (.builtin "object.__class__") "__get__" = some (some (.builtin "getset_descriptor.__get__"))
  tk : PySem.W.takesIn K (.builtin "object.__class__") = some true
  mr : PySem.W.mroIn K C (.type "object") = some true
section
variable {Y : Cx} {L : Lv} {a : Addr} {oe : Obj} {cls : Value} {d : Option Addr} {pn : List (Addr × Obj)} {y : Exn} {x : Str} {p pos : Pos} {f : Str} {i : Nat}
theorem ex_val {X : Cx} {H : Hp} {σ : Sg} {st : DS} {pend : Itms} (R : Rel X L H σ st pend) (hl : L.xv.getLast? = some (.ref a)) (hi : i < σ.length) (h : isEx i st = true) : σ[i]? = some (some (.ref a)) := by
  unfold isEx at h
  split at h
  · rename_i k e
    have h : k + 1 = st.length := of_decide_eq_true h
    obtain ⟨_, v, h1, h2⟩ := R.ok.brw i k e
    have hlen := R.ok.len
    have h3 : (L.vs σ)[k]? = some (some (.ref a)) := by
      have hk : k = (L.vs σ).length - 1 := by omega
      rw [hk, ← List.getLast?_eq_getElem?]
      unfold Lv.vs
      have hne : L.xv ≠ [] := fun z => by rw [z] at hl; cases hl
      rw [List.getLast?_append, List.getLast?_map, hl]
      rfl
    rw [h3] at h2
    have e0 : some (V.ref a) = some v := Option.some.inj h2
    cases e0
    unfold Lv.vs at h1
    rw [List.getElem?_append_left hi] at h1
    exact h1
  · cases h
theorem de_xf (i : Nat) {nms : List Str} (hz : Zc cls d oe) (hfd : ∃ vs, oe.data = .fields vs) (ex : ExR Y.K Y.mg L.F₀ y cls d) (hl : L.xv.getLast? = some (.ref a))
    (hT : ∀ nm ∈ nms, ∀ C, Y.mg nm = some (.ref C) → XfC Y.K C ∧ PySem.W.findIn Y.K (.ref C) f = some none) (hN : Y.N[i]? = some x := by rfl)
    (hv : Vis Y.env.scope x := by first | exact Or.inl rfl | exact Or.inr (Or.inl rfl) | exact Or.inr (Or.inr rfl)) (hd : (x == ("__debug__" : Str)) = false := by decide) (hcd : (x == ("__classdict__" : Str)) = false := by decide)
    (hb : attributeBase (.Name x p) f Y.env (eval (.Name x p) Y.env) = eval (.Name x p) Y.env := by rfl) : DE (Y.suite a ((a, oe) :: pn)) L (.Attribute (.Name x p) f pos) (eXf i f nms y) := ⟨fun pins s σ H Q I q => by
  have hi : i < σ.length := by rw [I.len]; exact (List.getElem?_eq_some_iff.mp hN).1
  obtain ⟨pend, st, R, q⟩ := q
  unfold eXf at q
  split at q
  · rename_i hh
    obtain ⟨C, hC, rfl⟩ := ex.cls
    obtain ⟨T, hno⟩ := hT _ hh.2 C hC
    refine (pe_xf T hno hz hfd (pe_var (X := Y.suite a ((a, oe) :: pn)) (pos := p) hN hv hd hcd) hb).run pins s σ H Q I ?_
    refine ⟨.ref a, ex_val R hl hi hh.1, rfl, rfl, ?_⟩
    obtain ⟨dd, fv, ed, eF, hf⟩ := ex.fld
    cases e1 : y.fs.lookup f with
    | none => rw [e1] at q; exact q.elim
    | some dt =>
      rw [e1] at q
      obtain ⟨w, lw, rw⟩ := hf f dt e1
      obtain ⟨F, A, z⟩ := R.hld
      exact ⟨dd, fv, w, ed, z.frz _ _ (z.old _ _ eF), lw, q w H ⟨R.ok, F, A, z.add (rw.same z.old)⟩⟩
  · exact q.elim⟩
/-- isinstance of the caught error, which has its dict -/
theorem call_isX (hz : Zc cls d oe) (hfd : ∃ vs, oe.data = .fields vs) : CallR (Y.suite a ((a, oe) :: pn)) (.builtin "isinstance") (fun xs H Q => ∃ (C Cb dd : Addr) (fv : List (Str × V)) (b : Bool), xs = [.ref a, .ref Cb] ∧ cls = .ref C ∧ d = some dd ∧ H dd = some (.xd fv) ∧ IsxC Y.K C ∧ PySem.W.kitOne Y.K (.ref C) (.ref Cb) = some b ∧ Q (.bl b) H) := by
  intro pins s σ H xs us Q I r h
  obtain ⟨C, Cb, dd, fv, b, rfl, rfl, rfl, hdd, T, e, q⟩ := h
  obtain ⟨u1, u2, rfl, r1, r2⟩ := vals2 r
  cases (show u1 = Value.ref a from r1)
  cases (show u2 = Value.ref Cb from r2)
  obtain ⟨hget, _⟩ := I.pin (a, oe) (List.mem_append_left _ List.mem_cons_self)
  obtain ⟨mA, hns, hr⟩ := (show ObjOk Y.prog Y.w H s.heap dd (.xd fv) from I.hok dd _ hdd)
  obtain ⟨od, _, _, ho, _⟩ := id hns
  obtain ⟨vs, hv⟩ := hfd
  have J : PySem.W.InstAt s.heap a oe C (some od) := ⟨hget, hz.1, by unfold PySem.W.notCls; rw [hv] <;> rfl, by rw [hz.2]; exact ho⟩
  exact PySem.W.kia_one (PySem.W.kitx_exc T.cl T.ga T.gt T.sb T.ca T.sp T.tk T.mr) I.kIn J e (fun z => nomatch z) fun tk => ⟨.bl b, H, I.tok tk, rfl, q⟩
theorem de_xis (i : Nat) {isx : Str → Option Bool} {c : Str} {Cb : Addr} {pc pi : Pos} (hz : Zc cls d oe) (hfd : ∃ vs, oe.data = .fields vs) (ex : ExR Y.K Y.mg L.F₀ y cls d) (hl : L.xv.getLast? = some (.ref a)) (hm : Y.mg "isinstance" = none) (hcb : Y.mg c = some (.ref Cb))
    (hT : ∀ nm b, isx nm = some b → ∀ C, Y.mg nm = some (.ref C) → IsxC Y.K C ∧ PySem.W.kitOne Y.K (.ref C) (.ref Cb) = some b) (hN : Y.N[i]? = some x := by rfl)
    (hv : Vis Y.env.scope x := by first | exact Or.inl rfl | exact Or.inr (Or.inl rfl) | exact Or.inr (Or.inr rfl)) (hd : (x == ("__debug__" : Str)) = false := by decide) (hcd : (x == ("__classdict__" : Str)) = false := by decide)
    (hg : Gl Y "isinstance" := by rfl) (hgc : Gl Y c := by rfl) (hdc : (c == ("__debug__" : Str)) = false := by decide)
    (he : starEach [.Name x p, .Name c pc] Y.env = (false, eval (.Name x p) Y.env) :: starEach [.Name c pc] Y.env := by rfl) (he2 : starEach [.Name c pc] Y.env = (false, eval (.Name c pc) Y.env) :: starEach [] Y.env := by rfl)
    (hpl : (backTo pos (starEach [.Name c pc] Y.env)).any (·.1) = false := by rfl) : DE (Y.suite a ((a, oe) :: pn)) L (.Call (.Name "isinstance" pi) [.Name x p, .Name c pc] [] pos) (eXis i isx y) := ⟨fun pins s σ H Q I q => by
  have hi : i < σ.length := by rw [I.len]; exact (List.getElem?_eq_some_iff.mp hN).1
  refine (pe_callB (X := Y.suite a ((a, oe) :: pn)) (call_isX hz hfd) hg hm (by rfl) (pa_cons (pe_var (X := Y.suite a ((a, oe) :: pn)) (pos := p) hN hv hd hcd) (pa_cons (pe_glob (X := Y.suite a ((a, oe) :: pn)) (v := .ref Cb) (u := .ref Cb) hgc hcb rfl hdc) pa_nil he2) he) (by decide) (by decide) he hpl).run pins s σ H Q I ?_
  obtain ⟨pend, st, R, q⟩ := q
  unfold eXis at q
  split at q
  · rename_i hh
    obtain ⟨C, hC, rfl⟩ := ex.cls
    refine ⟨.ref a, ex_val R hl hi hh, ?_⟩
    cases e1 : isx y.nm with
    | none => rw [e1] at q; exact q.elim
    | some b =>
      rw [e1] at q
      obtain ⟨T, k1⟩ := hT _ b e1 C hC
      obtain ⟨dd, fv, ed, eF, hf⟩ := ex.fld
      have R' := R
      obtain ⟨F, A, z⟩ := R'.hld
      exact ⟨C, Cb, dd, fv, b, rfl, rfl, ed, z.frz _ _ (z.old _ _ eF), T, k1, q _ H (R.scal rfl)⟩
  · exact q.elim⟩
end
end DY

/-! The data layer, part P: odds and ends for the printed walks. -/
namespace DY
open PySem PySem.Spec PySem.Calls PyProof.Rows L2
section
variable {X : Cx} {L : Lv} {x : Str} {pos : Pos} {k : Nat} {A : Around}
theorem de_gstr {s : Str} (h : ∃ t, X.mg x = some (.str s t)) (hg : Gl X x := by rfl) (hd : (x == ("__debug__" : Str)) = false := by decide) : DE X L (.Name x pos) (eC (.str s)) := by
  obtain ⟨t, h⟩ := h
  exact de_glob (v := .str s) h ⟨t, rfl⟩ (fun _ => .str s) hg hd
theorem de_gint {i : Int} (h : ∃ t, X.mg x = some (.int i t)) (hg : Gl X x := by rfl) (hd : (x == ("__debug__" : Str)) = false := by decide) : DE X L (.Name x pos) (eC (.int i)) := by
  obtain ⟨t, h⟩ := h
  exact de_glob (v := .int i) h ⟨t, rfl⟩ (fun _ => .int i) hg hd
theorem u1 (r : Room k A) : A.units + 1 < cLine := by have := r.un; omega
theorem u64 (r : Room k A) : A.units + 64 < cLine := by have := r.un; omega
theorem u65 (r : Room k A) : A.units + 65 < cLine := by have := r.un; omega
def negD : Dt → Option Rs
  | .int i => some (.val (.int (-i)))
  | _ => none
theorem sn_neg : Sn1 X (rU fun i => .int (-i)) negD := by
  intro F₀ Z H l x a c Q h e k
  obtain ⟨F, A, h⟩ := h
  have r := h.val
  obtain ⟨B, h2⟩ := h.drop
  unfold negD at e
  split at e
  · cases e
    cases r
    exact ⟨_, rfl, k _ _ ⟨F, B, h2.add (.int _)⟩⟩
  · cases e
theorem takes_no : Takes X L.no.W := fun u s' h => by
  obtain ⟨a, B, sI, pins, σ, H, cls, d, e, I, nb, up, sky, na, os, ag, w⟩ := h
  exact w.elim
/-- dict(a list of pairs) -/
def pairsD : List Dt → Option (List (Dt × Dt))
  | [] => some []
  | .tuple [k, v] :: ds => if (keyOf k).isSome then (pairsD ds).map ((k, v) :: ·) else none
  | _ => none
def dictOf (ps : List (Dt × Dt)) : List (Dt × Dt) := ps.foldl (fun acc e => dPut acc e.1 e.2) []
def dictD : List Dt → Option Rs
  | [.list ds] => (pairsD ds).map fun ps => Rs.dic (dictOf ps)
  | _ => none
theorem pairs_rp {K : Fg} {F H : Hp} (s : Same F H) : ∀ {ds : List Dt} {xs : List V} {ps : List (Dt × Dt)}, pairsD ds = some ps → RpA K F xs ds → ∃ (as : List Addr) (kvs : List (Key × V)), xs = as.map V.ref ∧ Paired (fun p kv => SqT K H p [kV kv.1, kv.2]) as kvs ∧ RpK K F (kvs.map fun e => (kD e.1, e.2)) ps
  | [], xs, ps, e, r => by cases e; cases r; exact ⟨[], [], rfl, .nil, .nil⟩
  | d :: ds, xs, ps, e, r => by
    unfold pairsD at e
    split at e
    · rename_i h; cases h
    · rename_i k v ds' h
      cases h
      split at e
      · rename_i hk
        obtain ⟨ps', e1, rfl⟩ := Option.map_eq_some_iff.mp e
        obtain ⟨kk, hk⟩ := Option.isSome_iff_exists.mp hk
        cases r with
        | cons h1 h2 =>
          obtain ⟨as, kvs, rfl, p1, r1⟩ := pairs_rp s e1 h2
          cases h1 with
          | tup s1 t1 =>
            rename_i p ys
            cases t1 with
            | cons a1 a2 =>
              cases a2 with
              | cons b1 b2 =>
                cases b2
                rename_i w1 w2
                have ew := a1.key hk
                subst ew
                have ek := keyOf_some hk
                subst ek
                exact ⟨p :: as, (kk, w2) :: kvs, rfl, .cons (sqT_same s s1) p1, .cons b1 r1⟩
      · cases e
    · cases e
theorem rpk_merge {K : Fg} {F : Hp} : ∀ {more kvs : List (Key × V)} {ps es : List (Dt × Dt)}, RpK K F (more.map fun e => (kD e.1, e.2)) ps → RpK K F (kvs.map fun e => (kD e.1, e.2)) es → RpK K F ((mergeK kvs more).map fun e => (kD e.1, e.2)) (ps.foldl (fun acc e => dPut acc e.1 e.2) es)
  | [], kvs, ps, es, h, h2 => by cases h; exact h2
  | p :: more, kvs, ps, es, h, h2 => by
    cases h with
    | cons a b =>
      have z := rpk_merge (more := more) (kvs := putK kvs p.1 p.2) b (rpk_put h2 a)
      exact z
theorem sn_dict : SnL X (fun xs H Q => ∃ (a : Addr) (ps : List Addr) (kvs : List (Key × V)), xs = [.ref a] ∧ SqL X.K H a (ps.map V.ref) ∧ Paired (fun p kv => SqT X.K H p [kV kv.1, kv.2]) ps kvs ∧
    ∀ p, H p = none → Q (.ref p) (upd H p (.dK (mergeK [] kvs)))) dictD := by
  intro F₀ Z H l xs as c Q hl h e k
  obtain ⟨F, A, h⟩ := h
  unfold dictD at e
  split at e
  · obtain ⟨ps, e1, rfl⟩ := Option.map_eq_some_iff.mp e
    obtain ⟨x, rfl, r1, B, h3⟩ := h.one hl
    cases r1 with | lst s1 t1 =>
    obtain ⟨as, kvs, rfl, p1, r1⟩ := pairs_rp h.frz e1 t1
    exact ⟨_, as, kvs, rfl, h.frz.seq s1, p1, fun p hp => k _ _ ⟨F, _, h3.newD hp (.k upd_same) (rpk_merge (kvs := []) r1 .nil)⟩⟩
  · cases e
theorem ds_never {s : Stmt} : DSt X L s (fun _ => none) := psW ps_never fun D σ H q => by
  obtain ⟨pend, st, R, q⟩ := q
  exact q.elim
/-- a def that is never asked -/
def fnNo : Fn := fun _ _ => none
theorem fn_no {P : Program} {w : World} {K : Fg} {mg : Mg} {base : Heap} {f : Addr} {fd : FuncData} {ps : List Str} {n k : Nat} : FnOk P w K mg base (L2.CX P w) k f fd ps (spD K mg n fnNo) := by
  have no : ∀ vs H Q E, ¬ spD K mg n fnNo vs H Q E := fun vs H Q E h => by
    obtain ⟨_, args, xv, ext, F₀, Z, _, _, _, h⟩ := h
    exact h
  exact ⟨fun vs H Q E h => absurd h (no vs H Q E), fun A outer s H args us vs Q E _ _ _ _ h => absurd h (no vs H Q E)⟩
/-- the end: the law's own def, asked with the script -/
theorem sp_end {K : Fg} {mg : Mg} {H : Hp} {a : Addr} {ns : List Int} {f : Fn} (hO : ∀ b o, H b = some o → True) (hS : SqL K H a (ns.map V.int)) (hf : ∃ ext, f [.val (.list (ns.map PyData.int))] [] = some (.ok (.val (.bool true)), ext)) :
    spD K mg 1 f [.ref a] H (fun v _ => v = .bl true) fun _ _ _ => False := by
  obtain ⟨ext, hf⟩ := hf
  refine ⟨rfl, [.val (.list (ns.map PyData.int))], [], [], H, fun _ => none, ⟨rfl, fun i k e => ?_⟩, rfl, ?_, ?_⟩
  · cases i with
    | zero => cases e
    | succ i => simp at e
  · have it : ItR K mg H H [(V.ref a, Rs.val (.list (ns.map PyData.int)))] [] := .cons (A := []) (B := []) (.ow (.val (.lst hS (RpA.ints ns)))) .nil
    exact ⟨H, [], ⟨Same.refl H, Same.refl H, (fun _ _ e => nomatch e), (fun _ _ _ => rfl), it, List.nodup_nil, (fun _ h => nomatch h)⟩⟩
  · rw [hf]
    intro hl v H' hh
    obtain ⟨F, A, z⟩ := hh
    have r := z.val
    cases r
    rfl
end
end DY

namespace DY
open PySem PySem.Spec PySem.Calls PyProof.Rows L2
/-! ### printed by gen.py: the denotations -/
def fuel (_ : DS) : Nat := 1000000
def sNo : M Fw := fun _ => none
def hit_RowError (nm : Str) : Option Bool := if nm = "BadLine" then some true else if nm = "BadStep" then some true else none
def isx_BadLine (nm : Str) : Option Bool := if nm = "BadLine" then some true else if nm = "BadStep" then some false else none
def isx_BadStep (nm : Str) : Option Bool := if nm = "BadLine" then some false else if nm = "BadStep" then some true else none
def xn_index : List Str := ["BadStep"]
def xn_line : List Str := ["BadLine"]
def B__law_number : M Fw := (sCons (sAsg (gN 2) (e2 addD (e2 mulD (eL sumD (aCons (eVar 0) aNil)) (eC (.int 31))) (e2 mulD (eC (.int 1000003)) (e2 addD (eVar 1) (eC (.int 1))))))
  (sCons (sIf (tV (e2 ltD (eVar 1) (eLenS 0)))
  (sAsg (gN 2) (eIxS 0 (eVar 1)))
  sNil)
  (sRet (eL absD (aCons (eVar 2) aNil)))))
def D__law_number : Fn := runD 3 B__law_number
def LB1__law_draws : M Fw := (sCons (sAsg (gN 7) (e2 modD (e2 addD (e2 addD (e2 mulD (eVar 7) (eC (.int 48271))) (e2 mulD (eC (.int 11)) (eVar 6))) (eC (.int 7))) (eC (.int 2147483647))))
  (sCons (sAsg (gN 8) (e2 modD (e2 addD (e2 addD (e2 mulD (eVar 7) (eVar 7)) (e2 mulD (eC (.int 69621)) (eVar 6))) (eC (.int 5))) (eC (.int 2147483629))))
  (sDrop (eMt "list" 5 appendF (aCons (e2 modD (e2 fdivD (eVar 8) (eC (.int 64))) (eVar 3)) aNil)))))
def L2__law_draws : M Fw := (sFor (wRng1 (aCons (eVar 2) aNil)) (gN 6)
  LB1__law_draws)
def LB3__law_draws : M Fw := (sCons (sDrop (eMt "list" 5 appendF (aCons (e2 modD (eVar 4) (eVar 3)) aNil)))
  (sAsg (gN 4) (e2 fdivD (eVar 4) (eVar 3))))
def L4__law_draws : M Fw := (sFor (wRng1 (aCons (eVar 2) aNil)) (gN 6)
  LB3__law_draws)
def B__law_draws : M Fw := (sCons (sAsg (gN 4) (eCall D__law_number (agV (eVar 0) (agV (eVar 1) agNil))))
  (sCons (sAsg (gN 5) (eLst aNil))
  (sCons (sIf (tV (e2 geD (eVar 4) (e2 powD (eC (.int 10)) (eC (.int 18)))))
  (sCons (sAsg (gN 4) (e2 subD (eVar 4) (e2 powD (eC (.int 10)) (eC (.int 18)))))
  (sCons L4__law_draws
  (sRet (eMove 5))))
  sNil)
  (sCons (sAsg (gN 7) (e2 addD (e2 modD (eVar 4) (eC (.int 2147483647))) (eC (.int 1))))
  (sCons L2__law_draws
  (sRet (eMove 5)))))))
def D__law_draws : Fn := runD 9 B__law_draws
def C1__law_row : M Rs := (eLc [6] (wRng1 (aCons (eVar 3) aNil)) (gN 6) tYes' (eTup (aCons (e2 ixD (eC (.str "abc")) (e2 modD (eIxS 5 (e2 mulD (eC (.int 2)) (eVar 6))) (eVar 2))) (aCons (e2 modD (eIxS 5 (e2 addD (e2 mulD (eC (.int 2)) (eVar 6)) (eC (.int 1)))) (eVar 4)) aNil))))
def B__law_row : M Fw := (sCons (sAsg (gN 5) (eCall D__law_draws (agV (eVar 0) (agV (eVar 1) (agV (e2 mulD (eC (.int 2)) (eVar 3)) (agV (eC (.int 5040)) agNil))))))
  (sRet (eL tupD (aCons C1__law_row aNil))))
def D__law_row : Fn := runD 7 B__law_row
def C1__law_rows : M Rs := (eLc [7] (wRng1 (aCons (e2 addD (eVar 5) (eC (.int 1))) aNil)) (gN 7) tYes' (e2 addD (eVar 4) (eTup (aCons (eTup (aCons (eVar 6) (aCons (eVar 7) aNil))) aNil))))
def LB2__law_rows : M Fw := (sAsg (gN 2) (e2 addD (eVar 2) C1__law_rows))
def L3__law_rows : M Fw := (sFor (wVal (eSl (eC (.str "abc")) pNo (pSome (eVar 0)))) (gN 6)
  LB2__law_rows)
def C4__law_rows : M Rs := (eLc [6, 7] (wVal (eVar 4)) (gT (gsCons (gN 6) (gsCons (gN 7) gsNil))) tYes' (eTup (aCons (eVar 7) (aCons (eC (.int 0)) aNil))))
def LB5__law_rows : M Fw := (sCons (sAsg (gN 4) (eIxS 2 (eVar 3)))
  (sCons (sIf (tV (e2 ltD (eLenS 4) (eVar 1)))
  (sCons (sAsg (gN 5) (eL lenD (aCons (eL dictD (aCons C4__law_rows aNil)) aNil)))
  L3__law_rows)
  sNil)
  (sAsg (gN 3) (e2 addD (eVar 3) (eC (.int 1))))))
def L6__law_rows : M Fw := (sWhile fuel (tV (e2 ltD (eVar 3) (eLenS 2)))
  LB5__law_rows)
def B__law_rows : M Fw := (sCons (sAsg (gN 2) (eLst (aCons (eTup aNil) aNil)))
  (sCons (sAsg (gN 3) (eC (.int 0)))
  (sCons L6__law_rows
  (sRet (eMove 2)))))
def D__law_rows : Fn := runD 8 B__law_rows
def C1__law_plain : M Rs := (eLc [2, 3] (wVal (eVar 0)) (gT (gsCons (gN 2) (gsCons (gN 3) gsNil))) tYes' (eTup (aCons (eVar 2) (aCons (eMt "list" 1 indexF (aCons (eVar 3) aNil)) aNil))))
def LB2__law_plain : M Fw := (sIf (tV (e2S notInD (eVar 3) 1))
  (sDrop (eMt "list" 1 appendF (aCons (eVar 3) aNil)))
  sNil)
def L3__law_plain : M Fw := (sFor (wVal (eVar 0)) (gT (gsCons (gN 2) (gsCons (gN 3) gsNil)))
  LB2__law_plain)
def B__law_plain : M Fw := (sCons (sAsg (gN 1) (eLst aNil))
  (sCons L3__law_plain
  (sRet (eL tupD (aCons C1__law_plain aNil)))))
def D__law_plain : Fn := runD 4 B__law_plain
def LB1__law_same (R : Fn) : M Fw := (sIf (tNot' (tT (eCall R (agV (eIxS 0 (eVar 2)) (agV (eIxS 1 (eVar 2)) agNil)))))
  (sRet (eC (.bool false)))
  sNil)
def L2__law_same (R : Fn) : M Fw := (sFor (wRng1 (aCons (eLenS 1) aNil)) (gN 2)
  (LB1__law_same R))
def B__law_same (R : Fn) : M Fw := (sCons (sIf (tOr' (tT (eIsi "bool" (eVar 1))) (tT (eIsi "bool" (eVar 0))))
  (sRet (eAnd (eIsi "bool" (eVar 1)) (eAnd (eIsi "bool" (eVar 0)) (e2S eqD (eVar 0) 1))))
  sNil)
  (sCons (sIf (tOr' (tV (e2 isD (eVar 1) (eC .none))) (tT (eIsi "int" (eVar 1))))
  (sRet (eAnd (e2S eqD (eVar 0) 1) (eOr (e2 isD (eVar 1) (eC .none)) (eIsi "int" (eVar 0)))))
  sNil)
  (sCons (sIf (tT (eIsi "str" (eVar 1)))
  (sRet (eAnd (eIsi "str" (eVar 0)) (e2S eqD (eVar 0) 1)))
  sNil)
  (sCons (sIf (tOr' (tV (e2 neD (eIsi "list" (eVar 1)) (eIsi "list" (eVar 0)))) (tV (e2 neD (eIsi "tuple" (eVar 1)) (eIsi "tuple" (eVar 0)))))
  (sRet (eC (.bool false)))
  sNil)
  (sCons (sIf (tV (e2 neD (eLenS 0) (eLenS 1)))
  (sRet (eC (.bool false)))
  sNil)
  (sCons (L2__law_same R)
  (sRet (eC (.bool true)))))))))
def D__law_same : Nat → Fn
  | 0 => fnNo
  | n + 1 => runD 3 (B__law_same (D__law_same n))
def LB1_names_of : M Fw := (sSub 1 (eVar 3) (eC (.bool true)))
def L2_names_of : M Fw := (sFor (wVal (eVar 0)) (gT (gsCons (gN 2) (gsCons (gN 3) gsNil)))
  LB1_names_of)
def B_names_of : M Fw := (sCons (sAsg (gN 1) eDnew)
  (sCons L2_names_of
  (sRet (eL lstD (aCons (eVar 1) aNil)))))
def D_names_of : Fn := runD 4 B_names_of
def C1_renamed : M Rs := (eLc [5, 6] (wVal (eVar 0)) (gT (gsCons (gN 5) (gsCons (gN 6) gsNil))) tYes' (eTup (aCons (eVar 5) (aCons (eIxS 3 (eVar 6)) aNil))))
def C2_renamed : M Rs := (eDc [4] (wRng1 (aCons (eLenS 2) aNil)) (gN 4) tYes' (eIxS 2 (eVar 4)) (eIxS 1 (eVar 4)))
def B_renamed : M Fw := (sCons (sAsg (gN 2) (eCall D_names_of (agV (eVar 0) agNil)))
  (sCons (sAsg (gN 3) C2_renamed)
  (sRet (eL tupD (aCons C1_renamed aNil)))))
def D_renamed : Fn := runD 7 B_renamed
def LB1_plain_row : M Fw := (sDrop (eMt "list" 2 appendF (aCons (eTup (aCons (eVar 3) (aCons (eMt "dict" 1 setdF (aCons (eVar 4) (aCons (eLenS 1) aNil))) aNil))) aNil)))
def L2_plain_row : M Fw := (sFor (wVal (eVar 0)) (gT (gsCons (gN 3) (gsCons (gN 4) gsNil)))
  LB1_plain_row)
def B_plain_row : M Fw := (sCons (sAsg (gN 1) eDnew)
  (sCons (sAsg (gN 2) (eLst aNil))
  (sCons L2_plain_row
  (sRet (eL tupD (aCons (eVar 2) aNil))))))
def D_plain_row : Fn := runD 5 B_plain_row
def B_are_alike : M Fw := (sRet (e2 eqD (eCall D_plain_row (agV (eVar 0) agNil)) (eCall D_plain_row (agV (eVar 1) agNil))))
def D_are_alike : Fn := runD 2 B_are_alike
def B_is_plain : M Fw := (sRet (e2 eqD (eCall D_plain_row (agV (eVar 0) agNil)) (eL tupD (aCons (eVar 0) aNil))))
def D_is_plain : Fn := runD 1 B_is_plain
def C1_letters_of : M Rs := (eLc [1, 2] (wVal (eVar 0)) (gT (gsCons (gN 1) (gsCons (gN 2) gsNil))) tYes' (eVar 1))
def B_letters_of : M Fw := (sRet (eMv "str" joinF (eC (.str "")) (aCons C1_letters_of aNil)))
def D_letters_of : Fn := runD 3 B_letters_of
def C1_row_text : M Rs := (eLc [1, 2] (wVal (eVar 0)) (gT (gsCons (gN 1) (gsCons (gN 2) gsNil))) tYes' (e2 addD (eVar 1) (eL strD (aCons (eVar 2) aNil))))
def B_row_text : M Fw := (sRet (eMv "str" joinF (eC (.str " ")) (aCons C1_row_text aNil)))
def D_row_text : Fn := runD 3 B_row_text
def C1_read_step : M Rs := (eLc [3] (wVal (eVar 2)) (gN 3) (tV (e2 notInD (eVar 3) (eC (.str "0123456789")))) (eVar 3))
def B_read_step : M Fw := (sCons (sIf (tOr' (tV (e2 eqD (eSl (eVar 1) pNo (pSome (eC (.int 1)))) (eC (.str "")))) (tV (e2 notInD (eIxS 1 (eC (.int 0))) (eSl (eC (.str "abc")) pNo (pSome (eVar 0))))))
  (sRet (eC .none))
  sNil)
  (sCons (sAsg (gN 2) (eSl (eVar 1) (pSome (eC (.int 1))) pNo))
  (sCons (sIf (tOr' (tV (e2 eqD (eVar 2) (eC (.str "")))) (tOr' (tV (e2 gtD (eLenS 2) (eC (.int 6)))) (tV (e2 gtD (eL lenD (aCons C1_read_step aNil)) (eC (.int 0))))))
  (sRet (eC .none))
  sNil)
  (sCons (sIf (tAnd' (tV (e2 eqD (eIxS 2 (eC (.int 0))) (eC (.str "0")))) (tV (e2 neD (eVar 2) (eC (.str "0")))))
  (sRet (eC .none))
  sNil)
  (sRet (eTup (aCons (eIxS 1 (eC (.int 0))) (aCons (eL intD (aCons (eVar 2) aNil)) aNil))))))))
def D_read_step : Fn := runD 4 B_read_step
def LB1_read_row : M Fw := (sCons (sAsg (gN 5) (eCall D_read_step (agV (eVar 0) (agV (eIxS 3 (eVar 4)) agNil))))
  (sCons (sIf (tV (e2 isD (eVar 5) (eC .none)))
  (sRaise "BadStep" "index" (eVar 4))
  sNil)
  (sDrop (eMt "list" 2 appendF (aCons (eVar 5) aNil)))))
def L2_read_row : M Fw := (sFor (wRng1 (aCons (eLenS 3) aNil)) (gN 4)
  LB1_read_row)
def B_read_row : M Fw := (sCons (sIf (tV (e2 eqD (eVar 1) (eC (.str ""))))
  (sRet (eTup aNil))
  sNil)
  (sCons (sAsg (gN 2) (eLst aNil))
  (sCons (sAsg (gN 3) (eMt "str" 1 splitF (aCons (eC (.str " ")) aNil)))
  (sCons L2_read_row
  (sRet (eL tupD (aCons (eVar 2) aNil)))))))
def D_read_row : Fn := runD 6 B_read_row
def C1_read_line : M Rs := (eLc [4] (wVal (eMt "str" 1 splitF (aCons (eC (.str " ")) aNil))) (gN 4) tYes' (eCall D_read_step (agV (eVar 0) (agV (eVar 4) agNil))))
def B_read_line : M Fw := (sCons (sAsg (gN 3) C1_read_line)
  (sCons (sIf (tV (e2S inD (eC .none) 3))
  (sRaise "BadLine" "line" (eVar 2))
  sNil)
  (sRet (eL tupD (aCons (eVar 3) aNil)))))
def D_read_line : Fn := runD 5 B_read_line
def LB1_read_rows : M Fw := (sCons (sIf (tV (e2 eqD (eIxS 3 (eVar 4)) (eC (.str ""))))
  (sRaise "BadLine" "line" (eVar 4))
  sNil)
  (sIf (tV (e2 eqD (eIxS 3 (eVar 4)) (eC (.str "-"))))
  (sDrop (eMt "list" 2 appendF (aCons (eTup aNil) aNil)))
  (sDrop (eMt "list" 2 appendF (aCons (eCall D_read_line (agV (eVar 0) (agV (eIxS 3 (eVar 4)) (agV (eVar 4) agNil)))) aNil)))))
def L2_read_rows : M Fw := (sFor (wRng1 (aCons (eLenS 3) aNil)) (gN 4)
  LB1_read_rows)
def B_read_rows : M Fw := (sCons (sIf (tV (e2 eqD (eVar 1) (eC (.str ""))))
  (sRet (eLst aNil))
  sNil)
  (sCons (sAsg (gN 2) (eLst aNil))
  (sCons (sAsg (gN 3) (eMt "str" 1 splitF (aCons (eC (.str "\n")) aNil)))
  (sCons L2_read_rows
  (sRet (eMove 2))))))
def D_read_rows : Fn := runD 5 B_read_rows
def B__law_told : M Fw := (sTryAs 3 hit_RowError
  (sRet (eIf (tV (e2 eqD (eVar 0) (eC (.int 0)))) (eCall D_read_row (agV (eVar 1) (agV (eVar 2) agNil))) (eCall D_read_rows (agV (eVar 1) (agV (eVar 2) agNil)))))
  fun y => (sCons (sIf (tT (eXis 3 isx_BadStep y))
  (sRet (eLst (aCons (eC (.int 0)) (aCons (eXf 3 "index" xn_index y) aNil))))
  sNil)
  (sRet (eLst (aCons (eC (.int 1)) (aCons (eAnd (eXis 3 isx_BadLine y) (eXf 3 "line" xn_line y)) aNil))))))
def D__law_told : Fn := runD 4 B__law_told
def C1_part_of : M Rs := (eLc [2, 3] (wVal (eVar 0)) (gT (gsCons (gN 2) (gsCons (gN 3) gsNil))) (tV (e2S eqD (eVar 3) 1)) (eVar 2))
def B_part_of : M Fw := (sRet (eMv "str" joinF (eC (.str "")) (aCons C1_part_of aNil)))
def D_part_of : Fn := runD 4 B_part_of
def C1__law_judged : M Rs := (eLc [4, 5] (wVal (eVar 1)) (gT (gsCons (gN 4) (gsCons (gN 5) gsNil))) tYes' (e2 addD (eVar 4) (eL strD (aCons (eVar 5) aNil))))
def C2__law_judged : M Rs := (eLc [4, 10] (wVal (eVar 1)) (gT (gsCons (gN 4) (gsCons (gN 10) gsNil))) (tV (e2S eqD (eVar 10) 5)) (eVar 4))
def LB3__law_judged : M Fw := (sIf (tNot' (tT (eCall (D__law_same 9) (agV (eCall D_part_of (agV (eVar 1) (agV (eVar 5) agNil))) (agV (eMv "str" joinF (eC (.str "")) (aCons C2__law_judged aNil)) agNil)))))
  (sRet (eC (.bool false)))
  sNil)
def L4__law_judged : M Fw := (sFor (wVal (e2 addD (eVar 3) (eLst (aCons (eC (.int 99)) aNil)))) (gN 5)
  LB3__law_judged)
def C5__law_judged : M Rs := (eLc [4, 5] (wVal (eVar 1)) (gT (gsCons (gN 4) (gsCons (gN 5) gsNil))) tYes' (eVar 4))
def C6__law_judged : M Rs := (eLc [4, 5] (wVal (eVar 1)) (gT (gsCons (gN 4) (gsCons (gN 5) gsNil))) tYes' (eTup (aCons (eVar 4) (aCons (eIxS 7 (eMt "list" 3 indexF (aCons (eVar 5) aNil))) aNil))))
def C7__law_judged : M Rs := (eLc [5] (wRng1 (aCons (eLenS 3) aNil)) (gN 5) tYes' (e2 addD (e2 addD (eVar 5) (eC (.int 50))) (e2 mulD (eC (.int 3)) (eVar 5))))
def LB8__law_judged : M Fw := (sIf (tV (e2S notInD (eVar 5) 3))
  (sDrop (eMt "list" 3 appendF (aCons (eVar 5) aNil)))
  sNil)
def L9__law_judged : M Fw := (sFor (wVal (eVar 1)) (gT (gsCons (gN 4) (gsCons (gN 5) gsNil)))
  LB8__law_judged)
def B__law_judged : M Fw := (sCons (sAsg (gN 3) (eLst aNil))
  (sCons L9__law_judged
  (sCons (sAsg (gN 6) (eCall D__law_plain (agV (eVar 1) agNil)))
  (sCons (sIf (tOr' (tNot' (tT (eCall (D__law_same 9) (agV (eCall D_names_of (agV (eVar 1) agNil)) (agV (eVar 3) agNil))))) (tOr' (tNot' (tT (eCall (D__law_same 9) (agV (eCall D_plain_row (agV (eVar 1) agNil)) (agV (eVar 6) agNil))))) (tNot' (tT (eCall (D__law_same 9) (agV (eCall D_is_plain (agV (eVar 1) agNil)) (agV (e2S eqD (eVar 1) 6) agNil)))))))
  (sRet (eC (.bool false)))
  sNil)
  (sCons (sIf (tOr' (tNot' (tT (eCall (D__law_same 9) (agV (eCall D_are_alike (agV (eVar 1) (agV (eVar 2) agNil))) (agV (e2 eqD (eVar 6) (eCall D__law_plain (agV (eVar 2) agNil))) agNil))))) (tV (e2 isNotD (eCall D_are_alike (agV (eVar 1) (agV (eVar 6) agNil))) (eC (.bool true)))))
  (sRet (eC (.bool false)))
  sNil)
  (sCons (sAsg (gN 7) C7__law_judged)
  (sCons (sAsg (gN 8) (eCall D_renamed (agV (eVar 1) (agV (eL lstD (aCons (eVar 7) aNil)) agNil))))
  (sCons (sIf (tOr' (tNot' (tT (eCall (D__law_same 9) (agV (eVar 8) (agV (eL tupD (aCons C6__law_judged aNil)) agNil))))) (tNot' (tT (eCall D_is_plain (agV (eCall D_plain_row (agV (eVar 8) agNil)) agNil)))))
  (sRet (eC (.bool false)))
  sNil)
  (sCons (sIf (tNot' (tT (eCall (D__law_same 9) (agV (eCall D_letters_of (agV (eVar 1) agNil)) (agV (eMv "str" joinF (eC (.str "")) (aCons C5__law_judged aNil)) agNil)))))
  (sRet (eC (.bool false)))
  sNil)
  (sCons L4__law_judged
  (sCons (sAsg (gN 9) (eMv "str" joinF (eC (.str " ")) (aCons C1__law_judged aNil)))
  (sRet (eAnd (eCall (D__law_same 9) (agV (eCall D_row_text (agV (eVar 1) agNil)) (agV (eVar 9) agNil))) (eCall (D__law_same 9) (agV (eCall D__law_told (agV (eC (.int 0)) (agV (eVar 0) (agV (eVar 9) agNil)))) (agV (eVar 1) agNil))))))))))))))))
def D__law_judged : Fn := runD 11 B__law_judged
def C1_longer_rows : M Rs := (eLc [5] (wRng1 (aCons (e2 addD (eVar 2) (eC (.int 1))) aNil)) (gN 5) tYes' (e2 addD (eL tupD (aCons (eVar 1) aNil)) (eTup (aCons (eTup (aCons (eVar 4) (aCons (eVar 5) aNil))) aNil))))
def LB2_longer_rows : M Fw := (sDrop (eMt "list" 3 extendF (aCons C1_longer_rows aNil)))
def L3_longer_rows : M Fw := (sFor (wVal (eSl (eC (.str "abc")) pNo (pSome (eVar 0)))) (gN 4)
  LB2_longer_rows)
def B_longer_rows : M Fw := (sCons (sAsg (gN 2) (eL lenD (aCons (eCall D_names_of (agV (eVar 1) agNil)) aNil)))
  (sCons (sAsg (gN 3) (eLst aNil))
  (sCons L3_longer_rows
  (sRet (eMove 3)))))
def D_longer_rows : Fn := runD 6 B_longer_rows
def C1__law_step : M Rs := (eLc [2] (wVal (eSl (eVar 1) (pSome (eC (.int 1))) pNo)) (gN 2) (tV (e2 notInD (eVar 2) (eC (.str "0123456789")))) (eVar 2))
def B__law_step : M Fw := (sCons (sIf (tOr' (tV (e2 eqD (eSl (eVar 1) pNo (pSome (eC (.int 1)))) (eC (.str "")))) (tOr' (tV (e2 notInD (eIxS 1 (eC (.int 0))) (eSl (eC (.str "abc")) pNo (pSome (eVar 0))))) (tOr' (tV (e2 ltD (eLenS 1) (eC (.int 2)))) (tV (e2 gtD (eLenS 1) (eC (.int 7)))))))
  (sRet (eC .none))
  sNil)
  (sCons (sIf (tOr' (tV (e2 gtD (eL lenD (aCons C1__law_step aNil)) (eC (.int 0)))) (tAnd' (tV (e2 eqD (eIxS 1 (eC (.int 1))) (eC (.str "0")))) (tV (e2 gtD (eLenS 1) (eC (.int 2))))))
  (sRet (eC .none))
  sNil)
  (sRet (eTup (aCons (eIxS 1 (eC (.int 0))) (aCons (eL intD (aCons (eSl (eVar 1) (pSome (eC (.int 1))) pNo) aNil)) aNil))))))
def D__law_step : Fn := runD 3 B__law_step
def C1__law_read : M Rs := (eLc [3] (wVal (eMt "str" 1 splitF (aCons (eC (.str " ")) aNil))) (gN 3) tYes' (eCall D__law_step (agV (eVar 0) (agV (eVar 3) agNil))))
def B__law_read : M Fw := (sCons (sIf (tV (e2 eqD (eVar 1) (eC (.str ""))))
  (sRet (eTup aNil))
  sNil)
  (sCons (sAsg (gN 2) C1__law_read)
  (sCons (sIf (tV (e2S inD (eC .none) 2))
  (sRet (eLst (aCons (eC (.int 0)) (aCons (eMt "list" 2 indexF (aCons (eC .none) aNil)) aNil))))
  sNil)
  (sRet (eL tupD (aCons (eVar 2) aNil))))))
def D__law_read : Fn := runD 4 B__law_read
def C1_rows_text : M Rs := (eLc [1] (wVal (eVar 0)) (gN 1) tYes' (eOr (eCall D_row_text (agV (eVar 1) agNil)) (eC (.str "-"))))
def B_rows_text : M Fw := (sRet (eMv "str" joinF (eC (.str "\n")) (aCons C1_rows_text aNil)))
def D_rows_text : Fn := runD 2 B_rows_text
def LB1_plain_rows : M Fw := (sDrop (eMt "list" 4 extendF (aCons (eCall D_longer_rows (agV (eVar 0) (agV (eVar 5) agNil))) aNil)))
def L2_plain_rows : M Fw := (sFor (wVal (eVar 2)) (gN 5)
  LB1_plain_rows)
def LB3_plain_rows : M Fw := (sCons (sAsg (gN 4) (eLst aNil))
  (sCons L2_plain_rows
  (sAsg (gN 2) (eVar 4))))
def L4_plain_rows : M Fw := (sFor (wRng1 (aCons (eVar 1) aNil)) (gN 3)
  LB3_plain_rows)
def B_plain_rows : M Fw := (sCons (sAsg (gN 2) (eLst (aCons (eTup aNil) aNil)))
  (sCons L4_plain_rows
  (sRet (eMove 2))))
def D_plain_rows : Fn := runD 6 B_plain_rows
def LB1_law : M Fw := (sIf (tNot' (tT (eCall (D__law_same 9) (agV (eCall D__law_told (agV (eC (.int 1)) (agV (eVar 2) (agV (eMv "str" joinF (eC (.str "\n")) (aCons (e2 addD (e2 addD (eSl (eVar 17) pNo (pSome (eVar 18))) (eLst (aCons (eVar 19) aNil))) (eSl (eVar 17) (pSome (eVar 18)) pNo)) aNil)) agNil)))) (agV (eLst (aCons (eC (.int 1)) (aCons (eVar 18) aNil))) agNil)))))
  (sRet (eC (.bool false)))
  sNil)
def L2_law : M Fw := (sFor (wVal (eLst (aCons (eC (.str "")) (aCons (eC (.str "x")) (aCons (eC (.str "a0  a1")) (aCons (eC (.str " ")) aNil)))))) (gN 19)
  LB1_law)
def C3_law : M Rs := (eLc [21] (wVal (eCall D__law_draws (agV (eVar 0) (agV (eC (.int 3)) (agV (e2 modD (eIxS 1 (eC (.int 4))) (eC (.int 5))) (agV (eC (.int 5040)) agNil)))))) (gN 21) tYes' (eIxS 14 (e2 modD (eVar 21) (eC (.int 13)))))
def C4_law : M Rs := (eLc [20] (wRng1 (aCons (e2 addD (eVar 11) (eC (.int 1))) aNil)) (gN 20) tYes' (e2 addD (eVar 10) (eTup (aCons (eTup (aCons (eVar 13) (aCons (eVar 20) aNil))) aNil))))
def LB5_law : M Fw := (sAsg (gN 12) (e2 addD (eVar 12) C4_law))
def L6_law : M Fw := (sFor (wVal (eSl (eC (.str "abc")) pNo (pSome (eVar 2)))) (gN 13)
  LB5_law)
def C7_law : M Rs := (eLc [13, 20] (wVal (eVar 10)) (gT (gsCons (gN 13) (gsCons (gN 20) gsNil))) tYes' (eTup (aCons (eVar 20) (aCons (eC (.int 0)) aNil))))
def C8_law : M Rs := (eLc [6] (wVal (eVar 8)) (gN 6) (tV (e2S eqD (eLenS 6) 9)) (eVar 6))
def LB9_law : M Fw := (sIf (tNot' (tT (eCall (D__law_same 9) (agV (eCall D_plain_rows (agV (eVar 2) (agV (eVar 9) agNil))) (agV (eL sortedD (aCons C8_law aNil)) agNil)))))
  (sRet (eC (.bool false)))
  sNil)
def L10_law : M Fw := (sFor (wRng1 (aCons (e2 addD (eC (.int 1)) (e2 ixD (eLst (aCons (eC (.int 6)) (aCons (eC (.int 4)) (aCons (eC (.int 3)) aNil)))) (e2 subD (eVar 2) (eC (.int 1))))) aNil)) (gN 9)
  LB9_law)
def LB11_law : M Fw := (sIf (tNot' (tT (eCall D__law_judged (agV (eVar 2) (agV (eVar 6) (agV (eVar 7) agNil))))))
  (sRet (eC (.bool false)))
  sNil)
def L12_law : M Fw := (sFor (wVal (eLst (aCons (eTup (aCons (eVar 3) (aCons (eVar 5) aNil))) (aCons (eTup (aCons (eVar 4) (aCons (eVar 3) aNil))) (aCons (eTup (aCons (eVar 5) (aCons (eVar 3) aNil))) (aCons (eTup (aCons (eTup aNil) (aCons (eTup aNil) aNil))) aNil)))))) (gT (gsCons (gN 6) (gsCons (gN 7) gsNil)))
  LB11_law)
def C13_law : M Rs := (eLc [13, 20] (wVal (eVar 3)) (gT (gsCons (gN 13) (gsCons (gN 20) gsNil))) tYes' (eTup (aCons (eVar 13) (aCons (e2 addD (e2 mulD (eVar 20) (eC (.int 999))) (eIxS 1 (eC (.int 3)))) aNil))))
def B_law : M Fw := (sCons (sAsg (gN 1) (eCall D__law_draws (agV (eVar 0) (agV (eC (.int 0)) (agV (eC (.int 6)) (agV (eC (.int 720)) agNil))))))
  (sCons (sAsg (gN 2) (e2 addD (eC (.int 1)) (e2 modD (eIxS 1 (eC (.int 0))) (eC (.int 3)))))
  (sCons (sAsg (gN 3) (eCall D__law_row (agV (eVar 0) (agV (eC (.int 1)) (agV (eVar 2) (agV (e2 modD (eIxS 1 (eC (.int 1))) (eC (.int 9))) (agV (e2 addD (eC (.int 1)) (e2 modD (eIxS 1 (eC (.int 2))) (eC (.int 6)))) agNil)))))))
  (sCons (sAsg (gN 4) (eL tupD (aCons C13_law aNil)))
  (sCons (sAsg (gN 5) (eCall D__law_row (agV (eVar 0) (agV (eC (.int 2)) (agV (eVar 2) (agV (e2 modD (eIxS 1 (eC (.int 1))) (eC (.int 9))) (agV (eC (.int 2)) agNil)))))))
  (sCons L12_law
  (sCons (sAsg (gN 8) (eCall D__law_rows (agV (eVar 2) (agV (e2 ixD (eLst (aCons (eC (.int 6)) (aCons (eC (.int 4)) (aCons (eC (.int 3)) aNil)))) (e2 subD (eVar 2) (eC (.int 1)))) agNil))))
  (sCons L10_law
  (sCons (sAsg (gN 10) (eCall D__law_plain (agV (eVar 5) agNil)))
  (sCons (sAsg (gN 11) (eL lenD (aCons (eL dictD (aCons C7_law aNil)) aNil)))
  (sCons (sAsg (gN 12) (eLst aNil))
  (sCons L6_law
  (sCons (sIf (tNot' (tT (eCall (D__law_same 9) (agV (eCall D_longer_rows (agV (eVar 2) (agV (eVar 10) agNil))) (agV (eVar 12) agNil)))))
  (sRet (eC (.bool false)))
  sNil)
  (sCons (sAsg (gN 14) (eLst (aCons (eC (.str "a0")) (aCons (eC (.str "b1")) (aCons (eC (.str "c2")) (aCons (eC (.str "a")) (aCons (eC (.str "0")) (aCons (eC (.str "a00")) (aCons (eC (.str "a1234567")) (aCons (eC (.str "A0")) (aCons (eC (.str "a-1")) (aCons (eC (.str "")) (aCons (eC (.str "a999999")) (aCons (eC (.str "d1")) (aCons (eC (.str "a 1")) aNil)))))))))))))))
  (sCons (sAsg (gN 15) (eMv "str" joinF (eC (.str " ")) (aCons C3_law aNil)))
  (sCons (sIf (tNot' (tT (eCall (D__law_same 9) (agV (eCall D__law_told (agV (eC (.int 0)) (agV (eVar 2) (agV (eVar 15) agNil)))) (agV (eCall D__law_read (agV (eVar 2) (agV (eVar 15) agNil))) agNil)))))
  (sRet (eC (.bool false)))
  sNil)
  (sCons (sAsg (gN 16) (eLst (aCons (eVar 3) (aCons (eTup aNil) (aCons (eVar 5) (aCons (eVar 4) aNil))))))
  (sCons (sIf (tOr' (tNot' (tT (eCall (D__law_same 9) (agV (eCall D__law_told (agV (eC (.int 1)) (agV (eVar 2) (agV (eCall D_rows_text (agV (eL lstD (aCons (eVar 16) aNil)) agNil)) agNil)))) (agV (eVar 16) agNil))))) (tNot' (tT (eCall (D__law_same 9) (agV (eCall D__law_told (agV (eC (.int 1)) (agV (eVar 2) (agV (eC (.str "")) agNil)))) (agV (eLst aNil) agNil))))))
  (sRet (eC (.bool false)))
  sNil)
  (sCons (sAsg (gN 17) (eMv "str" splitF (eCall D_rows_text (agV (eVar 16) agNil)) (aCons (eC (.str "\n")) aNil)))
  (sCons (sAsg (gN 18) (e2 modD (eIxS 1 (eC (.int 5))) (eC (.int 4))))
  (sCons L2_law
  (sRet (eC (.bool true))))))))))))))))))))))))
def D_law : Fn := runD 22 B_law
end DY

/-! Reasoning about denotations: loops, comprehensions. -/
namespace DY
open PySem PySem.Spec PySem.Calls PyProof.Rows L2
/-- a loop by an invariant over what is left -/
theorem forL_inv {g : Tg} {b : M Fw} (I : List Dt → DS → Prop) (h : ∀ d ds st, I (d :: ds) st → ∃ st1 st2 f, g (.val d) st = some st1 ∧ b st1 = some (.ok f, st2) ∧ (f = .nx ∨ f = .cnt) ∧ I ds st2) :
    ∀ (ds : List Dt) (st : DS), I ds st → ∃ st', forL g b ds st = some (.ok .nx, st') ∧ I [] st'
  | [], st, i => ⟨st, rfl, i⟩
  | d :: ds, st, i => by
    obtain ⟨st1, st2, f, e1, e2, hf, i2⟩ := h d ds st i
    obtain ⟨st', e3, i3⟩ := forL_inv I h ds st2 i2
    refine ⟨st', ?_, i3⟩
    unfold forL M.b tgM
    rw [e1]
    dsimp only
    rw [e2]
    rcases hf with rfl | rfl <;> exact e3
/-- a loop that may end with a return or an error -/
theorem forL_end {g : Tg} {b : M Fw} (I : List Dt → DS → Prop) (Q : Option (Except Exn Fw × DS) → Prop) (h0 : ∀ st, I [] st → Q (some (.ok .nx, st)))
    (h : ∀ d ds st, I (d :: ds) st → ∃ st1, g (.val d) st = some st1 ∧ ((∃ st2 f, b st1 = some (.ok f, st2) ∧ (f = .nx ∨ f = .cnt) ∧ I ds st2) ∨ (∃ st2 r, b st1 = some (.ok (.ret r), st2) ∧ Q (some (.ok (.ret r), st2))) ∨ ∃ st2 x, b st1 = some (.error x, st2) ∧ Q (some (.error x, st2)))) :
    ∀ (ds : List Dt) (st : DS), I ds st → Q (forL g b ds st)
  | [], st, i => h0 st i
  | d :: ds, st, i => by
    obtain ⟨st1, e1, w⟩ := h d ds st i
    unfold forL M.b tgM
    rw [e1]
    dsimp only
    rcases w with ⟨st2, f, e2, hf, i2⟩ | ⟨st2, r, e2, q⟩ | ⟨st2, x, e2, q⟩
    · rw [e2]
      rcases hf with rfl | rfl <;> exact forL_end I Q h0 h ds st2 i2
    · rw [e2]; exact q
    · rw [e2]; exact q
/-- a comprehension whose steps leave the state as it was -/
theorem lcL_map {own : List Nat} {g : Tg} {t : M Bool} {e : M Rs} {st : DS} (p : Dt → Bool) (f : Dt → Dt) : ∀ (ds acc : List Dt), acc.length + ds.length ≤ lenLine →
    (∀ d ∈ ds, ∃ st1 st2, g (.val d) st = some st1 ∧ t st1 = some (.ok (p d), st2) ∧ (p d = false → hideS own st2 = st) ∧ (p d = true → ∃ r st3, e st2 = some (.ok r, st3) ∧ r.frz = some (f d) ∧ hideS own st3 = st)) →
    lcL own g t e ds acc st = some (acc ++ (ds.filter p).map f, st)
  | [], acc, _, _ => by simp [lcL]
  | d :: ds, acc, hl, h => by
    obtain ⟨st1, st2, e1, e2, h0, h1⟩ := h d List.mem_cons_self
    have hl' : acc.length + (ds.length + 1) ≤ lenLine := hl
    unfold lcL
    rw [e1]
    dsimp only
    rw [e2]
    cases hp : p d with
    | false =>
      dsimp only
      rw [h0 hp, lcL_map p f ds acc (by omega) fun d' hd => h d' (List.mem_cons_of_mem _ hd)]
      rw [List.filter_cons_of_neg (by simp [hp])]
    | true =>
      obtain ⟨r, st3, e3, er, e4⟩ := h1 hp
      dsimp only
      rw [e3]
      dsimp only
      rw [er]
      dsimp only
      rw [if_pos (by omega), e4, lcL_map p f ds (acc ++ [f d]) (by rw [List.length_append]; show acc.length + 1 + ds.length ≤ _; omega) fun d' hd => h d' (List.mem_cons_of_mem _ hd)]
      rw [List.filter_cons_of_pos hp, List.map_cons, List.append_assoc]
      rfl
theorem eLc_map {own : List Nat} {w : Wk} {g : Tg} {t : M Bool} {e : M Rs} {st st1 : DS} {ds : List Dt} (p : Dt → Bool) (f : Dt → Dt) (hw : w st = some (.ok ds, st1)) (hl : ds.length ≤ lenLine)
    (h : ∀ d ∈ ds, ∃ st2 st3, g (.val d) (hideS own st1) = some st2 ∧ t st2 = some (.ok (p d), st3) ∧ (p d = false → hideS own st3 = hideS own st1) ∧ (p d = true → ∃ r st4, e st3 = some (.ok r, st4) ∧ r.frz = some (f d) ∧ hideS own st4 = hideS own st1)) :
    eLc own w g t e st = some (.ok (.lst ((ds.filter p).map f)), restS own st1 (hideS own st1)) := by
  unfold eLc M.b
  rw [hw]
  dsimp only
  rw [lcL_map p f ds [] (by simpa using hl) h]
  rfl
/-- while, by an invariant with a measure -/
theorem whileN_inv {c : M Bool} {b : M Fw} (I : Nat → DS → Prop) (Q : Option (Except Exn Fw × DS) → Prop)
    (h : ∀ n st, I n st → (∃ st1, c st = some (.ok false, st1) ∧ Q (some (.ok .nx, st1))) ∨ ∃ st1 st2 f m, c st = some (.ok true, st1) ∧ b st1 = some (.ok f, st2) ∧ (f = .nx ∨ f = .cnt) ∧ m < n ∧ I m st2) :
    ∀ (k n : Nat) (st : DS), n < k → I n st → Q (whileN c b k st)
  | 0, n, st, hk, _ => by omega
  | k + 1, n, st, hk, i => by
    unfold whileN M.b
    rcases h n st i with ⟨st1, e1, q⟩ | ⟨st1, st2, f, m, e1, e2, hf, hm, i2⟩
    · rw [e1]
      dsimp only
      rw [if_neg Bool.false_ne_true]
      exact q
    · rw [e1]
      dsimp only
      rw [if_pos rfl]
      rw [e2]
      rcases hf with rfl | rfl <;> exact whileN_inv I Q h k m st2 (by omega) i2

/-! ### stepping by simp -/
section
variable {α β : Type} {k : α → DS → Prop} {e : Exn → DS → Prop} {st : DS}
theorem aft_some {o : Option (Except Exn α × DS)} {k : α → DS → Prop} (h : Aft o k (fun _ _ => False)) : ∃ a st, o = some (.ok a, st) ∧ k a st := by
  cases o with
  | none => exact h.elim
  | some x =>
    obtain ⟨x, st⟩ := x
    cases x with
    | ok a => exact ⟨a, st, rfl, h⟩
    | error x => exact h.elim
end
/-- a def that returns -/
theorem runD_ret {n : Nat} {m : M Fw} {args : List Ar} {r : Rs} {st : DS} (e : m (initS n args) = some (.ok (.ret r), st)) (hl : st.length = n) : runD n m args [] = some (.ok r, []) := by
  unfold runD
  rw [show initS n args ++ ([] : List Rs).map Sl.own = initS n args from List.append_nil _, e]
  show (ownsOf (st.drop n)).map _ = _
  rw [List.drop_eq_nil_of_le (by omega)]
  rfl
theorem runD_err {n : Nat} {m : M Fw} {args : List Ar} {x : Exn} {st : DS} (e : m (initS n args) = some (.error x, st)) (hl : st.length = n) : runD n m args [] = some (.error x, []) := by
  unfold runD
  rw [show initS n args ++ ([] : List Rs).map Sl.own = initS n args from List.append_nil _, e]
  show (ownsOf (st.drop n)).map _ = _
  rw [List.drop_eq_nil_of_le (by omega)]
  rfl
/-- a call whose answer is known -/
theorem call_s {f : Fn} {as : List Ar} {r : Rs} {st : DS} {l : List Ag} (hf : f as [] = some (.ok r, [])) (hl : agArs l 0 = some (as, [])) : callF f l st = some (.ok r, st) := by
  unfold callF
  rw [hl]
  show (match f as [] with | some (.ok r, rs') => some (Except.ok r, putS [] rs' st st) | some (.error x, rs') => some (Except.error x, putS [] rs' st st) | none => none) = some (Except.ok r, st)
  rw [hf]
  rfl
@[simp] theorem mb_s {α β : Type} (m : M α) (f : α → M β) (st : DS) : M.b m f st = match m st with | some (.ok a, st') => f a st' | some (.error x, st') => some (.error x, st') | none => none := rfl
@[simp] theorem mp_s {α : Type} (a : α) (st : DS) : M.p a st = some (.ok a, st) := rfl
@[simp] theorem mo_s {α : Type} (a : α) (st : DS) : M.o (some a) st = some (.ok a, st) := rfl
@[simp] theorem mo_n {α : Type} (st : DS) : M.o (none : Option α) st = none := rfl
@[simp] theorem lenLine_val : lenLine = 16777216 := Nat.le_antisymm (by decide) (by decide)
@[simp] theorem sCons_s (a b : M Fw) : sCons a b = a.b fun f => match f with | .nx => b | f => .p f := rfl
@[simp] theorem sAsg_s (g : Tg) (a : M Rs) : sAsg g a = a.b (tgM g) := rfl
@[simp] theorem tgM_s (i : Nat) (r : Rs) (st : DS) : tgM (gN i) r st = some (.ok .nx, st.set i (.own r)) := rfl
@[simp] theorem sIf_s (c : M Bool) (a b : M Fw) : sIf c a b = c.b fun k => if k = true then a else b := rfl
@[simp] theorem sRet_s (a : M Rs) : sRet a = a.b fun r => .p (.ret r) := rfl
@[simp] theorem sDrop_s (a : M Rs) : sDrop a = a.b fun _ => .p .nx := rfl
@[simp] theorem sNil_s : sNil = .p .nx := rfl
@[simp] theorem eC_s (d : Dt) : eC d = .p (.val d) := rfl
@[simp] theorem e2_s (g : Dt → Dt → Option Rs) (a b : M Rs) : e2 g a b = a.b fun x => b.b fun y => .o (op2 g x y) := rfl
@[simp] theorem e1_s (g : Dt → Option Rs) (a : M Rs) : e1 g a = a.b fun x => .o (op1 g x) := rfl
@[simp] theorem eL_s (g : List Dt → Option Rs) (m : M (List Rs)) : eL g m = m.b fun rs => .o (opL g rs) := rfl
@[simp] theorem aNil_s : aNil = .p [] := rfl
@[simp] theorem aCons_s (a : M Rs) (l : M (List Rs)) : aCons a l = a.b fun x => l.b fun xs => .p (x :: xs) := rfl
@[simp] theorem agNil_s : agNil = .p [] := rfl
@[simp] theorem agV_s (a : M Rs) (l : M (List Ag)) : agV a l = a.b fun x => l.b fun xs => .p (.v x :: xs) := rfl
@[simp] theorem eCall_s (f : Fn) (m : M (List Ag)) : eCall f m = m.b fun as => callF f as := rfl
@[simp] theorem tV_s (a : M Rs) : tV a = a.b fun x => .o (asB x) := rfl
@[simp] theorem asB_s (k : Bool) : asB (.val (.bool k)) = some k := rfl
@[simp] theorem tT_s (a : M Rs) : tT a = a.b fun x => .o (truR x) := rfl
@[simp] theorem tAnd_s (a b : M Bool) : tAnd' a b = a.b fun c => if c = true then b else .p false := rfl
@[simp] theorem tOr_s (a b : M Bool) : tOr' a b = a.b fun c => if c = true then .p true else b := rfl
@[simp] theorem tNot_s (a : M Bool) : tNot' a = a.b fun c => .p (!c) := rfl
@[simp] theorem eOr_s (a b : M Rs) : eOr a b = a.b fun x => (M.o (truR x)).b fun c => if c = true then .p x else b := rfl
@[simp] theorem eAnd_s (a b : M Rs) : eAnd a b = a.b fun x => (M.o (truR x)).b fun c => if c = true then b else .p x := rfl
@[simp] theorem eIf_s (c : M Bool) (a b : M Rs) : eIf c a b = c.b fun k => if k = true then a else b := rfl
@[simp] theorem op2_s (g : Dt → Dt → Option Rs) (a b : Ow) : op2 g (.ow a) (.ow b) = g a.frz b.frz := rfl
@[simp] theorem op1_s (g : Dt → Option Rs) (a : Ow) : op1 g (.ow a) = g a.frz := rfl
@[simp] theorem frz_val (d : Dt) : Ow.frz (.val d) = d := rfl
@[simp] theorem frz_lst (ds : List Dt) : Ow.frz (.lst ds) = .list ds := rfl
@[simp] theorem frz_dic (ds : List (Dt × Dt)) : Ow.frz (.dic ds) = .dict ds := rfl
@[simp] theorem rfrz (o : Ow) : Rs.frz (.ow o) = some o.frz := rfl
@[simp] theorem opL_s (g : List Dt → Option Rs) (rs : List Rs) : opL g rs = match frzs rs with | some ds => g ds | none => none := rfl
@[simp] theorem frzs_nil : frzs [] = some [] := rfl
@[simp] theorem frzs_cons (o : Ow) (rs : List Rs) : frzs (.ow o :: rs) = match frzs rs with | some ds => some (o.frz :: ds) | none => none := by
  show (match Rs.frz (.ow o), frzs rs with | some d, some ds => some (d :: ds) | _, _ => none) = _
  cases frzs rs <;> rfl
@[simp] theorem add_ii (i j : Int) : addD (.int i) (.int j) = some (.val (.int (i + j))) := rfl
@[simp] theorem sub_ii (i j : Int) : subD (.int i) (.int j) = some (.val (.int (i - j))) := rfl
@[simp] theorem lt_ii (i j : Int) : ltD (.int i) (.int j) = some (.val (.bool (decide (i < j)))) := rfl
@[simp] theorem le_ii (i j : Int) : leD (.int i) (.int j) = some (.val (.bool (decide (i ≤ j)))) := rfl
@[simp] theorem gt_ii (i j : Int) : gtD (.int i) (.int j) = some (.val (.bool (decide (j < i)))) := rfl
@[simp] theorem ge_ii (i j : Int) : geD (.int i) (.int j) = some (.val (.bool (decide (j ≤ i)))) := rfl
@[simp] theorem seeS_s (i : Nat) (st : DS) : seeS i st = match lookS st i with | some (.ow o) => some (.ok o.frz, st) | _ => none := rfl
@[simp] theorem eLenS_s (i : Nat) : eLenS i = (seeS i).b fun d => .o (lenO d) := rfl
@[simp] theorem e2S_s (g : Dt → Dt → Option Rs) (ma : M Rs) (i : Nat) : e2S g ma i = ma.b fun x => (seeS i).b fun d => .o (op2 g x (.val d)) := rfl
@[simp] theorem eIxS_s (i : Nat) (mb : M Rs) : eIxS i mb = (hasO i).b fun _ => mb.b fun y => (seeS i).b fun d => .o (op2 ixD (.val d) y) := rfl
@[simp] theorem hasO_s (i : Nat) (st : DS) : hasO i st = match lookS st i with | some (.ow o) => some (.ok (), st) | _ => none := rfl
@[simp] theorem eVar_s (i : Nat) (st : DS) : eVar i st = match lookS st i with | some (.ow (.val d)) => some (.ok (.val d), st) | some (.ow o) => some (.ok (.val o.frz), st.set (rootS st i) (.own (.val o.frz))) | _ => none := rfl
@[simp] theorem eMove_s (i : Nat) (st : DS) : eMove i st = match lookS st i with | some r => some (.ok r, st.set (rootS st i) .un) | none => none := rfl
@[simp] theorem look_own {st : DS} {i : Nat} {r : Rs} (h : st[i]? = some (.own r)) : lookS st i = some r := by
  unfold lookS rootS; rw [h]; simp [h]
@[simp] theorem root_own {st : DS} {i : Nat} {r : Rs} (h : st[i]? = some (.own r)) : rootS st i = i := by
  unfold rootS; rw [h]
@[simp] theorem lenO_list (ds : List Dt) : lenO (.list ds) = some (.val (.int ds.length)) := rfl
@[simp] theorem lenO_tup (ds : List Dt) : lenO (.tuple ds) = some (.val (.int ds.length)) := rfl
@[simp] theorem lenO_dic (ds : List (Dt × Dt)) : lenO (.dict ds) = some (.val (.int ds.length)) := rfl
@[simp] theorem lenD_list (ds : List Dt) : lenD [.list ds] = some (.val (.int ds.length)) := rfl
@[simp] theorem lenD_tup (ds : List Dt) : lenD [.tuple ds] = some (.val (.int ds.length)) := rfl
@[simp] theorem lenD_dic (ds : List (Dt × Dt)) : lenD [.dict ds] = some (.val (.int ds.length)) := rfl
@[simp] theorem tupD_list (ds : List Dt) : tupD [.list ds] = some (.val (.tuple ds)) := rfl
@[simp] theorem tupD_tup (ds : List Dt) : tupD [.tuple ds] = some (.val (.tuple ds)) := rfl
@[simp] theorem lstD_list (ds : List Dt) : lstD [.list ds] = some (.lst ds) := rfl
@[simp] theorem lstD_tup (ds : List Dt) : lstD [.tuple ds] = some (.lst ds) := rfl
@[simp] theorem lstD_dic (es : List (Dt × Dt)) : lstD [.dict es] = some (.lst (es.map (·.1))) := rfl
@[simp] theorem absD_s (i : Int) : absD [.int i] = some (.val (.int (if i < 0 then -i else i))) := rfl
@[simp] theorem ar_nil (k : Nat) : agArs [] k = some ([], []) := rfl
@[simp] theorem ar_v (o : Ow) (as : List Ag) (k : Nat) : agArs (.v (.ow o) :: as) k = match agArs as k with | some (l, is) => some (.val o.frz :: l, is) | none => none := by
  show (match some o.frz, agArs as k with | some d, some (l, is) => some (Ar.val d :: l, is) | _, _ => none) = _
  cases agArs as k <;> rfl
@[simp] theorem initS_s (n : Nat) (as : List Ar) : initS n as = as.map (fun a => match a with | .val d => .own (.val d) | .brw k => .brw (n + k)) ++ List.replicate (n - as.length) .un := rfl
theorem asInts_ints (ns : List Int) : asInts (ns.map PyData.int) = some ns := by
  induction ns with
  | nil => rfl
  | cons a r ih => simp [asInts, ih]
@[simp] theorem sumD_s (ns : List Int) : sumD [.list (ns.map PyData.int)] = some (.val (.int ns.sum)) := by simp [sumD, asInts_ints]
@[simp] theorem pow_big : powD (.int 10) (.int 18) = some (.val (.int 1000000000000000000)) := by rfl
theorem mul_sm {i j : Int} (h : mulOk i j = true) : mulD (.int i) (.int j) = some (.val (.int (i * j))) := by
  show (if mulOk i j = true then some (Rs.val (.int (i * j))) else none) = _
  rw [if_pos h]
theorem mod_sm {i j : Int} (h : 0 < j) : modD (.int i) (.int j) = some (.val (.int (i % j))) := by
  show (if decide (0 < j) = true then some (Rs.val (.int (i % j))) else none) = _
  rw [if_pos (decide_eq_true h)]
theorem div_sm {i j : Int} (h : 0 < j) (h2 : j < 1073741824) : fdivD (.int i) (.int j) = some (.val (.int (i / j))) := by
  show (if (decide (0 < j) && decide (j < 1073741824)) = true then some (Rs.val (.int (i / j))) else none) = _
  rw [if_pos (by simp [h, h2])]
theorem ix_list {ds : List Dt} {i : Int} {d : Dt} (h : atI ds i = some d) : ixD (.list ds) (.int i) = some (.val d) := by
  show (atI ds i).map Rs.val = _
  rw [h]; rfl
theorem ix_tup {ds : List Dt} {i : Int} {d : Dt} (h : atI ds i = some d) : ixD (.tuple ds) (.int i) = some (.val d) := by
  show (atI ds i).map Rs.val = _
  rw [h]; rfl
theorem atI_map {α β : Type} {xs : List α} {i : Int} {v : α} (f : α → β) (h : atI xs i = some v) : atI (xs.map f) i = some (f v) := by
  unfold atI at h ⊢
  rw [List.length_map]
  cases q : ixN xs.length i with
  | none => rw [q] at h; cases h
  | some j =>
    rw [q] at h
    show (xs.map f)[j]? = _
    rw [List.getElem?_map, show xs[j]? = some v from h]
    rfl
theorem atI_in {α : Type} {xs : List α} {i : Int} (h0 : 0 ≤ i) (h1 : i < xs.length) : ∃ v, atI xs i = some v ∧ v ∈ xs ∧ xs[i.toNat]? = some v := by
  have hk : i.toNat < xs.length := by omega
  have e : i = ((i.toNat : Nat) : Int) := by omega
  have z : atI xs ((i.toNat : Nat) : Int) = some xs[i.toNat] := atI_nat (List.getElem?_eq_getElem hk)
  rw [← e] at z
  exact ⟨_, z, List.getElem_mem _, List.getElem?_eq_getElem hk⟩
theorem sFor_inv {w : Wk} {g : Tg} {b : M Fw} {st st1 : DS} {ds : List Dt} (I : List Dt → DS → Prop) (hw : w st = some (.ok ds, st1)) (i : I ds st1)
    (h : ∀ d ds st, I (d :: ds) st → ∃ st1 st2 f, g (.val d) st = some st1 ∧ b st1 = some (.ok f, st2) ∧ (f = .nx ∨ f = .cnt) ∧ I ds st2) : ∃ st', sFor w g b st = some (.ok .nx, st') ∧ I [] st' := by
  obtain ⟨st', e, i'⟩ := forL_inv I h ds st1 i
  refine ⟨st', ?_, i'⟩
  unfold sFor M.b
  rw [hw]
  exact e
theorem sFor_end {w : Wk} {g : Tg} {b : M Fw} {st st1 : DS} {ds : List Dt} (I : List Dt → DS → Prop) (Q : Option (Except Exn Fw × DS) → Prop) (hw : w st = some (.ok ds, st1)) (i : I ds st1) (h0 : ∀ st, I [] st → Q (some (.ok .nx, st)))
    (h : ∀ d ds st, I (d :: ds) st → ∃ st1, g (.val d) st = some st1 ∧ ((∃ st2 f, b st1 = some (.ok f, st2) ∧ (f = .nx ∨ f = .cnt) ∧ I ds st2) ∨ (∃ st2 r, b st1 = some (.ok (.ret r), st2) ∧ Q (some (.ok (.ret r), st2))) ∨ ∃ st2 x, b st1 = some (.error x, st2) ∧ Q (some (.error x, st2)))) : Q (sFor w g b st) := by
  unfold sFor M.b
  rw [hw]
  exact forL_end I Q h0 h ds st1 i
@[simp] theorem eMt_s (T : String) (i : Nat) (f : Mth) (m : M (List Rs)) : eMt T i f m = (hasT T i).b fun _ => m.b (mtS i f) := rfl
@[simp] theorem hasT_s (T : String) (i : Nat) (st : DS) : hasT T i st = match lookS st i with | some (.ow o) => if tyO T o = true then some (.ok (), st) else none | _ => none := rfl
@[simp] theorem mtS_s (i : Nat) (f : Mth) (rs : List Rs) (st : DS) : mtS i f rs st = match lookS st i with | some (.ow o) => (match f o rs with | some (o', c) => some (.ok c, st.set (rootS st i) (.own (.ow o'))) | none => none) | _ => none := rfl
@[simp] theorem tyO_lst (ds : List Dt) : tyO "list" (.lst ds) = true := rfl
@[simp] theorem tyO_lsv (ds : List Dt) : tyO "list" (.val (.list ds)) = true := rfl
@[simp] theorem tyO_dic (ds : List (Dt × Dt)) : tyO "dict" (.dic ds) = true := rfl
@[simp] theorem tyO_str (x : Str) : tyO "str" (.val (.str x)) = true := rfl
@[simp] theorem eMv_s (T : String) (f : Mth) (mo : M Rs) (m : M (List Rs)) : eMv T f mo m = mo.b fun x => (M.o (okT T x)).b fun d => m.b fun rs => .o (mtV f d rs) := rfl
@[simp] theorem okT_str (x : Str) : okT "str" (.ow (.val (.str x))) = some (.str x) := rfl
@[simp] theorem append_s {ds : List Dt} (o : Ow) (h : ds.length < lenLine) : appendF (.lst ds) [.ow o] = some (.lst (ds ++ [o.frz]), .val .none) := by
  show (if ds.length < lenLine then some (Ow.lst (ds ++ [o.frz]), Rs.val .none) else none) = _
  rw [if_pos h]
@[simp] theorem wRng1_s (a : M (List Rs)) : wRng1 a = a.b fun l => .o (rng1 l) := rfl
@[simp] theorem wRng2_s (a : M (List Rs)) : wRng2 a = a.b fun l => .o (rng2 l) := rfl
@[simp] theorem wVal_s (a : M Rs) : wVal a = a.b fun r => .o (itemsR r) := rfl
@[simp] theorem items_list (ds : List Dt) : itemsR (.ow (.val (.list ds))) = some ds := rfl
@[simp] theorem items_tup (ds : List Dt) : itemsR (.ow (.val (.tuple ds))) = some ds := rfl
@[simp] theorem items_lst (ds : List Dt) : itemsR (.ow (.lst ds)) = some ds := rfl
@[simp] theorem items_str (x : Str) : itemsR (.ow (.val (.str x))) = some (x.cps.toList.map fun c => .str ⟨#[c]⟩) := rfl
theorem rng1_n {n : Nat} (h : n < 4611686018427387904) : rng1 [.ow (.val (.int n))] = some (intsFrom 0 n) := by
  show (if rngLim n = true then some (intsFrom 0 ((n : Int)).toNat) else none) = _
  rw [if_pos (by simp [rngLim]; omega)]
  simp
theorem ints_mem {lo : Int} {n : Nat} {d : Dt} (h : d ∈ intsFrom lo n) : ∃ i : Nat, i < n ∧ d = .int (lo + i) := by
  unfold intsFrom at h
  obtain ⟨i, hi, rfl⟩ := List.mem_map.mp h
  exact ⟨i, List.mem_range.mp hi, rfl⟩
theorem ints_len (lo : Int) (n : Nat) : (intsFrom lo n).length = n := by simp [intsFrom]
@[simp] theorem eLst_s (m : M (List Rs)) : eLst m = eL mkL m := rfl
@[simp] theorem eTup_s (m : M (List Rs)) : eTup m = eL mkT m := rfl
@[simp] theorem mkT_s {ds : List Dt} (h : ds.length ≤ lenLine) : mkT ds = some (.val (.tuple ds)) := by unfold mkT; rw [if_pos h]
@[simp] theorem mkL_s {ds : List Dt} (h : ds.length ≤ lenLine) : mkL ds = some (.lst ds) := by unfold mkL; rw [if_pos h]
theorem wF_s {f : List Rs → Option (List Dt)} {a : M Rs} {r : Rs} {ds : List Dt} {st st1 : DS} (h : a st = some (.ok r, st1)) (e : f [r] = some ds) : ((aCons a aNil).b fun l => .o (f l)) st = some (.ok ds, st1) := by
  unfold aCons aNil M.b M.p M.o
  rw [h]
  dsimp only
  rw [e]
/-- the range of a number of steps -/
theorem wRng1_n {a : M Rs} {st st1 : DS} {n : Nat} (h : a st = some (.ok (.val (.int n)), st1)) (hn : n < 4611686018427387904) : wRng1 (aCons a aNil) st = some (.ok (intsFrom 0 n), st1) :=
  wF_s (f := rng1) h (rng1_n hn)
end DY

/-! More facts to step by. -/
namespace DY
open PySem PySem.Spec PySem.Calls PyProof.Rows L2
@[simp] theorem eIsi_s (T : String) (m : M Rs) : eIsi T m = m.b fun r => .o (match r.frz with
  | some d => some (Rs.val (.bool (isiB T d)))
  | none => none) := rfl
@[simp] theorem isD_n (a : Dt) : isD a .none = some (.val (.bool (isNonD a))) := by cases a <;> rfl
@[simp] theorem isND_n (a : Dt) : isNotD a .none = some (.val (.bool (!isNonD a))) := by cases a <;> rfl
@[simp] theorem isD_b (a b : Bool) : isD (.bool a) (.bool b) = some (.val (.bool (decide (a = b)))) := rfl
@[simp] theorem isND_b (a b : Bool) : isNotD (.bool a) (.bool b) = some (.val (.bool (!decide (a = b)))) := rfl
@[simp] theorem non_n : isNonD .none = true := rfl
@[simp] theorem non_b (a : Bool) : isNonD (.bool a) = false := rfl
@[simp] theorem non_i (a : Int) : isNonD (.int a) = false := rfl
@[simp] theorem non_s (a : Str) : isNonD (.str a) = false := rfl
@[simp] theorem non_l (a : List Dt) : isNonD (.list a) = false := rfl
@[simp] theorem non_t (a : List Dt) : isNonD (.tuple a) = false := rfl
@[simp] theorem non_d (a : List (Dt × Dt)) : isNonD (.dict a) = false := rfl
@[simp] theorem eq_nn : eqD .none .none = some (.val (.bool true)) := rfl
@[simp] theorem eq_bb (a b : Bool) : eqD (.bool a) (.bool b) = some (.val (.bool (a == b))) := rfl
@[simp] theorem ne_bb (a b : Bool) : neD (.bool a) (.bool b) = some (.val (.bool (!(a == b)))) := rfl
@[simp] theorem eq_ii (a b : Int) : eqD (.int a) (.int b) = some (.val (.bool (a == b))) := rfl
@[simp] theorem ne_ii (a b : Int) : neD (.int a) (.int b) = some (.val (.bool (!(a == b)))) := rfl
@[simp] theorem eq_ss (a b : Str) : eqD (.str a) (.str b) = some (.val (.bool (a == b))) := rfl
@[simp] theorem ne_ss (a b : Str) : neD (.str a) (.str b) = some (.val (.bool (!(a == b)))) := rfl
@[simp] theorem truR_b (b : Bool) : truR (.ow (.val (.bool b))) = some b := rfl
theorem eq_data {a b : Dt} (ha : a.plain = true) (hb : b.plain = true) (hd : a.depth ≤ 60) : eqD a b = some (.val (.bool (PyData.eqv a b))) := by
  have h : eqOk a b = true := by
    simp only [eqOk, ha, hb, Bool.and_self, Bool.true_and, decide_eq_true_eq]
    exact Nat.le_trans (Nat.min_le_left _ _) hd
  show (if eqOk a b = true then some (Rs.val (.bool (PyData.eqv a b))) else none) = _
  rw [if_pos h]
theorem line_rng {n : Nat} (h : n ≤ lenLine) : n < 4611686018427387904 := by
  rw [lenLine_val] at h
  omega
/-- the data that _law_same holds equal to itself -/
def sameOk : Nat → Dt → Prop
  | 0, _ => False
  | n + 1, .list ds => ds.length ≤ lenLine ∧ ∀ d ∈ ds, sameOk n d
  | n + 1, .tuple ds => ds.length ≤ lenLine ∧ ∀ d ∈ ds, sameOk n d
  | _ + 1, .dict _ => False
  | _ + 1, _ => True
end DY

/-! Loops and comprehensions over typed lists; names and numbers in lists. -/
namespace DY
open PySem PySem.Spec PySem.Calls PyProof.Rows L2
theorem lcT {α : Type} {own : List Nat} {g : Tg} {t : M Bool} {e : M Rs} {st : DS} (inj : α → Dt) (p : α → Bool) (f : α → Dt) : ∀ (xs : List α) (acc : List Dt), acc.length + xs.length ≤ lenLine →
    (∀ x ∈ xs, ∃ st1 st2, g (.val (inj x)) st = some st1 ∧ t st1 = some (.ok (p x), st2) ∧ (p x = false → hideS own st2 = st) ∧ (p x = true → ∃ r st3, e st2 = some (.ok r, st3) ∧ r.frz = some (f x) ∧ hideS own st3 = st)) →
    lcL own g t e (xs.map inj) acc st = some (acc ++ (xs.filter p).map f, st)
  | [], acc, _, _ => by simp [lcL]
  | x :: xs, acc, hl, h => by
    obtain ⟨st1, st2, e1, e2, h0, h1⟩ := h x List.mem_cons_self
    have hl' : acc.length + (xs.length + 1) ≤ lenLine := hl
    rw [List.map_cons]
    unfold lcL
    rw [e1]
    dsimp only
    rw [e2]
    cases hp : p x with
    | false =>
      dsimp only
      rw [h0 hp, lcT inj p f xs acc (by omega) fun y hy => h y (List.mem_cons_of_mem _ hy)]
      rw [List.filter_cons_of_neg (by simp [hp])]
    | true =>
      obtain ⟨r, st3, e3, er, e4⟩ := h1 hp
      dsimp only
      rw [e3]
      dsimp only
      rw [er]
      dsimp only
      rw [if_pos (by omega), e4, lcT inj p f xs (acc ++ [f x]) (by rw [List.length_append]; show acc.length + 1 + xs.length ≤ _; omega) fun y hy => h y (List.mem_cons_of_mem _ hy)]
      rw [List.filter_cons_of_pos hp, List.map_cons, List.append_assoc]
      rfl
/-- a comprehension over a typed list -/
theorem eLcT {α : Type} {own : List Nat} {w : Wk} {g : Tg} {t : M Bool} {e : M Rs} {st st1 : DS} {xs : List α} (inj : α → Dt) (p : α → Bool) (f : α → Dt) (hw : w st = some (.ok (xs.map inj), st1)) (hl : xs.length ≤ lenLine)
    (h : ∀ x ∈ xs, ∃ st2 st3, g (.val (inj x)) (hideS own st1) = some st2 ∧ t st2 = some (.ok (p x), st3) ∧ (p x = false → hideS own st3 = hideS own st1) ∧ (p x = true → ∃ r st4, e st3 = some (.ok r, st4) ∧ r.frz = some (f x) ∧ hideS own st4 = hideS own st1)) :
    eLc own w g t e st = some (.ok (.lst ((xs.filter p).map f)), restS own st1 (hideS own st1)) := by
  unfold eLc M.b
  rw [hw]
  dsimp only
  rw [lcT inj p f xs [] (by simpa using hl) h]
  rfl
/-- without a test -/
theorem eLcY {α : Type} {own : List Nat} {w : Wk} {g : Tg} {e : M Rs} {st st1 : DS} {xs : List α} (inj : α → Dt) (f : α → Dt) (hw : w st = some (.ok (xs.map inj), st1)) (hl : xs.length ≤ lenLine)
    (h : ∀ x ∈ xs, ∃ st2, g (.val (inj x)) (hideS own st1) = some st2 ∧ ∃ r st4, e st2 = some (.ok r, st4) ∧ r.frz = some (f x) ∧ hideS own st4 = hideS own st1) :
    eLc own w g tYes' e st = some (.ok (.lst (xs.map f)), restS own st1 (hideS own st1)) := by
  have := eLcT (t := tYes') inj (fun _ => true) f hw hl (fun x hx => by
    obtain ⟨st2, e1, q⟩ := h x hx
    exact ⟨st2, st2, e1, rfl, fun z => (nomatch z), fun _ => q⟩)
  rw [this, List.filter_eq_self.mpr (fun _ _ => rfl)]
/-- a loop over a typed list -/
theorem sForT {α : Type} {w : Wk} {g : Tg} {b : M Fw} {st st1 : DS} {xs : List α} (inj : α → Dt) (F : List α → DS → Prop) (hw : w st = some (.ok (xs.map inj), st1)) (i : F [] st1)
    (h : ∀ done x todo st, xs = done ++ x :: todo → F done st → ∃ st1 st2 f, g (.val (inj x)) st = some st1 ∧ b st1 = some (.ok f, st2) ∧ (f = .nx ∨ f = .cnt) ∧ F (done ++ [x]) st2) : ∃ st', sFor w g b st = some (.ok .nx, st') ∧ F xs st' := by
  obtain ⟨st', e, done, todo, e1, e2, q⟩ := sFor_inv (fun rem st => ∃ done todo, xs = done ++ todo ∧ rem = todo.map inj ∧ F done st) hw ⟨[], xs, rfl, rfl, i⟩ (fun d ds st q => by
    obtain ⟨done, todo, e1, e2, q⟩ := q
    cases todo with
    | nil => cases e2
    | cons x todo =>
      rw [List.map_cons] at e2
      cases e2
      obtain ⟨st1, st2, f, z1, z2, z3, z4⟩ := h done x todo st e1 q
      exact ⟨st1, st2, f, z1, z2, z3, done ++ [x], todo, by rw [e1]; simp, rfl, z4⟩)
  have : todo = [] := by cases todo with | nil => rfl | cons x t => cases e2
  subst this
  rw [List.append_nil] at e1
  subst e1
  exact ⟨st', e, q⟩
@[simp] theorem gN_s (i : Nat) (r : Rs) (st : DS) : gN i r st = some (st.set i (.own r)) := rfl
@[simp] theorem gT_s (gs : List Dt → DS → Option DS) (ds : List Dt) (st : DS) : gT gs (.ow (.val (.tuple ds))) st = gs ds st := rfl
@[simp] theorem gsCons_s (g : Tg) (gs : List Dt → DS → Option DS) (d : Dt) (ds : List Dt) (st : DS) : gsCons g gs (d :: ds) st = (g (.val d) st).bind fun st' => gs ds st' := rfl
@[simp] theorem gsNil_s (st : DS) : gsNil [] st = some st := rfl
@[simp] theorem hideS_nil (st : DS) : hideS [] st = st := rfl
@[simp] theorem hideS_cons (i : Nat) (own : List Nat) (st : DS) : hideS (i :: own) st = (hideS own st).set i .un := rfl
@[simp] theorem restS_nil (st tt : DS) : restS [] st tt = tt := rfl
@[simp] theorem restS_cons (i : Nat) (own : List Nat) (st tt : DS) : restS (i :: own) st tt = restS own st (match (hideS own st)[i]? with
    | some s => tt.set i s
    | none => tt) := rfl
theorem plain_ints (s : List Int) : PyData.plainAll (s.map .int) = true := by
  induction s with
  | nil => rfl
  | cons a r ih => simp [PyData.plainAll, PyData.plain, ih]
theorem any_ints (s : List Int) (n : Int) : ((s.map PyData.int).any fun y => PyData.eqv y (.int n)) = decide (n ∈ s) := by
  induction s with
  | nil => rfl
  | cons a r ih =>
    rw [List.map_cons, List.any_cons, ih]
    by_cases h : a = n
    · simp [PyData.eqv, h]
    · have : n ≠ a := fun e => h e.symm
      simp [PyData.eqv, h, this]
theorem inOk_ints (s : List Int) (n : Int) : inOk (.int n) (.list (s.map .int)) = true := by
  show (PyData.plain (.int n) && PyData.plainAll (s.map .int) && decide (min (PyData.depthAll (s.map .int)) (PyData.depth (.int n)) ≤ 60)) = true
  rw [plain_ints]
  have e : PyData.depth (.int n) = 0 := rfl
  rw [e, Nat.min_zero]
  rfl
@[simp] theorem in_ints (s : List Int) (n : Int) : inD (.int n) (.list (s.map .int)) = some (.val (.bool (decide (n ∈ s)))) := by
  show (if inOk (.int n) (.list (s.map .int)) = true then some (Rs.val (.bool ((s.map PyData.int).any fun y => PyData.eqv y (.int n)))) else none) = _
  rw [if_pos (inOk_ints s n), any_ints]
@[simp] theorem notIn_ints (s : List Int) (n : Int) : notInD (.int n) (.list (s.map .int)) = some (.val (.bool (!decide (n ∈ s)))) := by
  show (if inOk (.int n) (.list (s.map .int)) = true then some (Rs.val (.bool (!((s.map PyData.int).any fun y => PyData.eqv y (.int n))))) else none) = _
  rw [if_pos (inOk_ints s n), any_ints]
theorem idx_ints (s : List Int) (n : Int) (h : n ∈ s) : idxD (s.map .int) (.int n) = some (s.idxOf n) := by
  unfold idxD
  induction s with
  | nil => cases h
  | cons a r ih =>
    rw [List.map_cons, List.findIdx?_cons]
    by_cases e : a = n
    · subst e
      simp [PyData.eqv]
    · have hr : n ∈ r := by
        rcases List.mem_cons.mp h with z | z
        · exact absurd z.symm e
        · exact z
      rw [ih hr]
      have e' : (a == n) = false := by simp [e]
      simp [PyData.eqv, e, List.idxOf_cons, e']
theorem index_ints (s : List Int) (n : Int) (h : n ∈ s) : indexF (.lst (s.map .int)) [.ow (.val (.int n))] = some (.lst (s.map .int), .val (.int (s.idxOf n))) := by
  have z : indexOk (s.map .int) (.int n) = true := by
    have := inOk_ints s n
    exact this
  show (if indexOk (s.map .int) (.int n) = true then (idxD (s.map .int) (.int n)).map fun (j : Nat) => (Ow.lst (s.map .int), Rs.val (.int j)) else none) = _
  rw [if_pos z, idx_ints s n h]
  rfl
end DY

namespace DY
open PySem PySem.Spec PySem.Calls PyProof.Rows L2
theorem number_ok (ns : List Int) (k : Int) (hk : 0 ≤ k) (hl : ns.length ≤ 63) : ∃ n : Int, 0 ≤ n ∧ D__law_number [.val (.list (ns.map .int)), .val (.int k)] [] = some (.ok (.val (.int n)), []) := by
  by_cases h : k < ns.length
  · obtain ⟨v, e1, _, e2⟩ := atI_in hk h
    refine ⟨if v < 0 then -v else v, by split <;> omega, runD_ret (st := [.own (.val (.list (ns.map .int))), .own (.val (.int k)), .own (.val (.int v))]) ?_ rfl⟩
    unfold B__law_number
    simp [mul_sm (show mulOk ns.sum 31 = true by simp [mulOk]), mul_sm (show mulOk 1000003 (k + 1) = true by simp [mulOk]), h, ix_list (atI_map PyData.int e1)]
  · refine ⟨if ns.sum * 31 + 1000003 * (k + 1) < 0 then -(ns.sum * 31 + 1000003 * (k + 1)) else ns.sum * 31 + 1000003 * (k + 1), by split <;> omega, runD_ret (st := [.own (.val (.list (ns.map .int))), .own (.val (.int k)), .own (.val (.int (ns.sum * 31 + 1000003 * (k + 1))))]) ?_ rfl⟩
    unfold B__law_number
    simp [mul_sm (show mulOk ns.sum 31 = true by simp [mulOk]), mul_sm (show mulOk 1000003 (k + 1) = true by simp [mulOk]), h]
/-- what the picks of a script are -/
def Picks (n : Nat) (m : Int) (ds : List Int) : Prop := ds.length = n ∧ ∀ x ∈ ds, 0 ≤ x ∧ x < m
theorem step1 (S C N K : Dt) (bb : Sl) (num at_ m : Int) (fs : List Int) (hm : 0 < m) (hl : fs.length < 16777216) :
    ∃ x o : Int, LB1__law_draws [.own (.val S), .own (.val K), .own (.val C), .own (.val (.int m)), .own (.val N), .own (.lst (fs.map .int)), .own (.val (.int at_)), .own (.val (.int num)), bb] =
      some (.ok .nx, [.own (.val S), .own (.val K), .own (.val C), .own (.val (.int m)), .own (.val N), .own (.lst ((fs ++ [o / 64 % m]).map .int)), .own (.val (.int at_)), .own (.val (.int x)), .own (.val (.int o))]) := by
  have z1 : mulD (.int num) (.int 48271) = some (.val (.int (num * 48271))) := mul_sm (by simp [mulOk])
  have z2 : mulD (.int 11) (.int at_) = some (.val (.int (11 * at_))) := mul_sm (by simp [mulOk])
  have z3 : mulD (.int 69621) (.int at_) = some (.val (.int (69621 * at_))) := mul_sm (by simp [mulOk])
  obtain ⟨x, w1, y1, y2⟩ : ∃ x : Int, modD (.int (num * 48271 + 11 * at_ + 7)) (.int 2147483647) = some (.val (.int x)) ∧ 0 ≤ x ∧ x < 2147483647 := ⟨_, mod_sm (by omega), Int.emod_nonneg _ (by omega), Int.emod_lt_of_pos _ (by omega)⟩
  have z4 : mulD (.int x) (.int x) = some (.val (.int (x * x))) := mul_sm (by
    have q1 : -18446744073709551616 < x := by omega
    have q2 : x < 18446744073709551616 := by omega
    simp [mulOk, q1, q2])
  obtain ⟨o, w2⟩ : ∃ o : Int, modD (.int (x * x + 69621 * at_ + 5)) (.int 2147483629) = some (.val (.int o)) := ⟨_, mod_sm (by omega)⟩
  have w3 : fdivD (.int o) (.int 64) = some (.val (.int (o / 64))) := div_sm (by omega) (by omega)
  refine ⟨x, o, ?_⟩
  unfold LB1__law_draws
  simp [z1, z2, z3, z4, w1, w2, w3, mod_sm hm, hl]
end DY

namespace DY
open PySem PySem.Spec PySem.Calls PyProof.Rows L2
theorem drawsA (S C N K : Dt) (c : Nat) (hc : c < 1000000) (m s0 : Int) (hm : 0 < m) :
    ∃ (fs : List Int) (a b d : Sl), Picks c m fs ∧ L2__law_draws [.own (.val S), .own (.val K), .own (.val (.int c)), .own (.val (.int m)), .own (.val N), .own (.lst []), .un, .own (.val (.int s0)), .un] =
      some (.ok .nx, [.own (.val S), .own (.val K), .own (.val (.int c)), .own (.val (.int m)), .own (.val N), .own (.lst (fs.map .int)), a, b, d]) := by
  obtain ⟨st', e, num, fs, a, b, hst, hat, hlen, hfs⟩ := sFor_inv (w := wRng1 (aCons (eVar 2) aNil)) (g := gN 6) (b := LB1__law_draws)
      (st := [.own (.val S), .own (.val K), .own (.val (.int c)), .own (.val (.int m)), .own (.val N), .own (.lst []), .un, .own (.val (.int s0)), .un])
      (I := fun rem st => ∃ (num : Int) (fs : List Int) (a b : Sl), st = [.own (.val S), .own (.val K), .own (.val (.int c)), .own (.val (.int m)), .own (.val N), .own (.lst (fs.map .int)), a, .own (.val (.int num)), b] ∧ (∀ d ∈ rem, ∃ i : Int, d = .int i) ∧ fs.length + rem.length = c ∧ ∀ x ∈ fs, 0 ≤ x ∧ x < m)
      (ds := intsFrom 0 c) (wRng1_n (by simp) (by omega)) ⟨s0, [], .un, .un, rfl, fun d hd => by
        obtain ⟨i, _, e⟩ := ints_mem hd
        exact ⟨_, e⟩, by simp [ints_len], by simp⟩
      (fun d ds st i => by
        obtain ⟨num, fs, a, b, rfl, hat, hlen, hfs⟩ := i
        obtain ⟨at_, rfl⟩ := hat d List.mem_cons_self
        obtain ⟨x, o, ex⟩ := step1 S (.int c) N K b num at_ m fs hm (by simp at hlen; omega)
        refine ⟨_, _, .nx, rfl, ex, .inl rfl, x, fs ++ [o / 64 % m], .own (.val (.int at_)), .own (.val (.int o)), rfl, fun d hd => hat d (List.mem_cons_of_mem _ hd), ?_, ?_⟩
        · simp at hlen ⊢; omega
        · intro y hy
          rcases List.mem_append.mp hy with hy | hy
          · exact hfs y hy
          · simp at hy; subst hy
            exact ⟨Int.emod_nonneg _ (by omega), Int.emod_lt_of_pos _ hm⟩)
  subst hst
  exact ⟨fs, a, _, b, ⟨by simpa using hlen, hfs⟩, e⟩
theorem drawsB (S C N K : Dt) (c : Nat) (hc : c < 1000000) (m : Int) (hm : 0 < m) (hm2 : m < 1073741824) (n : Int) :
    ∃ (fs : List Int) (a b : Sl), Picks c m fs ∧ L4__law_draws [.own (.val S), .own (.val K), .own (.val (.int c)), .own (.val (.int m)), .own (.val (.int n)), .own (.lst []), .un, .un, .un] =
      some (.ok .nx, [.own (.val S), .own (.val K), .own (.val (.int c)), .own (.val (.int m)), b, .own (.lst (fs.map .int)), a, .un, .un]) := by
  obtain ⟨st', e, num, fs, a, hst, hlen, hfs⟩ := sFor_inv (w := wRng1 (aCons (eVar 2) aNil)) (g := gN 6) (b := LB3__law_draws)
      (st := [.own (.val S), .own (.val K), .own (.val (.int c)), .own (.val (.int m)), .own (.val (.int n)), .own (.lst []), .un, .un, .un])
      (I := fun rem st => ∃ (num : Int) (fs : List Int) (a : Sl), st = [.own (.val S), .own (.val K), .own (.val (.int c)), .own (.val (.int m)), .own (.val (.int num)), .own (.lst (fs.map .int)), a, .un, .un] ∧ fs.length + rem.length = c ∧ ∀ x ∈ fs, 0 ≤ x ∧ x < m)
      (ds := intsFrom 0 c) (wRng1_n (by simp) (by omega)) ⟨n, [], .un, rfl, by simp [ints_len], by simp⟩
      (fun d ds st i => by
        obtain ⟨num, fs, a, rfl, hlen, hfs⟩ := i
        refine ⟨_, _, .nx, rfl, ?_, .inl rfl, num / m, fs ++ [num % m], .own (.val d), rfl, ?_, ?_⟩
        · unfold LB3__law_draws
          have : fs.length < 16777216 := by simp at hlen; omega
          simp [mod_sm hm, div_sm hm hm2, append_s (ds := fs.map .int) (.val (.int (num % m))) (by simpa using this)]
        · simp at hlen ⊢; omega
        · intro x hx
          rcases List.mem_append.mp hx with hx | hx
          · exact hfs x hx
          · simp at hx; subst hx
            exact ⟨Int.emod_nonneg _ (by omega), Int.emod_lt_of_pos _ hm⟩)
  subst hst
  exact ⟨fs, a, _, ⟨by simpa using hlen, hfs⟩, e⟩
theorem draws_ok (ns : List Int) (k : Int) (hk : 0 ≤ k) (hl : ns.length ≤ 63) (c : Nat) (hc : c < 1000000) (m : Int) (hm : 0 < m) (hm2 : m < 1073741824) :
    ∃ ds : List Int, Picks c m ds ∧ D__law_draws [.val (.list (ns.map .int)), .val (.int k), .val (.int c), .val (.int m)] [] = some (.ok (.lst (ds.map .int)), []) := by
  obtain ⟨n, hn, en⟩ := number_ok ns k hk hl
  obtain ⟨P, hP⟩ : ∃ P : Int, powD (.int 10) (.int 18) = some (.val (.int P)) := ⟨_, pow_big⟩
  obtain ⟨s0, w0⟩ : ∃ s0 : Int, modD (.int n) (.int 2147483647) = some (.val (.int s0)) := ⟨_, mod_sm (by omega)⟩
  obtain ⟨fs, a, b, d, p1, e1⟩ := drawsA (.list (ns.map .int)) .none (.int n) (.int k) c hc m (s0 + 1) hm
  obtain ⟨gs, a', b', p2, e2⟩ := drawsB (.list (ns.map .int)) .none .none (.int k) c hc m hm hm2 (n - P)
  obtain ⟨W, hW⟩ : ∃ W, W = L2__law_draws := ⟨_, rfl⟩
  obtain ⟨U, hU⟩ : ∃ U, U = L4__law_draws := ⟨_, rfl⟩
  obtain ⟨G, hG⟩ : ∃ G, G = D__law_number := ⟨_, rfl⟩
  rw [← hW] at e1
  rw [← hU] at e2
  rw [← hG] at en
  by_cases h : P ≤ n
  · refine ⟨gs, p2, runD_ret (st := [.own (.val (.list (ns.map .int))), .own (.val (.int k)), .own (.val (.int c)), .own (.val (.int m)), b', .un, a', .un, .un]) ?_ rfl⟩
    unfold B__law_draws
    rw [← hW, ← hU, ← hG]
    simp [call_s en, e1, e2, hP, h, -pow_big]
  · refine ⟨fs, p1, runD_ret (st := [.own (.val (.list (ns.map .int))), .own (.val (.int k)), .own (.val (.int c)), .own (.val (.int m)), .own (.val (.int n)), .un, a, b, d]) ?_ rfl⟩
    unfold B__law_draws
    rw [← hW, ← hU, ← hG]
    simp [call_s en, e1, e2, hP, h, w0, -pow_big]
end DY

namespace DY
open PySem PySem.Spec PySem.Calls PyProof.Rows L2
theorem same_loop {R : Fn} {D : Dt} {ds : List Dt} (hD : D = .list ds ∨ D = .tuple ds) (hl : ds.length ≤ lenLine) (hR : ∀ d ∈ ds, R [.val d, .val d] [] = some (.ok (.val (.bool true)), [])) :
    ∃ x, L2__law_same R [.own (.val D), .own (.val D), .un] = some (.ok .nx, [.own (.val D), .own (.val D), x]) := by
  obtain ⟨st', e, x, rfl, _⟩ := sFor_inv (w := wRng1 (aCons (eLenS 1) aNil)) (g := gN 2) (b := LB1__law_same R) (st := [.own (.val D), .own (.val D), .un]) (st1 := [.own (.val D), .own (.val D), .un])
    (I := fun rem st => ∃ x : Sl, st = [.own (.val D), .own (.val D), x] ∧ ∀ d ∈ rem, ∃ i : Nat, i < ds.length ∧ d = .int i) (ds := intsFrom 0 ds.length)
    (wRng1_n (by rcases hD with rfl | rfl <;> simp) (line_rng hl)) ⟨_, rfl, fun d hd => by
      obtain ⟨i, hi, e⟩ := ints_mem hd
      exact ⟨i, hi, by rw [e]; simp⟩⟩
    (fun d rem st i => by
      obtain ⟨x, rfl, h⟩ := i
      obtain ⟨i, hi, rfl⟩ := h d List.mem_cons_self
      obtain ⟨v, e1, e2, _⟩ := atI_in (xs := ds) (i := (i : Int)) (by omega) (by omega)
      refine ⟨_, _, .nx, rfl, ?_, .inl rfl, .own (.val (.int i)), rfl, fun d hd => h d (List.mem_cons_of_mem _ hd)⟩
      unfold LB1__law_same
      rcases hD with rfl | rfl
      · simp [ix_list e1, call_s (hR v e2)]
      · simp [ix_tup e1, call_s (hR v e2)])
  exact ⟨x, e⟩
theorem same_none (R : Fn)  : runD 3 (B__law_same R) [.val .none, .val .none] [] = some (.ok (.val (.bool true)), []) := by
  refine runD_ret (st := [.own (.val .none), .own (.val .none), .un]) ?_ rfl
  unfold B__law_same
  obtain ⟨W, hW⟩ : ∃ W, W = L2__law_same R := ⟨_, rfl⟩
  rw [← hW]
  simp [isiB, tyN]
theorem same_bool (R : Fn) (b : Bool) : runD 3 (B__law_same R) [.val (.bool b), .val (.bool b)] [] = some (.ok (.val (.bool true)), []) := by
  refine runD_ret (st := [.own (.val (.bool b)), .own (.val (.bool b)), .un]) ?_ rfl
  unfold B__law_same
  obtain ⟨W, hW⟩ : ∃ W, W = L2__law_same R := ⟨_, rfl⟩
  rw [← hW]
  simp [isiB, tyN]
theorem same_int (R : Fn) (i : Int) : runD 3 (B__law_same R) [.val (.int i), .val (.int i)] [] = some (.ok (.val (.bool true)), []) := by
  refine runD_ret (st := [.own (.val (.int i)), .own (.val (.int i)), .un]) ?_ rfl
  unfold B__law_same
  obtain ⟨W, hW⟩ : ∃ W, W = L2__law_same R := ⟨_, rfl⟩
  rw [← hW]
  simp [isiB, tyN]
theorem same_str (R : Fn) (x : Str) : runD 3 (B__law_same R) [.val (.str x), .val (.str x)] [] = some (.ok (.val (.bool true)), []) := by
  refine runD_ret (st := [.own (.val (.str x)), .own (.val (.str x)), .un]) ?_ rfl
  unfold B__law_same
  obtain ⟨W, hW⟩ : ∃ W, W = L2__law_same R := ⟨_, rfl⟩
  rw [← hW]
  simp [isiB, tyN]
theorem same_list (R : Fn) (ds : List Dt) (hl : ds.length ≤ lenLine) (hR : ∀ d ∈ ds, R [.val d, .val d] [] = some (.ok (.val (.bool true)), [])) : runD 3 (B__law_same R) [.val (.list ds), .val (.list ds)] [] = some (.ok (.val (.bool true)), []) := by
  obtain ⟨x, e⟩ := same_loop (.inl rfl) hl hR
  refine runD_ret (st := [.own (.val (.list ds)), .own (.val (.list ds)), x]) ?_ rfl
  unfold B__law_same
  obtain ⟨W, hW⟩ : ∃ W, W = L2__law_same R := ⟨_, rfl⟩
  rw [← hW] at e ⊢
  simp [isiB, tyN, e]
theorem same_tup (R : Fn) (ds : List Dt) (hl : ds.length ≤ lenLine) (hR : ∀ d ∈ ds, R [.val d, .val d] [] = some (.ok (.val (.bool true)), [])) : runD 3 (B__law_same R) [.val (.tuple ds), .val (.tuple ds)] [] = some (.ok (.val (.bool true)), []) := by
  obtain ⟨x, e⟩ := same_loop (.inr rfl) hl hR
  refine runD_ret (st := [.own (.val (.tuple ds)), .own (.val (.tuple ds)), x]) ?_ rfl
  unfold B__law_same
  obtain ⟨W, hW⟩ : ∃ W, W = L2__law_same R := ⟨_, rfl⟩
  rw [← hW] at e ⊢
  simp [isiB, tyN, e]
theorem same_ok : ∀ (n : Nat) (d : Dt), sameOk n d → D__law_same n [.val d, .val d] [] = some (.ok (.val (.bool true)), [])
  | 0, _, h => h.elim
  | n + 1, .none, h => same_none _
  | n + 1, .bool b, h => same_bool _ b
  | n + 1, .int b, h => same_int _ b
  | n + 1, .str b, h => same_str _ b
  | n + 1, .list ds, h => same_list _ ds h.1 fun d hd => same_ok n d (h.2 d hd)
  | n + 1, .tuple ds, h => same_tup _ ds h.1 fun d hd => same_ok n d (h.2 d hd)
  | n + 1, .dict es, h => h.elim
end DY

namespace DY
open PySem PySem.Spec PySem.Calls PyProof.Rows L2
abbrev Row := List (Str × Int)
def stD (p : Str × Int) : Dt := .tuple [.str p.1, .int p.2]
def rowD (r : Row) : Dt := .tuple (r.map stD)
def put (s : List Int) (n : Int) : List Int := if n ∈ s then s else s ++ [n]
def seenOf (r : Row) : List Int := r.foldl (fun s p => put s p.2) []
def plainOf (r : Row) : Row := r.map fun p => (p.1, ((seenOf r).idxOf p.2 : Int))
theorem seenOf_snoc (r : Row) (p : Str × Int) : seenOf (r ++ [p]) = put (seenOf r) p.2 := by simp [seenOf]
theorem put_len (s : List Int) (n : Int) : (put s n).length ≤ s.length + 1 := by
  unfold put; split <;> simp
theorem seenOf_len (r : Row) : (seenOf r).length ≤ r.length := by
  have key : ∀ (r : Row) (s : List Int), (r.foldl (fun s p => put s p.2) s).length ≤ s.length + r.length := by
    intro r
    induction r with
    | nil => intro s; exact Nat.le_refl _
    | cons p r ih =>
      intro s
      have := ih (put s p.2)
      have := put_len s p.2
      simp only [List.foldl_cons, List.length_cons]
      omega
  simpa [seenOf] using key r []
theorem put_mem {s : List Int} {n m : Int} : m ∈ put s n ↔ m ∈ s ∨ m = n := by
  unfold put
  split
  · constructor
    · exact .inl
    · rintro (h | rfl)
      · exact h
      · assumption
  · simp
theorem seenOf_mem (r : Row) (n : Int) : n ∈ seenOf r ↔ ∃ p ∈ r, p.2 = n := by
  have key : ∀ (r : Row) (s : List Int), n ∈ r.foldl (fun s p => put s p.2) s ↔ n ∈ s ∨ ∃ p ∈ r, p.2 = n := by
    intro r
    induction r with
    | nil => intro s; simp
    | cons p r ih =>
      intro s
      rw [List.foldl_cons, ih, put_mem]
      simp [or_assoc, eq_comm]
  simpa [seenOf] using key r []
/-- the loop that gathers the names, by an if -/
theorem plain_loop (r : Row) (hr : r.length ≤ 100000) : ∃ x y, L3__law_plain [.own (.val (rowD r)), .own (.lst []), .un, .un] = some (.ok .nx, [.own (.val (rowD r)), .own (.lst ((seenOf r).map .int)), x, y]) := by
  obtain ⟨st', e, x, y, rfl⟩ := sForT (w := wVal (eVar 0)) (g := gT (gsCons (gN 2) (gsCons (gN 3) gsNil))) (b := LB2__law_plain) (st := [.own (.val (rowD r)), .own (.lst []), .un, .un]) (st1 := [.own (.val (rowD r)), .own (.lst []), .un, .un]) (xs := r) stD
    (fun done st => ∃ x y, st = [.own (.val (rowD r)), .own (.lst ((seenOf done).map .int)), x, y]) (by simp [rowD]) ⟨_, _, rfl⟩
    (fun done p todo st hd q => by
      obtain ⟨x, y, rfl⟩ := q
      refine ⟨[.own (.val (rowD r)), .own (.lst ((seenOf done).map .int)), .own (.val (.str p.1)), .own (.val (.int p.2))], [.own (.val (rowD r)), .own (.lst ((seenOf (done ++ [p])).map .int)), .own (.val (.str p.1)), .own (.val (.int p.2))], .nx, by simp [stD], ?_, .inl rfl, .own (.val (.str p.1)), .own (.val (.int p.2)), rfl⟩
      have hl : (seenOf done).length < 16777216 := by
        have := seenOf_len done
        have : r.length = done.length + (todo.length + 1) := by rw [hd]; simp
        omega
      rw [seenOf_snoc]
      unfold LB2__law_plain put
      by_cases h : p.2 ∈ seenOf done
      · simp [h]
      · simp [h, hl])
  exact ⟨x, y, e⟩
theorem plain_comp (r : Row) (hr : r.length ≤ 100000) (x y : Sl) : C1__law_plain [.own (.val (rowD r)), .own (.lst ((seenOf r).map .int)), x, y] = some (.ok (.lst ((plainOf r).map stD)), [.own (.val (rowD r)), .own (.lst ((seenOf r).map .int)), x, y]) := by
  have := eLcY (own := [2, 3]) (w := wVal (eVar 0)) (g := gT (gsCons (gN 2) (gsCons (gN 3) gsNil))) (e := eTup (aCons (eVar 2) (aCons (eMt "list" 1 indexF (aCons (eVar 3) aNil)) aNil))) (st := [.own (.val (rowD r)), .own (.lst ((seenOf r).map .int)), x, y]) (st1 := [.own (.val (rowD r)), .own (.lst ((seenOf r).map .int)), x, y]) (xs := r) stD (fun p => stD (p.1, ((seenOf r).idxOf p.2 : Int))) (by simp [rowD]) (by rw [lenLine_val]; omega)
    (fun p hp => ⟨[.own (.val (rowD r)), .own (.lst ((seenOf r).map .int)), .own (.val (.str p.1)), .own (.val (.int p.2))], by simp [stD], _, [.own (.val (rowD r)), .own (.lst ((seenOf r).map .int)), .own (.val (.str p.1)), .own (.val (.int p.2))], by
      simp [index_ints _ _ ((seenOf_mem r p.2).mpr ⟨p, hp, rfl⟩)]
      rfl, rfl, by simp⟩)
  unfold C1__law_plain
  rw [this]
  simp [plainOf]
theorem law_plain_ok (r : Row) (hr : r.length ≤ 100000) : D__law_plain [.val (rowD r)] [] = some (.ok (.val (rowD (plainOf r))), []) := by
  obtain ⟨x, y, e⟩ := plain_loop r hr
  have e2 := plain_comp r hr x y
  obtain ⟨W, hW⟩ : ∃ W, W = L3__law_plain := ⟨_, rfl⟩
  obtain ⟨C, hC⟩ : ∃ C, C = C1__law_plain := ⟨_, rfl⟩
  rw [← hW] at e
  rw [← hC] at e2
  refine runD_ret (st := [.own (.val (rowD r)), .own (.lst ((seenOf r).map .int)), x, y]) ?_ rfl
  unfold B__law_plain
  rw [← hW, ← hC]
  simp [e, e2]
  rfl
end DY

namespace DY
open PySem PySem.Spec PySem.Calls PyProof.Rows L2
/-- a dict of numbers by a function of the key -/
def dicF (f : Int → Dt) (s : List Int) : List (Dt × Dt) := s.map fun n => (.int n, f n)
theorem look_dicF (f : Int → Dt) (s : List Int) (n : Int) : dLook (dicF f s) (.int n) = if n ∈ s then some (f n) else none := by
  unfold dLook dicF
  induction s with
  | nil => rfl
  | cons a r ih =>
    rw [List.map_cons, List.find?_cons]
    by_cases e : a = n
    · subst e
      simp [PyData.eqv]
    · have e' : n ≠ a := fun z => e z.symm
      have : PyData.eqv (.int a) (.int n) = false := by simp [PyData.eqv, e]
      simp only [this]
      rw [ih]
      simp [e']
theorem any_dicF (f : Int → Dt) (s : List Int) (n : Int) : ((dicF f s).any fun e => PyData.eqv e.1 (.int n)) = decide (n ∈ s) := by
  have := any_ints s n
  rw [← this]
  unfold dicF
  rw [List.any_map, List.any_map]
  rfl
theorem put_dicF (f : Int → Dt) (s : List Int) (n : Int) : dPut (dicF f s) (.int n) (f n) = dicF f (put s n) := by
  unfold dPut
  rw [any_dicF]
  unfold put
  by_cases h : n ∈ s
  · rw [if_pos (by simp [h]), if_pos h]
    unfold dicF
    rw [List.map_map]
    refine List.map_congr_left fun a _ => ?_
    show (if PyData.eqv (.int a) (.int n) = true then (PyData.int a, f n) else (PyData.int a, f a)) = _
    by_cases e : a = n
    · subst e
      simp
    · simp [PyData.eqv, e]
  · rw [if_neg (by simp [h]), if_neg h]
    unfold dicF
    simp
@[simp] theorem eDnew_s : eDnew = .p (.dic []) := rfl
@[simp] theorem sSub_s (i : Nat) (mb mv : M Rs) : sSub i mb mv = mv.b fun d => (hasO i).b fun _ => mb.b fun k => stS i k d := rfl
theorem stS_dic {i : Nat} {k d : Dt} {es : List (Dt × Dt)} {st : DS} (h : st[i]? = some (.own (.dic es))) (hk : (keyOf k).isSome = true) (hl : es.length < lenLine) : stS i (.val k) (.val d) st = some (.ok .nx, st.set i (.own (.dic (dPut es k d)))) := by
  unfold stS
  rw [look_own h, root_own h]
  have : stO (.dic es) k d = some (.dic (dPut es k d)) := by
    show (if (keyOf k).isSome ∧ es.length < lenLine then some (Ow.dic (dPut es k d)) else none) = _
    rw [if_pos ⟨hk, hl⟩]
  show (match stO (.dic es) k d with
    | some o' => some (Except.ok Fw.nx, st.set i (Sl.own (.ow o')))
    | none => none) = _
  rw [this]
def fTrue (_ : Int) : Dt := .bool true
theorem names_loop (r : Row) (hr : r.length ≤ 100000) : ∃ x y, L2_names_of [.own (.val (rowD r)), .own (.dic []), .un, .un] = some (.ok .nx, [.own (.val (rowD r)), .own (.dic (dicF fTrue (seenOf r))), x, y]) := by
  obtain ⟨st', e, x, y, rfl⟩ := sForT (w := wVal (eVar 0)) (g := gT (gsCons (gN 2) (gsCons (gN 3) gsNil))) (b := LB1_names_of) (st := [.own (.val (rowD r)), .own (.dic []), .un, .un]) (st1 := [.own (.val (rowD r)), .own (.dic []), .un, .un]) (xs := r) stD
    (fun done st => ∃ x y, st = [.own (.val (rowD r)), .own (.dic (dicF fTrue (seenOf done))), x, y]) (by simp [rowD]) ⟨_, _, rfl⟩
    (fun done p todo st hd q => by
      obtain ⟨x, y, rfl⟩ := q
      refine ⟨[.own (.val (rowD r)), .own (.dic (dicF fTrue (seenOf done))), .own (.val (.str p.1)), .own (.val (.int p.2))], [.own (.val (rowD r)), .own (.dic (dicF fTrue (seenOf (done ++ [p])))), .own (.val (.str p.1)), .own (.val (.int p.2))], .nx, by simp [stD], ?_, .inl rfl, .own (.val (.str p.1)), .own (.val (.int p.2)), rfl⟩
      have hl : (dicF fTrue (seenOf done)).length < lenLine := by
        have := seenOf_len done
        have : r.length = done.length + (todo.length + 1) := by rw [hd]; simp
        rw [dicF, List.length_map, lenLine_val]
        omega
      rw [seenOf_snoc, ← put_dicF]
      have z := stS_dic (i := 1) (k := .int p.2) (d := .bool true) (es := dicF fTrue (seenOf done)) (st := [.own (.val (rowD r)), .own (.dic (dicF fTrue (seenOf done))), .own (.val (.str p.1)), .own (.val (.int p.2))]) rfl rfl hl
      unfold LB1_names_of
      simp [z, fTrue])
  exact ⟨x, y, e⟩
theorem keys_dicF (f : Int → Dt) (s : List Int) : (dicF f s).map (·.1) = s.map .int := by simp [dicF]
theorem names_of_ok (r : Row) (hr : r.length ≤ 100000) : D_names_of [.val (rowD r)] [] = some (.ok (.lst ((seenOf r).map .int)), []) := by
  obtain ⟨x, y, e⟩ := names_loop r hr
  obtain ⟨W, hW⟩ : ∃ W, W = L2_names_of := ⟨_, rfl⟩
  rw [← hW] at e
  refine runD_ret (st := [.own (.val (rowD r)), .own (.val (.dict (dicF fTrue (seenOf r)))), x, y]) ?_ rfl
  unfold B_names_of
  rw [← hW]
  simp [e, keys_dicF]
theorem seenOf_app (a b : Row) : ∃ t, seenOf (a ++ b) = seenOf a ++ t := by
  have key : ∀ (b : Row) (s : List Int), ∃ t, b.foldl (fun s p => put s p.2) s = s ++ t := by
    intro b
    induction b with
    | nil => intro s; exact ⟨[], by simp⟩
    | cons p b ih =>
      intro s
      obtain ⟨t, e⟩ := ih (put s p.2)
      rw [List.foldl_cons, e]
      unfold put
      split
      · exact ⟨t, rfl⟩
      · exact ⟨[p.2] ++ t, by simp⟩
  obtain ⟨t, e⟩ := key b (seenOf a)
  exact ⟨t, by rw [← e]; simp [seenOf]⟩
theorem idx_new {r done todo : Row} {p : Str × Int} (hd : r = done ++ p :: todo) (h : p.2 ∉ seenOf done) : (seenOf r).idxOf p.2 = (seenOf done).length := by
  have e : r = (done ++ [p]) ++ todo := by rw [hd]; simp
  obtain ⟨t, z⟩ := seenOf_app (done ++ [p]) todo
  rw [e, z, seenOf_snoc]
  unfold put
  rw [if_neg h, List.append_assoc, List.idxOf_append, if_neg h]
  simp
theorem setd_s {es : List (Dt × Dt)} {k d : Dt} (hk : (keyOf k).isSome = true) (hl : es.length < lenLine) : setdF (.dic es) [.ow (.val k), .ow (.val d)] = match dLook es k with
    | some v => some (.dic es, .val v)
    | none => some (.dic (dPut es k d), .val d) := by
  show (if (keyOf k).isSome ∧ es.length < lenLine then (match dLook es k with
    | some v => some (Ow.dic es, Rs.val v)
    | none => some (.dic (dPut es k d), .val d)) else none) = _
  rw [if_pos ⟨hk, hl⟩]
def fIdx (s : List Int) (n : Int) : Dt := .int (s.idxOf n)
theorem plainR_loop (r : Row) (hr : r.length ≤ 100000) : ∃ es x y, L2_plain_row [.own (.val (rowD r)), .own (.dic []), .own (.lst []), .un, .un] = some (.ok .nx, [.own (.val (rowD r)), .own (.dic es), .own (.lst ((plainOf r).map stD)), x, y]) := by
  obtain ⟨st', e, x, y, rfl⟩ := sForT (w := wVal (eVar 0)) (g := gT (gsCons (gN 3) (gsCons (gN 4) gsNil))) (b := LB1_plain_row) (st := [.own (.val (rowD r)), .own (.dic []), .own (.lst []), .un, .un]) (st1 := [.own (.val (rowD r)), .own (.dic []), .own (.lst []), .un, .un]) (xs := r) stD
    (fun done st => ∃ x y, st = [.own (.val (rowD r)), .own (.dic (dicF (fIdx (seenOf r)) (seenOf done))), .own (.lst ((done.map fun p => (p.1, ((seenOf r).idxOf p.2 : Int))).map stD)), x, y]) (by simp [rowD]) ⟨_, _, rfl⟩
    (fun done p todo st hd q => by
      obtain ⟨x, y, rfl⟩ := q
      refine ⟨[.own (.val (rowD r)), .own (.dic (dicF (fIdx (seenOf r)) (seenOf done))), .own (.lst ((done.map fun p => (p.1, ((seenOf r).idxOf p.2 : Int))).map stD)), .own (.val (.str p.1)), .own (.val (.int p.2))],
        [.own (.val (rowD r)), .own (.dic (dicF (fIdx (seenOf r)) (seenOf (done ++ [p])))), .own (.lst (((done ++ [p]).map fun p => (p.1, ((seenOf r).idxOf p.2 : Int))).map stD)), .own (.val (.str p.1)), .own (.val (.int p.2))], .nx, by simp [stD], ?_, .inl rfl, .own (.val (.str p.1)), .own (.val (.int p.2)), rfl⟩
      have hlr : r.length = done.length + (todo.length + 1) := by rw [hd]; simp
      have hs := seenOf_len done
      have hl : (dicF (fIdx (seenOf r)) (seenOf done)).length < lenLine := by
        rw [dicF, List.length_map, lenLine_val]
        omega
      have hl2 : done.length < 16777216 := by omega
      have he : (dicF (fIdx (seenOf r)) (seenOf done)).length = (seenOf done).length := by simp [dicF]
      have z : setdF (.dic (dicF (fIdx (seenOf r)) (seenOf done))) [.ow (.val (.int p.2)), .ow (.val (.int ((dicF (fIdx (seenOf r)) (seenOf done)).length : Nat)))] = some (.dic (dicF (fIdx (seenOf r)) (seenOf (done ++ [p]))), .val (fIdx (seenOf r) p.2)) := by
        rw [setd_s rfl hl, look_dicF, seenOf_snoc]
        by_cases h : p.2 ∈ seenOf done
        · rw [if_pos h, put, if_pos h]
        · have q : fIdx (seenOf r) p.2 = .int ((seenOf done).length : Nat) := by unfold fIdx; rw [idx_new hd h]
          rw [if_neg h, ← put_dicF, q, he]
      obtain ⟨S, hS⟩ : ∃ S, S = dicF (fIdx (seenOf r)) (seenOf done) := ⟨_, rfl⟩
      obtain ⟨S', hS'⟩ : ∃ S, S = dicF (fIdx (seenOf r)) (seenOf (done ++ [p])) := ⟨_, rfl⟩
      rw [← hS, ← hS'] at z
      rw [← hS, ← hS']
      unfold LB1_plain_row
      simp [z, hl2, fIdx, stD])
  exact ⟨_, x, y, e⟩
theorem plain_row_ok (r : Row) (hr : r.length ≤ 100000) : D_plain_row [.val (rowD r)] [] = some (.ok (.val (rowD (plainOf r))), []) := by
  obtain ⟨es, x, y, e⟩ := plainR_loop r hr
  obtain ⟨W, hW⟩ : ∃ W, W = L2_plain_row := ⟨_, rfl⟩
  rw [← hW] at e
  refine runD_ret (st := [.own (.val (rowD r)), .own (.dic es), .own (.val (.list ((plainOf r).map stD))), x, y]) ?_ rfl
  unfold B_plain_row
  rw [← hW]
  simp [e]
  rfl
end DY

namespace DY
open PySem PySem.Spec PySem.Calls PyProof.Rows L2
theorem eqv_st (p q : Str × Int) : PyData.eqv (stD p) (stD q) = decide (p = q) := by
  obtain ⟨a, i⟩ := p
  obtain ⟨b, j⟩ := q
  simp [stD, PyData.eqv, PyData.eqvAll, Prod.ext_iff, Bool.decide_and]
  rw [Bool.beq_eq_decide_eq, Bool.beq_eq_decide_eq]
theorem eqvAll_st : ∀ a b : Row, PyData.eqvAll (a.map stD) (b.map stD) = decide (a = b)
  | [], [] => by simp [PyData.eqvAll]
  | [], _ :: _ => by simp [PyData.eqvAll]
  | _ :: _, [] => by simp [PyData.eqvAll]
  | p :: a, q :: b => by
    rw [List.map_cons, List.map_cons, PyData.eqvAll, eqv_st, eqvAll_st a b]
    simp
theorem eqv_row (a b : Row) : PyData.eqv (rowD a) (rowD b) = decide (a = b) := by
  rw [← eqvAll_st]
  simp [rowD, PyData.eqv]
theorem plain_st (p : Str × Int) : (stD p).plain = true := rfl
theorem plain_sts (a : Row) : PyData.plainAll (a.map stD) = true := by
  induction a with
  | nil => rfl
  | cons p a ih => rw [List.map_cons, PyData.plainAll, ih]; rfl
theorem plain_rowD (a : Row) : (rowD a).plain = true := by
  simp [rowD, PyData.plain, plain_sts]
theorem depth_sts (a : Row) : PyData.depthAll (a.map stD) ≤ 2 := by
  induction a with
  | nil => simp [PyData.depthAll]
  | cons p a ih =>
    rw [List.map_cons, PyData.depthAll]
    have : (stD p).depth ≤ 2 := by simp [stD, PyData.depth, PyData.depthAll]
    omega
theorem depth_rowD (a : Row) : (rowD a).depth ≤ 3 := by
  have := depth_sts a
  simp only [rowD, PyData.depth]
  omega
theorem eq_rows (a b : Row) : eqD (rowD a) (rowD b) = some (.val (.bool (decide (a = b)))) := by
  rw [eq_data (plain_rowD a) (plain_rowD b) (by have := depth_rowD a; omega), eqv_row]
/-- a row with other numbers -/
def mapN (g : Int → Int) (r : Row) : Row := r.map fun p => (p.1, g p.2)
theorem seenOf_mapN (g : Int → Int) (r : Row) (h : ∀ a ∈ seenOf r, ∀ b ∈ seenOf r, g a = g b → a = b) : seenOf (mapN g r) = (seenOf r).map g := by
  have key : ∀ (todo done : Row), r = done ++ todo → seenOf (mapN g done) = (seenOf done).map g → seenOf (mapN g r) = (seenOf r).map g := by
    intro todo
    induction todo with
    | nil => intro done e q; rw [e, List.append_nil]; exact q
    | cons p todo ih =>
      intro done e q
      refine ih (done ++ [p]) (by rw [e]; simp) ?_
      have e1 : mapN g (done ++ [p]) = mapN g done ++ [(p.1, g p.2)] := by simp [mapN]
      have hp : p.2 ∈ seenOf r := (seenOf_mem r p.2).mpr ⟨p, by rw [e]; simp, rfl⟩
      have hs : ∀ a ∈ seenOf done, a ∈ seenOf r := fun a ha => by
        obtain ⟨t, z⟩ := seenOf_app done (p :: todo)
        rw [e, z]; exact List.mem_append_left _ ha
      rw [e1, seenOf_snoc, seenOf_snoc, q]
      unfold put
      by_cases k : p.2 ∈ seenOf done
      · rw [if_pos k, if_pos (List.mem_map_of_mem k)]
      · rw [if_neg k, if_neg]
        · simp
        · intro m
          obtain ⟨a, ha, ea⟩ := List.mem_map.mp m
          exact k (h a (hs a ha) p.2 hp ea ▸ ha)
  exact key r [] rfl rfl
theorem idxOf_map (g : Int → Int) (s : List Int) (n : Int) (hn : n ∈ s) (h : ∀ a ∈ s, ∀ b ∈ s, g a = g b → a = b) : (s.map g).idxOf (g n) = s.idxOf n := by
  induction s with
  | nil => cases hn
  | cons a r ih =>
    rw [List.map_cons, List.idxOf_cons, List.idxOf_cons]
    by_cases e : a = n
    · subst e; simp
    · have hr : n ∈ r := by
        rcases List.mem_cons.mp hn with z | z
        · exact absurd z.symm e
        · exact z
      have e1 : (g a == g n) = false := by
        simp only [beq_eq_false_iff_ne]
        exact fun z => e (h a List.mem_cons_self n hn z)
      have e2 : (a == n) = false := by simp [e]
      rw [e1, e2, ih hr fun x hx y hy => h x (List.mem_cons_of_mem _ hx) y (List.mem_cons_of_mem _ hy)]
theorem plainOf_mapN (g : Int → Int) (r : Row) (h : ∀ a ∈ seenOf r, ∀ b ∈ seenOf r, g a = g b → a = b) : plainOf (mapN g r) = plainOf r := by
  unfold plainOf
  rw [seenOf_mapN g r h]
  unfold mapN
  rw [List.map_map]
  refine List.map_congr_left fun p hp => ?_
  have hm : p.2 ∈ seenOf r := (seenOf_mem r p.2).mpr ⟨p, hp, rfl⟩
  show (p.1, ((List.map g (seenOf r)).idxOf (g p.2) : Int)) = _
  rw [idxOf_map g _ _ hm h]
theorem idx_inj (s : List Int) (a : Int) (ha : a ∈ s) (b : Int) (hb : b ∈ s) (e : s.idxOf a = s.idxOf b) : a = b := by
  have h1 := List.getElem_idxOf (List.idxOf_lt_length_of_mem ha)
  have h2 := List.getElem_idxOf (List.idxOf_lt_length_of_mem hb)
  rw [← h1, ← h2]
  simp only [e]
theorem plainOf_plainOf (r : Row) : plainOf (plainOf r) = plainOf r :=
  plainOf_mapN (fun n => ((seenOf r).idxOf n : Int)) r fun a ha b hb e => idx_inj _ a ha b hb (Int.ofNat.inj e)
theorem is_plain_ok (r : Row) (hr : r.length ≤ 100000) : D_is_plain [.val (rowD r)] [] = some (.ok (.val (.bool (decide (plainOf r = r)))), []) := by
  have e := plain_row_ok r hr
  obtain ⟨W, hW⟩ : ∃ W, W = D_plain_row := ⟨_, rfl⟩
  rw [← hW] at e
  have e2 := eq_rows (plainOf r) r
  have e3 : tupD [rowD r] = some (.val (rowD r)) := rfl
  refine runD_ret (st := [.own (.val (rowD r))]) ?_ rfl
  unfold B_is_plain
  rw [← hW]
  simp [call_s e, e2, e3]
theorem are_alike_ok (a b : Row) (ha : a.length ≤ 100000) (hb : b.length ≤ 100000) : D_are_alike [.val (rowD a), .val (rowD b)] [] = some (.ok (.val (.bool (decide (plainOf a = plainOf b)))), []) := by
  have e := plain_row_ok a ha
  have e' := plain_row_ok b hb
  obtain ⟨W, hW⟩ : ∃ W, W = D_plain_row := ⟨_, rfl⟩
  rw [← hW] at e e'
  have e2 := eq_rows (plainOf a) (plainOf b)
  refine runD_ret (st := [.own (.val (rowD a)), .own (.val (rowD b))]) ?_ rfl
  unfold B_are_alike
  rw [← hW]
  simp [call_s e, call_s e', e2]
end DY

namespace DY
open PySem PySem.Spec PySem.Calls PyProof.Rows L2
def abcL : List Str := ["a", "b", "c"]
def RowOk (L : Nat) (T : Int) (r : Row) : Prop := ∀ p ∈ r, p.1 ∈ abcL.take L ∧ 0 ≤ p.2 ∧ p.2 < T
theorem ix_abc {i : Int} (h0 : 0 ≤ i) (h1 : i < 3) : ixD (.str "abc") (.int i) = some (.val (.str (abcL.getD i.toNat "a"))) := by
  have : i = 0 ∨ i = 1 ∨ i = 2 := by omega
  rcases this with rfl | rfl | rfl <;> rfl
theorem abc_mem {L i : Nat} (h : i < L) (hL : L ≤ 3) : abcL.getD i "a" ∈ abcL.take L := by
  have h2 : L = 1 ∨ L = 2 ∨ L = 3 := by omega
  have h3 : i = 0 ∨ i = 1 ∨ i = 2 := by omega
  rcases h2 with rfl | rfl | rfl <;> rcases h3 with rfl | rfl | rfl <;> first | omega | simp [abcL]
def pick (ds : List Int) (L T : Int) (j : Nat) : Str × Int := (abcL.getD (ds.getD (2 * j) 0 % L).toNat "a", ds.getD (2 * j + 1) 0 % T)
theorem ix_getD {ds : List Int} {j : Nat} (h : j < ds.length) : ixD (.list (ds.map .int)) (.int (j : Int)) = some (.val (.int (ds.getD j 0))) := by
  have e : ds[j]? = some (ds.getD j 0) := by
    rw [List.getElem?_eq_getElem h, List.getD_eq_getElem?_getD, List.getElem?_eq_getElem h]
    rfl
  exact ix_list (atI_map PyData.int (atI_nat e))
theorem ints_range (n : Nat) : intsFrom 0 n = (List.range n).map fun i : Nat => PyData.int i := by
  unfold intsFrom
  refine List.map_congr_left fun i _ => ?_
  simp
theorem row_comp (S' K' : Rs) (ds : List Int) (n L : Nat) (T : Int) (hd : ds.length = 2 * n) (hL : 0 < L) (hL3 : L ≤ 3) (hT : 0 < T) (hn : n ≤ 1000) (x : Sl) :
    C1__law_row [.own S', .own K', .own (.val (.int L)), .own (.val (.int n)), .own (.val (.int T)), .own (.lst (ds.map .int)), x] = some (.ok (.lst (((List.range n).map (pick ds L T)).map stD)), [.own S', .own K', .own (.val (.int L)), .own (.val (.int n)), .own (.val (.int T)), .own (.lst (ds.map .int)), x]) := by
  have := eLcY (own := [6]) (w := wRng1 (aCons (eVar 3) aNil)) (g := gN 6) (e := (eTup (aCons (e2 ixD (eC (.str "abc")) (e2 modD (eIxS 5 (e2 mulD (eC (.int 2)) (eVar 6))) (eVar 2))) (aCons (e2 modD (eIxS 5 (e2 addD (e2 mulD (eC (.int 2)) (eVar 6)) (eC (.int 1)))) (eVar 4)) aNil))))
    (st := [.own S', .own K', .own (.val (.int L)), .own (.val (.int n)), .own (.val (.int T)), .own (.lst (ds.map .int)), x]) (st1 := [.own S', .own K', .own (.val (.int L)), .own (.val (.int n)), .own (.val (.int T)), .own (.lst (ds.map .int)), x]) (xs := List.range n) (fun i : Nat => PyData.int i) (fun j => stD (pick ds L T j)) (by rw [← ints_range]; exact wRng1_n (by simp) (by omega)) (by rw [lenLine_val, List.length_range]; omega)
    (fun j hj => by
      have hj := List.mem_range.mp hj
      have z1 : mulD (.int 2) (.int j) = some (.val (.int ((2 * j : Nat) : Int))) := mul_sm (by simp [mulOk])
      have z2 : ((2 * j : Nat) : Int) + 1 = ((2 * j + 1 : Nat) : Int) := by omega
      have m1 : modD (.int (ds.getD (2 * j) 0)) (.int L) = some (.val (.int (ds.getD (2 * j) 0 % L))) := mod_sm (by omega)
      have m2 : modD (.int (ds.getD (2 * j + 1) 0)) (.int T) = some (.val (.int (ds.getD (2 * j + 1) 0 % T))) := mod_sm hT
      have y1 := ix_getD (ds := ds) (j := 2 * j) (by omega)
      have y2 := ix_getD (ds := ds) (j := 2 * j + 1) (by omega)
      have a0 : 0 ≤ ds.getD (2 * j) 0 % (L : Int) := Int.emod_nonneg _ (by omega)
      have a1 : ds.getD (2 * j) 0 % (L : Int) < L := Int.emod_lt_of_pos _ (by omega)
      have y3 := ix_abc a0 (by omega)
      obtain ⟨v1, hv1⟩ : ∃ v, v = ds.getD (2 * j) 0 := ⟨_, rfl⟩
      obtain ⟨v2, hv2⟩ : ∃ v, v = ds.getD (2 * j + 1) 0 := ⟨_, rfl⟩
      obtain ⟨k1, hk1⟩ : ∃ v : Int, v = ((2 * j : Nat) : Int) := ⟨_, rfl⟩
      obtain ⟨k2, hk2⟩ : ∃ v : Int, v = ((2 * j + 1 : Nat) : Int) := ⟨_, rfl⟩
      obtain ⟨u, hu⟩ : ∃ v : Int, v = ds.getD (2 * j) 0 % (L : Int) := ⟨_, rfl⟩
      obtain ⟨u', hu'⟩ : ∃ v : Int, v = ds.getD (2 * j + 1) 0 % T := ⟨_, rfl⟩
      have hp : stD (pick ds L T j) = .tuple [.str (abcL.getD u.toNat "a"), .int u'] := by rw [hu, hu']; rfl
      rw [← hk1, ← hv1] at y1
      rw [← hk2, ← hv2] at y2
      rw [← hk1] at z1
      rw [← hk1, ← hk2] at z2
      rw [← hu] at y3 m1
      rw [← hv1] at m1
      rw [← hu', ← hv2] at m2
      rw [hp]
      refine ⟨[.own S', .own K', .own (.val (.int L)), .own (.val (.int n)), .own (.val (.int T)), .own (.lst (ds.map .int)), .own (.val (.int j))], by simp, _, [.own S', .own K', .own (.val (.int L)), .own (.val (.int n)), .own (.val (.int T)), .own (.lst (ds.map .int)), .own (.val (.int j))], by
        simp [z1, y1, y2, z2, m1, m2, y3]
        rfl, rfl, by simp⟩)
  unfold C1__law_row
  rw [this]
  simp
theorem law_row_ok (ns : List Int) (hl : ns.length ≤ 63) (k : Int) (hk : 0 ≤ k) (L n : Nat) (T : Int) (hL : 0 < L) (hL3 : L ≤ 3) (hT : 0 < T) (hn : n ≤ 1000) :
    ∃ r : Row, r.length = n ∧ RowOk L T r ∧ D__law_row [.val (.list (ns.map .int)), .val (.int k), .val (.int L), .val (.int n), .val (.int T)] [] = some (.ok (.val (rowD r)), []) := by
  obtain ⟨ds, ⟨p1, p2⟩, e⟩ := draws_ok ns k hk hl (2 * n) (by omega) 5040 (by omega) (by omega)
  have e2 := row_comp (.val (.list (ns.map .int))) (.val (.int k)) ds n L T p1 hL hL3 hT hn .un
  have z1 : mulD (.int 2) (.int n) = some (.val (.int ((2 * n : Nat) : Int))) := mul_sm (by simp [mulOk])
  obtain ⟨W, hW⟩ : ∃ W, W = D__law_draws := ⟨_, rfl⟩
  obtain ⟨C, hC⟩ : ∃ W, W = C1__law_row := ⟨_, rfl⟩
  obtain ⟨k1, hk1⟩ : ∃ v : Int, v = ((2 * n : Nat) : Int) := ⟨_, rfl⟩
  rw [← hW, ← hk1] at e
  rw [← hC] at e2
  rw [← hk1] at z1
  refine ⟨(List.range n).map (pick ds L T), by simp, fun p hp => ?_, runD_ret (st := [.own (.val (.list (ns.map .int))), .own (.val (.int k)), .own (.val (.int L)), .own (.val (.int n)), .own (.val (.int T)), .own (.lst (ds.map .int)), .un]) ?_ rfl⟩
  · obtain ⟨j, hj, rfl⟩ := List.mem_map.mp hp
    have a0 : 0 ≤ ds.getD (2 * j) 0 % (L : Int) := Int.emod_nonneg _ (by omega)
    have a1 : ds.getD (2 * j) 0 % (L : Int) < L := Int.emod_lt_of_pos _ (by omega)
    exact ⟨abc_mem (by omega) hL3, Int.emod_nonneg _ (by omega), Int.emod_lt_of_pos _ hT⟩
  · unfold B__law_row
    rw [← hW, ← hC]
    simp [z1, call_s e, e2, rowD]
end DY

namespace DY
open PySem PySem.Spec PySem.Calls PyProof.Rows L2
theorem asStrs_map (ys : List Str) : asStrs (ys.map PyData.str) = some ys := by
  induction ys with
  | nil => rfl
  | cons a r ih => rw [List.map_cons, asStrs, ih]; rfl
/-- texts small enough to be joined -/
def SmallT (ys : List Str) : Prop := ys.length ≤ 10000 ∧ ∀ y ∈ ys, y.length ≤ 1000
theorem small_sum {ys : List Str} (h : ∀ y ∈ ys, y.length ≤ 1000) : (ys.map (·.length)).sum ≤ 1000 * ys.length := by
  induction ys with
  | nil => simp
  | cons a r ih =>
    have h1 := h a List.mem_cons_self
    have h2 := ih fun y hy => h y (List.mem_cons_of_mem _ hy)
    simp only [List.map_cons, List.sum_cons, List.length_cons]
    omega
theorem small_ok {a : Str} {ys : List Str} (ha : a.length ≤ 100) (h : SmallT ys) : (ys.map (·.length)).sum + ys.length * a.length ≤ 16777216 := by
  have h1 := small_sum h.2
  have h2 : ys.length * a.length ≤ ys.length * 100 := Nat.mul_le_mul_left _ ha
  have h3 := h.1
  omega
theorem join_s {a : Str} {ys : List Str} (ha : a.length ≤ 100) (h : SmallT ys) : joinF (.val (.str a)) [.ow (.lst (ys.map PyData.str))] = some (.val (.str a), .val (.str (Txt.join a ys))) := by
  show ((asStrs (ys.map PyData.str)).bind fun ys => if (ys.map (·.length)).sum + ys.length * a.length ≤ 16777216 then some (Ow.val (.str a), Rs.val (.str (Txt.join a ys))) else none) = _
  rw [asStrs_map, Option.bind_some, if_pos (small_ok ha h)]
theorem mtV_join {a : Str} {ys : List Str} (ha : a.length ≤ 100) (h : SmallT ys) : mtV joinF (.str a) [.ow (.lst (ys.map PyData.str))] = some (.val (.str (Txt.join a ys))) := by
  unfold mtV
  rw [join_s ha h]
  rfl
/-- rows that the law's texts are made of -/
structure RowT (r : Row) : Prop where
  len : r.length ≤ 1000
  let' : ∀ p ∈ r, p.1 ∈ abcL
  num : ∀ p ∈ r, 0 ≤ p.2 ∧ p.2 < 1000000
theorem abc_len {x : Str} (h : x ∈ abcL) : x.length = 1 := by
  simp only [abcL, List.mem_cons, List.not_mem_nil, or_false] at h
  rcases h with rfl | rfl | rfl <;> rfl
def lettersOf (r : Row) : List Str := r.map (·.1)
theorem small_letters {r : Row} (h : RowT r) : SmallT (lettersOf r) := ⟨by have := h.len; simp [lettersOf]; omega, fun y hy => by
  obtain ⟨p, hp, rfl⟩ := List.mem_map.mp hy
  have := abc_len (h.let' p hp)
  omega⟩
theorem small_filter {r : Row} (h : RowT r) (q : Str × Int → Bool) : SmallT (lettersOf (r.filter q)) := by
  refine small_letters ⟨Nat.le_trans (List.length_filter_le _ _) h.len, fun p hp => h.let' p (List.mem_filter.mp hp).1, fun p hp => h.num p (List.mem_filter.mp hp).1⟩
theorem letters_of_ok (r : Row) (h : RowT r) : D_letters_of [.val (rowD r)] [] = some (.ok (.val (.str (Txt.join "" (lettersOf r)))), []) := by
  have e : C1_letters_of [.own (.val (rowD r)), .un, .un] = some (.ok (.lst ((lettersOf r).map PyData.str)), [.own (.val (rowD r)), .un, .un]) := by
    have := eLcY (own := [1, 2]) (w := wVal (eVar 0)) (g := gT (gsCons (gN 1) (gsCons (gN 2) gsNil))) (e := eVar 1) (st := [.own (.val (rowD r)), .un, .un]) (st1 := [.own (.val (rowD r)), .un, .un]) (xs := r) stD (fun p => .str p.1) (by simp [rowD]) (by have := h.len; rw [lenLine_val]; omega)
      (fun p hp => ⟨[.own (.val (rowD r)), .own (.val (.str p.1)), .own (.val (.int p.2))], by simp [stD], _, [.own (.val (rowD r)), .own (.val (.str p.1)), .own (.val (.int p.2))], by
        simp
        rfl, rfl, by simp⟩)
    unfold C1_letters_of
    rw [this]
    simp [lettersOf]
  have j := mtV_join (a := "") (by decide) (small_letters h)
  obtain ⟨C, hC⟩ : ∃ W, W = C1_letters_of := ⟨_, rfl⟩
  rw [← hC] at e
  refine runD_ret (st := [.own (.val (rowD r)), .un, .un]) ?_ rfl
  unfold B_letters_of
  rw [← hC]
  simp [e, j]
end DY

namespace DY
open PySem PySem.Spec PySem.Calls PyProof.Rows L2
def partOf (r : Row) (n : Int) : List Str := lettersOf (r.filter fun p => p.2 == n)
theorem part_of_ok (r : Row) (h : RowT r) (n : Int) : D_part_of [.val (rowD r), .val (.int n)] [] = some (.ok (.val (.str (Txt.join "" (partOf r n)))), []) := by
  have e : C1_part_of [.own (.val (rowD r)), .own (.val (.int n)), .un, .un] = some (.ok (.lst ((partOf r n).map PyData.str)), [.own (.val (rowD r)), .own (.val (.int n)), .un, .un]) := by
    have := eLcT (own := [2, 3]) (w := wVal (eVar 0)) (g := gT (gsCons (gN 2) (gsCons (gN 3) gsNil))) (t := tV (e2S eqD (eVar 3) 1)) (e := eVar 2) (st := [.own (.val (rowD r)), .own (.val (.int n)), .un, .un]) (st1 := [.own (.val (rowD r)), .own (.val (.int n)), .un, .un]) (xs := r) stD (fun p => p.2 == n) (fun p => .str p.1) (by simp [rowD]) (by have := h.len; rw [lenLine_val]; omega)
      (fun p hp => ⟨[.own (.val (rowD r)), .own (.val (.int n)), .own (.val (.str p.1)), .own (.val (.int p.2))], [.own (.val (rowD r)), .own (.val (.int n)), .own (.val (.str p.1)), .own (.val (.int p.2))], by simp [stD], by simp, fun _ => by simp, fun _ => ⟨_, [.own (.val (rowD r)), .own (.val (.int n)), .own (.val (.str p.1)), .own (.val (.int p.2))], by
        simp
        rfl, rfl, by simp⟩⟩)
    unfold C1_part_of
    rw [this]
    simp [lettersOf, partOf]
  have j := mtV_join (a := "") (by decide) (small_filter h fun p => p.2 == n)
  obtain ⟨C, hC⟩ : ∃ W, W = C1_part_of := ⟨_, rfl⟩
  rw [← hC] at e
  refine runD_ret (st := [.own (.val (rowD r)), .own (.val (.int n)), .un, .un]) ?_ rfl
  unfold B_part_of
  rw [← hC]
  simp [e, j, partOf]
/-- a step as text -/
def numS (i : Int) : Str := (toString i : String)
def stTx (p : Str × Int) : Str := p.1 ++ numS p.2
def txOf (r : Row) : List Str := r.map stTx
theorem log_small {i : Int} (h : 0 ≤ i ∧ i < 1000000) : i.natAbs.log2 < 1920 := by
  have : i.natAbs < 2 ^ 20 := by omega
  have := Nat.log2_lt (n := i.natAbs) (k := 20)
  by_cases z : i.natAbs = 0
  · rw [z]; decide
  · have := (Nat.log2_lt z).mpr ‹i.natAbs < 2 ^ 20›
    omega
theorem str_s {i : Int} (h : 0 ≤ i ∧ i < 1000000) : strD [.int i] = some (.val (.str (numS i))) := by
  show (if i.natAbs.log2 < 1920 then some (Rs.val (.str (numS i))) else none) = _
  rw [if_pos (log_small h)]
theorem num_len {i : Int} (h : 0 ≤ i ∧ i < 1000000) : (numS i).length ≤ 6 := by
  obtain ⟨n, rfl⟩ := Int.eq_ofNat_of_zero_le h.1
  have e : (numS (n : Int)) = Str.ofString (toString ((n : Nat) : Int)) := rfl
  rw [e, TL.len_tl, TL.tl_num]
  exact TL.numL_len (by omega) (by omega)
theorem cat_s {x y : Str} (h : x.length + y.length ≤ 1000) : addD (.str x) (.str y) = some (.val (.str (x ++ y))) := by
  have : catStr x y = some (.str (x ++ y)) := by unfold catStr; rw [if_pos (by rw [lenLine_val]; omega)]
  show ((iiD allC (fun i j => .int (i + j)) (.str x) (.str y)).or (((catStr x y).map Rs.val).or ((catLD (.str x) (.str y)).or (catTD (.str x) (.str y))))) = _
  rw [this]
  rfl
theorem len_cat (x y : Str) : (x ++ y).length = x.length + y.length := by
  rw [TL.len_tl, TL.tl_append, List.length_append, ← TL.len_tl, ← TL.len_tl]
theorem small_tx {r : Row} (h : RowT r) : SmallT (txOf r) := ⟨by have := h.len; simp [txOf]; omega, fun y hy => by
  obtain ⟨p, hp, rfl⟩ := List.mem_map.mp hy
  have h1 := abc_len (h.let' p hp)
  have h2 := num_len (h.num p hp)
  rw [stTx, len_cat]
  omega⟩
theorem tx_comp {own : List Nat} {i j : Nat} {w : Wk} {r : Row} (h : RowT r) {st st1 : DS} (hw : w st = some (.ok (r.map stD), st1)) (hi : i < st1.length) (hj : j < st1.length) (hij : i ≠ j)
    (hh : ∀ a b, hideS own (((hideS own st1).set i a).set j b) = hideS own st1) (hl : (hideS own st1).length = st1.length) :
    eLc own w (gT (gsCons (gN i) (gsCons (gN j) gsNil))) tYes' (e2 addD (eVar i) (eL strD (aCons (eVar j) aNil))) st = some (.ok (.lst ((txOf r).map PyData.str)), restS own st1 (hideS own st1)) := by
  have := eLcY (own := own) (w := w) (g := gT (gsCons (gN i) (gsCons (gN j) gsNil))) (e := (e2 addD (eVar i) (eL strD (aCons (eVar j) aNil)))) (st := st) (st1 := st1) (xs := r) stD (fun p => .str (stTx p)) hw (by have := h.len; rw [lenLine_val]; omega)
    (fun p hp => ⟨((hideS own st1).set i (.own (.val (.str p.1)))).set j (.own (.val (.int p.2))), by simp [stD], .val (.str (stTx p)), ((hideS own st1).set i (.own (.val (.str p.1)))).set j (.own (.val (.int p.2))), by
      have l1 : lookS (((hideS own st1).set i (.own (.val (.str p.1)))).set j (.own (.val (.int p.2)))) i = some (.val (.str p.1)) := look_own (by
        rw [List.getElem?_set_ne (by omega), List.getElem?_set_self (by omega)])
      have l2 : lookS (((hideS own st1).set i (.own (.val (.str p.1)))).set j (.own (.val (.int p.2)))) j = some (.val (.int p.2)) := look_own (by
        rw [List.getElem?_set_self (by simp; omega)])
      have s := str_s (h.num p hp)
      have c := cat_s (x := p.1) (y := numS p.2) (by have := abc_len (h.let' p hp); have := num_len (h.num p hp); omega)
      obtain ⟨S, hS⟩ : ∃ S, S = ((hideS own st1).set i (.own (.val (.str p.1)))).set j (.own (.val (.int p.2))) := ⟨_, rfl⟩
      rw [← hS] at l1 l2 ⊢
      simp [l1, l2, s, c, stTx], rfl, hh _ _⟩)
  rw [this]
  simp [txOf]
theorem row_text_ok (r : Row) (h : RowT r) : D_row_text [.val (rowD r)] [] = some (.ok (.val (.str (Txt.join " " (txOf r)))), []) := by
  have e : C1_row_text [.own (.val (rowD r)), .un, .un] = some (.ok (.lst ((txOf r).map PyData.str)), [.own (.val (rowD r)), .un, .un]) := by
    unfold C1_row_text
    rw [tx_comp (st1 := [.own (.val (rowD r)), .un, .un]) h (by simp [rowD]) (by simp) (by simp) (by decide) (by simp) (by simp)]
    simp
  have j := mtV_join (a := " ") (by decide) (small_tx h)
  obtain ⟨C, hC⟩ : ∃ W, W = C1_row_text := ⟨_, rfl⟩
  rw [← hC] at e
  refine runD_ret (st := [.own (.val (rowD r)), .un, .un]) ?_ rfl
  unfold B_row_text
  rw [← hC]
  simp [e, j]
end DY

namespace DY
open PySem PySem.Spec PySem.Calls PyProof.Rows L2
/-- {k: v for x in xs}: the keys are numbers -/
theorem dcT {α : Type} {own : List Nat} {g : Tg} {ek ev : M Rs} {st : DS} (inj : α → Dt) (key : α → Int) (f : Int → Dt) : ∀ (xs : List α) (acc : List Int), acc.length + xs.length < lenLine →
    (∀ x ∈ xs, ∃ st1 st2 st3 k r, g (.val (inj x)) st = some st1 ∧ ek st1 = some (.ok k, st2) ∧ ev st2 = some (.ok r, st3) ∧ k.frz = some (.int (key x)) ∧ r.frz = some (f (key x)) ∧ hideS own st3 = st) →
    dcL own g tYes' ek ev (xs.map inj) (dicF f acc) st = some (dicF f (xs.foldl (fun s x => put s (key x)) acc), st)
  | [], acc, _, _ => by simp [dcL]
  | x :: xs, acc, hl, h => by
    obtain ⟨st1, st2, st3, k, r, e1, e2, e3, ek', er, e4⟩ := h x List.mem_cons_self
    have hl' : acc.length + (xs.length + 1) < lenLine := hl
    rw [List.map_cons]
    unfold dcL
    rw [e1]
    dsimp only
    show (match ek st1 with
        | some (.ok k, st3) => (match ev st3 with
          | some (.ok r, st4) => (match k.frz, r.frz with
            | some k, some x => if (keyOf k).isSome ∧ (dicF f acc).length < lenLine then dcL own g tYes' ek ev (xs.map inj) (dPut (dicF f acc) k x) (hideS own st4) else none
            | _, _ => none)
          | _ => none)
        | _ => none) = _
    rw [e2]
    dsimp only
    rw [e3]
    dsimp only
    rw [ek', er]
    dsimp only
    rw [if_pos ⟨rfl, by rw [dicF, List.length_map]; omega⟩, e4, put_dicF, dcT inj key f xs (put acc (key x)) (by have := put_len acc (key x); omega) fun y hy => h y (List.mem_cons_of_mem _ hy)]
    rfl
theorem eDcT {α : Type} {own : List Nat} {w : Wk} {g : Tg} {ek ev : M Rs} {st st1 : DS} {xs : List α} (inj : α → Dt) (key : α → Int) (f : Int → Dt) (hw : w st = some (.ok (xs.map inj), st1)) (hl : xs.length < lenLine)
    (h : ∀ x ∈ xs, ∃ st1' st2 st3 k r, g (.val (inj x)) (hideS own st1) = some st1' ∧ ek st1' = some (.ok k, st2) ∧ ev st2 = some (.ok r, st3) ∧ k.frz = some (.int (key x)) ∧ r.frz = some (f (key x)) ∧ hideS own st3 = hideS own st1) :
    eDc own w g tYes' ek ev st = some (.ok (.dic (dicF f (xs.foldl (fun s x => put s (key x)) []))), restS own st1 (hideS own st1)) := by
  unfold eDc M.b
  rw [hw]
  dsimp only
  have := dcT (g := g) (ek := ek) (ev := ev) inj key f xs [] (by simpa using hl) h
  rw [show dicF f [] = [] from rfl] at this
  rw [this]
end DY

namespace DY
open PySem PySem.Spec PySem.Calls PyProof.Rows L2
theorem put_nodup {s : List Int} (h : s.Nodup) (n : Int) : (put s n).Nodup := by
  unfold put
  split
  · exact h
  · rename_i k
    rw [List.nodup_append]
    exact ⟨h, by simp, fun a ha b hb e => by simp at hb; subst hb; subst e; exact k ha⟩
theorem seenOf_nodup (r : Row) : (seenOf r).Nodup := by
  have key : ∀ (r : Row) (s : List Int), s.Nodup → (r.foldl (fun s p => put s p.2) s).Nodup := by
    intro r
    induction r with
    | nil => intro s h; exact h
    | cons p r ih => intro s h; exact ih _ (put_nodup h _)
  exact key r [] (by simp)
theorem idx_at : ∀ {s : List Int} (_ : s.Nodup) (j : Nat) (_ : j < s.length), s.idxOf (s.getD j 0) = j
  | [], _, j, h => by simp at h
  | a :: s, hn, 0, _ => by simp
  | a :: s, hn, j + 1, h => by
    have hn' := List.nodup_cons.mp hn
    have hj : j < s.length := by simpa using h
    have ih := idx_at hn'.2 j hj
    have hm : s.getD j 0 ∈ s := by
      rw [List.getD_eq_getElem?_getD, List.getElem?_eq_getElem hj]
      exact List.getElem_mem hj
    have e : (a == s.getD j 0) = false := by
      simp only [beq_eq_false_iff_ne]
      intro z
      exact hn'.1 (z ▸ hm)
    rw [List.getD_cons_succ, List.idxOf_cons, e, ih]
    rfl
theorem getD_mem {s : List Int} {j : Nat} (h : j < s.length) : s.getD j 0 ∈ s := by
  rw [List.getD_eq_getElem?_getD, List.getElem?_eq_getElem h]
  exact List.getElem_mem h
theorem mem_getD {s : List Int} {n : Int} (h : n ∈ s) : ∃ j, j < s.length ∧ s.getD j 0 = n := by
  obtain ⟨j, hj, e⟩ := List.mem_iff_getElem.mp h
  exact ⟨j, hj, by rw [List.getD_eq_getElem?_getD, List.getElem?_eq_getElem hj]; exact e⟩
theorem fold_mem (s : List Int) (key : Nat → Int) (n : Int) : ∀ (xs : List Nat) (acc : List Int), n ∈ xs.foldl (fun s x => put s (key x)) acc ↔ n ∈ acc ∨ ∃ x ∈ xs, key x = n
  | [], acc => by simp
  | x :: xs, acc => by
    rw [List.foldl_cons, fold_mem s key n xs, put_mem]
    simp [or_assoc, eq_comm]
def renG (r : Row) (news : List Int) (n : Int) : Int := news.getD ((seenOf r).idxOf n) 0
theorem look_s {f : Int → Dt} {s : List Int} {n : Int} (h : n ∈ s) : ixD (.dict (dicF f s)) (.int n) = some (.val (f n)) := by
  show (if (keyOf (.int n)).isSome then (dLook (dicF f s) (.int n)).map Rs.val else none) = _
  rw [look_dicF, if_pos h]
  rfl
theorem renamed_ok (r : Row) (news : List Int) (hr : r.length ≤ 1000) (hn : news.length = (seenOf r).length) : D_renamed [.val (rowD r), .val (.list (news.map .int))] [] = some (.ok (.val (rowD (mapN (renG r news) r))), []) := by
  have hs := seenOf_len r
  have en := names_of_ok r (by omega)
  obtain ⟨ks, hks⟩ : ∃ ks, ks = (List.range (seenOf r).length).foldl (fun s j => put s ((seenOf r).getD j 0)) [] := ⟨_, rfl⟩
  have hk : ∀ n ∈ seenOf r, n ∈ ks := fun n h => by
    obtain ⟨j, hj, e⟩ := mem_getD h
    rw [hks]
    exact (fold_mem [] (fun j => (seenOf r).getD j 0) n _ _).mpr (.inr ⟨j, List.mem_range.mpr hj, e⟩)
  have e2 : C2_renamed [.own (.val (rowD r)), .own (.val (.list (news.map .int))), .own (.lst ((seenOf r).map .int)), .un, .un, .un, .un] = some (.ok (.dic (dicF (fun n => .int (renG r news n)) ks)), [.own (.val (rowD r)), .own (.val (.list (news.map .int))), .own (.lst ((seenOf r).map .int)), .un, .un, .un, .un]) := by
    have := eDcT (own := [4]) (w := wRng1 (aCons (eLenS 2) aNil)) (g := gN 4) (ek := eIxS 2 (eVar 4)) (ev := eIxS 1 (eVar 4)) (st := [.own (.val (rowD r)), .own (.val (.list (news.map .int))), .own (.lst ((seenOf r).map .int)), .un, .un, .un, .un]) (st1 := [.own (.val (rowD r)), .own (.val (.list (news.map .int))), .own (.lst ((seenOf r).map .int)), .un, .un, .un, .un]) (xs := List.range (seenOf r).length)
      (fun i : Nat => PyData.int i) (fun j => (seenOf r).getD j 0) (fun n => .int (renG r news n)) (by rw [← ints_range]; exact wRng1_n (by simp) (by omega)) (by rw [lenLine_val, List.length_range]; omega)
      (fun j hj => by
        have hj := List.mem_range.mp hj
        have y1 := ix_getD (ds := seenOf r) hj
        have y2 := ix_getD (ds := news) (j := j) (by omega)
        have y3 : renG r news ((seenOf r).getD j 0) = news.getD j 0 := by unfold renG; rw [idx_at (seenOf_nodup r) j hj]
        obtain ⟨v1, hv1⟩ : ∃ v, v = (seenOf r).getD j 0 := ⟨_, rfl⟩
        obtain ⟨v2, hv2⟩ : ∃ v, v = news.getD j 0 := ⟨_, rfl⟩
        rw [← hv1] at y1 y3
        rw [← hv2] at y2 y3
        rw [← hv1]
        refine ⟨[.own (.val (rowD r)), .own (.val (.list (news.map .int))), .own (.lst ((seenOf r).map .int)), .un, .own (.val (.int j)), .un, .un], [.own (.val (rowD r)), .own (.val (.list (news.map .int))), .own (.lst ((seenOf r).map .int)), .un, .own (.val (.int j)), .un, .un], [.own (.val (rowD r)), .own (.val (.list (news.map .int))), .own (.lst ((seenOf r).map .int)), .un, .own (.val (.int j)), .un, .un], .val (.int v1), .val (.int v2), by simp, by simp [y1], by simp [y2], rfl, by rw [y3]; rfl, by simp⟩)
    unfold C2_renamed
    rw [this, hks]
    simp
  have e3 : C1_renamed [.own (.val (rowD r)), .own (.val (.list (news.map .int))), .own (.lst ((seenOf r).map .int)), .own (.dic (dicF (fun n => .int (renG r news n)) ks)), .un, .un, .un] = some (.ok (.lst ((mapN (renG r news) r).map stD)), [.own (.val (rowD r)), .own (.val (.list (news.map .int))), .own (.lst ((seenOf r).map .int)), .own (.dic (dicF (fun n => .int (renG r news n)) ks)), .un, .un, .un]) := by
    have := eLcY (own := [5, 6]) (w := wVal (eVar 0)) (g := gT (gsCons (gN 5) (gsCons (gN 6) gsNil))) (e := (eTup (aCons (eVar 5) (aCons (eIxS 3 (eVar 6)) aNil)))) (st := [.own (.val (rowD r)), .own (.val (.list (news.map .int))), .own (.lst ((seenOf r).map .int)), .own (.dic (dicF (fun n => .int (renG r news n)) ks)), .un, .un, .un]) (st1 := [.own (.val (rowD r)), .own (.val (.list (news.map .int))), .own (.lst ((seenOf r).map .int)), .own (.dic (dicF (fun n => .int (renG r news n)) ks)), .un, .un, .un]) (xs := r)
      stD (fun p => stD (p.1, renG r news p.2)) (by simp [rowD]) (by rw [lenLine_val]; omega)
      (fun p hp => ⟨[.own (.val (rowD r)), .own (.val (.list (news.map .int))), .own (.lst ((seenOf r).map .int)), .own (.dic (dicF (fun n => .int (renG r news n)) ks)), .un, .own (.val (.str p.1)), .own (.val (.int p.2))], by simp [stD], _, [.own (.val (rowD r)), .own (.val (.list (news.map .int))), .own (.lst ((seenOf r).map .int)), .own (.dic (dicF (fun n => .int (renG r news n)) ks)), .un, .own (.val (.str p.1)), .own (.val (.int p.2))], by
        have y := look_s (f := fun n => .int (renG r news n)) (hk p.2 ((seenOf_mem r p.2).mpr ⟨p, hp, rfl⟩))
        simp [y]
        rfl, rfl, by simp⟩)
    unfold C1_renamed
    rw [this]
    simp [mapN]
  obtain ⟨G, hG⟩ : ∃ W, W = D_names_of := ⟨_, rfl⟩
  obtain ⟨C, hC⟩ : ∃ W, W = C1_renamed := ⟨_, rfl⟩
  obtain ⟨E, hE⟩ : ∃ W, W = C2_renamed := ⟨_, rfl⟩
  rw [← hG] at en
  rw [← hC] at e3
  rw [← hE] at e2
  refine runD_ret (st := [.own (.val (rowD r)), .own (.val (.list (news.map .int))), .own (.lst ((seenOf r).map .int)), .own (.dic (dicF (fun n => .int (renG r news n)) ks)), .un, .un, .un]) ?_ rfl
  unfold B_renamed
  rw [← hG, ← hC, ← hE]
  simp [call_s en, e2, e3]
  rfl
end DY

namespace DY
open PySem PySem.Spec PySem.Calls PyProof.Rows L2 SX
theorem abc_S : ("abc" : Str) = S [97, 98, 99] := rfl
theorem dig_S : ("0123456789" : Str) = S [48, 49, 50, 51, 52, 53, 54, 55, 56, 57] := rfl
@[simp] theorem eSl_s (m : M Rs) (ml mh : Pt) : eSl m ml mh = m.b fun x => ml.b fun l => mh.b fun u => .o (slF x l u) := rfl
@[simp] theorem pNo_s : pNo = .p none := rfl
@[simp] theorem pSome_s (m : M Rs) : pSome m = m.b fun r => .o (asI r) := rfl
@[simp] theorem asI_s (i : Int) : asI (.ow (.val (.int i))) = some (some i) := rfl
@[simp] theorem slF_s (o : Ow) (l u : Option Int) : slF (.ow o) l u = slD o.frz l u := rfl
theorem sl_to {a : List Nat} {i : Int} (h : 0 ≤ i) (hl : a.length ≤ 1000000) : slD (.str (S a)) none (some i) = some (.val (.str (S (a.take i.toNat)))) := by
  show (if (S a).length ≤ lenLine then some (Rs.val (.str (cutS (S a) none (some i)))) else none) = _
  rw [if_pos (by rw [S_len, lenLine_val]; omega), C8.cutS_slice, slice_to h]
theorem sl_from {a : List Nat} {i : Int} (h : 0 ≤ i) (hl : a.length ≤ 1000000) : slD (.str (S a)) (some i) none = some (.val (.str (S (a.drop i.toNat)))) := by
  show (if (S a).length ≤ lenLine then some (Rs.val (.str (cutS (S a) (some i) none))) else none) = _
  rw [if_pos (by rw [S_len, lenLine_val]; omega), C8.cutS_slice, slice_from h]
theorem ix_str {a : List Nat} {i : Int} {c : Nat} (hl : a.length ≤ 1000000) (h : atI a i = some c) : ixD (.str (S a)) (.int i) = some (.val (.str (S [c]))) := by
  show (if (S a).length ≤ lenLine then (atI (S a).cps.toList i).map fun c => Rs.val (.str ⟨#[c]⟩) else none) = _
  rw [if_pos (by rw [S_len, lenLine_val]; omega), show (S a).cps.toList = a from rfl, h]
  rfl
theorem in_chr (a : List Nat) (c : Nat) : inD (.str (S [c])) (.str (S a)) = some (.val (.bool (decide (c ∈ a)))) := by
  show (if true = true then some (Rs.val (.bool (!(Builtin.Str.occurrences (S a) (S [c]) 0 (S a).length 1).isEmpty))) else none) = _
  rw [if_pos rfl, in_one]
theorem notIn_chr (a : List Nat) (c : Nat) : notInD (.str (S [c])) (.str (S a)) = some (.val (.bool (!decide (c ∈ a)))) := by
  show (if true = true then some (Rs.val (.bool (!!(Builtin.Str.occurrences (S a) (S [c]) 0 (S a).length 1).isEmpty))) else none) = _
  rw [if_pos rfl, in_one]
theorem len_str {a : List Nat} (hl : a.length ≤ 1000000) : lenO (.str (S a)) = some (.val (.int a.length)) := by
  show (if (S a).length ≤ lenLine then some (Rs.val (.int (S a).length)) else none) = _
  rw [if_pos (by rw [S_len, lenLine_val]; omega), S_len]
theorem lenD_str {a : List Nat} (hl : a.length ≤ 1000000) : lenD [.str (S a)] = some (.val (.int a.length)) := len_str hl
theorem items_S (a : List Nat) : itemsR (.ow (.val (.str (S a)))) = some (a.map fun c => .str (S [c])) := rfl
end DY

namespace DY
open PySem PySem.Spec PySem.Calls PyProof.Rows L2 SX
def digC : List Nat := [48, 49, 50, 51, 52, 53, 54, 55, 56, 57]
def stepC (L : Nat) : List Nat → Option (Str × Int)
  | [] => none
  | c :: ds => if c ∉ [97, 98, 99].take L ∨ ds = [] ∨ 6 < ds.length ∨ (ds.filter fun x => !decide (x ∈ digC)) ≠ [] ∨ (ds.head? = some 48 ∧ ds ≠ [48]) then none else some (S [c], (NumText.digitsVal ds : Int))
def optD : Option (Str × Int) → Dt
  | none => .none
  | some p => stD p
theorem nodig_comp {own : List Nat} {w : Wk} {i : Nat} {ds : List Nat} {st st1 : DS} (hl : ds.length ≤ 1000000) (hw : w st = some (.ok (ds.map fun c => PyData.str (S [c])), st1)) (hi : i < st1.length)
    (hh : ∀ a, hideS own ((hideS own st1).set i a) = hideS own st1) (hn : (hideS own st1).length = st1.length) :
    eLc own w (gN i) (tV (e2 notInD (eVar i) (eC (.str "0123456789")))) (eVar i) st = some (.ok (.lst ((ds.filter fun x => !decide (x ∈ digC)).map fun c => PyData.str (S [c]))), restS own st1 (hideS own st1)) := by
  refine eLcT (fun c => PyData.str (S [c])) (fun x => !decide (x ∈ digC)) (fun c => PyData.str (S [c])) hw (by rw [lenLine_val]; omega) fun c hc => ⟨(hideS own st1).set i (.own (.val (.str (S [c])))), (hideS own st1).set i (.own (.val (.str (S [c])))), rfl, ?_, fun _ => hh _, fun _ => ⟨.val (.str (S [c])), (hideS own st1).set i (.own (.val (.str (S [c])))), ?_, rfl, hh _⟩⟩
  · have l := look_own (st := (hideS own st1).set i (.own (.val (.str (S [c]))))) (i := i) (r := .val (.str (S [c]))) (by rw [List.getElem?_set_self (by omega)])
    have n := notIn_chr digC c
    obtain ⟨Z, hZ⟩ : ∃ Z, Z = (hideS own st1).set i (.own (.val (.str (S [c])))) := ⟨_, rfl⟩
    rw [← hZ] at l ⊢
    simp [l, dig_S, digC] at n ⊢
    simp [n]
  · have l := look_own (st := (hideS own st1).set i (.own (.val (.str (S [c]))))) (i := i) (r := .val (.str (S [c]))) (by rw [List.getElem?_set_self (by omega)])
    simp [l]
end DY

namespace DY
open PySem PySem.Spec PySem.Calls PyProof.Rows L2 SX
theorem eq_nil_S (a : List Nat) : (S a == ("" : Str)) = decide (a = []) := by
  rw [show ("" : Str) = S [] from rfl, S_beq_eq]
theorem eq_zero_S (a : List Nat) : (S a == ("0" : Str)) = decide (a = [48]) := by
  rw [show ("0" : Str) = S [48] from rfl, S_beq_eq]
theorem atI_zero {a : List Nat} {c : Nat} : atI (c :: a) 0 = some c := by
  have z : atI (c :: a) ((0 : Nat) : Int) = some c := atI_nat rfl
  exact z
theorem nodig_iff {ds : List Nat} : (ds.filter fun x => !decide (x ∈ digC)) = [] ↔ ds.all (fun c => decide (48 ≤ c) && decide (c ≤ 57)) = true := by
  rw [List.filter_eq_nil_iff, List.all_eq_true]
  refine forall_congr' fun c => forall_congr' fun hc => ?_
  simp [digC]
  omega
theorem int_s {ds : List Nat} (h : ds.all (fun c => decide (48 ≤ c) && decide (c ≤ 57)) = true) (hne : ds ≠ []) (hl : ds.length ≤ 600) : intD [.str (S ds)] = some (.val (.int (NumText.digitsVal ds : Nat))) := by
  show (if (S ds).length ≤ 640 then (PySem.intText? (S ds)).map fun n => Rs.val (.int n) else none) = _
  rw [if_pos (by rw [S_len]; omega), int_S h hne (by omega)]
  rfl
def badC (L c : Nat) (ds : List Nat) : Prop := c ∉ [97, 98, 99].take L ∨ ds = [] ∨ 6 < ds.length ∨ (ds.filter fun x => !decide (x ∈ digC)) ≠ [] ∨ (ds.head? = some 48 ∧ ds ≠ [48])
theorem stepC_bad {L c : Nat} {ds : List Nat} (h : badC L c ds) : stepC L (c :: ds) = none := if_pos h
theorem stepC_good {L c : Nat} {ds : List Nat} (h : ¬ badC L c ds) : stepC L (c :: ds) = some (S [c], (NumText.digitsVal ds : Int)) := if_neg h
theorem read_step_ok (L : Nat) (cs : List Nat) (hcs : cs.length ≤ 1000) : D_read_step [.val (.int L), .val (.str (S cs))] [] = some (.ok (.val (optD (stepC L cs))), []) := by
  cases cs with
  | nil =>
    refine runD_ret (st := [.own (.val (.int L)), .own (.val (.str (S []))), .un, .un]) ?_ rfl
    have f1 := sl_to (a := []) (i := 1) (by omega) (by simp)
    have f2 := eq_nil_S []
    obtain ⟨w, hw⟩ : ∃ w, w = S [] := ⟨_, rfl⟩
    rw [show List.take (Int.toNat 1) ([] : List Nat) = [] from rfl, ← hw] at f1
    rw [← hw] at f2 ⊢
    unfold B_read_step
    obtain ⟨C, hC⟩ : ∃ W, W = C1_read_step := ⟨_, rfl⟩
    rw [← hC]
    simp [f1, f2]
    rfl
  | cons c ds =>
    simp only [List.length_cons] at hcs
    have f1 := sl_to (a := c :: ds) (i := 1) (by omega) (by simp; omega)
    have f2 := eq_nil_S [c]
    have f3 := ix_str (a := c :: ds) (i := 0) (by simp; omega) atI_zero
    have f4 := sl_to (a := [97, 98, 99]) (i := (L : Int)) (by omega) (by simp)
    have f5 := notIn_chr ([97, 98, 99].take L) c
    have f6 := sl_from (a := c :: ds) (i := 1) (by omega) (by simp; omega)
    have f7 := eq_nil_S ds
    have f8 := len_str (a := ds) (by omega)
    have f12 := eq_zero_S ds
    rw [show List.take (Int.toNat 1) (c :: ds) = [c] from rfl] at f1
    rw [show (L : Int).toNat = L by simp, ← abc_S] at f4
    rw [show List.drop (Int.toNat 1) (c :: ds) = ds from rfl] at f6
    have f9 : C1_read_step [.own (.val (.int L)), .own (.val (.str (S (c :: ds)))), .own (.val (.str (S ds))), .un] = some (.ok (.lst ((ds.filter fun x => !decide (x ∈ digC)).map fun c => PyData.str (S [c]))), [.own (.val (.int L)), .own (.val (.str (S (c :: ds)))), .own (.val (.str (S ds))), .un]) := by
      unfold C1_read_step
      rw [nodig_comp (ds := ds) (st1 := [.own (.val (.int L)), .own (.val (.str (S (c :: ds)))), .own (.val (.str (S ds))), .un]) (by omega) (by simp) (by simp) (by simp) (by simp)]
      simp
    have f13 := fun h1 h2 => int_s (ds := ds) (h1 : _ = true) h2
    obtain ⟨w, hw⟩ : ∃ w, w = S (c :: ds) := ⟨_, rfl⟩
    obtain ⟨w1, hw1⟩ : ∃ w, w = S [c] := ⟨_, rfl⟩
    obtain ⟨A, hA⟩ : ∃ w, w = S ([97, 98, 99].take L) := ⟨_, rfl⟩
    obtain ⟨C, hC⟩ : ∃ W, W = C1_read_step := ⟨_, rfl⟩
    rw [← hC] at f9
    rw [← hw] at f1 f3 f6 f9 ⊢
    rw [← hw1] at f1 f2 f3 f5
    rw [← hA] at f4 f5
    obtain ⟨r, hr⟩ : ∃ w, w = S ds := ⟨_, rfl⟩
    rw [← hr] at f6 f7 f8 f9 f12 f13
    obtain ⟨m, hm⟩ : ∃ m : Int, m = ds.length := ⟨_, rfl⟩
    rw [← hm] at f8
    obtain ⟨N, hN⟩ : ∃ N, N = ds.filter fun x => !decide (x ∈ digC) := ⟨_, rfl⟩
    rw [← hN] at f9
    by_cases k1 : c ∈ [97, 98, 99].take L
    · by_cases k2 : ds = []
      · rw [stepC_bad (.inr (.inl k2))]
        refine runD_ret (st := [.own (.val (.int L)), .own (.val (.str w)), .own (.val (.str r)), .un]) ?_ rfl
        unfold B_read_step
        rw [← hC]
        simp [f1, f2, f3, f4, f5, k1, f6, f7, k2]
        rfl
      · by_cases k3 : 6 < ds.length
        · have k3i : 6 < m := by omega
          rw [stepC_bad (.inr (.inr (.inl k3)))]
          refine runD_ret (st := [.own (.val (.int L)), .own (.val (.str w)), .own (.val (.str r)), .un]) ?_ rfl
          unfold B_read_step
          rw [← hC]
          simp [f1, f2, f3, f4, f5, k1, f6, f7, k2, f8, k3i]
          rfl
        · have k3i : ¬ 6 < m := by omega
          by_cases k4 : N = []
          · obtain ⟨d, ds', rfl⟩ : ∃ d ds', ds = d :: ds' := by
              cases ds with
              | nil => exact absurd rfl k2
              | cons d ds' => exact ⟨d, ds', rfl⟩
            have f14 := ix_str (a := d :: ds') (i := 0) (by omega) atI_zero
            have f15 := eq_zero_S [d]
            obtain ⟨h, hh⟩ : ∃ w, w = S [d] := ⟨_, rfl⟩
            rw [← hr, ← hh] at f14
            rw [← hh] at f15
            by_cases k5 : d = 48 ∧ d :: ds' ≠ [48]
            · rw [stepC_bad (.inr (.inr (.inr (.inr ⟨by rw [k5.1]; rfl, k5.2⟩))))]
              refine runD_ret (st := [.own (.val (.int L)), .own (.val (.str w)), .own (.val (.str r)), .un]) ?_ rfl
              unfold B_read_step
              rw [← hC]
              have k6 : ds' ≠ [] := fun e => k5.2 (by rw [k5.1, e])
              simp [f1, f2, f3, f4, f5, k1, f6, f7, f8, k3i, f9, k4, f14, f15, k5.1, f12, k6]
              rfl
            · have g : ¬ badC L c (d :: ds') := by
                rintro (z | z | z | z | z)
                · exact z k1
                · exact k2 z
                · exact k3 z
                · exact z (by rw [← hN]; exact k4)
                · exact k5 ⟨by simpa using z.1, z.2⟩
              have f16 := f13 (nodig_iff.mp (by rw [← hN]; exact k4)) k2 (by omega)
              rw [stepC_good g, ← hw1]
              obtain ⟨v, hv⟩ : ∃ v : Int, v = (NumText.digitsVal (d :: ds') : Nat) := ⟨_, rfl⟩
              rw [← hv] at f16 ⊢
              refine runD_ret (st := [.own (.val (.int L)), .own (.val (.str w)), .own (.val (.str r)), .un]) ?_ rfl
              unfold B_read_step
              rw [← hC]
              by_cases k7 : d = 48
              · have k8 : ds' = [] := Classical.byContradiction fun e => k5 ⟨k7, by simp [k7, e]⟩
                simp [f1, f2, f3, f4, f5, k1, f6, f7, f8, k3i, f9, k4, f14, f15, k7, f12, k8, f16]
                rfl
              · simp [f1, f2, f3, f4, f5, k1, f6, f7, f8, k3i, f9, k4, f14, f15, k7, f12, f16]
                rfl
          · rw [stepC_bad (.inr (.inr (.inr (.inl (by rw [← hN]; exact k4)))))]
            refine runD_ret (st := [.own (.val (.int L)), .own (.val (.str w)), .own (.val (.str r)), .un]) ?_ rfl
            unfold B_read_step
            rw [← hC]
            have k5 : 0 < N.length := List.length_pos_iff.mpr k4
            have k5i : (0 : Int) < N.length := by omega
            simp [f1, f2, f3, f4, f5, k1, f6, f7, k2, f8, k3i, f9, k5i, k5]
            rfl
    · rw [stepC_bad (.inl k1)]
      refine runD_ret (st := [.own (.val (.int L)), .own (.val (.str w)), .un, .un]) ?_ rfl
      unfold B_read_step
      rw [← hC]
      simp [f1, f2, f3, f4, f5, k1]
      rfl
end DY

namespace DY
open PySem PySem.Spec PySem.Calls PyProof.Rows L2 SX
theorem law_step_ok (L : Nat) (cs : List Nat) (hcs : cs.length ≤ 1000) : D__law_step [.val (.int L), .val (.str (S cs))] [] = some (.ok (.val (optD (stepC L cs))), []) := by
  cases cs with
  | nil =>
    refine runD_ret (st := [.own (.val (.int L)), .own (.val (.str (S []))), .un]) ?_ rfl
    have f1 := sl_to (a := []) (i := 1) (by omega) (by simp)
    have f2 := eq_nil_S []
    obtain ⟨w, hw⟩ : ∃ w, w = S [] := ⟨_, rfl⟩
    rw [show List.take (Int.toNat 1) ([] : List Nat) = [] from rfl, ← hw] at f1
    rw [← hw] at f2 ⊢
    unfold B__law_step
    obtain ⟨C, hC⟩ : ∃ W, W = C1__law_step := ⟨_, rfl⟩
    rw [← hC]
    simp [f1, f2]
    rfl
  | cons c ds =>
    simp only [List.length_cons] at hcs
    have f1 := sl_to (a := c :: ds) (i := 1) (by omega) (by simp; omega)
    have f2 := eq_nil_S [c]
    have f3 := ix_str (a := c :: ds) (i := 0) (by simp; omega) atI_zero
    have f4 := sl_to (a := [97, 98, 99]) (i := (L : Int)) (by omega) (by simp)
    have f5 := notIn_chr ([97, 98, 99].take L) c
    have f6 := sl_from (a := c :: ds) (i := 1) (by omega) (by simp; omega)
    have f8 := len_str (a := c :: ds) (by simp; omega)
    rw [show List.take (Int.toNat 1) (c :: ds) = [c] from rfl] at f1
    rw [show (L : Int).toNat = L by simp, ← abc_S] at f4
    rw [show List.drop (Int.toNat 1) (c :: ds) = ds from rfl] at f6
    have f9 : C1__law_step [.own (.val (.int L)), .own (.val (.str (S (c :: ds)))), .un] = some (.ok (.lst ((ds.filter fun x => !decide (x ∈ digC)).map fun c => PyData.str (S [c]))), [.own (.val (.int L)), .own (.val (.str (S (c :: ds)))), .un]) := by
      unfold C1__law_step
      obtain ⟨w, hw⟩ : ∃ w, w = S (c :: ds) := ⟨_, rfl⟩
      rw [← hw] at f6 ⊢
      rw [nodig_comp (ds := ds) (st1 := [.own (.val (.int L)), .own (.val (.str w)), .un]) (by omega) (by simp [f6]) (by simp) (by simp) (by simp)]
      simp
    have f13 := fun h1 h2 => int_s (ds := ds) (h1 : _ = true) h2
    obtain ⟨w, hw⟩ : ∃ w, w = S (c :: ds) := ⟨_, rfl⟩
    obtain ⟨w1, hw1⟩ : ∃ w, w = S [c] := ⟨_, rfl⟩
    obtain ⟨A, hA⟩ : ∃ w, w = S ([97, 98, 99].take L) := ⟨_, rfl⟩
    obtain ⟨C, hC⟩ : ∃ W, W = C1__law_step := ⟨_, rfl⟩
    rw [← hC] at f9
    rw [← hw] at f1 f3 f6 f8 f9 ⊢
    rw [← hw1] at f1 f2 f3 f5
    rw [← hA] at f4 f5
    obtain ⟨r, hr⟩ : ∃ w, w = S ds := ⟨_, rfl⟩
    rw [← hr] at f6 f13
    obtain ⟨m, hm⟩ : ∃ m : Int, m = (c :: ds).length := ⟨_, rfl⟩
    rw [← hm] at f8
    simp only [List.length_cons] at hm
    obtain ⟨N, hN⟩ : ∃ N, N = ds.filter fun x => !decide (x ∈ digC) := ⟨_, rfl⟩
    rw [← hN] at f9
    have st0 : True := trivial
    by_cases k1 : c ∈ [97, 98, 99].take L
    · by_cases k2 : ds = []
      · rw [stepC_bad (.inr (.inl k2))]
        have k2i : m < 2 := by rw [hm, k2]; decide
        refine runD_ret (st := [.own (.val (.int L)), .own (.val (.str w)), .un]) ?_ rfl
        unfold B__law_step
        rw [← hC]
        simp [f1, f2, f3, f4, f5, k1, f8, k2i]
        rfl
      · have k2n : 0 < ds.length := List.length_pos_iff.mpr k2
        have k2i : ¬ m < 2 := by omega
        by_cases k3 : 6 < ds.length
        · have k3i : 7 < m := by omega
          rw [stepC_bad (.inr (.inr (.inl k3)))]
          refine runD_ret (st := [.own (.val (.int L)), .own (.val (.str w)), .un]) ?_ rfl
          unfold B__law_step
          rw [← hC]
          simp [f1, f2, f3, f4, f5, k1, f8, k2i, k3i]
          rfl
        · have k3i : ¬ 7 < m := by omega
          by_cases k4 : N = []
          · obtain ⟨d, ds', rfl⟩ : ∃ d ds', ds = d :: ds' := by
              cases ds with
              | nil => exact absurd rfl k2
              | cons d ds' => exact ⟨d, ds', rfl⟩
            have f14 := ix_str (a := c :: d :: ds') (i := 1) (c := d) (by simp; simp at hcs; omega) (by
              have z : atI (c :: d :: ds') ((1 : Nat) : Int) = some d := atI_nat rfl
              exact z)
            have f15 := eq_zero_S [d]
            obtain ⟨h, hh⟩ : ∃ w, w = S [d] := ⟨_, rfl⟩
            rw [← hw, ← hh] at f14
            rw [← hh] at f15
            by_cases k5 : d = 48 ∧ d :: ds' ≠ [48]
            · rw [stepC_bad (.inr (.inr (.inr (.inr ⟨by rw [k5.1]; rfl, k5.2⟩))))]
              refine runD_ret (st := [.own (.val (.int L)), .own (.val (.str w)), .un]) ?_ rfl
              unfold B__law_step
              rw [← hC]
              have k6 : 0 < ds'.length := List.length_pos_iff.mpr fun e => k5.2 (by rw [k5.1, e])
              have k7 : 2 < m := by rw [hm]; simp; omega
              simp [f1, f2, f3, f4, f5, k1, f8, k2i, k3i, f6, f9, k4, f14, f15, k5.1, k7]
              rfl
            · have g : ¬ badC L c (d :: ds') := by
                rintro (z | z | z | z | z)
                · exact z k1
                · exact k2 z
                · exact k3 z
                · exact z (by rw [← hN]; exact k4)
                · exact k5 ⟨by simpa using z.1, z.2⟩
              have f16 := f13 (nodig_iff.mp (by rw [← hN]; exact k4)) k2 (by omega)
              rw [stepC_good g, ← hw1]
              obtain ⟨v, hv⟩ : ∃ v : Int, v = (NumText.digitsVal (d :: ds') : Nat) := ⟨_, rfl⟩
              rw [← hv] at f16 ⊢
              refine runD_ret (st := [.own (.val (.int L)), .own (.val (.str w)), .un]) ?_ rfl
              unfold B__law_step
              rw [← hC]
              by_cases k7 : d = 48
              · have k8 : ds' = [] := Classical.byContradiction fun e => k5 ⟨k7, by simp [k7, e]⟩
                have k9 : ¬ 2 < m := by rw [hm, k8]; simp
                simp [f1, f2, f3, f4, f5, k1, f8, k2i, k3i, f6, f9, k4, f14, f15, k7, k9, f16]
                rfl
              · simp [f1, f2, f3, f4, f5, k1, f8, k2i, k3i, f6, f9, k4, f14, f15, k7, f16]
                rfl
          · rw [stepC_bad (.inr (.inr (.inr (.inl (by rw [← hN]; exact k4)))))]
            refine runD_ret (st := [.own (.val (.int L)), .own (.val (.str w)), .un]) ?_ rfl
            unfold B__law_step
            rw [← hC]
            have k5 : 0 < N.length := List.length_pos_iff.mpr k4
            simp [f1, f2, f3, f4, f5, k1, f8, k2i, k3i, f6, f9, k5]
            rfl
    · rw [stepC_bad (.inl k1)]
      refine runD_ret (st := [.own (.val (.int L)), .own (.val (.str w)), .un]) ?_ rfl
      unfold B__law_step
      rw [← hC]
      simp [f1, f2, f3, f4, f5, k1]
      rfl
end DY

namespace DY
open PySem PySem.Spec PySem.Calls PyProof.Rows L2 SX
theorem abc_code {L : Nat} {x : Str} (h : x ∈ abcL.take L) : ∃ c, x = S [c] ∧ c ∈ [97, 98, 99].take L := by
  have e : abcL.take L = ([97, 98, 99].take L).map fun c => S [c] := by
    rw [List.map_take]; rfl
  rw [e] at h
  obtain ⟨c, hc, rfl⟩ := List.mem_map.mp h
  exact ⟨c, rfl, hc⟩
theorem numS_S (n : Nat) : numS (n : Int) = S (TL.numL n) := num_S n
theorem stTx_S {L : Nat} {p : Str × Int} (h : p.1 ∈ abcL.take L) (h0 : 0 ≤ p.2) : ∃ c, c ∈ [97, 98, 99].take L ∧ p.1 = S [c] ∧ stTx p = S (c :: TL.numL p.2.toNat) := by
  obtain ⟨c, e, hc⟩ := abc_code h
  refine ⟨c, hc, e, ?_⟩
  have z : p.2 = ((p.2.toNat : Nat) : Int) := by omega
  unfold stTx
  have q : numS p.2 = S (TL.numL p.2.toNat) := by
    rw [← numS_S, ← z]
  rw [e, q, S_cat]
  rfl
theorem head_zero {n : Nat} (h : (TL.numL n).head? = some 48) : TL.numL n = [48] := by
  have key : ∀ k n : Nat, n < 10 ^ k → (TL.numL n).head? = some 48 → n = 0 := by
    intro k
    induction k with
    | zero => intro n hn _; omega
    | succ k ih =>
      intro n hn hh
      by_cases h10 : n < 10
      · rw [TL.numL_lt h10] at hh
        simp at hh
        omega
      · rw [TL.numL_step (by omega), List.head?_append] at hh
        have : n / 10 < 10 ^ k := by
          rw [Nat.pow_succ] at hn
          omega
        cases q : (TL.numL (n / 10)).head? with
        | none => exact absurd (List.head?_eq_none_iff.mp q) (TL.numL_ne _)
        | some d =>
          rw [q] at hh
          have := ih (n / 10) this (by rw [q]; simpa using hh)
          omega
  have := key n n (Nat.lt_pow_self (by omega)) h
  subst this
  rfl
theorem stepC_tx {L : Nat} {p : Str × Int} {c : Nat} (hc : c ∈ [97, 98, 99].take L) (e : p.1 = S [c]) (h : 0 ≤ p.2 ∧ p.2 < 1000000) : stepC L (c :: TL.numL p.2.toNat) = some p := by
  have hd := TL.numL_digits p.2.toNat
  have g : ¬ badC L c (TL.numL p.2.toNat) := by
    rintro (z | z | z | z | z)
    · exact z hc
    · exact TL.numL_ne _ z
    · have := TL.numL_len (n := p.2.toNat) (k := 6) (by omega) (by omega)
      omega
    · refine z (nodig_iff.mpr (List.all_eq_true.mpr fun d h => ?_))
      have := hd d h
      simp [this.1, this.2]
    · exact z.2 (head_zero z.1)
  rw [stepC_good g, TL.numL_val, ← e]
  have z : ((p.2.toNat : Nat) : Int) = p.2 := by omega
  rw [z]
end DY

namespace DY
open PySem PySem.Spec PySem.Calls PyProof.Rows L2 SX
/-- the first word that is no step -/
def FirstBad (L : Nat) (ws : List (List Nat)) (j : Nat) : Prop := ∃ r : Row, ∃ w rest, ws = ws.take j ++ w :: rest ∧ (ws.take j).map (stepC L) = r.map some ∧ (ws.take j).length = j ∧ stepC L w = none
def AllGood (L : Nat) (ws : List (List Nat)) (r : Row) : Prop := ws.map (stepC L) = r.map some
theorem good_or_bad (L : Nat) : ∀ ws : List (List Nat), (∃ r, AllGood L ws r) ∨ ∃ j, FirstBad L ws j
  | [] => .inl ⟨[], rfl⟩
  | w :: ws => by
    cases e : stepC L w with
    | none => exact .inr ⟨0, [], w, ws, rfl, rfl, rfl, e⟩
    | some p =>
      rcases good_or_bad L ws with ⟨r, h⟩ | ⟨j, r, v, rest, h1, h2, h3, h4⟩
      · exact .inl ⟨p :: r, by unfold AllGood at h ⊢; rw [List.map_cons, List.map_cons, h, e]⟩
      · exact .inr ⟨j + 1, p :: r, v, rest, by rw [List.take_succ_cons, List.cons_append, ← h1], by rw [List.take_succ_cons, List.map_cons, List.map_cons, h2, e], by rw [List.take_succ_cons, List.length_cons, h3], h4⟩
/-- a loop over a typed list that may end early -/
theorem sForE {α : Type} {w : Wk} {g : Tg} {b : M Fw} {st st1 : DS} {xs : List α} (inj : α → Dt) (F : List α → DS → Prop) (Q : Option (Except Exn Fw × DS) → Prop) (hw : w st = some (.ok (xs.map inj), st1)) (i : F [] st1) (h0 : ∀ st, F xs st → Q (some (.ok .nx, st)))
    (h : ∀ done x todo st, xs = done ++ x :: todo → F done st → ∃ st1, g (.val (inj x)) st = some st1 ∧ ((∃ st2 f, b st1 = some (.ok f, st2) ∧ (f = .nx ∨ f = .cnt) ∧ F (done ++ [x]) st2) ∨ (∃ st2 r, b st1 = some (.ok (.ret r), st2) ∧ Q (some (.ok (.ret r), st2))) ∨ ∃ st2 y, b st1 = some (.error y, st2) ∧ Q (some (.error y, st2)))) : Q (sFor w g b st) := by
  refine sFor_end (fun rem st => ∃ done todo, xs = done ++ todo ∧ rem = todo.map inj ∧ F done st) Q hw ⟨[], xs, rfl, rfl, i⟩ (fun st q => ?_) (fun d ds st q => ?_)
  · obtain ⟨done, todo, e1, e2, q⟩ := q
    have : todo = [] := by cases todo with | nil => rfl | cons x t => cases e2
    subst this
    rw [List.append_nil] at e1
    subst e1
    exact h0 st q
  · obtain ⟨done, todo, e1, e2, q⟩ := q
    cases todo with
    | nil => cases e2
    | cons x todo =>
      rw [List.map_cons] at e2
      cases e2
      obtain ⟨st1, z1, z2 | z2 | z2⟩ := h done x todo st e1 q
      · obtain ⟨st2, f, y1, y2, y3⟩ := z2
        exact ⟨st1, z1, .inl ⟨st2, f, y1, y2, done ++ [x], todo, by rw [e1]; simp, rfl, y3⟩⟩
      · exact ⟨st1, z1, .inr (.inl z2)⟩
      · exact ⟨st1, z1, .inr (.inr z2)⟩
end DY

namespace DY
open PySem PySem.Spec PySem.Calls PyProof.Rows L2 SX
theorem range_at {n x : Nat} {done todo : List Nat} (h : List.range n = done ++ x :: todo) : x = done.length ∧ x < n := by
  have e : (List.range n)[done.length]? = some x := by rw [h]; simp
  have hl : done.length < n := by
    have := congrArg List.length h
    simp at this
    omega
  rw [List.getElem?_range hl] at e
  cases e
  exact ⟨rfl, hl⟩
theorem raise_s (nm f : Str) (ma : M Rs) {o : Ow} {st st' : DS} (h : ma st = some (.ok (.ow o), st')) : sRaise nm f ma st = some (.error ⟨nm, [(f, o.frz)]⟩, st') := by
  unfold sRaise M.b
  rw [h]
  rfl
def wsD (ws : List (List Nat)) : List Dt := ws.map fun w => .str (S w)
theorem read_loop (L : Nat) (T : Str) (ws : List (List Nat)) (hn : ws.length ≤ 100000) (hw : ∀ w ∈ ws, w.length ≤ 1000) :
    (∃ r x y, AllGood L ws r ∧ L2_read_row [.own (.val (.int L)), .own (.val (.str T)), .own (.lst []), .own (.lst (wsD ws)), .un, .un] = some (.ok .nx, [.own (.val (.int L)), .own (.val (.str T)), .own (.lst (r.map stD)), .own (.lst (wsD ws)), x, y])) ∨
    ∃ j st, FirstBad L ws j ∧ st.length = 6 ∧ L2_read_row [.own (.val (.int L)), .own (.val (.str T)), .own (.lst []), .own (.lst (wsD ws)), .un, .un] = some (.error ⟨"BadStep", [("index", .int (j : Nat))]⟩, st) := by
  unfold L2_read_row
  refine sForE (w := wRng1 (aCons (eLenS 3) aNil)) (st := [.own (.val (.int L)), .own (.val (.str T)), .own (.lst []), .own (.lst (wsD ws)), .un, .un]) (xs := List.range ws.length) (fun i : Nat => PyData.int i) (fun done st => ∃ (r : Row) (x y : Sl), (ws.take done.length).map (stepC L) = r.map some ∧ r.length = done.length ∧ st = [.own (.val (.int L)), .own (.val (.str T)), .own (.lst (r.map stD)), .own (.lst (wsD ws)), x, y])
    (fun o => (∃ r x y, AllGood L ws r ∧ o = some (.ok .nx, [.own (.val (.int L)), .own (.val (.str T)), .own (.lst (r.map stD)), .own (.lst (wsD ws)), x, y])) ∨ ∃ j st, FirstBad L ws j ∧ st.length = 6 ∧ o = some (.error ⟨"BadStep", [("index", .int (j : Nat))]⟩, st))
    (st1 := [.own (.val (.int L)), .own (.val (.str T)), .own (.lst []), .own (.lst (wsD ws)), .un, .un]) (by rw [← ints_range]; exact wRng1_n (by simp [wsD]) (by omega)) ⟨[], .un, .un, by simp, rfl, rfl⟩ ?_ ?_
  · rintro st ⟨r, x, y, h1, h2, rfl⟩
    rw [List.length_range, List.take_length] at h1
    exact .inl ⟨r, x, y, h1, rfl⟩
  · rintro done i todo st hd ⟨r, x, y, h1, h2, rfl⟩
    obtain ⟨hi, hin⟩ := range_at hd
    have h1' : (ws.take i).map (stepC L) = r.map some := by rw [hi]; exact h1
    have hg : ws[i]? = some ws[i] := List.getElem?_eq_getElem hin
    have f1 : ixD (.list (wsD ws)) (.int (i : Int)) = some (.val (.str (S ws[i]))) := ix_list (atI_map (fun w => PyData.str (S w)) (atI_nat hg))
    have f2 := read_step_ok L ws[i] (hw _ (List.getElem_mem hin))
    have ht : ws.take (i + 1) = ws.take i ++ [ws[i]] := by rw [List.take_succ, hg]; rfl
    obtain ⟨w, hw'⟩ : ∃ w, w = S ws[i] := ⟨_, rfl⟩
    obtain ⟨G, hG⟩ : ∃ W, W = D_read_step := ⟨_, rfl⟩
    rw [← hw'] at f1 f2
    rw [← hG] at f2
    refine ⟨[.own (.val (.int L)), .own (.val (.str T)), .own (.lst (r.map stD)), .own (.lst (wsD ws)), .own (.val (.int i)), y], by simp, ?_⟩
    cases e : stepC L ws[i] with
    | none =>
      rw [e] at f2
      refine .inr (.inr ⟨[.own (.val (.int L)), .own (.val (.str T)), .own (.lst (r.map stD)), .own (.lst (wsD ws)), .own (.val (.int i)), .own (.val .none)], ⟨"BadStep", [("index", .int (i : Nat))]⟩, ?_, .inr ⟨i, _, ⟨r, ws[i], ws.drop (i + 1), ?_, by rw [hi]; exact h1, by simp; omega, e⟩, rfl, rfl⟩⟩)
      · unfold LB1_read_row
        rw [← hG]
        have rs := raise_s "BadStep" "index" (eVar 4) (o := .val (.int i)) (st := [.own (.val (.int L)), .own (.val (.str T)), .own (.lst (r.map stD)), .own (.lst (wsD ws)), .own (.val (.int i)), .own (.val .none)]) (st' := [.own (.val (.int L)), .own (.val (.str T)), .own (.lst (r.map stD)), .own (.lst (wsD ws)), .own (.val (.int i)), .own (.val .none)]) (by simp)
        obtain ⟨R, hR⟩ : ∃ R, R = sRaise "BadStep" "index" (eVar 4) := ⟨_, rfl⟩
        rw [← hR] at rs ⊢
        simp [f1, call_s f2, optD, rs]
      · rw [← List.drop_eq_getElem_cons hin, List.take_append_drop]
    | some p =>
      rw [e] at f2
      refine .inl ⟨[.own (.val (.int L)), .own (.val (.str T)), .own (.lst ((r ++ [p]).map stD)), .own (.lst (wsD ws)), .own (.val (.int i)), .own (.val (stD p))], .nx, ?_, .inl rfl, r ++ [p], _, _, ?_, by simp [h2], rfl⟩
      · unfold LB1_read_row
        rw [← hG]
        have hl : r.length < 16777216 := by omega
        have nn : isNonD (stD p) = false := rfl
        obtain ⟨R, hR⟩ : ∃ R, R = sRaise "BadStep" "index" (eVar 4) := ⟨_, rfl⟩
        rw [← hR]
        simp [f1, call_s f2, optD, nn, hl]
      · rw [List.length_append, List.length_singleton, ← hi, ht, List.map_append, h1']
        simp [e]
end DY

namespace DY
open PySem PySem.Spec PySem.Calls PyProof.Rows L2 SX
theorem split_s {T b : Str} {ws : List (List Nat)} (hb : (b.length == 0) = false) (hl : T.length ≤ 1000000) (h : Txt.split T b = ws.map S) : splitF (.val (.str T)) [.ow (.val (.str b))] = some (.val (.str T), .lst (wsD ws)) := by
  show (if (b.length == 0) = false ∧ T.length + 2 ≤ lenLine then some (Ow.val (.str T), Rs.lst ((Txt.split T b).map PyData.str)) else none) = _
  rw [if_pos ⟨hb, by rw [lenLine_val]; omega⟩, h, List.map_map]
  rfl
theorem read_row_ok (L : Nat) (T : Str) (ws : List (List Nat)) (hT : (T == ("" : Str)) = false) (hTl : T.length ≤ 1000000) (hs : Txt.split T " " = ws.map S) (hn : ws.length ≤ 100000) (hw : ∀ w ∈ ws, w.length ≤ 1000) :
    (∃ r, AllGood L ws r ∧ D_read_row [.val (.int L), .val (.str T)] [] = some (.ok (.val (rowD r)), [])) ∨ ∃ j, FirstBad L ws j ∧ D_read_row [.val (.int L), .val (.str T)] [] = some (.error ⟨"BadStep", [("index", .int (j : Nat))]⟩, []) := by
  have sp := split_s (b := " ") rfl hTl hs
  have q := read_loop L T ws hn hw
  obtain ⟨W, hW⟩ : ∃ W, W = L2_read_row := ⟨_, rfl⟩
  rw [← hW] at q
  rcases q with ⟨r, x, y, g, e⟩ | ⟨j, st, g, hl, e⟩
  · refine .inl ⟨r, g, runD_ret (st := [.own (.val (.int L)), .own (.val (.str T)), .own (.val (.list (r.map stD))), .own (.lst (wsD ws)), x, y]) ?_ rfl⟩
    unfold B_read_row
    rw [← hW]
    simp [hT, sp, e]
    rfl
  · refine .inr ⟨j, g, runD_err (st := st) ?_ hl⟩
    unfold B_read_row
    rw [← hW]
    simp [hT, sp, e]
end DY

namespace DY
open PySem PySem.Spec PySem.Calls PyProof.Rows L2 SX
theorem read_comp (L : Nat) (T : Str) (ws : List (List Nat)) (hTl : T.length ≤ 1000000) (hs : Txt.split T " " = ws.map S) (hn : ws.length ≤ 100000) (hw : ∀ w ∈ ws, w.length ≤ 1000) :
    C1__law_read [.own (.val (.int L)), .own (.val (.str T)), .un, .un] = some (.ok (.lst (ws.map fun w => optD (stepC L w))), [.own (.val (.int L)), .own (.val (.str T)), .un, .un]) := by
  have sp := split_s (b := " ") rfl hTl hs
  have := eLcY (own := [3]) (w := (wVal (eMt "str" 1 splitF (aCons (eC (.str " ")) aNil)))) (g := gN 3) (e := (eCall D__law_step (agV (eVar 0) (agV (eVar 3) agNil)))) (st := [.own (.val (.int L)), .own (.val (.str T)), .un, .un]) (st1 := [.own (.val (.int L)), .own (.val (.str T)), .un, .un]) (xs := ws)
    (fun w => PyData.str (S w)) (fun w => optD (stepC L w)) (by simp [sp, wsD]) (by rw [lenLine_val]; omega)
    (fun w hw' => ⟨[.own (.val (.int L)), .own (.val (.str T)), .un, .own (.val (.str (S w)))], by simp, _, [.own (.val (.int L)), .own (.val (.str T)), .un, .own (.val (.str (S w)))], by
      have f := law_step_ok L w (hw w hw')
      obtain ⟨G, hG⟩ : ∃ W, W = D__law_step := ⟨_, rfl⟩
      obtain ⟨z, hz⟩ : ∃ z, z = S w := ⟨_, rfl⟩
      rw [← hG, ← hz] at f
      rw [← hG, ← hz]
      simp [call_s f]
      rfl, rfl, by simp⟩)
  unfold C1__law_read
  rw [this]
  simp
end DY

namespace DY
open PySem PySem.Spec PySem.Calls PyProof.Rows L2 SX
theorem plain_opt (o : Option (Str × Int)) : (optD o).plain = true := by cases o <;> rfl
theorem plain_opts {α : Type} (f : α → Option (Str × Int)) (ws : List α) : PyData.plainAll (ws.map fun w => optD (f w)) = true := by
  induction ws with
  | nil => rfl
  | cons w ws ih => rw [List.map_cons, PyData.plainAll, plain_opt, ih]; rfl
theorem eqv_optN (o : Option (Str × Int)) : PyData.eqv (optD o) .none = o.isNone := by cases o <;> rfl
theorem inOk_optN {α : Type} (f : α → Option (Str × Int)) (ws : List α) : inOk .none (.list (ws.map fun w => optD (f w))) = true := by
  show (PyData.plain .none && PyData.plainAll (ws.map fun w => optD (f w)) && decide (min (PyData.depthAll (ws.map fun w => optD (f w))) (PyData.depth .none) ≤ 60)) = true
  rw [plain_opts]
  have e : PyData.depth .none = 0 := rfl
  rw [e, Nat.min_zero]
  rfl
theorem in_optN {α : Type} (f : α → Option (Str × Int)) (ws : List α) : inD .none (.list (ws.map fun w => optD (f w))) = some (.val (.bool (ws.any fun w => (f w).isNone))) := by
  show (if inOk .none (.list (ws.map fun w => optD (f w))) = true then some (Rs.val (.bool ((ws.map fun w => optD (f w)).any fun y => PyData.eqv y .none))) else none) = _
  rw [if_pos (inOk_optN f ws), List.any_map]
  congr 4
  funext w
  exact eqv_optN (f w)
end DY

namespace DY
open PySem PySem.Spec PySem.Calls PyProof.Rows L2 SX
theorem any_bad {L : Nat} {ws : List (List Nat)} {r : Row} (h : AllGood L ws r) : (ws.any fun w => (stepC L w).isNone) = false := by
  rw [List.any_eq_false]
  intro w hw
  have : stepC L w ∈ r.map some := by rw [← h]; exact List.mem_map_of_mem hw
  obtain ⟨p, _, e⟩ := List.mem_map.mp this
  rw [← e]
  simp
theorem any_good {L : Nat} {ws : List (List Nat)} {j : Nat} (h : FirstBad L ws j) : (ws.any fun w => (stepC L w).isNone) = true := by
  obtain ⟨r, w, rest, h1, h2, h3, h4⟩ := h
  rw [h1]
  simp [h4]
theorem idx_bad {L : Nat} {ws : List (List Nat)} {j : Nat} (h : FirstBad L ws j) : idxD (ws.map fun w => optD (stepC L w)) .none = some j := by
  obtain ⟨r, w, rest, h1, h2, h3, h4⟩ := h
  unfold idxD
  have e : (ws.take j).findIdx? (fun w => (stepC L w).isNone) = none := by
    rw [List.findIdx?_eq_none_iff]
    intro v hv
    have : stepC L v ∈ r.map some := by rw [← h2]; exact List.mem_map_of_mem hv
    obtain ⟨p, _, e⟩ := List.mem_map.mp this
    rw [← e]
    rfl
  rw [List.findIdx?_map, show ((fun z => PyData.eqv z .none) ∘ fun w => optD (stepC L w)) = fun w => (stepC L w).isNone from funext fun w => eqv_optN _, h1, List.findIdx?_append, e, h3, List.findIdx?_cons]
  simp [h4]
end DY

namespace DY
open PySem PySem.Spec PySem.Calls PyProof.Rows L2 SX
theorem index_bad {L : Nat} {ws : List (List Nat)} {j : Nat} (h : FirstBad L ws j) : indexF (.lst (ws.map fun w => optD (stepC L w))) [.ow (.val .none)] = some (.lst (ws.map fun w => optD (stepC L w)), .val (.int (j : Nat))) := by
  have z : indexOk (ws.map fun w => optD (stepC L w)) .none = true := inOk_optN (stepC L) ws
  show (if indexOk (ws.map fun w => optD (stepC L w)) .none = true then (idxD (ws.map fun w => optD (stepC L w)) .none).map fun (j : Nat) => (Ow.lst (ws.map fun w => optD (stepC L w)), Rs.val (.int j)) else none) = _
  rw [if_pos z, idx_bad h]
  rfl
theorem opts_good {L : Nat} {ws : List (List Nat)} {r : Row} (h : AllGood L ws r) : (ws.map fun w => optD (stepC L w)) = r.map stD := by
  have e : (ws.map (stepC L)).map optD = (r.map some).map optD := by rw [h]
  rw [List.map_map, List.map_map] at e
  exact e
end DY

namespace DY
open PySem PySem.Spec PySem.Calls PyProof.Rows L2 SX
/-- what a text read as a row tells: the row, or where it is bad -/
def toldD (r : Row ⊕ Nat) : Rs := match r with | .inl r => .val (rowD r) | .inr j => .lst [.int 0, .int (j : Nat)]
theorem law_read_good {L : Nat} {T : Str} {ws : List (List Nat)} {r : Row} (hT : (T == ("" : Str)) = false) (hTl : T.length ≤ 1000000) (hs : Txt.split T " " = ws.map S) (hn : ws.length ≤ 100000) (hw : ∀ w ∈ ws, w.length ≤ 1000) (g : AllGood L ws r) :
    D__law_read [.val (.int L), .val (.str T)] [] = some (.ok (.val (rowD r)), []) := by
  have e := read_comp L T ws hTl hs hn hw
  have n := in_optN (stepC L) ws
  rw [any_bad g] at n
  rw [opts_good g] at n e
  obtain ⟨C, hC⟩ : ∃ W, W = C1__law_read := ⟨_, rfl⟩
  rw [← hC] at e
  refine runD_ret (st := [.own (.val (.int L)), .own (.val (.str T)), .own (.val (.list (r.map stD))), .un]) ?_ rfl
  unfold B__law_read
  rw [← hC]
  simp [hT, e, n]
  rfl
theorem law_read_bad {L : Nat} {T : Str} {ws : List (List Nat)} {j : Nat} (hT : (T == ("" : Str)) = false) (hTl : T.length ≤ 1000000) (hs : Txt.split T " " = ws.map S) (hn : ws.length ≤ 100000) (hw : ∀ w ∈ ws, w.length ≤ 1000) (g : FirstBad L ws j) :
    D__law_read [.val (.int L), .val (.str T)] [] = some (.ok (.lst [.int 0, .int (j : Nat)]), []) := by
  have e := read_comp L T ws hTl hs hn hw
  have n := in_optN (stepC L) ws
  rw [any_good g] at n
  have ix := index_bad g
  obtain ⟨Z, hZ⟩ : ∃ Z, Z = ws.map fun w => optD (stepC L w) := ⟨_, rfl⟩
  obtain ⟨C, hC⟩ : ∃ W, W = C1__law_read := ⟨_, rfl⟩
  rw [← hC, ← hZ] at e
  rw [← hZ] at n ix
  refine runD_ret (st := [.own (.val (.int L)), .own (.val (.str T)), .own (.lst Z), .un]) ?_ rfl
  unfold B__law_read
  rw [← hC]
  simp [hT, e, n, ix]
end DY

namespace DY
open PySem PySem.Spec PySem.Calls PyProof.Rows L2 SX
theorem call_e {f : Fn} {as : List Ar} {x : Exn} {st : DS} {l : List Ag} (hf : f as [] = some (.error x, [])) (hl : agArs l 0 = some (as, [])) : callF f l st = some (.error x, st) := by
  unfold callF
  rw [hl]
  show (match f as [] with | some (.ok r, rs') => some (Except.ok r, putS [] rs' st st) | some (.error x, rs') => some (Except.error x, putS [] rs' st st) | none => none) = some (Except.error x, st)
  rw [hf]
  rfl
theorem try_ok {i : Nat} {hit : Str → Option Bool} {m : M Fw} {su : Exn → M Fw} {st st1 : DS} {f : Fw} (h : m st = some (.ok f, st1)) : sTryAs i hit m su st = some (.ok f, st1) := by
  unfold sTryAs
  rw [h]
theorem try_hit {i : Nat} {hit : Str → Option Bool} {m : M Fw} {su : Exn → M Fw} {st st1 st2 st3 : DS} {x : Exn} {f : Fw} (h : m st = some (.error x, st1)) (hh : hit x.nm = some true) (hs : su x (enterS i st1) = some (.ok f, st2)) (hl : leaveS i st2 = some st3) : sTryAs i hit m su st = some (.ok f, st3) := by
  unfold sTryAs
  rw [h]
  dsimp only
  rw [hh]
  dsimp only
  rw [hs]
  dsimp only
  rw [hl]
end DY

namespace DY
open PySem PySem.Spec PySem.Calls PyProof.Rows L2 SX
/-- what _law_told gives when the reader answers -/
theorem told_ok {wh : Int} {L : Nat} {T : Str} {o : Ow} (h : (if wh = 0 then D_read_row else D_read_rows) [.val (.int L), .val (.str T)] [] = some (.ok (.ow o), [])) :
    D__law_told [.val (.int wh), .val (.int L), .val (.str T)] [] = some (.ok (.ow o), []) := by
  refine runD_ret (st := [.own (.val (.int wh)), .own (.val (.int L)), .own (.val (.str T)), .un]) ?_ rfl
  unfold B__law_told
  obtain ⟨G, hG⟩ : ∃ W, W = D_read_row := ⟨_, rfl⟩
  obtain ⟨G', hG'⟩ : ∃ W, W = D_read_rows := ⟨_, rfl⟩
  rw [← hG, ← hG'] at h ⊢
  refine try_ok ?_
  by_cases k : wh = 0
  · rw [if_pos k] at h
    simp [k, call_s h]
  · rw [if_neg k] at h
    simp [k, call_s h]
theorem told_step {L : Nat} {T : Str} {j : Nat} (h : D_read_row [.val (.int L), .val (.str T)] [] = some (.error ⟨"BadStep", [("index", .int (j : Nat))]⟩, [])) :
    D__law_told [.val (.int 0), .val (.int L), .val (.str T)] [] = some (.ok (.lst [.int 0, .int (j : Nat)]), []) := by
  refine runD_ret (st := [.own (.val (.int 0)), .own (.val (.int L)), .own (.val (.str T)), .un]) ?_ rfl
  unfold B__law_told
  obtain ⟨G, hG⟩ : ∃ W, W = D_read_row := ⟨_, rfl⟩
  obtain ⟨G', hG'⟩ : ∃ W, W = D_read_rows := ⟨_, rfl⟩
  rw [← hG] at h
  rw [← hG, ← hG']
  refine try_hit (st1 := [.own (.val (.int 0)), .own (.val (.int L)), .own (.val (.str T)), .un]) (st2 := [.own (.val (.int 0)), .own (.val (.int L)), .own (.val (.str T)), .brw 4, .un]) (by simp [call_e h]; rfl) rfl ?_ rfl
  rfl
theorem told_line {L : Nat} {T : Str} {j : Nat} (h : D_read_rows [.val (.int L), .val (.str T)] [] = some (.error ⟨"BadLine", [("line", .int (j : Nat))]⟩, [])) :
    D__law_told [.val (.int 1), .val (.int L), .val (.str T)] [] = some (.ok (.lst [.int 1, .int (j : Nat)]), []) := by
  refine runD_ret (st := [.own (.val (.int 1)), .own (.val (.int L)), .own (.val (.str T)), .un]) ?_ rfl
  unfold B__law_told
  obtain ⟨G, hG⟩ : ∃ W, W = D_read_row := ⟨_, rfl⟩
  obtain ⟨G', hG'⟩ : ∃ W, W = D_read_rows := ⟨_, rfl⟩
  rw [← hG'] at h
  rw [← hG, ← hG']
  refine try_hit (st1 := [.own (.val (.int 1)), .own (.val (.int L)), .own (.val (.str T)), .un]) (st2 := [.own (.val (.int 1)), .own (.val (.int L)), .own (.val (.str T)), .brw 4, .un]) (by simp [call_e h]; rfl) rfl ?_ rfl
  rfl
end DY

namespace DY
open PySem PySem.Spec PySem.Calls PyProof.Rows L2 SX
/-- a text split in small words -/
structure Words (T : Str) (ws : List (List Nat)) : Prop where
  ne : (T == ("" : Str)) = false
  len : T.length ≤ 1000000
  eq : Txt.split T " " = ws.map S
  cnt : ws.length ≤ 100000
  sm : ∀ w ∈ ws, w.length ≤ 1000
theorem line_comp {L : Nat} {T : Str} {ws : List (List Nat)} (h : Words T ws) (at_ : Dt) :
    C1_read_line [.own (.val (.int L)), .own (.val (.str T)), .own (.val at_), .un, .un] = some (.ok (.lst (ws.map fun w => optD (stepC L w))), [.own (.val (.int L)), .own (.val (.str T)), .own (.val at_), .un, .un]) := by
  have sp := split_s (b := " ") rfl h.len h.eq
  have := eLcY (own := [4]) (w := (wVal (eMt "str" 1 splitF (aCons (eC (.str " ")) aNil)))) (g := gN 4) (e := (eCall D_read_step (agV (eVar 0) (agV (eVar 4) agNil)))) (st := [.own (.val (.int L)), .own (.val (.str T)), .own (.val at_), .un, .un]) (st1 := [.own (.val (.int L)), .own (.val (.str T)), .own (.val at_), .un, .un]) (xs := ws)
    (fun w => PyData.str (S w)) (fun w => optD (stepC L w)) (by simp [sp, wsD]) (by rw [lenLine_val]; have := h.cnt; omega)
    (fun w hw' => ⟨[.own (.val (.int L)), .own (.val (.str T)), .own (.val at_), .un, .own (.val (.str (S w)))], by simp, _, [.own (.val (.int L)), .own (.val (.str T)), .own (.val at_), .un, .own (.val (.str (S w)))], by
      have f := read_step_ok L w (h.sm w hw')
      obtain ⟨G, hG⟩ : ∃ W, W = D_read_step := ⟨_, rfl⟩
      obtain ⟨z, hz⟩ : ∃ z, z = S w := ⟨_, rfl⟩
      rw [← hG, ← hz] at f
      rw [← hG, ← hz]
      simp [call_s f]
      rfl, rfl, by simp⟩)
  unfold C1_read_line
  rw [this]
  simp
theorem read_line_good {L : Nat} {T : Str} {ws : List (List Nat)} {r : Row} (h : Words T ws) (g : AllGood L ws r) (at_ : Int) :
    D_read_line [.val (.int L), .val (.str T), .val (.int at_)] [] = some (.ok (.val (rowD r)), []) := by
  have e := line_comp (L := L) h (.int at_)
  have n := in_optN (stepC L) ws
  rw [any_bad g] at n
  rw [opts_good g] at n e
  obtain ⟨C, hC⟩ : ∃ W, W = C1_read_line := ⟨_, rfl⟩
  rw [← hC] at e
  refine runD_ret (st := [.own (.val (.int L)), .own (.val (.str T)), .own (.val (.int at_)), .own (.val (.list (r.map stD))), .un]) ?_ rfl
  unfold B_read_line
  rw [← hC]
  simp [e, n]
  rfl
theorem read_line_bad {L : Nat} {T : Str} {ws : List (List Nat)} {j : Nat} (h : Words T ws) (g : FirstBad L ws j) (at_ : Int) :
    D_read_line [.val (.int L), .val (.str T), .val (.int at_)] [] = some (.error ⟨"BadLine", [("line", .int at_)]⟩, []) := by
  have e := line_comp (L := L) h (.int at_)
  have n := in_optN (stepC L) ws
  rw [any_good g] at n
  obtain ⟨Z, hZ⟩ : ∃ Z, Z = ws.map fun w => optD (stepC L w) := ⟨_, rfl⟩
  obtain ⟨C, hC⟩ : ∃ W, W = C1_read_line := ⟨_, rfl⟩
  rw [← hC, ← hZ] at e
  rw [← hZ] at n
  refine runD_err (st := [.own (.val (.int L)), .own (.val (.str T)), .own (.val (.int at_)), .own (.lst Z), .un]) ?_ rfl
  have rs := raise_s "BadLine" "line" (eVar 2) (o := .val (.int at_)) (st := [.own (.val (.int L)), .own (.val (.str T)), .own (.val (.int at_)), .own (.lst Z), .un]) (st' := [.own (.val (.int L)), .own (.val (.str T)), .own (.val (.int at_)), .own (.lst Z), .un]) (by simp)
  unfold B_read_line
  rw [← hC]
  obtain ⟨R, hR⟩ : ∃ R, R = sRaise "BadLine" "line" (eVar 2) := ⟨_, rfl⟩
  rw [← hR] at rs ⊢
  simp [e, n, rs]
end DY

namespace DY
open PySem PySem.Spec PySem.Calls PyProof.Rows L2 SX
def GoodLine (L : Nat) (T : Str) (r : Row) : Prop := (T = "-" ∧ r = []) ∨ (T ≠ "-" ∧ ∃ ws, Words T ws ∧ AllGood L ws r)
def BadLn (L : Nat) (T : Str) : Prop := T = "" ∨ (T ≠ "-" ∧ ∃ ws j, Words T ws ∧ FirstBad L ws j)
def lnD (ls : List Str) : List Dt := ls.map .str
/-- the body of read_rows' loop on a good line -/
theorem rows_good {L i : Nat} {T l : Str} {ls : List Str} {acc : List Dt} {r : Row} (hi : ls[i]? = some l) (hl : acc.length < 16777216) (g : GoodLine L l r) :
    LB1_read_rows [.own (.val (.int L)), .own (.val (.str T)), .own (.lst acc), .own (.lst (lnD ls)), .own (.val (.int i))] = some (.ok .nx, [.own (.val (.int L)), .own (.val (.str T)), .own (.lst (acc ++ [rowD r])), .own (.lst (lnD ls)), .own (.val (.int i))]) := by
  have f1 : ixD (.list (lnD ls)) (.int (i : Int)) = some (.val (.str l)) := ix_list (atI_map PyData.str (atI_nat hi))
  unfold LB1_read_rows
  obtain ⟨G, hG⟩ : ∃ W, W = D_read_line := ⟨_, rfl⟩
  obtain ⟨R, hR⟩ : ∃ R, R = sRaise "BadLine" "line" (eVar 4) := ⟨_, rfl⟩
  rw [← hG, ← hR]
  rcases g with ⟨e1, e2⟩ | ⟨e1, ws, h, g⟩
  · have n1 : (l == ("" : Str)) = false := by rw [e1]; rfl
    have n2 : (l == ("-" : Str)) = true := by rw [e1]; rfl
    simp [f1, n1, n2, hl, e2]
    rfl
  · have n1 := h.ne
    have n2 : (l == ("-" : Str)) = false := by simp [e1]
    have f2 := read_line_good h g i
    rw [← hG] at f2
    simp [f1, n1, n2, hl, call_s f2]
theorem rows_bad {L i : Nat} {T l : Str} {ls : List Str} {acc : List Dt} (hi : ls[i]? = some l) (g : BadLn L l) :
    LB1_read_rows [.own (.val (.int L)), .own (.val (.str T)), .own (.lst acc), .own (.lst (lnD ls)), .own (.val (.int i))] = some (.error ⟨"BadLine", [("line", .int i)]⟩, [.own (.val (.int L)), .own (.val (.str T)), .own (.lst acc), .own (.lst (lnD ls)), .own (.val (.int i))]) := by
  have f1 : ixD (.list (lnD ls)) (.int (i : Int)) = some (.val (.str l)) := ix_list (atI_map PyData.str (atI_nat hi))
  have rs := raise_s "BadLine" "line" (eVar 4) (o := .val (.int i)) (st := [.own (.val (.int L)), .own (.val (.str T)), .own (.lst acc), .own (.lst (lnD ls)), .own (.val (.int i))]) (st' := [.own (.val (.int L)), .own (.val (.str T)), .own (.lst acc), .own (.lst (lnD ls)), .own (.val (.int i))]) (by simp)
  unfold LB1_read_rows
  obtain ⟨G, hG⟩ : ∃ W, W = D_read_line := ⟨_, rfl⟩
  obtain ⟨R, hR⟩ : ∃ R, R = sRaise "BadLine" "line" (eVar 4) := ⟨_, rfl⟩
  rw [← hR] at rs
  rw [← hG, ← hR]
  rcases g with e1 | ⟨e1, ws, j, h, g⟩
  · have n1 : (l == ("" : Str)) = true := by rw [e1]; rfl
    simp [f1, n1, rs]
  · have n1 := h.ne
    have n2 : (l == ("-" : Str)) = false := by simp [e1]
    have f2 := read_line_bad h g i
    rw [← hG] at f2
    simp [f1, n1, n2, call_e f2]
end DY

namespace DY
open PySem PySem.Spec PySem.Calls PyProof.Rows L2 SX
theorem split_l {T b : Str} {ls : List Str} (hb : (b.length == 0) = false) (hl : T.length ≤ 1000000) (h : Txt.split T b = ls) : splitF (.val (.str T)) [.ow (.val (.str b))] = some (.val (.str T), .lst (lnD ls)) := by
  show (if (b.length == 0) = false ∧ T.length + 2 ≤ lenLine then some (Ow.val (.str T), Rs.lst ((Txt.split T b).map PyData.str)) else none) = _
  rw [if_pos ⟨hb, by rw [lenLine_val]; omega⟩, h]
  rfl
theorem rows_loop_good (L : Nat) (T : Str) (f : Row → Str) (rs : List Row) (hn : rs.length ≤ 100000) (hg : ∀ r ∈ rs, GoodLine L (f r) r) :
    ∃ x, L2_read_rows [.own (.val (.int L)), .own (.val (.str T)), .own (.lst []), .own (.lst (lnD (rs.map f))), .un] = some (.ok .nx, [.own (.val (.int L)), .own (.val (.str T)), .own (.lst (rs.map rowD)), .own (.lst (lnD (rs.map f))), x]) := by
  unfold L2_read_rows
  obtain ⟨st', e, q⟩ := sForT (g := gN 4) (b := LB1_read_rows) (w := wRng1 (aCons (eLenS 3) aNil)) (st := [.own (.val (.int L)), .own (.val (.str T)), .own (.lst []), .own (.lst (lnD (rs.map f))), .un]) (xs := List.range rs.length) (fun i : Nat => PyData.int i)
    (fun done st => ∃ x, st = [.own (.val (.int L)), .own (.val (.str T)), .own (.lst ((rs.take done.length).map rowD)), .own (.lst (lnD (rs.map f))), x])
    (st1 := [.own (.val (.int L)), .own (.val (.str T)), .own (.lst []), .own (.lst (lnD (rs.map f))), .un]) (by rw [← ints_range]; exact wRng1_n (by simp [lnD]) (by omega)) ⟨.un, by simp⟩ (fun done i todo st hd q => by
      obtain ⟨x, rfl⟩ := q
      obtain ⟨hi, hin⟩ := range_at hd
      have hg' : rs[i]? = some rs[i] := List.getElem?_eq_getElem hin
      have hl : (rs.map f)[i]? = some (f rs[i]) := by rw [List.getElem?_map, hg']; rfl
      have ht : rs.take (done ++ [i]).length = rs.take i ++ [rs[i]] := by rw [List.length_append, List.length_singleton, ← hi, List.take_succ, hg']; rfl
      have y := rows_good (T := T) hl (acc := (rs.take i).map rowD) (by simp; omega) (hg _ (List.getElem_mem hin))
      rw [ht, ← hi]
      refine ⟨_, _, .nx, rfl, y, .inl rfl, .own (.val (.int i)), ?_⟩
      rw [List.map_append]
      rfl)
  obtain ⟨x, rfl⟩ := q
  rw [List.length_range, List.take_length] at e
  exact ⟨x, e⟩
theorem rows_loop_bad (L : Nat) (T : Str) (f : Row → Str) (rs : List Row) (bad : Str) (rest : List Str) (hn : rs.length + rest.length ≤ 100000) (hg : ∀ r ∈ rs, GoodLine L (f r) r) (hb : BadLn L bad) :
    ∃ st, st.length = 5 ∧ L2_read_rows [.own (.val (.int L)), .own (.val (.str T)), .own (.lst []), .own (.lst (lnD (rs.map f ++ bad :: rest))), .un] = some (.error ⟨"BadLine", [("line", .int (rs.length : Nat))]⟩, st) := by
  unfold L2_read_rows
  refine sForE (g := gN 4) (b := LB1_read_rows) (w := wRng1 (aCons (eLenS 3) aNil)) (st := [.own (.val (.int L)), .own (.val (.str T)), .own (.lst []), .own (.lst (lnD (rs.map f ++ bad :: rest))), .un]) (xs := List.range (rs.length + (rest.length + 1))) (fun i : Nat => PyData.int i)
    (fun done st => done.length ≤ rs.length ∧ ∃ x, st = [.own (.val (.int L)), .own (.val (.str T)), .own (.lst ((rs.take done.length).map rowD)), .own (.lst (lnD (rs.map f ++ bad :: rest))), x])
    (fun o => ∃ st, st.length = 5 ∧ o = some (.error ⟨"BadLine", [("line", .int (rs.length : Nat))]⟩, st))
    (st1 := [.own (.val (.int L)), .own (.val (.str T)), .own (.lst []), .own (.lst (lnD (rs.map f ++ bad :: rest))), .un]) (by rw [← ints_range]; exact wRng1_n (by simp [lnD]) (by omega)) ⟨by simp, .un, by simp⟩ ?_ ?_
  · rintro st ⟨h, _⟩
    rw [List.length_range] at h
    omega
  · rintro done i todo st hd ⟨hdl, x, rfl⟩
    obtain ⟨hi, hin⟩ := range_at hd
    rw [← hi] at hdl
    rcases Nat.lt_or_ge i rs.length with k | k
    · have hg' : rs[i]? = some rs[i] := List.getElem?_eq_getElem k
      have hl : (rs.map f ++ bad :: rest)[i]? = some (f rs[i]) := by rw [List.getElem?_append_left (by simpa using k), List.getElem?_map, hg']; rfl
      have ht : rs.take (done ++ [i]).length = rs.take i ++ [rs[i]] := by rw [List.length_append, List.length_singleton, ← hi, List.take_succ, hg']; rfl
      refine ⟨_, rfl, .inl ⟨_, .nx, ?_, .inl rfl, ?_, .own (.val (.int i)), rfl⟩⟩
      · rw [← hi, ht]
        have := rows_good (T := T) hl (acc := (rs.take i).map rowD) (by simp; omega) (hg _ (List.getElem_mem k))
        rw [List.map_append]
        exact this
      · rw [List.length_append, List.length_singleton, ← hi]; omega
    · have e : i = rs.length := by omega
      have hl : (rs.map f ++ bad :: rest)[i]? = some bad := by rw [e, List.getElem?_append_right (by simp)]; simp
      refine ⟨_, rfl, .inr (.inr ⟨_, _, rows_bad (T := T) hl hb, _, rfl, by rw [e]⟩)⟩
theorem read_rows_good {L : Nat} {T : Str} {f : Row → Str} {rs : List Row} (hT : (T == ("" : Str)) = false) (hl : T.length ≤ 1000000) (hn : rs.length ≤ 100000) (hs : Txt.split T "\n" = rs.map f) (hg : ∀ r ∈ rs, GoodLine L (f r) r) :
    D_read_rows [.val (.int L), .val (.str T)] [] = some (.ok (.lst (rs.map rowD)), []) := by
  have sp := split_l (b := "\n") rfl hl hs
  obtain ⟨x, e⟩ := rows_loop_good L T f rs hn hg
  obtain ⟨W, hW⟩ : ∃ W, W = L2_read_rows := ⟨_, rfl⟩
  rw [← hW] at e
  refine runD_ret (st := [.own (.val (.int L)), .own (.val (.str T)), .un, .own (.lst (lnD (rs.map f))), x]) ?_ rfl
  unfold B_read_rows
  rw [← hW]
  simp [hT, sp, e]
theorem read_rows_bad {L : Nat} {T : Str} {f : Row → Str} {rs : List Row} {bad : Str} {rest : List Str} (hT : (T == ("" : Str)) = false) (hl : T.length ≤ 1000000) (hn : rs.length + rest.length ≤ 100000) (hs : Txt.split T "\n" = rs.map f ++ bad :: rest) (hg : ∀ r ∈ rs, GoodLine L (f r) r) (hb : BadLn L bad) :
    D_read_rows [.val (.int L), .val (.str T)] [] = some (.error ⟨"BadLine", [("line", .int (rs.length : Nat))]⟩, []) := by
  have sp := split_l (b := "\n") rfl hl hs
  obtain ⟨st, hst, e⟩ := rows_loop_bad L T f rs bad rest hn hg hb
  obtain ⟨W, hW⟩ : ∃ W, W = L2_read_rows := ⟨_, rfl⟩
  obtain ⟨Z, hZ⟩ : ∃ Z, Z = lnD (rs.map f ++ bad :: rest) := ⟨_, rfl⟩
  rw [← hW, ← hZ] at e
  rw [← hZ] at sp
  refine runD_err (st := st) ?_ hst
  unfold B_read_rows
  rw [← hW]
  simp [hT, sp, e]
theorem read_rows_nil {L : Nat} : D_read_rows [.val (.int L), .val (.str "")] [] = some (.ok (.lst []), []) := by
  refine runD_ret (st := [.own (.val (.int L)), .own (.val (.str "")), .un, .un, .un]) ?_ rfl
  obtain ⟨W, hW⟩ : ∃ W, W = L2_read_rows := ⟨_, rfl⟩
  unfold B_read_rows
  rw [← hW]
  have n : (("" : Str) == ("" : Str)) = true := rfl
  simp [n]
theorem read_row_nil {L : Nat} : D_read_row [.val (.int L), .val (.str "")] [] = some (.ok (.val (rowD [])), []) := by
  refine runD_ret (st := [.own (.val (.int L)), .own (.val (.str "")), .un, .un, .un, .un]) ?_ rfl
  obtain ⟨W, hW⟩ : ∃ W, W = L2_read_row := ⟨_, rfl⟩
  unfold B_read_row
  rw [← hW]
  have n : (("" : Str) == ("" : Str)) = true := rfl
  simp [n]
  rfl
end DY

/-! Rows as texts, and these read back. -/
namespace DY
open PySem PySem.Spec PySem.Calls PyProof.Rows L2 SX
structure RowV (L : Nat) (r : Row) : Prop where
  len : r.length ≤ 100
  ok : RowOk L 1000000 r
theorem RowV.t {L : Nat} {r : Row} (h : RowV L r) : RowT r := ⟨by have := h.len; omega, fun p hp => List.mem_of_mem_take (h.ok p hp).1, fun p hp => (h.ok p hp).2⟩
theorem joinL_len (sep : List Nat) : ∀ ys : List (List Nat), (TL.joinL sep ys).length ≤ (ys.map (·.length)).sum + ys.length * sep.length
  | [] => by simp [TL.joinL]
  | [p] => by simp [TL.joinL]
  | p :: q :: r => by
    have := joinL_len sep (q :: r)
    have e : TL.joinL sep (p :: q :: r) = p ++ (sep ++ TL.joinL sep (q :: r)) := rfl
    rw [e, List.length_append, List.length_append, List.map_cons, List.sum_cons, List.length_cons, Nat.succ_mul]
    omega
theorem joinL_mem {sep : List Nat} {c : Nat} : ∀ {ys : List (List Nat)}, c ∈ TL.joinL sep ys → c ∈ sep ∨ ∃ y ∈ ys, c ∈ y
  | [], h => by simp [TL.joinL] at h
  | [p], h => .inr ⟨p, by simp, h⟩
  | p :: q :: r, h => by
    have e : TL.joinL sep (p :: q :: r) = p ++ (sep ++ TL.joinL sep (q :: r)) := rfl
    rw [e] at h
    rcases List.mem_append.mp h with h | h
    · exact .inr ⟨p, by simp, h⟩
    · rcases List.mem_append.mp h with h | h
      · exact .inl h
      · rcases joinL_mem h with h | ⟨y, hy, h⟩
        · exact .inl h
        · exact .inr ⟨y, List.mem_cons_of_mem _ hy, h⟩
theorem joinL_ne {s : Nat} {sep : List Nat} {p q : List Nat} {r : List (List Nat)} : TL.joinL (s :: sep) (p :: q :: r) ≠ [] := by
  have e : TL.joinL (s :: sep) (p :: q :: r) = p ++ (s :: sep ++ TL.joinL (s :: sep) (q :: r)) := rfl
  rw [e]
  intro h
  have := congrArg List.length h
  simp at this
def cw (p : Str × Int) : List Nat := (stTx p).cps.toList
theorem cw_S (p : Str × Int) : stTx p = S (cw p) := (S_tl _).symm
theorem cw_is {L : Nat} {p : Str × Int} (h : p.1 ∈ abcL.take L) (h0 : 0 ≤ p.2) : ∃ c, c ∈ [97, 98, 99].take L ∧ p.1 = S [c] ∧ cw p = c :: TL.numL p.2.toNat := by
  obtain ⟨c, hc, e, q⟩ := stTx_S h h0
  refine ⟨c, hc, e, ?_⟩
  unfold cw
  rw [q]
theorem cw_ok {L : Nat} {p : Str × Int} (h : p.1 ∈ abcL.take L ∧ 0 ≤ p.2 ∧ p.2 < 1000000) : stepC L (cw p) = some p ∧ (cw p).length ≤ 7 ∧ 2 ≤ (cw p).length ∧ ∀ c ∈ cw p, 48 ≤ c := by
  obtain ⟨c, hc, e, q⟩ := cw_is h.1 h.2.1
  have hl := TL.numL_len (n := p.2.toNat) (k := 6) (by omega) (by omega)
  have hn := TL.numL_ne p.2.toNat
  have hn' : 0 < (TL.numL p.2.toNat).length := List.length_pos_iff.mpr hn
  refine ⟨by rw [q]; exact stepC_tx hc e h.2, by rw [q, List.length_cons]; omega, by rw [q, List.length_cons]; omega, fun d hd => ?_⟩
  rw [q] at hd
  rcases List.mem_cons.mp hd with rfl | hd
  · have : d ∈ [97, 98, 99] := List.mem_of_mem_take hc
    simp at this
    omega
  · exact (TL.numL_digits p.2.toNat d hd).1
theorem tx_S (r : Row) : Txt.join " " (txOf r) = S (TL.joinL [32] (r.map cw)) := by
  have e : txOf r = (r.map cw).map S := by
    unfold txOf
    rw [List.map_map]
    exact List.map_congr_left fun p _ => cw_S p
  rw [e]
  exact join_S [32] _
theorem tx_nil : Txt.join " " (txOf []) = S [] := tx_S []
theorem cws_good {L : Nat} {r : Row} (h : RowOk L 1000000 r) : AllGood L (r.map cw) r := by
  unfold AllGood
  rw [List.map_map]
  exact List.map_congr_left fun p hp => (cw_ok (h p hp)).1
theorem sum_le {ys : List (List Nat)} {k : Nat} (h : ∀ y ∈ ys, y.length ≤ k) : (ys.map (·.length)).sum ≤ k * ys.length := by
  induction ys with
  | nil => simp
  | cons a ys ih =>
    have h1 := h a (by simp)
    have h2 := ih fun y hy => h y (List.mem_cons_of_mem _ hy)
    rw [List.map_cons, List.sum_cons, List.length_cons, Nat.mul_add]
    omega
theorem txc_len {L : Nat} {r : Row} (h : RowV L r) : (TL.joinL [32] (r.map cw)).length ≤ 800 := by
  have h1 := joinL_len [32] (r.map cw)
  have h2 := sum_le (ys := r.map cw) (k := 7) fun y hy => by
    obtain ⟨p, hp, rfl⟩ := List.mem_map.mp hy
    exact (cw_ok (h.ok p hp)).2.1
  have := h.len
  simp at h1 h2
  omega
theorem txc_ne {L : Nat} {r : Row} (h : RowV L r) (hr : r ≠ []) : 2 ≤ (TL.joinL [32] (r.map cw)).length := by
  cases r with
  | nil => exact absurd rfl hr
  | cons p r =>
    have h1 := (cw_ok (h.ok p (by simp))).2.2.1
    cases r with
    | nil => exact h1
    | cons q r =>
      have e : TL.joinL [32] ((p :: q :: r).map cw) = cw p ++ ([32] ++ TL.joinL [32] ((q :: r).map cw)) := rfl
      rw [e, List.length_append]
      omega
theorem txc_mem {L : Nat} {r : Row} (h : RowV L r) {c : Nat} (hc : c ∈ TL.joinL [32] (r.map cw)) : 32 ≤ c := by
  rcases joinL_mem hc with h' | ⟨y, hy, h'⟩
  · simp at h'
    omega
  · obtain ⟨p, hp, rfl⟩ := List.mem_map.mp hy
    have := (cw_ok (h.ok p hp)).2.2.2 c h'
    omega
theorem row_words {L : Nat} {r : Row} (h : RowV L r) (hr : r ≠ []) : Words (Txt.join " " (txOf r)) (r.map cw) := by
  have hl := txc_len h
  have hn := txc_ne h hr
  rw [tx_S]
  refine ⟨?_, by rw [S_len]; omega, ?_, by have := h.len; simp; omega, ?_⟩
  · rw [eq_nil_S]
    have : TL.joinL [32] (r.map cw) ≠ [] := by
      intro e
      rw [e] at hn
      simp at hn
    simp [this]
  · have e : Txt.split (S (TL.joinL [32] (r.map cw))) (S [32]) = (TL.spl [32] 0 [] (TL.joinL [32] (r.map cw))).map S := split_S (by decide) (by decide)
    rw [spl_join (by simpa using hr)] at e
    · exact e
    · intro y hy hc
      obtain ⟨p, hp, rfl⟩ := List.mem_map.mp hy
      have := (cw_ok (h.ok p hp)).2.2.2 32 hc
      omega
  · intro y hy
    obtain ⟨p, hp, rfl⟩ := List.mem_map.mp hy
    have := (cw_ok (h.ok p hp)).2.1
    omega
def lineS (r : Row) : Str := if r = [] then "-" else Txt.join " " (txOf r)
theorem line_ne {L : Nat} {r : Row} (h : RowV L r) (hr : r ≠ []) : Txt.join " " (txOf r) ≠ "-" := by
  have hn := txc_ne h hr
  rw [tx_S]
  intro e
  have : TL.joinL [32] (r.map cw) = [45] := S_inj e
  rw [this] at hn
  simp at hn
theorem line_good {L : Nat} {r : Row} (h : RowV L r) : GoodLine L (lineS r) r := by
  unfold lineS
  split
  · next e => exact .inl ⟨rfl, e⟩
  · next e => exact .inr ⟨line_ne h e, _, row_words h e, cws_good h.ok⟩
def lineC (r : Row) : List Nat := if r = [] then [45] else TL.joinL [32] (r.map cw)
theorem line_S (r : Row) : lineS r = S (lineC r) := by
  unfold lineS lineC
  split
  · rfl
  · exact tx_S r
theorem lineC_mem {L : Nat} {r : Row} (h : RowV L r) {c : Nat} (hc : c ∈ lineC r) : 32 ≤ c := by
  unfold lineC at hc
  split at hc
  · simp at hc
    omega
  · exact txc_mem h hc
theorem lineC_len {L : Nat} {r : Row} (h : RowV L r) : (lineC r).length ≤ 800 := by
  unfold lineC
  split
  · simp
  · exact txc_len h
theorem tru_S {a : List Nat} (h : a.length ≤ 1000000) : truR (.ow (.val (.str (S a)))) = some (!decide (a = [])) := by
  have e : truR (.ow (.val (.str (S a)))) = if (S a).length ≤ lenLine then some (((S a).length : Int) != 0) else none := rfl
  rw [e, S_len, if_pos (by rw [lenLine_val]; omega)]
  cases a with
  | nil => rfl
  | cons c a =>
    have : (((c :: a).length : Nat) : Int) ≠ 0 := by rw [List.length_cons]; omega
    simp [this]
    omega
end DY

/-! rows_text, and what is told of its texts. -/
namespace DY
open PySem PySem.Spec PySem.Calls PyProof.Rows L2 SX
theorem small_S {ys : List (List Nat)} (h : ys.length ≤ 10000) (hl : ∀ y ∈ ys, y.length ≤ 1000) : SmallT (ys.map S) := ⟨by simpa using h, fun y hy => by
  obtain ⟨z, hz, rfl⟩ := List.mem_map.mp hy
  rw [S_len]
  exact hl z hz⟩
theorem lines_S (rs : List Row) : rs.map lineS = (rs.map lineC).map S := by
  rw [List.map_map]
  exact List.map_congr_left fun r _ => line_S r
theorem rows_comp {L : Nat} (rs : List Row) (h : ∀ r ∈ rs, RowV L r) (hn : rs.length ≤ 1000) :
    C1_rows_text [.own (.val (.list (rs.map rowD))), .un] = some (.ok (.lst ((rs.map lineS).map PyData.str)), [.own (.val (.list (rs.map rowD))), .un]) := by
  have := eLcY (own := [1]) (w := wVal (eVar 0)) (g := gN 1) (e := (eOr (eCall D_row_text (agV (eVar 1) agNil)) (eC (.str "-")))) (st := [.own (.val (.list (rs.map rowD))), .un]) (st1 := [.own (.val (.list (rs.map rowD))), .un]) (xs := rs)
    rowD (fun r => .str (lineS r)) (by simp) (by rw [lenLine_val]; omega)
    (fun r hr => ⟨[.own (.val (.list (rs.map rowD))), .own (.val (rowD r))], by simp, .val (.str (lineS r)), [.own (.val (.list (rs.map rowD))), .own (.val (rowD r))], by
      have f := row_text_ok r (h r hr).t
      have t := tru_S (a := TL.joinL [32] (r.map cw)) (by have := txc_len (h r hr); omega)
      rw [← tx_S] at t
      have z : lineS r = if TL.joinL [32] (r.map cw) = [] then ("-" : Str) else Txt.join " " (txOf r) := by
        unfold lineS
        by_cases e : r = []
        · rw [if_pos e, if_pos (by rw [e]; rfl)]
        · rw [if_neg e, if_neg]
          intro q
          have := txc_ne (h r hr) e
          rw [q] at this
          simp at this
      obtain ⟨T, hT⟩ : ∃ T, T = Txt.join " " (txOf r) := ⟨_, rfl⟩
      obtain ⟨G, hG⟩ : ∃ W, W = D_row_text := ⟨_, rfl⟩
      rw [← hT] at f t z
      rw [← hG] at f
      rw [← hG, z]
      by_cases q : TL.joinL [32] (r.map cw) = []
      · simp [call_s f, t, q]
      · simp [call_s f, t, q], rfl, by simp⟩)
  unfold C1_rows_text
  rw [this]
  simp
def linesT (ls : List (List Nat)) : Str := Txt.join "\n" (ls.map S)
theorem rows_text_ok {L : Nat} (rs : List Row) (h : ∀ r ∈ rs, RowV L r) (hn : rs.length ≤ 1000) :
    D_rows_text [.val (.list (rs.map rowD))] [] = some (.ok (.val (.str (linesT (rs.map lineC)))), []) := by
  have e := rows_comp rs h hn
  rw [lines_S] at e
  have j := mtV_join (a := "\n") (by decide) (small_S (ys := rs.map lineC) (by simp; omega) fun y hy => by
    obtain ⟨r, hr, rfl⟩ := List.mem_map.mp hy
    have := lineC_len (h r hr)
    omega)
  obtain ⟨C, hC⟩ : ∃ W, W = C1_rows_text := ⟨_, rfl⟩
  obtain ⟨Z, hZ⟩ : ∃ Z, Z = (rs.map lineC).map S := ⟨_, rfl⟩
  rw [← hC, ← hZ] at e
  rw [← hZ] at j
  refine runD_ret (st := [.own (.val (.list (rs.map rowD))), .un]) ?_ rfl
  unfold B_rows_text linesT
  rw [← hC, ← hZ]
  simp [e, j]
theorem linesT_S (ls : List (List Nat)) : linesT ls = S (TL.joinL [10] ls) := join_S [10] ls
theorem linesT_split {ls : List (List Nat)} (hne : ls ≠ []) (h : ∀ l ∈ ls, 10 ∉ l) : Txt.split (linesT ls) "\n" = ls.map S := by
  have e : Txt.split (S (TL.joinL [10] ls)) (S [10]) = (TL.spl [10] 0 [] (TL.joinL [10] ls)).map S := split_S (by decide) (by decide)
  rw [spl_join hne h] at e
  rw [linesT_S]
  exact e
theorem linesT_ne {p q : List Nat} {r : List (List Nat)} : (linesT (p :: q :: r) == ("" : Str)) = false := by
  rw [linesT_S, eq_nil_S]
  simp [joinL_ne]
theorem linesT_len {ls : List (List Nat)} (h : ls.length ≤ 100) (hl : ∀ l ∈ ls, l.length ≤ 800) : (linesT ls).length ≤ 1000000 := by
  rw [linesT_S, S_len]
  have h1 := joinL_len [10] ls
  have h2 := sum_le hl
  simp at h1
  omega
/-- the texts of rows, read back -/
theorem told_rows {L : Nat} {rs : List Row} (h : ∀ r ∈ rs, RowV L r) (hn : rs.length ≤ 100) (h2 : 2 ≤ rs.length) :
    D__law_told [.val (.int 1), .val (.int L), .val (.str (linesT (rs.map lineC)))] [] = some (.ok (.lst (rs.map rowD)), []) := by
  refine told_ok ?_
  rw [if_neg (by decide)]
  have hd : (linesT (rs.map lineC) == ("" : Str)) = false := by
    match rs, h2 with
    | p :: q :: r, _ => exact linesT_ne
  refine read_rows_good (f := lineS) hd (linesT_len (by simpa using hn) ?_) (by omega) ?_ fun r hr => line_good (h r hr)
  · intro y hy
    obtain ⟨r, hr, rfl⟩ := List.mem_map.mp hy
    exact lineC_len (h r hr)
  · rw [lines_S]
    refine linesT_split ?_ ?_
    · intro e
      have := congrArg List.length e
      simp at this
      subst this
      simp at h2
    · intro y hy
      obtain ⟨r, hr, rfl⟩ := List.mem_map.mp hy
      intro hc
      have := lineC_mem (h r hr) hc
      omega
theorem told_rows_nil {L : Nat} : D__law_told [.val (.int 1), .val (.int L), .val (.str "")] [] = some (.ok (.lst []), []) := by
  refine told_ok ?_
  rw [if_neg (by decide)]
  exact read_rows_nil
/-- a wrong line among them -/
theorem told_bad {L : Nat} {rs ts : List Row} {bad : List Nat} (h : ∀ r ∈ rs, RowV L r) (h' : ∀ r ∈ ts, RowV L r) (hn : rs.length + ts.length ≤ 50) (h2 : 1 ≤ rs.length + ts.length) (hb : BadLn L (S bad)) (hbl : bad.length ≤ 100) (hb10 : 10 ∉ bad) :
    D__law_told [.val (.int 1), .val (.int L), .val (.str (linesT (rs.map lineC ++ [bad] ++ ts.map lineC)))] [] = some (.ok (.lst [.int 1, .int (rs.length : Nat)]), []) := by
  have mem : ∀ y ∈ rs.map lineC ++ [bad] ++ ts.map lineC, y.length ≤ 800 ∧ 10 ∉ y := by
    intro y hy
    rcases List.mem_append.mp hy with hy | hy
    · rcases List.mem_append.mp hy with hy | hy
      · obtain ⟨r, hr, rfl⟩ := List.mem_map.mp hy
        exact ⟨lineC_len (h r hr), fun hc => by have := lineC_mem (h r hr) hc; omega⟩
      · have := List.mem_singleton.mp hy
        subst this
        exact ⟨by omega, hb10⟩
    · obtain ⟨r, hr, rfl⟩ := List.mem_map.mp hy
      exact ⟨lineC_len (h' r hr), fun hc => by have := lineC_mem (h' r hr) hc; omega⟩
  have hlen : (rs.map lineC ++ [bad] ++ ts.map lineC).length = rs.length + ts.length + 1 := by simp; omega
  refine told_line (read_rows_bad (f := lineS) (rest := (ts.map lineC).map S) ?_ (linesT_len (by omega) fun y hy => (mem y hy).1) (by simp; omega) ?_ (fun r hr => line_good (h r hr)) hb)
  · match e : rs.map lineC ++ [bad] ++ ts.map lineC, hlen with
    | [], h' => simp at h'
    | [_], h' => rw [List.length_singleton] at h'; omega
    | p :: q :: r, _ => exact linesT_ne
  · rw [linesT_split (by intro e; rw [e] at hlen; simp at hlen) fun y hy => (mem y hy).2, lines_S]
    simp
end DY

/-! The four wrong lines; rows told as texts; any words told. -/
namespace DY
open PySem PySem.Spec PySem.Calls PyProof.Rows L2 SX
theorem stepC_nil (L : Nat) : stepC L [] = none := rfl
theorem stepC_x (L : Nat) (ds : List Nat) : stepC L (120 :: ds) = none := stepC_bad (.inl fun h => by
  have : (120 : Nat) ∈ [97, 98, 99] := List.mem_of_mem_take h
  simp at this)
theorem first_at {L : Nat} {w : List Nat} {rest : List (List Nat)} (h : stepC L w = none) : FirstBad L (w :: rest) 0 := ⟨[], w, rest, rfl, rfl, rfl, h⟩
theorem first_of {L : Nat} {ws : List (List Nat)} (h : ∃ w ∈ ws, stepC L w = none) : ∃ j, FirstBad L ws j := by
  rcases good_or_bad L ws with ⟨r, g⟩ | g
  · obtain ⟨w, hw, e⟩ := h
    have : (ws.map (stepC L)).any (·.isNone) = true := List.any_eq_true.mpr ⟨none, e ▸ List.mem_map_of_mem hw, rfl⟩
    unfold AllGood at g
    rw [g] at this
    obtain ⟨o, ho, h'⟩ := List.any_eq_true.mp this
    obtain ⟨p, _, rfl⟩ := List.mem_map.mp ho
    cases h'
  · exact g
theorem bad_words {L : Nat} {a : List Nat} {ws : List (List Nat)} (e : TL.spl [32] 0 [] a = ws) (ha : a ≠ []) (hm : a ≠ [45]) (hl : a.length ≤ 100) (hc : ws.length ≤ 100) (hs : ∀ w ∈ ws, w.length ≤ 1000) (hb : ∃ w ∈ ws, stepC L w = none) : BadLn L (S a) := by
  obtain ⟨j, g⟩ := first_of hb
  refine .inr ⟨fun h => hm (S_inj h), ws, j, ⟨by rw [eq_nil_S]; simp [ha], by rw [S_len]; omega, ?_, by omega, hs⟩, g⟩
  have z : Txt.split (S a) (S [32]) = (TL.spl [32] 0 [] a).map S := split_S (by decide) (by decide)
  rw [e] at z
  exact z
def badC4 : List (List Nat) := [[], [120], [97, 48, 32, 32, 97, 49], [32]]
theorem bad4 (L : Nat) : ∀ a ∈ badC4, BadLn L (S a) ∧ a.length ≤ 100 ∧ 10 ∉ a := by
  intro a ha
  simp [badC4] at ha
  rcases ha with rfl | rfl | rfl | rfl
  · exact ⟨.inl rfl, by decide, by decide⟩
  · exact ⟨bad_words (ws := [[120]]) rfl (by decide) (by decide) (by decide) (by decide) (by decide) ⟨[120], by decide, stepC_x L _⟩, by decide, by decide⟩
  · exact ⟨bad_words (ws := [[97, 48], [], [97, 49]]) rfl (by decide) (by decide) (by decide) (by decide) (by decide) ⟨[], by decide, rfl⟩, by decide, by decide⟩
  · exact ⟨bad_words (ws := [[], []]) rfl (by decide) (by decide) (by decide) (by decide) (by decide) ⟨[], by decide, rfl⟩, by decide, by decide⟩
/-- a row's text is told as the row -/
theorem told_row {L : Nat} {r : Row} (h : RowV L r) : D__law_told [.val (.int 0), .val (.int L), .val (.str (Txt.join " " (txOf r)))] [] = some (.ok (.val (rowD r)), []) := by
  refine told_ok ?_
  rw [if_pos rfl]
  by_cases e : r = []
  · subst e
    exact read_row_nil
  · have w := row_words h e
    rcases read_row_ok L _ _ w.ne w.len w.eq w.cnt w.sm with ⟨r', g, f⟩ | ⟨j, g, f⟩
    · have : r'.map some = r.map some := by
        have g' := cws_good h.ok
        unfold AllGood at g g'
        rw [← g, ← g']
      have : r' = r := by
        have := congrArg (List.filterMap id) this
        simpa using this
      rw [← this]
      rw [this] at f ⊢
      exact f
    · have z := any_good g
      rw [any_bad (cws_good h.ok)] at z
      cases z
def sameAns (o : Ow) : Prop := ∃ n, n ≤ 9 ∧ sameOk n o.frz
/-- a text of small words: the reader says what the law's own reading says -/
theorem told_any {L : Nat} {T : Str} (h : T = "" ∨ ∃ ws, Words T ws) :
    ∃ o d, D__law_told [.val (.int 0), .val (.int L), .val (.str T)] [] = some (.ok (.ow o), []) ∧ o.frz = d ∧ (∃ o' : Ow, D__law_read [.val (.int L), .val (.str T)] [] = some (.ok (.ow o'), []) ∧ o'.frz = d) ∧ ((∃ r : Row, d = rowD r ∧ r.length ≤ 100000) ∨ ∃ j : Nat, d = .list [.int 0, .int j]) := by
  rcases h with rfl | ⟨ws, w⟩
  · refine ⟨.val (rowD []), rowD [], told_ok (by rw [if_pos rfl]; exact read_row_nil), rfl, ⟨.val (rowD []), ?_, rfl⟩, .inl ⟨[], rfl, by simp⟩⟩
    refine runD_ret (st := [.own (.val (.int L)), .own (.val (.str "")), .un, .un]) ?_ rfl
    obtain ⟨C, hC⟩ : ∃ W, W = C1__law_read := ⟨_, rfl⟩
    unfold B__law_read
    rw [← hC]
    have n : (("" : Str) == ("" : Str)) = true := rfl
    simp [n]
    rfl
  · rcases read_row_ok L _ _ w.ne w.len w.eq w.cnt w.sm with ⟨r, g, f⟩ | ⟨j, g, f⟩
    · refine ⟨.val (rowD r), rowD r, told_ok (by rw [if_pos rfl]; exact f), rfl, ⟨.val (rowD r), law_read_good w.ne w.len w.eq w.cnt w.sm g, rfl⟩, .inl ⟨r, rfl, ?_⟩⟩
      have := congrArg List.length g
      have := w.cnt
      simp at *
      omega
    · exact ⟨.lst [.int 0, .int j], .list [.int 0, .int j], told_step f, rfl, ⟨.lst [.int 0, .int j], law_read_bad w.ne w.len w.eq w.cnt w.sm g, rfl⟩, .inr ⟨j, rfl⟩⟩
theorem spl_small : ∀ (a acc : List Nat), (TL.spl [32] 0 acc a).length ≤ a.length + 1 ∧ ∀ w ∈ TL.spl [32] 0 acc a, w.length ≤ acc.length + a.length
  | [], acc => by rw [TL.spl_nil]; simp
  | c :: r, acc => by
    by_cases h : TL.pre [32] (c :: r) = true
    · rw [TL.spl_hit h]
      obtain ⟨h1, h2⟩ := spl_small r []
      refine ⟨by simp at h1 ⊢; omega, fun w hw => ?_⟩
      rcases List.mem_cons.mp hw with rfl | hw
      · omega
      · have := h2 w hw
        simp at this ⊢
        omega
    · rw [TL.spl_miss (by simpa using h)]
      obtain ⟨h1, h2⟩ := spl_small r (acc ++ [c])
      refine ⟨by simp at h1 ⊢; omega, fun w hw => ?_⟩
      have := h2 w hw
      simp at this ⊢
      omega
/-- any joined words: the text split again -/
theorem words_any {ys : List (List Nat)} (h : ys.length ≤ 50) (hl : ∀ y ∈ ys, y.length ≤ 10) : Txt.join " " (ys.map S) = "" ∨ ∃ ws, Words (Txt.join " " (ys.map S)) ws := by
  have e : Txt.join " " (ys.map S) = S (TL.joinL [32] ys) := join_S [32] ys
  rw [e]
  obtain ⟨a, ha⟩ : ∃ a, a = TL.joinL [32] ys := ⟨_, rfl⟩
  have hal : a.length ≤ 550 := by
    have h1 := joinL_len [32] ys
    have h2 := sum_le hl
    simp at h1
    rw [← ha] at h1
    omega
  rw [← ha]
  by_cases z : a = []
  · subst z
    exact .inl rfl
  · obtain ⟨h1, h2⟩ := spl_small a []
    refine .inr ⟨TL.spl [32] 0 [] a, by rw [eq_nil_S]; simp [z], by rw [S_len]; omega, split_S (by decide) (by decide), by omega, fun w hw => ?_⟩
    have := h2 w hw
    simp at this
    omega
end DY

/-! The parts of _law_judged. -/
namespace DY
open PySem PySem.Spec PySem.Calls PyProof.Rows L2 SX
theorem same9 {d : Dt} (h : sameOk 9 d) : D__law_same 9 [.val d, .val d] [] = some (.ok (.val (.bool true)), []) := same_ok 9 d h
theorem so_int {n : Nat} (i : Int) : sameOk (n + 1) (.int i) := trivial
theorem so_str {n : Nat} (x : Str) : sameOk (n + 1) (.str x) := trivial
theorem so_bool {n : Nat} (b : Bool) : sameOk (n + 1) (.bool b) := trivial
theorem so_st {n : Nat} (p : Str × Int) : sameOk (n + 2) (stD p) := by
  refine ⟨by rw [lenLine_val]; simp, fun d hd => ?_⟩
  rcases List.mem_cons.mp hd with rfl | hd
  · trivial
  · have := List.mem_singleton.mp hd
    subst this
    trivial
theorem so_row {n : Nat} {r : Row} (h : r.length ≤ 100000) : sameOk (n + 3) (rowD r) := by
  refine ⟨by rw [lenLine_val]; simp; omega, fun d hd => ?_⟩
  obtain ⟨p, _, rfl⟩ := List.mem_map.mp hd
  exact so_st p
theorem so_rows {n : Nat} {rs : List Row} (hn : rs.length ≤ 100000) (h : ∀ r ∈ rs, r.length ≤ 100000) : sameOk (n + 4) (.list (rs.map rowD)) := by
  refine ⟨by rw [lenLine_val]; simp; omega, fun d hd => ?_⟩
  obtain ⟨p, hp, rfl⟩ := List.mem_map.mp hd
  exact so_row (h p hp)
theorem so_ints {n : Nat} {s : List Int} (h : s.length ≤ 100000) : sameOk (n + 2) (.list (s.map .int)) := by
  refine ⟨by rw [lenLine_val]; simp; omega, fun d hd => ?_⟩
  obtain ⟨p, _, rfl⟩ := List.mem_map.mp hd
  trivial
theorem so_two {n : Nat} (i j : Int) : sameOk (n + 2) (.list [.int i, .int j]) := so_ints (s := [i, j]) (by simp)
theorem index_val (s : List Int) (n : Int) (h : n ∈ s) : indexF (.val (.list (s.map .int))) [.ow (.val (.int n))] = some (.val (.list (s.map .int)), .val (.int (s.idxOf n))) := by
  have z : indexOk (s.map .int) (.int n) = true := inOk_ints s n
  show (if indexOk (s.map .int) (.int n) = true then (idxD (s.map .int) (.int n)).map fun (j : Nat) => (Ow.val (.list (s.map .int)), Rs.val (.int j)) else none) = _
  rw [if_pos z, idx_ints s n h]
  rfl
def j0 (l : Dt) (r o : Row) : DS := [.own (.val l), .own (.val (rowD r)), .own (.val (rowD o)), .own (.lst []), .un, .un, .un, .un, .un, .un, .un]
theorem judged_loop (l : Dt) (r o : Row) (hr : r.length ≤ 1000) : ∃ x y, L9__law_judged (j0 l r o) = some (.ok .nx, [.own (.val l), .own (.val (rowD r)), .own (.val (rowD o)), .own (.lst ((seenOf r).map .int)), x, y, .un, .un, .un, .un, .un]) := by
  obtain ⟨st', e, x, y, rfl⟩ := sForT (w := wVal (eVar 1)) (g := gT (gsCons (gN 4) (gsCons (gN 5) gsNil))) (b := LB8__law_judged) (st := j0 l r o) (st1 := j0 l r o) (xs := r) stD
    (fun done st => ∃ x y, st = [.own (.val l), .own (.val (rowD r)), .own (.val (rowD o)), .own (.lst ((seenOf done).map .int)), x, y, .un, .un, .un, .un, .un]) (by simp [rowD, j0]) ⟨_, _, rfl⟩
    (fun done p todo st hd q => by
      obtain ⟨x, y, rfl⟩ := q
      refine ⟨[.own (.val l), .own (.val (rowD r)), .own (.val (rowD o)), .own (.lst ((seenOf done).map .int)), .own (.val (.str p.1)), .own (.val (.int p.2)), .un, .un, .un, .un, .un], [.own (.val l), .own (.val (rowD r)), .own (.val (rowD o)), .own (.lst ((seenOf (done ++ [p])).map .int)), .own (.val (.str p.1)), .own (.val (.int p.2)), .un, .un, .un, .un, .un], .nx, by simp [stD], ?_, .inl rfl, .own (.val (.str p.1)), .own (.val (.int p.2)), rfl⟩
      have hl : (seenOf done).length < 16777216 := by
        have := seenOf_len done
        have : r.length = done.length + (todo.length + 1) := by rw [hd]; simp
        omega
      rw [seenOf_snoc]
      unfold LB8__law_judged put
      by_cases h : p.2 ∈ seenOf done
      · simp [h]
      · simp [h, hl])
  exact ⟨x, y, e⟩
def freshL (n : Nat) : List Int := (List.range n).map fun i : Nat => (i : Int) + 50 + 3 * i
theorem freshL_len (n : Nat) : (freshL n).length = n := by simp [freshL]
theorem fresh_comp (a b c x y d : Sl) (s : List Int) (hs : s.length ≤ 1000) :
    C7__law_judged [a, b, c, .own (.val (.list (s.map .int))), x, y, d, .un, .un, .un, .un] = some (.ok (.lst ((freshL s.length).map .int)), [a, b, c, .own (.val (.list (s.map .int))), x, y, d, .un, .un, .un, .un]) := by
  have := eLcY (own := [5]) (w := wRng1 (aCons (eLenS 3) aNil)) (g := gN 5) (e := (e2 addD (e2 addD (eVar 5) (eC (.int 50))) (e2 mulD (eC (.int 3)) (eVar 5)))) (st := [a, b, c, .own (.val (.list (s.map .int))), x, y, d, .un, .un, .un, .un]) (st1 := [a, b, c, .own (.val (.list (s.map .int))), x, y, d, .un, .un, .un, .un]) (xs := List.range s.length)
    (fun i : Nat => PyData.int i) (fun i : Nat => PyData.int ((i : Int) + 50 + 3 * i)) (by rw [← ints_range]; exact wRng1_n (by simp) (by omega)) (by rw [lenLine_val, List.length_range]; omega)
    (fun i hi => ⟨[a, b, c, .own (.val (.list (s.map .int))), x, .own (.val (.int i)), d, .un, .un, .un, .un], by simp, .val (.int ((i : Int) + 50 + 3 * i)), [a, b, c, .own (.val (.list (s.map .int))), x, .own (.val (.int i)), d, .un, .un, .un, .un], by
      have m := mul_sm (i := 3) (j := (i : Int)) (by simp [mulOk])
      simp [m], rfl, by simp⟩)
  unfold C7__law_judged
  rw [this]
  simp [freshL, List.map_map]
theorem moved_comp (a c d e' : Sl) (r : Row) (hr : r.length ≤ 1000) (x y : Sl) (news : List Int) (hn : news.length = (seenOf r).length) (h9 h10 : Sl) :
    C6__law_judged [a, .own (.val (rowD r)), c, .own (.val (.list ((seenOf r).map .int))), x, y, d, .own (.val (.list (news.map .int))), e', h9, h10] = some (.ok (.lst ((mapN (renG r news) r).map stD)), [a, .own (.val (rowD r)), c, .own (.val (.list ((seenOf r).map .int))), x, y, d, .own (.val (.list (news.map .int))), e', h9, h10]) := by
  have := eLcY (own := [4, 5]) (w := wVal (eVar 1)) (g := gT (gsCons (gN 4) (gsCons (gN 5) gsNil))) (e := (eTup (aCons (eVar 4) (aCons (eIxS 7 (eMt "list" 3 indexF (aCons (eVar 5) aNil))) aNil)))) (st := [a, .own (.val (rowD r)), c, .own (.val (.list ((seenOf r).map .int))), x, y, d, .own (.val (.list (news.map .int))), e', h9, h10]) (st1 := [a, .own (.val (rowD r)), c, .own (.val (.list ((seenOf r).map .int))), x, y, d, .own (.val (.list (news.map .int))), e', h9, h10]) (xs := r)
    stD (fun p => stD (p.1, renG r news p.2)) (by simp [rowD]) (by rw [lenLine_val]; omega)
    (fun p hp => ⟨[a, .own (.val (rowD r)), c, .own (.val (.list ((seenOf r).map .int))), .own (.val (.str p.1)), .own (.val (.int p.2)), d, .own (.val (.list (news.map .int))), e', h9, h10], by simp [stD], .val (stD (p.1, renG r news p.2)), [a, .own (.val (rowD r)), c, .own (.val (.list ((seenOf r).map .int))), .own (.val (.str p.1)), .own (.val (.int p.2)), d, .own (.val (.list (news.map .int))), e', h9, h10], by
      have hm := (seenOf_mem r p.2).mpr ⟨p, hp, rfl⟩
      have y1 := index_val _ _ hm
      have y2 := ix_getD (ds := news) (j := (seenOf r).idxOf p.2) (by rw [hn]; exact List.idxOf_lt_length_iff.mpr hm)
      obtain ⟨k, hk⟩ : ∃ k, k = (seenOf r).idxOf p.2 := ⟨_, rfl⟩
      have y3 : renG r news p.2 = news.getD k 0 := by unfold renG; rw [hk]
      obtain ⟨v, hv⟩ : ∃ v, v = news.getD k 0 := ⟨_, rfl⟩
      rw [← hk] at y1 y2
      rw [← hv] at y2 y3
      rw [y3]
      simp [y1, y2]
      rfl, rfl, by simp⟩)
  unfold C6__law_judged
  rw [this]
  simp [mapN]
theorem letters_comp {r : Row} (hr : r.length ≤ 1000) (a c s x y d e' f g h : Sl) :
    C5__law_judged [a, .own (.val (rowD r)), c, s, x, y, d, e', f, g, h] = some (.ok (.lst ((lettersOf r).map PyData.str)), [a, .own (.val (rowD r)), c, s, x, y, d, e', f, g, h]) := by
  have := eLcY (own := [4, 5]) (w := wVal (eVar 1)) (g := gT (gsCons (gN 4) (gsCons (gN 5) gsNil))) (e := eVar 4) (st := [a, .own (.val (rowD r)), c, s, x, y, d, e', f, g, h]) (st1 := [a, .own (.val (rowD r)), c, s, x, y, d, e', f, g, h]) (xs := r) stD (fun p => .str p.1) (by simp [rowD]) (by rw [lenLine_val]; omega)
    (fun p hp => ⟨[a, .own (.val (rowD r)), c, s, .own (.val (.str p.1)), .own (.val (.int p.2)), d, e', f, g, h], by simp [stD], _, [a, .own (.val (rowD r)), c, s, .own (.val (.str p.1)), .own (.val (.int p.2)), d, e', f, g, h], by
      simp
      rfl, rfl, by simp⟩)
  unfold C5__law_judged
  rw [this]
  simp [lettersOf]
theorem part_comp {r : Row} (hr : r.length ≤ 1000) (n : Int) (a c s x d e' f g h : Sl) :
    C2__law_judged [a, .own (.val (rowD r)), c, s, x, .own (.val (.int n)), d, e', f, g, h] = some (.ok (.lst ((partOf r n).map PyData.str)), [a, .own (.val (rowD r)), c, s, x, .own (.val (.int n)), d, e', f, g, h]) := by
  have := eLcT (own := [4, 10]) (w := wVal (eVar 1)) (g := gT (gsCons (gN 4) (gsCons (gN 10) gsNil))) (t := tV (e2S eqD (eVar 10) 5)) (e := eVar 4) (st := [a, .own (.val (rowD r)), c, s, x, .own (.val (.int n)), d, e', f, g, h]) (st1 := [a, .own (.val (rowD r)), c, s, x, .own (.val (.int n)), d, e', f, g, h]) (xs := r) stD (fun p => p.2 == n) (fun p => .str p.1) (by simp [rowD]) (by rw [lenLine_val]; omega)
    (fun p hp => ⟨[a, .own (.val (rowD r)), c, s, .own (.val (.str p.1)), .own (.val (.int n)), d, e', f, g, .own (.val (.int p.2))], [a, .own (.val (rowD r)), c, s, .own (.val (.str p.1)), .own (.val (.int n)), d, e', f, g, .own (.val (.int p.2))], by simp [stD], by simp, fun _ => by simp, fun _ => ⟨_, [a, .own (.val (rowD r)), c, s, .own (.val (.str p.1)), .own (.val (.int n)), d, e', f, g, .own (.val (.int p.2))], by
      simp
      rfl, rfl, by simp⟩⟩)
  unfold C2__law_judged
  rw [this]
  simp [lettersOf, partOf]
theorem text_comp {r : Row} (h : RowT r) (a c s x y d e' f g h' : Sl) :
    C1__law_judged [a, .own (.val (rowD r)), c, s, x, y, d, e', f, g, h'] = some (.ok (.lst ((txOf r).map PyData.str)), [a, .own (.val (rowD r)), c, s, x, y, d, e', f, g, h']) := by
  unfold C1__law_judged
  rw [tx_comp (st1 := [a, .own (.val (rowD r)), c, s, x, y, d, e', f, g, h']) h (by simp [rowD]) (by simp) (by simp) (by decide) (by simp) (by simp)]
  simp
theorem parts_loop {r : Row} (h : RowT r) (s : List Int) (hs : s.length ≤ 1000) (a c x y d e' f g h' : Sl) :
    ∃ z, L4__law_judged [a, .own (.val (rowD r)), c, .own (.val (.list (s.map .int))), x, y, d, e', f, g, h'] = some (.ok .nx, [a, .own (.val (rowD r)), c, .own (.val (.list (s.map .int))), x, z, d, e', f, g, h']) := by
  have cat : addD (.list (s.map .int)) (.list [.int 99]) = some (.lst ((s ++ [99]).map .int)) := by
    have z : catLD (.list (s.map .int)) (.list [.int 99]) = some (.lst ((s ++ [99]).map .int)) := by
      unfold catLD
      simp
      omega
    unfold addD
    rw [z]
    rfl
  obtain ⟨st', e, z, rfl⟩ := sForT (w := wVal (e2 addD (eVar 3) (eLst (aCons (eC (.int 99)) aNil)))) (g := gN 5) (b := LB3__law_judged) (st := [a, .own (.val (rowD r)), c, .own (.val (.list (s.map .int))), x, y, d, e', f, g, h']) (st1 := [a, .own (.val (rowD r)), c, .own (.val (.list (s.map .int))), x, y, d, e', f, g, h']) (xs := s ++ [99]) PyData.int
    (fun done st => ∃ z, st = [a, .own (.val (rowD r)), c, .own (.val (.list (s.map .int))), x, z, d, e', f, g, h']) (by simp [cat]) ⟨_, rfl⟩
    (fun done n todo st hd q => by
      obtain ⟨z, rfl⟩ := q
      refine ⟨[a, .own (.val (rowD r)), c, .own (.val (.list (s.map .int))), x, .own (.val (.int n)), d, e', f, g, h'], [a, .own (.val (rowD r)), c, .own (.val (.list (s.map .int))), x, .own (.val (.int n)), d, e', f, g, h'], .nx, by simp, ?_, .inl rfl, .own (.val (.int n)), rfl⟩
      have y1 := part_of_ok r h n
      have y2 := part_comp (r := r) h.len n a c (.own (.val (.list (s.map .int)))) x d e' f g h'
      have y3 := mtV_join (a := "") (by decide) (small_filter h fun p => p.2 == n)
      have y4 := same9 (so_str (n := 8) (Txt.join "" (partOf r n)))
      unfold LB3__law_judged
      obtain ⟨G, hG⟩ : ∃ W, W = D_part_of := ⟨_, rfl⟩
      obtain ⟨E, hE⟩ : ∃ W, W = D__law_same 9 := ⟨_, rfl⟩
      obtain ⟨C, hC⟩ : ∃ W, W = C2__law_judged := ⟨_, rfl⟩
      obtain ⟨P, hP⟩ : ∃ P, P = partOf r n := ⟨_, rfl⟩
      have y5 : lettersOf (r.filter fun p => p.2 == n) = P := hP.symm
      rw [y5] at y3
      rw [← hG, ← hP] at y1
      rw [← hC, ← hP] at y2
      rw [← hE, ← hP] at y4
      rw [← hG, ← hE, ← hC]
      simp [call_s y1, y2, y3, call_s y4])
  exact ⟨z, e⟩
end DY

/-! _law_judged. -/
namespace DY
open PySem PySem.Spec PySem.Calls PyProof.Rows L2 SX
theorem fresh_inj {n : Nat} (i j : Nat) (hi : i < n) (hj : j < n) (h : (freshL n).getD i 0 = (freshL n).getD j 0) : i = j := by
  unfold freshL at h
  rw [List.getD_eq_getElem?_getD, List.getD_eq_getElem?_getD, List.getElem?_map, List.getElem?_map, List.getElem?_range hi, List.getElem?_range hj] at h
  simp at h
  omega
theorem plainOf_len (r : Row) : (plainOf r).length = r.length := by simp [plainOf]
theorem mapN_len (g : Int → Int) (r : Row) : (mapN g r).length = r.length := by simp [mapN]
theorem isND_t : isNotD (.bool true) (.bool true) = some (.val (.bool false)) := rfl
theorem law_judged_ok {L : Nat} {r o : Row} (hr : RowV L r) (ho : o.length ≤ 1000) : D__law_judged [.val (.int L), .val (rowD r), .val (rowD o)] [] = some (.ok (.val (.bool true)), []) := by
  have hrl := hr.len
  have hsl := seenOf_len r
  obtain ⟨x, y, l9⟩ := judged_loop (.int L) r o (by omega)
  have pl := law_plain_ok r (by omega)
  have nm := names_of_ok r (by omega)
  have s1 := same9 (so_ints (n := 7) (s := seenOf r) (by omega))
  have pr := plain_row_ok r (by omega)
  have s2 := same9 (so_row (n := 6) (r := plainOf r) (by rw [plainOf_len]; omega))
  have ip := is_plain_ok r (by omega)
  have q1 := eq_rows r (plainOf r)
  have s3 := same9 (so_bool (n := 8) (decide (plainOf r = r)))
  have al := are_alike_ok r o (by omega) (by omega)
  have plo := law_plain_ok o (by omega)
  have q2 := eq_rows (plainOf r) (plainOf o)
  have s4 := same9 (so_bool (n := 8) (decide (plainOf r = plainOf o)))
  have al2 := are_alike_ok r (plainOf r) (by omega) (by rw [plainOf_len]; omega)
  rw [plainOf_plainOf] at al2
  have hfl := freshL_len (seenOf r).length
  have c7 := fresh_comp (.own (.val (.int L))) (.own (.val (rowD r))) (.own (.val (rowD o))) x y (.own (.val (rowD (plainOf r)))) (seenOf r) (by omega)
  have rn := renamed_ok r (freshL (seenOf r).length) (by omega) hfl
  have c6 := fun e' h9 h10 => moved_comp (.own (.val (.int L))) (.own (.val (rowD o))) (.own (.val (rowD (plainOf r)))) e' r (by omega) x y (freshL (seenOf r).length) hfl h9 h10
  have s5 := same9 (so_row (n := 6) (r := mapN (renG r (freshL (seenOf r).length)) r) (by rw [mapN_len]; omega))
  have pm := plain_row_ok (mapN (renG r (freshL (seenOf r).length)) r) (by rw [mapN_len]; omega)
  have im := is_plain_ok (plainOf (mapN (renG r (freshL (seenOf r).length)) r)) (by rw [plainOf_len, mapN_len]; omega)
  rw [plainOf_plainOf] at im
  have lo := letters_of_ok r hr.t
  have c5 := fun e' f g h => letters_comp (r := r) (by omega) (.own (.val (.int L))) (.own (.val (rowD o))) (.own (.val (.list ((seenOf r).map .int)))) x y (.own (.val (rowD (plainOf r)))) e' f g h
  have j5 := mtV_join (a := "") (by decide) (small_letters hr.t)
  have s6 := same9 (so_str (n := 8) (Txt.join "" (lettersOf r)))
  have l4 := fun e' f g h' => parts_loop hr.t (seenOf r) (by omega) (.own (.val (.int L))) (.own (.val (rowD o))) x y (.own (.val (rowD (plainOf r)))) e' f g h'
  have c1 := fun z e' f g h' => text_comp hr.t (.own (.val (.int L))) (.own (.val (rowD o))) (.own (.val (.list ((seenOf r).map .int)))) x z (.own (.val (rowD (plainOf r)))) e' f g h'
  have j1 := mtV_join (a := " ") (by decide) (small_tx hr.t)
  have rt := row_text_ok r hr.t
  have s7 := same9 (so_str (n := 8) (Txt.join " " (txOf r)))
  have tl := told_row hr
  have s8 := same9 (so_row (n := 6) (r := r) (by omega))
  have b1 : decide (r = plainOf r) = decide (plainOf r = r) := by simp [eq_comm]
  rw [b1] at q1
  have ms : Rs.ow (.val (.tuple ((mapN (renG r (freshL (seenOf r).length)) r).map stD))) = Rs.ow (.val (rowD (mapN (renG r (freshL (seenOf r).length)) r))) := rfl
  unfold D__law_judged
  obtain ⟨Rr, hRr⟩ : ∃ d, d = rowD r := ⟨_, rfl⟩
  obtain ⟨P, hP⟩ : ∃ d, d = rowD (plainOf r) := ⟨_, rfl⟩
  obtain ⟨O, hO⟩ : ∃ d, d = rowD o := ⟨_, rfl⟩
  obtain ⟨Po, hPo⟩ : ∃ d, d = rowD (plainOf o) := ⟨_, rfl⟩
  obtain ⟨Mv, hMv⟩ : ∃ d, d = rowD (mapN (renG r (freshL (seenOf r).length)) r) := ⟨_, rfl⟩
  obtain ⟨Ms, hMs⟩ : ∃ d, d = (mapN (renG r (freshL (seenOf r).length)) r).map stD := ⟨_, rfl⟩
  obtain ⟨Mp, hMp⟩ : ∃ d, d = rowD (plainOf (mapN (renG r (freshL (seenOf r).length)) r)) := ⟨_, rfl⟩
  obtain ⟨Sn, hSn⟩ : ∃ d, d = (seenOf r).map PyData.int := ⟨_, rfl⟩
  obtain ⟨Fr, hFr⟩ : ∃ d, d = (freshL (seenOf r).length).map PyData.int := ⟨_, rfl⟩
  obtain ⟨b, hb⟩ : ∃ d, d = decide (plainOf r = r) := ⟨_, rfl⟩
  obtain ⟨b2, hb2⟩ : ∃ d, d = decide (plainOf r = plainOf o) := ⟨_, rfl⟩
  obtain ⟨lt, hlt⟩ : ∃ d, d = Txt.join "" (lettersOf r) := ⟨_, rfl⟩
  obtain ⟨tx, htx⟩ : ∃ d, d = Txt.join " " (txOf r) := ⟨_, rfl⟩
  obtain ⟨ls, hls⟩ : ∃ d, d = (lettersOf r).map PyData.str := ⟨_, rfl⟩
  obtain ⟨ts, hts⟩ : ∃ d, d = (txOf r).map PyData.str := ⟨_, rfl⟩
  unfold j0 at l9
  have hMM : PyData.tuple Ms = Mv := by rw [hMs, hMv]; rfl
  simp only [← hRr, ← hP, ← hO, ← hPo, ← hMv, ← hMs, ← hMp, ← hSn, ← hFr, ← hb, ← hb2, ← hlt, ← htx, ← hls, ← hts, decide_true] at l9 pl nm s1 pr s2 ip q1 s3 al plo q2 s4 al2 c7 rn c6 s5 pm im lo c5 j5 s6 l4 c1 j1 rt s7 tl s8 ms ⊢
  obtain ⟨K1, hK1⟩ : ∃ W, W = D__law_plain := ⟨_, rfl⟩
  obtain ⟨K2, hK2⟩ : ∃ W, W = D_names_of := ⟨_, rfl⟩
  obtain ⟨K3, hK3⟩ : ∃ W, W = D_plain_row := ⟨_, rfl⟩
  obtain ⟨K4, hK4⟩ : ∃ W, W = D_is_plain := ⟨_, rfl⟩
  obtain ⟨K5, hK5⟩ : ∃ W, W = D_are_alike := ⟨_, rfl⟩
  obtain ⟨K6, hK6⟩ : ∃ W, W = D_renamed := ⟨_, rfl⟩
  obtain ⟨K7, hK7⟩ : ∃ W, W = D_letters_of := ⟨_, rfl⟩
  obtain ⟨K8, hK8⟩ : ∃ W, W = D_row_text := ⟨_, rfl⟩
  obtain ⟨K9, hK9⟩ : ∃ W, W = D__law_told := ⟨_, rfl⟩
  obtain ⟨KS, hKS⟩ : ∃ W, W = D__law_same 9 := ⟨_, rfl⟩
  obtain ⟨X9, hX9⟩ : ∃ W, W = L9__law_judged := ⟨_, rfl⟩
  obtain ⟨X4, hX4⟩ : ∃ W, W = L4__law_judged := ⟨_, rfl⟩
  obtain ⟨C1, hC1⟩ : ∃ W, W = C1__law_judged := ⟨_, rfl⟩
  obtain ⟨C5, hC5⟩ : ∃ W, W = C5__law_judged := ⟨_, rfl⟩
  obtain ⟨C6, hC6⟩ : ∃ W, W = C6__law_judged := ⟨_, rfl⟩
  obtain ⟨C7, hC7⟩ : ∃ W, W = C7__law_judged := ⟨_, rfl⟩
  rw [← hK1] at pl plo
  rw [← hK2] at nm
  rw [← hK3] at pr pm
  rw [← hK4] at ip im
  rw [← hK5] at al al2
  rw [← hK6] at rn
  rw [← hK7] at lo
  rw [← hK8] at rt
  rw [← hK9] at tl
  rw [← hKS] at s1 s2 s3 s4 s5 s6 s7 s8
  rw [← hX9] at l9
  simp only [← hX4, ← hC1, ← hC5, ← hC6, ← hC7] at l4 c1 c5 c6 c7
  obtain ⟨z, l4⟩ := l4 (.own (.val (.list Fr))) (.own (.val Mv)) .un .un
  refine runD_ret (st := [.own (.val (.int L)), .own (.val Rr), .own (.val O), .own (.val (.list Sn)), x, z, .own (.val P), .own (.val (.list Fr)), .own (.val Mv), .own (.val (.str tx)), .un]) ?_ rfl
  unfold B__law_judged
  rw [← hK1, ← hK2, ← hK3, ← hK4, ← hK5, ← hK6, ← hK7, ← hK8, ← hK9, ← hKS, ← hX9, ← hX4, ← hC1, ← hC5, ← hC6, ← hC7]
  simp [l9, call_s pl, call_s nm, call_s s1, call_s pr, call_s s2, call_s ip, q1, call_s s3, call_s al, call_s plo, q2, call_s s4, call_s al2, isND_t, c7, call_s rn, c6, call_s s5, call_s pm, call_s im, call_s lo, c5, j5, call_s s6, l4, c1, j1, call_s rt, call_s s7, call_s tl, call_s s8, hMM]
end DY

/-! The plain rows, level by level. -/
namespace DY
open PySem PySem.Spec PySem.Calls PyProof.Rows L2 SX
def ext1 (r : Row) (x : Str) : List Row := (List.range ((seenOf r).length + 1)).map fun n : Nat => r ++ [(x, (n : Int))]
def ext (L : Nat) (r : Row) : List Row := (abcL.take L).flatMap (ext1 r)
def level (L : Nat) : Nat → List Row
  | 0 => [[]]
  | k + 1 => (level L k).flatMap (ext L)
def allU (L : Nat) : Nat → List Row
  | 0 => level L 0
  | k + 1 => allU L k ++ level L (k + 1)
def extN (L n : Nat) (r : Row) : List Row := if r.length < n then ext L r else []
def topN (L : Nat) : Nat := if L = 1 then 6 else if L = 2 then 4 else 3
theorem flat_len {α β : Type} (f : α → List β) (k : Nat) : ∀ (xs : List α), (∀ x ∈ xs, (f x).length ≤ k) → (xs.flatMap f).length ≤ xs.length * k
  | [], _ => by simp
  | x :: xs, h => by
    have h1 := h x (by simp)
    have h2 := flat_len f k xs fun y hy => h y (List.mem_cons_of_mem _ hy)
    rw [List.flatMap_cons, List.length_append, List.length_cons, Nat.succ_mul]
    omega
theorem ext1_mem {r s : Row} {x : Str} (h : s ∈ ext1 r x) : ∃ n : Nat, n < (seenOf r).length + 1 ∧ s = r ++ [(x, (n : Int))] := by
  obtain ⟨n, hn, rfl⟩ := List.mem_map.mp h
  exact ⟨n, List.mem_range.mp hn, rfl⟩
theorem ext_mem {L : Nat} {r s : Row} (h : s ∈ ext L r) : ∃ x, x ∈ abcL.take L ∧ ∃ n : Nat, n < (seenOf r).length + 1 ∧ s = r ++ [(x, (n : Int))] := by
  obtain ⟨x, hx, h⟩ := List.mem_flatMap.mp h
  exact ⟨x, hx, ext1_mem h⟩
theorem ext_len {L : Nat} {r s : Row} (h : s ∈ ext L r) : s.length = r.length + 1 := by
  obtain ⟨x, _, n, _, rfl⟩ := ext_mem h
  simp
theorem level_len {L : Nat} : ∀ {k : Nat} {r : Row}, r ∈ level L k → r.length = k
  | 0, r, h => by
    have := List.mem_singleton.mp h
    subst this
    rfl
  | k + 1, r, h => by
    obtain ⟨p, hp, h⟩ := List.mem_flatMap.mp h
    rw [ext_len h, level_len hp]
theorem allU_len {L : Nat} : ∀ {k : Nat} {r : Row}, r ∈ allU L k → r.length ≤ k
  | 0, r, h => Nat.le_of_eq (level_len (k := 0) h)
  | k + 1, r, h => by
    rcases List.mem_append.mp h with h | h
    · have := allU_len h
      omega
    · exact Nat.le_of_eq (level_len h)
theorem ext_card (L : Nat) (r : Row) : (ext L r).length ≤ L * (r.length + 1) := by
  have h1 := flat_len (ext1 r) (r.length + 1) (abcL.take L) (fun x _ => by
    have := seenOf_len r
    simp [ext1]
    omega)
  have h2 : (abcL.take L).length ≤ L := by simp; omega
  exact Nat.le_trans h1 (Nat.mul_le_mul_right _ h2)
def bn (L : Nat) : Nat → Nat
  | 0 => 1
  | k + 1 => bn L k * (L * (k + 1))
theorem level_card (L : Nat) : ∀ k, (level L k).length ≤ bn L k
  | 0 => Nat.le_refl _
  | k + 1 => by
    have h := flat_len (ext L) (L * (k + 1)) (level L k) fun r hr => by
      have := ext_card L r
      rw [level_len hr] at this
      exact this
    exact Nat.le_trans h (Nat.mul_le_mul_right _ (level_card L k))
theorem bn_small : ∀ L, L < 4 → ∀ k, k < 7 → k ≤ topN L → bn L k ≤ 720 := by decide
theorem level_small {L k : Nat} (hL : L ≤ 3) (hk : k ≤ topN L) : (level L k).length ≤ 720 := by
  have : topN L ≤ 6 := by unfold topN; split <;> (try split) <;> omega
  exact Nat.le_trans (level_card L k) (bn_small L (by omega) k (by omega) hk)
theorem topN_le (L : Nat) : topN L ≤ 6 := by unfold topN; split <;> (try split) <;> omega
theorem topN_pos (L : Nat) : 0 < topN L := by unfold topN; split <;> (try split) <;> omega
theorem allU_small {L : Nat} (hL : L ≤ 3) : ∀ {k : Nat}, k ≤ topN L → (allU L k).length ≤ 720 * (k + 1)
  | 0, h => by
    have := level_small hL h
    unfold allU
    omega
  | k + 1, h => by
    have h1 := allU_small hL (k := k) (by omega)
    have h2 := level_small hL h
    unfold allU
    rw [List.length_append]
    omega
theorem extN_level {L n : Nat} : ∀ {k : Nat}, k < n → (level L k).flatMap (extN L n) = level L (k + 1) := by
  intro k hk
  have : ∀ xs : List Row, (∀ r ∈ xs, r.length = k) → xs.flatMap (extN L n) = xs.flatMap (ext L) := by
    intro xs
    induction xs with
    | nil => intro _; rfl
    | cons x xs ih =>
      intro h
      rw [List.flatMap_cons, List.flatMap_cons, ih fun r hr => h r (List.mem_cons_of_mem _ hr)]
      have := h x (by simp)
      unfold extN
      rw [if_pos (by omega)]
  exact this _ fun r hr => level_len hr
theorem extN_last {L n : Nat} : (level L n).flatMap (extN L n) = [] := by
  refine List.flatMap_eq_nil_iff.mpr fun r hr => ?_
  unfold extN
  rw [if_neg (by rw [level_len hr]; omega)]
theorem all_step {L n : Nat} : ∀ {k : Nat}, k < n → [[]] ++ (allU L k).flatMap (extN L n) = allU L (k + 1)
  | 0, h => by
    have := extN_level (L := L) h
    show [[]] ++ (level L 0).flatMap (extN L n) = _
    rw [this]
    rfl
  | k + 1, h => by
    have h1 := all_step (L := L) (n := n) (k := k) (by omega)
    have h2 := extN_level (L := L) h
    show [[]] ++ (allU L k ++ level L (k + 1)).flatMap (extN L n) = _
    rw [List.flatMap_append, ← List.append_assoc, h1, h2]
    rfl
theorem all_fix {L n : Nat} (hn : 0 < n) : [[]] ++ (allU L n).flatMap (extN L n) = allU L n := by
  obtain ⟨m, rfl⟩ : ∃ m, n = m + 1 := ⟨n - 1, by omega⟩
  have h1 := all_step (L := L) (n := m + 1) (k := m) (by omega)
  have h2 := extN_last (L := L) (n := m + 1)
  show [[]] ++ (allU L m ++ level L (m + 1)).flatMap (extN L (m + 1)) = _
  rw [List.flatMap_append, ← List.append_assoc, h1, h2, List.append_nil]
theorem extN_len {L n : Nat} {r s : Row} (h : s ∈ extN L n r) : s.length = r.length + 1 := by
  unfold extN at h
  split at h
  · exact ext_len h
  · simp at h
theorem no_fix {L n : Nat} {l : List Row} (h : l = l.flatMap (extN L n)) : l = [] := by
  have key : ∀ m, ∀ r ∈ l, r.length ≠ m := by
    intro m
    induction m with
    | zero =>
      intro r hr e
      rw [h] at hr
      obtain ⟨p, _, hs⟩ := List.mem_flatMap.mp hr
      have := extN_len hs
      omega
    | succ m ih =>
      intro r hr e
      rw [h] at hr
      obtain ⟨p, hp, hs⟩ := List.mem_flatMap.mp hr
      have := extN_len hs
      exact ih p hp (by omega)
  cases l with
  | nil => rfl
  | cons a l => exact absurd rfl (key a.length a (by simp))
def queue (L n k : Nat) : List Row := [[]] ++ ((allU L n).take k).flatMap (extN L n)
theorem queue_pre {L n : Nat} (hn : 0 < n) (k : Nat) : allU L n = queue L n k ++ ((allU L n).drop k).flatMap (extN L n) := by
  have : allU L n = [[]] ++ ((allU L n).take k ++ (allU L n).drop k).flatMap (extN L n) := by
    rw [List.take_append_drop, all_fix hn]
  rw [List.flatMap_append] at this
  unfold queue
  rw [List.append_assoc]
  exact this
theorem queue_len {L n : Nat} (hn : 0 < n) (k : Nat) : (queue L n k).length ≤ (allU L n).length := by
  have := congrArg List.length (queue_pre (L := L) hn k)
  rw [List.length_append] at this
  omega
theorem queue_step {L n k : Nat} (hn : 0 < n) (hk : k < (queue L n k).length) : ∃ r, (queue L n k)[k]? = some r ∧ r.length ≤ n ∧ queue L n (k + 1) = queue L n k ++ extN L n r := by
  obtain ⟨r, hr⟩ : ∃ r, (queue L n k)[k]? = some r := ⟨_, List.getElem?_eq_getElem hk⟩
  have ha : (allU L n)[k]? = some r := by
    rw [queue_pre hn k, List.getElem?_append_left hk]
    exact hr
  refine ⟨r, hr, allU_len (List.mem_of_getElem? ha), ?_⟩
  unfold queue
  rw [List.take_succ, ha, List.flatMap_append, List.append_assoc]
  simp
theorem queue_end {L n k : Nat} (hn : 0 < n) (h : (queue L n k).length = k) : queue L n k = allU L n := by
  have q := queue_pre (L := L) hn k
  have d : (allU L n).drop k = ((allU L n).drop k).flatMap (extN L n) := by
    obtain ⟨Z, hZ⟩ : ∃ Z, Z = ((allU L n).drop k).flatMap (extN L n) := ⟨_, rfl⟩
    rw [← hZ] at q ⊢
    rw [q, List.drop_append, h, Nat.sub_self, List.drop_zero, List.drop_eq_nil_of_le (Nat.le_of_eq h), List.nil_append]
  rw [no_fix d] at q
  rw [q]
  simp
theorem allU_filter {L : Nat} (m : Nat) : ∀ {k : Nat}, (allU L k).filter (fun r => r.length == m) = if m ≤ k then level L m else []
  | 0 => by
    show (level L 0).filter _ = _
    by_cases h : m = 0
    · subst h
      rfl
    · rw [if_neg (by omega)]
      have : (0 == m) = false := by simp; omega
      simp [level, this]
  | k + 1 => by
    have all : ∀ j, (level L j).filter (fun r => r.length == m) = if j = m then level L j else [] := by
      intro j
      split
      · next e =>
        refine List.filter_eq_self.mpr fun r hr => ?_
        rw [level_len hr, e]
        exact beq_self_eq_true m
      · next e =>
        refine List.filter_eq_nil_iff.mpr fun r hr => ?_
        rw [level_len hr]
        simpa using e
    show (allU L k ++ level L (k + 1)).filter _ = _
    rw [List.filter_append, allU_filter m, all]
    by_cases h1 : m ≤ k
    · rw [if_pos h1, if_neg (by omega), if_pos (by omega), List.append_nil]
    · by_cases h2 : m = k + 1
      · rw [if_neg h1, if_pos h2.symm, if_pos (by omega), h2, List.nil_append]
      · rw [if_neg h1, if_neg (fun e => h2 e.symm), if_neg (by omega), List.nil_append]
end DY

/-! Each level stands in the ascending order. -/
namespace DY
open PySem PySem.Spec PySem.Calls PyProof.Rows L2 SX
abbrev Tk := Int ⊕ List Nat
def lx (a b : List Tk) : Bool := PyProof.Rows.lexLt itemOrd a b
def tok6 (p : Str × Int) : List Tk := [.inl 1, .inl 1, .inr p.1.cps.toList, .inl 1, .inl p.2, .inl 0]
def preT (r : Row) : List Tk := r.flatMap tok6
theorem toks_row : ∀ r : Row, PySem.W.keyToksAll (r.map stD) = preT r ++ [.inl 0]
  | [] => by simp [PySem.W.keyToksAll, preT]
  | p :: r => by
    rw [List.map_cons, PySem.W.keyToksAll, toks_row r]
    simp [preT, stD, PySem.W.keyToks, PySem.W.keyToksAll, tok6]
theorem lx_cons (x y : Tk) (a b : List Tk) : lx (x :: a) (y :: b) = (PyProof.Rows.itemLt x y || (!PyProof.Rows.itemLt y x && lx a b)) := PyProof.Rows.lex_cons (O := itemOrd) x y a b
theorem lx_self (x : Tk) (a b : List Tk) : lx (x :: a) (x :: b) = lx a b := PyProof.Rows.lex_self (O := itemOrd) x a b
theorem lx_app : ∀ {u v : List Tk} (A B : List Tk), u.length = v.length → lx u v = true → lx (u ++ A) (v ++ B) = true
  | [], [], _, _, _, h => by cases h
  | [], _ :: _, _, _, h, _ => by simp at h
  | _ :: _, [], _, _, h, _ => by simp at h
  | x :: u, y :: v, A, B, h, e => by
    rw [lx_cons] at e
    rw [List.cons_append, List.cons_append, lx_cons]
    simp only [Bool.or_eq_true, Bool.and_eq_true] at e ⊢
    rcases e with e | ⟨e1, e2⟩
    · exact .inl e
    · exact .inr ⟨e1, lx_app A B (by simpa using h) e2⟩
theorem lx_pre : ∀ (p a b : List Tk), lx (p ++ a) (p ++ b) = lx a b
  | [], _, _ => rfl
  | x :: p, a, b => by rw [List.cons_append, List.cons_append, lx_self, lx_pre p a b]
theorem pre_len : ∀ r : Row, (preT r).length = 6 * r.length
  | [] => rfl
  | p :: r => by
    have := pre_len r
    unfold preT at this ⊢
    rw [List.flatMap_cons, List.length_append, this, List.length_cons]
    simp [tok6]
    omega
/-- the order of rows of one length -/
def rlt (a b : Row) : Prop := a.length = b.length ∧ lx (preT a) (preT b) = true
theorem pre_snoc (r : Row) (p : Str × Int) : preT (r ++ [p]) = preT r ++ tok6 p := by simp [preT]
theorem rlt_snoc {a b : Row} (h : rlt a b) (p q : Str × Int) : rlt (a ++ [p]) (b ++ [q]) := by
  refine ⟨by simp [h.1], ?_⟩
  rw [pre_snoc, pre_snoc]
  exact lx_app _ _ (by rw [pre_len, pre_len, h.1]) h.2
theorem rlt_last (r : Row) {p q : Str × Int} (h : lx (tok6 p) (tok6 q) = true) : rlt (r ++ [p]) (r ++ [q]) := by
  refine ⟨by simp, ?_⟩
  rw [pre_snoc, pre_snoc, lx_pre]
  exact h
theorem tok_num (x : Str) {i j : Int} (h : i < j) : lx (tok6 (x, i)) (tok6 (x, j)) = true := by
  unfold tok6
  rw [lx_self, lx_self, lx_self, lx_self, lx_cons]
  have : PyProof.Rows.itemLt (.inl i) (.inl j) = true := by
    show decide (i < j) = true
    simpa using h
  rw [this]
  rfl
theorem tok_let {x y : Str} (h : PyProof.Rows.itemLt (.inr x.cps.toList) (.inr y.cps.toList) = true) (i j : Int) : lx (tok6 (x, i)) (tok6 (y, j)) = true := by
  unfold tok6
  rw [lx_self, lx_self, lx_cons, h]
  rfl
theorem abc_order : abcL.Pairwise fun x y => PyProof.Rows.itemLt (.inr x.cps.toList) (.inr y.cps.toList) = true := by
  decide
theorem ext_order (L : Nat) (r : Row) : (ext L r).Pairwise rlt := by
  unfold ext
  rw [List.pairwise_flatMap]
  refine ⟨fun x _ => ?_, ?_⟩
  · unfold ext1
    rw [List.pairwise_map]
    refine List.pairwise_lt_range.imp fun {i j} h => rlt_last r (tok_num x (by omega))
  · refine List.Pairwise.imp ?_ (abc_order.sublist (List.take_sublist L abcL))
    intro x y h s hs t ht
    obtain ⟨i, _, rfl⟩ := ext1_mem hs
    obtain ⟨j, _, rfl⟩ := ext1_mem ht
    exact rlt_last r (tok_let h i j)
theorem level_order (L : Nat) : ∀ k, (level L k).Pairwise rlt
  | 0 => List.pairwise_singleton _ _
  | k + 1 => by
    show ((level L k).flatMap (ext L)).Pairwise rlt
    rw [List.pairwise_flatMap]
    refine ⟨fun r _ => ext_order L r, List.Pairwise.imp ?_ (level_order L k)⟩
    intro a b h s hs t ht
    obtain ⟨x, _, i, _, rfl⟩ := ext_mem hs
    obtain ⟨y, _, j, _, rfl⟩ := ext_mem ht
    exact rlt_snoc h _ _
theorem rlt_le {a b : Row} (h : rlt a b) : dLe (rowD a) (rowD b) = true := by
  have e : dLe (rowD a) (rowD b) = !lx (PySem.W.keyToksAll (b.map stD)) (PySem.W.keyToksAll (a.map stD)) := rfl
  rw [e, toks_row, toks_row]
  have h1 := lx_app [.inl 0] [.inl 0] (by rw [pre_len, pre_len, h.1]) h.2
  cases h2 : lx (preT b ++ [.inl 0]) (preT a ++ [.inl 0]) with
  | false => rfl
  | true =>
    have := PyProof.Rows.lex_trans (O := itemOrd) _ _ _ h1 h2
    rw [PyProof.Rows.lex_irrefl] at this
    cases this
theorem alike_sts : ∀ {a b : Row}, a.length = b.length → PySem.W.alikeAll (a.map stD) (b.map stD) = true
  | [], [], _ => by simp [PySem.W.alikeAll]
  | [], _ :: _, h => by simp at h
  | _ :: _, [], h => by simp at h
  | p :: a, q :: b, h => by
    rw [List.map_cons, List.map_cons, PySem.W.alikeAll, alike_sts (by simpa using h)]
    simp [stD, PySem.W.alike, PySem.W.alikeAll]
theorem plain_rows_d : ∀ rs : List Row, PyData.plainAll (rs.map rowD) = true
  | [] => rfl
  | r :: rs => by rw [List.map_cons, PyData.plainAll, plain_rowD, plain_rows_d rs]; rfl
theorem depth_rows_d : ∀ rs : List Row, PyData.depthAll (rs.map rowD) ≤ 4
  | [] => by simp [PyData.depthAll]
  | r :: rs => by
    rw [List.map_cons, PyData.depthAll]
    have h1 := depth_rowD r
    have h2 := depth_rows_d rs
    omega
theorem level_sorted (L k : Nat) : sortedD [.list ((level L k).map rowD)] = some (.lst ((level L k).map rowD)) := by
  have key : sortL ((level L k).map rowD) = some ((level L k).map rowD) := by
    unfold sortL
    split
    · rfl
    · next hl =>
      have hk : 0 < k := by
        cases k with
        | zero => simp [level] at hl
        | succ k => omega
      rw [if_pos, List.mergeSort_of_pairwise]
      · rw [List.pairwise_map]
        exact (level_order L k).imp rlt_le
      · unfold sortOk
        have h1 := plain_rows_d (level L k)
        have h2 : ((level L k).map rowD).all (fun d => ((level L k).map rowD).all fun e => PySem.W.alike d e) = true := by
          refine List.all_eq_true.mpr fun d hd => List.all_eq_true.mpr fun e he => ?_
          obtain ⟨a, ha, rfl⟩ := List.mem_map.mp hd
          obtain ⟨b, hb, rfl⟩ := List.mem_map.mp he
          have := alike_sts (a := a) (b := b) (by rw [level_len ha, level_len hb])
          rw [rowD, rowD, PySem.W.alike]
          exact this
        have h3 : ((level L k).map rowD).all tupNe = true := by
          refine List.all_eq_true.mpr fun d hd => ?_
          obtain ⟨a, ha, rfl⟩ := List.mem_map.mp hd
          have := level_len ha
          cases a with
          | nil => simp at this; omega
          | cons p a => rfl
        have h4 := depth_rows_d (level L k)
        rw [h1, h2, h3]
        simp
        omega
  show (sortL ((level L k).map rowD)).map Rs.lst = _
  rw [key]
  rfl
end DY

/-! longer_rows, plain_rows. -/
namespace DY
open PySem PySem.Spec PySem.Calls PyProof.Rows L2 SX
@[simp] theorem extend_s {ds es : List Dt} (h : ds.length + es.length ≤ 16777216) : extendF (.lst ds) [.ow (.lst es)] = some (.lst (ds ++ es), .val .none) := by
  show (if ds.length + es.length ≤ lenLine then some (Ow.lst (ds ++ es), Rs.val .none) else none) = _
  rw [if_pos (by rw [lenLine_val]; exact h)]
theorem cat_row {r : Row} (h : r.length ≤ 1000) (x : Str) (n : Int) : addD (rowD r) (.tuple [.tuple [.str x, .int n]]) = some (.val (rowD (r ++ [(x, n)]))) := by
  have z : catTD (rowD r) (.tuple [.tuple [.str x, .int n]]) = some (.val (rowD (r ++ [(x, n)]))) := by
    unfold catTD rowD
    simp [stD]
    omega
  unfold addD
  rw [z]
  rfl
theorem abc_to {L : Nat} : slD (.str "abc") none (some (L : Int)) = some (.val (.str (S ([97, 98, 99].take L)))) := by
  have := sl_to (a := [97, 98, 99]) (i := (L : Int)) (by omega) (by decide)
  rw [Int.toNat_natCast] at this
  exact this
theorem abc_items (L : Nat) : itemsR (.ow (.val (.str (S ([97, 98, 99].take L))))) = some ((abcL.take L).map PyData.str) := by
  rw [items_S]
  have e : abcL.take L = ([97, 98, 99].take L).map fun c => S [c] := by
    rw [List.map_take]; rfl
  rw [e, List.map_map]
  rfl
theorem abc_walk {L i : Nat} {st : DS} (h : lookS st i = some (.val (.int L))) : wVal (eSl (eC (.str "abc")) pNo (pSome (eVar i))) st = some (.ok ((abcL.take L).map PyData.str), st) := by
  have a := abc_to (L := L)
  have b := abc_items L
  obtain ⟨Z, hZ⟩ : ∃ Z, Z = S ([97, 98, 99].take L) := ⟨_, rfl⟩
  obtain ⟨w, hw⟩ : ∃ w, w = (abcL.take L).map PyData.str := ⟨_, rfl⟩
  obtain ⟨c, hc⟩ : ∃ c, c = PyData.str "abc" := ⟨_, rfl⟩
  rw [← hZ] at a b
  rw [← hw] at b ⊢
  rw [← hc] at a ⊢
  simp [h, a, b]
theorem long_comp (a b s : Sl) (r : Row) (hr : r.length ≤ 1000) (x : Str) (y : Sl) :
    C1_longer_rows [a, .own (.val (rowD r)), .own (.val (.int (seenOf r).length)), s, .own (.val (.str x)), y] = some (.ok (.lst ((ext1 r x).map rowD)), [a, .own (.val (rowD r)), .own (.val (.int (seenOf r).length)), s, .own (.val (.str x)), y]) := by
  have hs := seenOf_len r
  have := eLcY (own := [5]) (w := wRng1 (aCons (e2 addD (eVar 2) (eC (.int 1))) aNil)) (g := gN 5) (e := (e2 addD (eL tupD (aCons (eVar 1) aNil)) (eTup (aCons (eTup (aCons (eVar 4) (aCons (eVar 5) aNil))) aNil)))) (st := [a, .own (.val (rowD r)), .own (.val (.int (seenOf r).length)), s, .own (.val (.str x)), y]) (st1 := [a, .own (.val (rowD r)), .own (.val (.int (seenOf r).length)), s, .own (.val (.str x)), y]) (xs := List.range ((seenOf r).length + 1))
    (fun i : Nat => PyData.int i) (fun n : Nat => rowD (r ++ [(x, (n : Int))])) (by rw [← ints_range]; exact wRng1_n (by simp) (by omega)) (by rw [lenLine_val, List.length_range]; omega)
    (fun n hn => ⟨[a, .own (.val (rowD r)), .own (.val (.int (seenOf r).length)), s, .own (.val (.str x)), .own (.val (.int n))], by simp, .val (rowD (r ++ [(x, (n : Int))])), [a, .own (.val (rowD r)), .own (.val (.int (seenOf r).length)), s, .own (.val (.str x)), .own (.val (.int n))], by
      have c := cat_row hr x (n : Int)
      have t : tupD [rowD r] = some (.val (rowD r)) := rfl
      obtain ⟨R, hR⟩ : ∃ d, d = rowD r := ⟨_, rfl⟩
      obtain ⟨Q, hQ⟩ : ∃ d, d = rowD (r ++ [(x, (n : Int))]) := ⟨_, rfl⟩
      rw [← hR, ← hQ] at c
      rw [← hR] at t
      rw [← hR, ← hQ]
      simp [t, c], rfl, by simp⟩)
  unfold C1_longer_rows
  rw [this]
  simp [ext1, List.map_map]
theorem ext1_len (r : Row) (x : Str) : (ext1 r x).length = (seenOf r).length + 1 := by simp [ext1]
theorem exts_len (r : Row) (xs : List Str) : (xs.flatMap (ext1 r)).length = xs.length * ((seenOf r).length + 1) := by
  induction xs with
  | nil => simp
  | cons x xs ih => rw [List.flatMap_cons, List.length_append, ih, ext1_len, List.length_cons, Nat.succ_mul, Nat.add_comm]
theorem longer_ok {L : Nat} (r : Row) (hr : r.length ≤ 1000) : D_longer_rows [.val (.int L), .val (rowD r)] [] = some (.ok (.lst ((ext L r).map rowD)), []) := by
  have hs := seenOf_len r
  have nm := names_of_ok r (by omega)
  have e : ∃ x y, L3_longer_rows [.own (.val (.int L)), .own (.val (rowD r)), .own (.val (.int (seenOf r).length)), .own (.lst []), .un, .un] = some (.ok .nx, [.own (.val (.int L)), .own (.val (rowD r)), .own (.val (.int (seenOf r).length)), .own (.lst ((ext L r).map rowD)), x, y]) := by
    obtain ⟨st', e, x, y, rfl⟩ := sForT (w := (wVal (eSl (eC (.str "abc")) pNo (pSome (eVar 0))))) (g := gN 4) (b := LB2_longer_rows) (st := [.own (.val (.int L)), .own (.val (rowD r)), .own (.val (.int (seenOf r).length)), .own (.lst []), .un, .un]) (st1 := [.own (.val (.int L)), .own (.val (rowD r)), .own (.val (.int (seenOf r).length)), .own (.lst []), .un, .un]) (xs := abcL.take L) PyData.str
      (fun done st => ∃ x y, st = [.own (.val (.int L)), .own (.val (rowD r)), .own (.val (.int (seenOf r).length)), .own (.lst ((done.flatMap (ext1 r)).map rowD)), x, y]) (abc_walk rfl) ⟨_, _, rfl⟩
      (fun done c todo st hd q => by
        obtain ⟨x, y, rfl⟩ := q
        refine ⟨[.own (.val (.int L)), .own (.val (rowD r)), .own (.val (.int (seenOf r).length)), .own (.lst ((done.flatMap (ext1 r)).map rowD)), .own (.val (.str c)), y], [.own (.val (.int L)), .own (.val (rowD r)), .own (.val (.int (seenOf r).length)), .own (.lst (((done ++ [c]).flatMap (ext1 r)).map rowD)), .own (.val (.str c)), y], .nx, by simp, ?_, .inl rfl, _, _, rfl⟩
        have f := long_comp (.own (.val (.int L))) (.own (.val (.int L))) (.own (.lst ((done.flatMap (ext1 r)).map rowD))) r hr c y
        have hdl : done.length ≤ 3 := by
          have := congrArg List.length hd
          simp [abcL] at this
          omega
        have xt := extend_s (ds := (done.flatMap (ext1 r)).map rowD) (es := (ext1 r c).map rowD) (by
          rw [List.length_map, List.length_map, exts_len, ext1_len]
          have : done.length * ((seenOf r).length + 1) ≤ 3 * ((seenOf r).length + 1) := Nat.mul_le_mul_right _ hdl
          omega)
        rw [← List.map_append] at xt
        rw [List.flatMap_append, List.flatMap_singleton]
        obtain ⟨C, hC⟩ : ∃ W, W = C1_longer_rows := ⟨_, rfl⟩
        obtain ⟨d1, h1⟩ : ∃ d, d = (done.flatMap (ext1 r)).map rowD := ⟨_, rfl⟩
        obtain ⟨d2, h2⟩ : ∃ d, d = (ext1 r c).map rowD := ⟨_, rfl⟩
        obtain ⟨d3, h3⟩ : ∃ d, d = (done.flatMap (ext1 r) ++ ext1 r c).map rowD := ⟨_, rfl⟩
        rw [← hC, ← h1, ← h2] at f
        rw [← h1, ← h2, ← h3] at xt
        unfold LB2_longer_rows
        rw [← hC, ← h1, ← h3]
        simp [f, xt])
    exact ⟨x, y, e⟩
  obtain ⟨x, y, e⟩ := e
  obtain ⟨W, hW⟩ : ∃ W, W = L3_longer_rows := ⟨_, rfl⟩
  obtain ⟨G, hG⟩ : ∃ W, W = D_names_of := ⟨_, rfl⟩
  obtain ⟨Q, hQ⟩ : ∃ W, W = (ext L r).map rowD := ⟨_, rfl⟩
  rw [← hW, ← hQ] at e
  rw [← hG] at nm
  rw [← hQ]
  refine runD_ret (st := [.own (.val (.int L)), .own (.val (rowD r)), .own (.val (.int (seenOf r).length)), .un, x, y]) ?_ rfl
  unfold B_longer_rows
  rw [← hW, ← hG]
  simp [call_s nm, e]
end DY

/-! plain_rows. -/
namespace DY
open PySem PySem.Spec PySem.Calls PyProof.Rows L2 SX
theorem now_walk {i : Nat} {st st1 : DS} {ds : List Dt} (h : (st[i]? = some (.own (.lst ds)) ∧ st1 = st.set i (.own (.val (.list ds)))) ∨ (st[i]? = some (.own (.val (.list ds))) ∧ st1 = st)) : wVal (eVar i) st = some (.ok ds, st1) := by
  rcases h with ⟨h, rfl⟩ | ⟨h, rfl⟩
  · have l := look_own h
    have k := root_own h
    simp [l, k]
  · have l := look_own h
    simp [l]
theorem level_pre {L k : Nat} {done todo : List Row} {r : Row} (h : level L k = done ++ r :: todo) : level L (k + 1) = done.flatMap (ext L) ++ (ext L r ++ todo.flatMap (ext L)) := by
  show (level L k).flatMap (ext L) = _
  rw [h, List.flatMap_append, List.flatMap_cons]
theorem level_loop {L k : Nat} (hL : L ≤ 3) (hk : k < topN L) (a i z : Sl) (s : Sl) (hs : s = .own (.lst ((level L k).map rowD)) ∨ s = .own (.val (.list ((level L k).map rowD)))) :
    ∃ z', L2_plain_rows [.own (.val (.int L)), a, s, i, .own (.lst []), z] = some (.ok .nx, [.own (.val (.int L)), a, .own (.val (.list ((level L k).map rowD))), i, .own (.lst ((level L (k + 1)).map rowD)), z']) := by
  have hsm := level_small hL (k := k + 1) hk
  obtain ⟨st', e, z', rfl⟩ := sForT (w := wVal (eVar 2)) (g := gN 5) (b := LB1_plain_rows) (st := [.own (.val (.int L)), a, s, i, .own (.lst []), z]) (st1 := [.own (.val (.int L)), a, .own (.val (.list ((level L k).map rowD))), i, .own (.lst []), z]) (xs := level L k) rowD
    (fun done st => ∃ z', st = [.own (.val (.int L)), a, .own (.val (.list ((level L k).map rowD))), i, .own (.lst ((done.flatMap (ext L)).map rowD)), z']) (now_walk (by
      rcases hs with rfl | rfl
      · exact .inl ⟨rfl, rfl⟩
      · exact .inr ⟨rfl, rfl⟩)) ⟨_, rfl⟩
    (fun done r todo st hd q => by
      obtain ⟨z', rfl⟩ := q
      have hr : r.length ≤ 1000 := by
        have := level_len (L := L) (k := k) (r := r) (by rw [hd]; simp)
        have := topN_le L
        omega
      have f := longer_ok (L := L) r hr
      have lp := congrArg List.length (level_pre hd)
      rw [List.length_append, List.length_append] at lp
      have xt := extend_s (ds := (done.flatMap (ext L)).map rowD) (es := (ext L r).map rowD) (by
        rw [List.length_map, List.length_map]
        omega)
      rw [← List.map_append] at xt
      obtain ⟨C, hC⟩ : ∃ W, W = D_longer_rows := ⟨_, rfl⟩
      obtain ⟨R, hR⟩ : ∃ d, d = rowD r := ⟨_, rfl⟩
      obtain ⟨D, hD⟩ : ∃ d, d = (level L k).map rowD := ⟨_, rfl⟩
      obtain ⟨d1, h1⟩ : ∃ d, d = (done.flatMap (ext L)).map rowD := ⟨_, rfl⟩
      obtain ⟨d2, h2⟩ : ∃ d, d = (ext L r).map rowD := ⟨_, rfl⟩
      obtain ⟨d3, h3⟩ : ∃ d, d = (done.flatMap (ext L) ++ ext L r).map rowD := ⟨_, rfl⟩
      rw [List.flatMap_append, List.flatMap_singleton]
      rw [← hC, ← hR, ← h2] at f
      rw [← h1, ← h2, ← h3] at xt
      rw [← hR, ← hD, ← h1, ← h3]
      refine ⟨[.own (.val (.int L)), a, .own (.val (.list D)), i, .own (.lst d1), .own (.val R)], [.own (.val (.int L)), a, .own (.val (.list D)), i, .own (.lst d3), .own (.val R)], .nx, by simp, ?_, .inl rfl, _, rfl⟩
      unfold LB1_plain_rows
      rw [← hC]
      simp [call_s f, xt])
  exact ⟨z', e⟩
theorem plain_rows_ok {L n : Nat} (hL : L ≤ 3) (hn : n ≤ topN L) : ∃ o : Ow, D_plain_rows [.val (.int L), .val (.int n)] [] = some (.ok (.ow o), []) ∧ o.frz = .list ((level L n).map rowD) := by
  have ht := topN_le L
  obtain ⟨s, x, y, z, hs, e⟩ : ∃ s x y z, (s = .own (.lst ((level L n).map rowD)) ∨ s = .own (.val (.list ((level L n).map rowD)))) ∧ L4_plain_rows [.own (.val (.int L)), .own (.val (.int n)), .own (.lst [rowD []]), .un, .un, .un] = some (.ok .nx, [.own (.val (.int L)), .own (.val (.int n)), s, x, y, z]) := by
    obtain ⟨st', e, s, x, y, z, hs, rfl⟩ := sForT (w := wRng1 (aCons (eVar 1) aNil)) (g := gN 3) (b := LB3_plain_rows) (st := [.own (.val (.int L)), .own (.val (.int n)), .own (.lst [rowD []]), .un, .un, .un]) (st1 := [.own (.val (.int L)), .own (.val (.int n)), .own (.lst [rowD []]), .un, .un, .un]) (xs := List.range n) (fun i : Nat => PyData.int i)
      (fun done st => ∃ s x y z, (s = .own (.lst ((level L done.length).map rowD)) ∨ s = .own (.val (.list ((level L done.length).map rowD)))) ∧ st = [.own (.val (.int L)), .own (.val (.int n)), s, x, y, z]) (by rw [← ints_range]; exact wRng1_n (by simp) (by omega)) ⟨_, _, _, _, .inl rfl, rfl⟩
      (fun done i todo st hd q => by
        obtain ⟨s, x, y, z, hs, rfl⟩ := q
        obtain ⟨hi, hin⟩ := range_at hd
        obtain ⟨z', e⟩ := level_loop hL (k := done.length) (by omega) (.own (.val (.int n))) (.own (.val (.int i))) z s hs
        rw [List.length_append, List.length_singleton]
        obtain ⟨W, hW⟩ : ∃ W, W = L2_plain_rows := ⟨_, rfl⟩
        obtain ⟨D, hD⟩ : ∃ d, d = (level L (done.length + 1)).map rowD := ⟨_, rfl⟩
        obtain ⟨D0, hD0⟩ : ∃ d, d = (level L (done.length)).map rowD := ⟨_, rfl⟩
        rw [← hW, ← hD, ← hD0] at e
        rw [← hD]
        refine ⟨[.own (.val (.int L)), .own (.val (.int n)), s, .own (.val (.int i)), y, z], [.own (.val (.int L)), .own (.val (.int n)), .own (.val (.list D)), .own (.val (.int i)), .own (.val (.list D)), z'], .nx, by simp, ?_, .inl rfl, _, _, _, _, .inr rfl, rfl⟩
        unfold LB3_plain_rows
        rw [← hW]
        simp [e])
    rw [List.length_range] at hs
    exact ⟨s, x, y, z, hs, e⟩
  obtain ⟨W, hW⟩ : ∃ W, W = L4_plain_rows := ⟨_, rfl⟩
  have r0 : rowD [] = .tuple [] := rfl
  rw [← hW, r0] at e
  obtain ⟨D, hD⟩ : ∃ d, d = (level L n).map rowD := ⟨_, rfl⟩
  rw [← hD] at hs ⊢
  rcases hs with rfl | rfl
  · refine ⟨.lst D, runD_ret (st := [.own (.val (.int L)), .own (.val (.int n)), .un, x, y, z]) ?_ rfl, rfl⟩
    unfold B_plain_rows
    rw [← hW]
    simp [e]
  · refine ⟨.val (.list D), runD_ret (st := [.own (.val (.int L)), .own (.val (.int n)), .un, x, y, z]) ?_ rfl, rfl⟩
    unfold B_plain_rows
    rw [← hW]
    simp [e]
end DY

/-! The law's own list of plain rows. -/
namespace DY
open PySem PySem.Spec PySem.Calls PyProof.Rows L2 SX
def nmD (p : Str × Int) : Dt := .tuple [.int p.2, .int 0]
def f0 (_ : Int) : Dt := .int 0
theorem pairs_nm : ∀ r : Row, pairsD (r.map nmD) = some (r.map fun p => (PyData.int p.2, PyData.int 0))
  | [] => rfl
  | p :: r => by
    rw [List.map_cons, nmD, pairsD, if_pos (show (keyOf (PyData.int p.2)).isSome = true from rfl), pairs_nm r]
    rfl
theorem dict_fold : ∀ (r : Row) (acc : List Int), (r.map fun p => (PyData.int p.2, PyData.int 0)).foldl (fun acc e => dPut acc e.1 e.2) (dicF f0 acc) = dicF f0 (r.foldl (fun s p => put s p.2) acc)
  | [], _ => rfl
  | p :: r, acc => by
    rw [List.map_cons, List.foldl_cons, List.foldl_cons]
    have := put_dicF f0 acc p.2
    show List.foldl (fun acc e => dPut acc e.1 e.2) (dPut (dicF f0 acc) (.int p.2) (f0 p.2)) (r.map fun p => (PyData.int p.2, PyData.int 0)) = _
    rw [this, dict_fold r]
theorem dict_nm (r : Row) : dictD [.list (r.map nmD)] = some (.dic (dicF f0 (seenOf r))) := by
  show (pairsD (r.map nmD)).map (fun ps => Rs.dic (dictOf ps)) = _
  rw [pairs_nm]
  have := dict_fold r []
  show some (Rs.dic (dictOf _)) = _
  unfold dictOf
  have z : dicF f0 [] = [] := rfl
  rw [z] at this
  rw [this]
  rfl
theorem cat_l {xs ys : List Dt} (h : xs.length + ys.length ≤ 16777216) : addD (.list xs) (.list ys) = some (.lst (xs ++ ys)) := by
  have z : catLD (.list xs) (.list ys) = some (.lst (xs ++ ys)) := by
    show (if xs.length + ys.length ≤ lenLine then some (Rs.lst (xs ++ ys)) else none) = _
    rw [if_pos (by rw [lenLine_val]; exact h)]
  unfold addD
  rw [z]
  rfl
theorem names_comp {r : Row} (hr : r.length ≤ 1000) (a b c d e' x y : Sl) :
    C4__law_rows [a, b, c, d, .own (.val (rowD r)), e', x, y] = some (.ok (.lst (r.map nmD)), [a, b, c, d, .own (.val (rowD r)), e', x, y]) := by
  have := eLcY (own := [6, 7]) (w := wVal (eVar 4)) (g := gT (gsCons (gN 6) (gsCons (gN 7) gsNil))) (e := eTup (aCons (eVar 7) (aCons (eC (.int 0)) aNil))) (st := [a, b, c, d, .own (.val (rowD r)), e', x, y]) (st1 := [a, b, c, d, .own (.val (rowD r)), e', x, y]) (xs := r) stD nmD (by simp [rowD]) (by rw [lenLine_val]; omega)
    (fun p hp => ⟨[a, b, c, d, .own (.val (rowD r)), e', .own (.val (.str p.1)), .own (.val (.int p.2))], by simp [stD], _, [a, b, c, d, .own (.val (rowD r)), e', .own (.val (.str p.1)), .own (.val (.int p.2))], by
      simp
      rfl, rfl, by simp⟩)
  unfold C4__law_rows
  rw [this]
  simp
theorem grow_comp (a b s d : Sl) (r : Row) (hr : r.length ≤ 1000) (x : Str) (y : Sl) :
    C1__law_rows [a, b, s, d, .own (.val (rowD r)), .own (.val (.int (seenOf r).length)), .own (.val (.str x)), y] = some (.ok (.lst ((ext1 r x).map rowD)), [a, b, s, d, .own (.val (rowD r)), .own (.val (.int (seenOf r).length)), .own (.val (.str x)), y]) := by
  have hs := seenOf_len r
  have := eLcY (own := [7]) (w := wRng1 (aCons (e2 addD (eVar 5) (eC (.int 1))) aNil)) (g := gN 7) (e := (e2 addD (eVar 4) (eTup (aCons (eTup (aCons (eVar 6) (aCons (eVar 7) aNil))) aNil)))) (st := [a, b, s, d, .own (.val (rowD r)), .own (.val (.int (seenOf r).length)), .own (.val (.str x)), y]) (st1 := [a, b, s, d, .own (.val (rowD r)), .own (.val (.int (seenOf r).length)), .own (.val (.str x)), y]) (xs := List.range ((seenOf r).length + 1))
    (fun i : Nat => PyData.int i) (fun n : Nat => rowD (r ++ [(x, (n : Int))])) (by rw [← ints_range]; exact wRng1_n (by simp) (by omega)) (by rw [lenLine_val, List.length_range]; omega)
    (fun n hn => ⟨[a, b, s, d, .own (.val (rowD r)), .own (.val (.int (seenOf r).length)), .own (.val (.str x)), .own (.val (.int n))], by simp, .val (rowD (r ++ [(x, (n : Int))])), [a, b, s, d, .own (.val (rowD r)), .own (.val (.int (seenOf r).length)), .own (.val (.str x)), .own (.val (.int n))], by
      have c := cat_row hr x (n : Int)
      obtain ⟨R, hR⟩ : ∃ d, d = rowD r := ⟨_, rfl⟩
      obtain ⟨Q, hQ⟩ : ∃ d, d = rowD (r ++ [(x, (n : Int))]) := ⟨_, rfl⟩
      rw [← hR, ← hQ] at c
      rw [← hR, ← hQ]
      simp [c], rfl, by simp⟩)
  unfold C1__law_rows
  rw [this]
  simp [ext1, List.map_map]
theorem grow_loop {L : Nat} (b d y z : Sl) (fs : List Dt) (hf : fs.length ≤ 100000) (r : Row) (hr : r.length ≤ 1000) :
    ∃ y' z', L3__law_rows [.own (.val (.int L)), b, .own (.lst fs), d, .own (.val (rowD r)), .own (.val (.int (seenOf r).length)), y, z] = some (.ok .nx, [.own (.val (.int L)), b, .own (.lst (fs ++ (ext L r).map rowD)), d, .own (.val (rowD r)), .own (.val (.int (seenOf r).length)), y', z']) := by
  have hs := seenOf_len r
  obtain ⟨st', e, y', z', rfl⟩ := sForT (w := (wVal (eSl (eC (.str "abc")) pNo (pSome (eVar 0))))) (g := gN 6) (b := LB2__law_rows) (st := [.own (.val (.int L)), b, .own (.lst fs), d, .own (.val (rowD r)), .own (.val (.int (seenOf r).length)), y, z]) (st1 := [.own (.val (.int L)), b, .own (.lst fs), d, .own (.val (rowD r)), .own (.val (.int (seenOf r).length)), y, z]) (xs := abcL.take L) PyData.str
    (fun done st => ∃ y z, st = [.own (.val (.int L)), b, .own (.lst (fs ++ (done.flatMap (ext1 r)).map rowD)), d, .own (.val (rowD r)), .own (.val (.int (seenOf r).length)), y, z]) (abc_walk rfl) ⟨y, z, by simp⟩
    (fun done c todo st hd q => by
      obtain ⟨y, z, rfl⟩ := q
      obtain ⟨d1, h1⟩ : ∃ d, d = fs ++ (done.flatMap (ext1 r)).map rowD := ⟨_, rfl⟩
      have f := grow_comp (.own (.val (.int L))) b (.own (.val (.list d1))) d r hr c z
      have hdl : done.length ≤ 3 := by
        have := congrArg List.length hd
        simp [abcL] at this
        omega
      have xt := cat_l (xs := d1) (ys := (ext1 r c).map rowD) (by
        rw [h1, List.length_append, List.length_map, List.length_map, exts_len, ext1_len]
        have : done.length * ((seenOf r).length + 1) ≤ 3 * ((seenOf r).length + 1) := Nat.mul_le_mul_right _ hdl
        omega)
      have e3 : fs ++ ((done ++ [c]).flatMap (ext1 r)).map rowD = d1 ++ (ext1 r c).map rowD := by
        rw [h1, List.flatMap_append, List.flatMap_singleton, List.map_append, List.append_assoc]
      rw [e3]
      obtain ⟨C, hC⟩ : ∃ W, W = C1__law_rows := ⟨_, rfl⟩
      obtain ⟨d2, h2⟩ : ∃ d, d = (ext1 r c).map rowD := ⟨_, rfl⟩
      rw [← hC, ← h2] at f
      rw [← h2] at xt ⊢
      rw [← h1]
      refine ⟨[.own (.val (.int L)), b, .own (.lst d1), d, .own (.val (rowD r)), .own (.val (.int (seenOf r).length)), .own (.val (.str c)), z], [.own (.val (.int L)), b, .own (.lst (d1 ++ d2)), d, .own (.val (rowD r)), .own (.val (.int (seenOf r).length)), .own (.val (.str c)), z], .nx, by simp, ?_, .inl rfl, _, _, rfl⟩
      unfold LB2__law_rows
      rw [← hC]
      simp [f, xt])
  exact ⟨y', z', e⟩
theorem bfs_step {L n k : Nat} {r : Row} {fs : List Row} (hfs : fs.length ≤ 100000) (hk : fs[k]? = some r) (hr : r.length ≤ 1000) (x y z w : Sl) :
    ∃ x' y' z' w', LB5__law_rows [.own (.val (.int L)), .own (.val (.int n)), .own (.lst (fs.map rowD)), .own (.val (.int k)), x, y, z, w] = some (.ok .nx, [.own (.val (.int L)), .own (.val (.int n)), .own (.lst ((fs ++ extN L n r).map rowD)), .own (.val (.int (k + 1 : Nat))), x', y', z', w']) := by
  have f1 : ixD (.list (fs.map rowD)) (.int (k : Int)) = some (.val (rowD r)) := ix_list (atI_map rowD (atI_nat hk))
  have ln : lenO (rowD r) = some (.val (.int r.length)) := by
    have : lenO (rowD r) = some (.val (.int (r.map stD).length)) := rfl
    rw [this, List.length_map]
  obtain ⟨X, hX⟩ : ∃ W, W = L3__law_rows := ⟨_, rfl⟩
  obtain ⟨C, hC⟩ : ∃ W, W = C4__law_rows := ⟨_, rfl⟩
  obtain ⟨m, hm⟩ : ∃ m : Int, m = r.length := ⟨_, rfl⟩
  rw [← hm] at ln
  by_cases h : r.length < n
  · have c4 := names_comp hr (.own (.val (.int L))) (.own (.val (.int n))) (.own (.lst (fs.map rowD))) (.own (.val (.int k))) y z w
    have dn := dict_nm r
    obtain ⟨y', z', l3⟩ := grow_loop (L := L) (.own (.val (.int n))) (.own (.val (.int k))) z w (fs.map rowD) (by simpa using hfs) r hr
    have dl : lenD [.dict (dicF f0 (seenOf r))] = some (.val (.int (seenOf r).length)) := by
      rw [lenD_dic]
      simp [dicF]
    have e3 : (fs ++ extN L n r).map rowD = fs.map rowD ++ (ext L r).map rowD := by
      unfold extN
      rw [if_pos h, List.map_append]
    have hmn : m < (n : Int) := by omega
    rw [e3]
    obtain ⟨E, hE⟩ : ∃ d, d = (ext L r).map rowD := ⟨_, rfl⟩
    obtain ⟨D, hD⟩ : ∃ d, d = fs.map rowD := ⟨_, rfl⟩
    obtain ⟨R, hR⟩ : ∃ d, d = rowD r := ⟨_, rfl⟩
    obtain ⟨Nm, hNm⟩ : ∃ d, d = r.map nmD := ⟨_, rfl⟩
    obtain ⟨Dc, hDc⟩ : ∃ d, d = dicF f0 (seenOf r) := ⟨_, rfl⟩
    rw [← hC, ← hD, ← hR, ← hNm] at c4
    rw [← hX, ← hD, ← hR, ← hE] at l3
    rw [← hD, ← hR] at f1
    rw [← hNm, ← hDc] at dn
    rw [← hDc] at dl
    rw [← hR] at ln
    rw [← hE, ← hD]
    refine ⟨.own (.val R), .own (.val (.int (seenOf r).length)), y', z', ?_⟩
    unfold LB5__law_rows
    rw [← hX, ← hC]
    simp [f1, ln, hmn, c4, dn, dl, l3]
  · have e3 : fs ++ extN L n r = fs := by
      unfold extN
      rw [if_neg h, List.append_nil]
    have hmn : ¬ m < (n : Int) := by omega
    rw [e3]
    obtain ⟨D, hD⟩ : ∃ d, d = fs.map rowD := ⟨_, rfl⟩
    obtain ⟨R, hR⟩ : ∃ d, d = rowD r := ⟨_, rfl⟩
    rw [← hD, ← hR] at f1
    rw [← hR] at ln
    rw [← hD]
    refine ⟨.own (.val R), y, z, w, ?_⟩
    unfold LB5__law_rows
    rw [← hX, ← hC]
    simp [f1, ln, hmn]
theorem law_rows_ok {L n : Nat} (hL : L ≤ 3) (hn : 0 < n) (hnt : n ≤ topN L) : D__law_rows [.val (.int L), .val (.int n)] [] = some (.ok (.lst ((allU L n).map rowD)), []) := by
  have ht := topN_le L
  have hall : (allU L n).length ≤ 6000 := by
    have := allU_small hL hnt
    omega
  obtain ⟨k0, x, y, z, w, e⟩ : ∃ k x y z w, L6__law_rows [.own (.val (.int L)), .own (.val (.int n)), .own (.lst [rowD []]), .own (.val (.int 0)), .un, .un, .un, .un] = some (.ok .nx, [.own (.val (.int L)), .own (.val (.int n)), .own (.lst ((allU L n).map rowD)), k, x, y, z, w]) := by
    unfold L6__law_rows sWhile
    have fu : fuel [.own (.val (.int L)), .own (.val (.int n)), .own (.lst [rowD []]), .own (.val (.int 0)), .un, .un, .un, .un] = 1000000 := rfl
    rw [fu]
    refine whileN_inv (fun m st => ∃ k x y z w, k ≤ (queue L n k).length ∧ m + k = (allU L n).length ∧ st = [.own (.val (.int L)), .own (.val (.int n)), .own (.lst ((queue L n k).map rowD)), .own (.val (.int k)), x, y, z, w])
      (fun o => ∃ k x y z w, o = some (.ok .nx, [.own (.val (.int L)), .own (.val (.int n)), .own (.lst ((allU L n).map rowD)), k, x, y, z, w])) ?_ 1000000 (allU L n).length _ (by omega) ⟨0, .un, .un, .un, .un, Nat.zero_le _, rfl, rfl⟩
    rintro m st ⟨k, x, y, z, w, hk, hm, rfl⟩
    have hq := queue_len (L := L) hn k
    by_cases h : k < (queue L n k).length
    · obtain ⟨r, h1, h2, h3⟩ := queue_step hn h
      obtain ⟨x', y', z', w', e⟩ := bfs_step (L := L) (n := n) (by omega) h1 (by omega) x y z w
      rw [← h3] at e
      refine .inr ⟨[.own (.val (.int L)), .own (.val (.int n)), .own (.lst ((queue L n k).map rowD)), .own (.val (.int k)), x, y, z, w], _, .nx, m - 1, ?_, e, .inl rfl, by omega, k + 1, x', y', z', w', ?_, by omega, rfl⟩
      · simp [h]
      · rw [h3, List.length_append]
        omega
    · refine .inl ⟨[.own (.val (.int L)), .own (.val (.int n)), .own (.lst ((queue L n k).map rowD)), .own (.val (.int k)), x, y, z, w], ?_, ?_⟩
      · simp [h]
      · rw [queue_end hn (by omega)]
        exact ⟨_, x, y, z, w, rfl⟩
  obtain ⟨W, hW⟩ : ∃ W, W = L6__law_rows := ⟨_, rfl⟩
  have r0 : rowD [] = .tuple [] := rfl
  rw [← hW, r0] at e
  obtain ⟨D, hD⟩ : ∃ d, d = (allU L n).map rowD := ⟨_, rfl⟩
  rw [← hD] at e ⊢
  refine runD_ret (st := [.own (.val (.int L)), .own (.val (.int n)), .un, k0, x, y, z, w]) ?_ rfl
  unfold B__law_rows
  rw [← hW]
  simp [e]
end DY

/-! The parts of law. -/
namespace DY
open PySem PySem.Spec PySem.Calls PyProof.Rows L2 SX
def greatOf (d : Int) (r : Row) : Row := mapN (fun n => n * 999 + d) r
theorem great_comp (s0 s2 s4 s5 s6 s7 s8 s9 s10 s11 s12 s13 s14 s15 s16 s17 s18 s19 s20 s21 : Sl) (ds : List Int) (hd : ds.length = 6) (r : Row) (hr : r.length ≤ 1000) :
    C13_law [s0, .own (.lst (ds.map .int)), s2, .own (.val (rowD r)), s4, s5, s6, s7, s8, s9, s10, s11, s12, s13, s14, s15, s16, s17, s18, s19, s20, s21] = some (.ok (.lst ((greatOf (ds.getD 3 0) r).map stD)), [s0, .own (.lst (ds.map .int)), s2, .own (.val (rowD r)), s4, s5, s6, s7, s8, s9, s10, s11, s12, s13, s14, s15, s16, s17, s18, s19, s20, s21]) := by
  have i3 := ix_getD (ds := ds) (j := 3) (by omega)
  obtain ⟨d, hd3⟩ : ∃ d, d = ds.getD 3 0 := ⟨_, rfl⟩
  rw [← hd3] at i3
  rw [← hd3]
  have := eLcY (own := [13, 20]) (w := wVal (eVar 3)) (g := gT (gsCons (gN 13) (gsCons (gN 20) gsNil))) (e := eTup (aCons (eVar 13) (aCons (e2 addD (e2 mulD (eVar 20) (eC (.int 999))) (eIxS 1 (eC (.int 3)))) aNil))) (st := [s0, .own (.lst (ds.map .int)), s2, .own (.val (rowD r)), s4, s5, s6, s7, s8, s9, s10, s11, s12, s13, s14, s15, s16, s17, s18, s19, s20, s21]) (st1 := [s0, .own (.lst (ds.map .int)), s2, .own (.val (rowD r)), s4, s5, s6, s7, s8, s9, s10, s11, s12, s13, s14, s15, s16, s17, s18, s19, s20, s21]) (xs := r) stD (fun p => stD (p.1, p.2 * 999 + d)) (by simp [rowD]) (by rw [lenLine_val]; omega)
    (fun p hp => ⟨[s0, .own (.lst (ds.map .int)), s2, .own (.val (rowD r)), s4, s5, s6, s7, s8, s9, s10, s11, s12, .own (.val (.str p.1)), s14, s15, s16, s17, s18, s19, .own (.val (.int p.2)), s21], by simp [stD], .val (stD (p.1, p.2 * 999 + d)), [s0, .own (.lst (ds.map .int)), s2, .own (.val (rowD r)), s4, s5, s6, s7, s8, s9, s10, s11, s12, .own (.val (.str p.1)), s14, s15, s16, s17, s18, s19, .own (.val (.int p.2)), s21], by
      have m := mul_sm (i := p.2) (j := 999) (by simp [mulOk])
      have i3' : ixD (.list (ds.map .int)) (.int 3) = some (.val (.int d)) := i3
      simp [m, i3', stD], rfl, by simp⟩)
  unfold C13_law
  rw [this]
  simp [greatOf, mapN]
def prD (p : Row × Row) : Dt := .tuple [rowD p.1, rowD p.2]
theorem judge_loop {L : Nat} (s0 s1 s6 s7 s8 s9 s10 s11 s12 s13 s14 s15 s16 s17 s18 s19 s20 s21 : Sl) (r g o : Row) (hr : RowV L r) (hg : RowV L g) (ho : RowV L o) :
    ∃ x y, L12_law [s0, s1, .own (.val (.int L)), .own (.val (rowD r)), .own (.val (rowD g)), .own (.val (rowD o)), s6, s7, s8, s9, s10, s11, s12, s13, s14, s15, s16, s17, s18, s19, s20, s21] = some (.ok .nx, [s0, s1, .own (.val (.int L)), .own (.val (rowD r)), .own (.val (rowD g)), .own (.val (rowD o)), x, y, s8, s9, s10, s11, s12, s13, s14, s15, s16, s17, s18, s19, s20, s21]) := by
  have h0 : RowV L [] := ⟨by simp, fun p hp => by simp at hp⟩
  obtain ⟨st', e, x, y, rfl⟩ := sForT (w := (wVal (eLst (aCons (eTup (aCons (eVar 3) (aCons (eVar 5) aNil))) (aCons (eTup (aCons (eVar 4) (aCons (eVar 3) aNil))) (aCons (eTup (aCons (eVar 5) (aCons (eVar 3) aNil))) (aCons (eTup (aCons (eTup aNil) (aCons (eTup aNil) aNil))) aNil))))))) (g := gT (gsCons (gN 6) (gsCons (gN 7) gsNil))) (b := LB11_law) (st := [s0, s1, .own (.val (.int L)), .own (.val (rowD r)), .own (.val (rowD g)), .own (.val (rowD o)), s6, s7, s8, s9, s10, s11, s12, s13, s14, s15, s16, s17, s18, s19, s20, s21]) (st1 := [s0, s1, .own (.val (.int L)), .own (.val (rowD r)), .own (.val (rowD g)), .own (.val (rowD o)), s6, s7, s8, s9, s10, s11, s12, s13, s14, s15, s16, s17, s18, s19, s20, s21]) (xs := [(r, o), (g, r), (o, r), ([], [])]) prD
    (fun done st => ∃ x y, st = [s0, s1, .own (.val (.int L)), .own (.val (rowD r)), .own (.val (rowD g)), .own (.val (rowD o)), x, y, s8, s9, s10, s11, s12, s13, s14, s15, s16, s17, s18, s19, s20, s21]) (by simp [prD]; rfl) ⟨_, _, rfl⟩
    (fun done p todo st hd q => by
      obtain ⟨x, y, rfl⟩ := q
      have hp : RowV L p.1 ∧ RowV L p.2 := by
        have : p ∈ [(r, o), (g, r), (o, r), (([], []) : Row × Row)] := by rw [hd]; simp
        simp at this
        rcases this with rfl | rfl | rfl | rfl
        · exact ⟨hr, ho⟩
        · exact ⟨hg, hr⟩
        · exact ⟨ho, hr⟩
        · exact ⟨h0, h0⟩
      refine ⟨[s0, s1, .own (.val (.int L)), .own (.val (rowD r)), .own (.val (rowD g)), .own (.val (rowD o)), .own (.val (rowD p.1)), .own (.val (rowD p.2)), s8, s9, s10, s11, s12, s13, s14, s15, s16, s17, s18, s19, s20, s21], [s0, s1, .own (.val (.int L)), .own (.val (rowD r)), .own (.val (rowD g)), .own (.val (rowD o)), .own (.val (rowD p.1)), .own (.val (rowD p.2)), s8, s9, s10, s11, s12, s13, s14, s15, s16, s17, s18, s19, s20, s21], .nx, by simp [prD], ?_, .inl rfl, _, _, rfl⟩
      have f := law_judged_ok hp.1 (o := p.2) (by have := hp.2.len; omega)
      obtain ⟨G, hG⟩ : ∃ W, W = D__law_judged := ⟨_, rfl⟩
      rw [← hG] at f
      unfold LB11_law
      rw [← hG]
      simp [call_s f])
  exact ⟨x, y, e⟩
theorem pick_comp {L n m : Nat} (hall : (allU L n).length ≤ 6000) (hn : n ≤ 6) (s0 s1 s2 s3 s4 s5 s6 s7 s8 s10 s11 s12 s13 s14 s15 s16 s17 s18 s19 s20 s21 : Sl) (h8 : s8 = .own (.lst ((allU L n).map rowD)) ∨ s8 = .own (.val (.list ((allU L n).map rowD)))) :
    C8_law [s0, s1, s2, s3, s4, s5, s6, s7, s8, .own (.val (.int m)), s10, s11, s12, s13, s14, s15, s16, s17, s18, s19, s20, s21] = some (.ok (.lst (((allU L n).filter (fun r => r.length == m)).map rowD)), [s0, s1, s2, s3, s4, s5, s6, s7, .own (.val (.list ((allU L n).map rowD))), .own (.val (.int m)), s10, s11, s12, s13, s14, s15, s16, s17, s18, s19, s20, s21]) := by
  have := eLcT (own := [6]) (w := wVal (eVar 8)) (g := gN 6) (t := tV (e2S eqD (eLenS 6) 9)) (e := eVar 6) (st := [s0, s1, s2, s3, s4, s5, s6, s7, s8, .own (.val (.int m)), s10, s11, s12, s13, s14, s15, s16, s17, s18, s19, s20, s21]) (st1 := [s0, s1, s2, s3, s4, s5, s6, s7, .own (.val (.list ((allU L n).map rowD))), .own (.val (.int m)), s10, s11, s12, s13, s14, s15, s16, s17, s18, s19, s20, s21]) (xs := allU L n) rowD (fun r => r.length == m) rowD (now_walk (by
      rcases h8 with rfl | rfl
      · exact .inl ⟨rfl, rfl⟩
      · exact .inr ⟨rfl, rfl⟩)) (by rw [lenLine_val]; omega)
    (fun r hr => ⟨[s0, s1, s2, s3, s4, s5, .own (.val (rowD r)), s7, .own (.val (.list ((allU L n).map rowD))), .own (.val (.int m)), s10, s11, s12, s13, s14, s15, s16, s17, s18, s19, s20, s21], [s0, s1, s2, s3, s4, s5, .own (.val (rowD r)), s7, .own (.val (.list ((allU L n).map rowD))), .own (.val (.int m)), s10, s11, s12, s13, s14, s15, s16, s17, s18, s19, s20, s21], by simp, by
      have ln : lenO (rowD r) = some (.val (.int r.length)) := by
        have : lenO (rowD r) = some (.val (.int (r.map stD).length)) := rfl
        rw [this, List.length_map]
      have ee : ((r.length : Int) == (m : Int)) = (r.length == m) := by
        rw [Bool.eq_iff_iff]
        simp
        omega
      simp [ln, ee], fun _ => by simp, fun _ => ⟨.val (rowD r), [s0, s1, s2, s3, s4, s5, .own (.val (rowD r)), s7, .own (.val (.list ((allU L n).map rowD))), .own (.val (.int m)), s10, s11, s12, s13, s14, s15, s16, s17, s18, s19, s20, s21], by simp, rfl, by simp⟩⟩)
  unfold C8_law
  rw [this]
  simp
theorem ix_top {L : Nat} (h0 : 0 < L) (h3 : L ≤ 3) : ixD (.list [.int 6, .int 4, .int 3]) (.int ((L : Int) - 1)) = some (.val (.int (topN L))) := by
  have : L = 1 ∨ L = 2 ∨ L = 3 := by omega
  rcases this with rfl | rfl | rfl <;> rfl
theorem plain_check {L : Nat} (h0 : 0 < L) (h3 : L ≤ 3) (s0 s1 s3 s4 s5 s6 s7 s8 s9 s10 s11 s12 s13 s14 s15 s16 s17 s18 s19 s20 s21 : Sl) (h8 : s8 = .own (.lst ((allU L (topN L)).map rowD))) :
    ∃ x y, L10_law [s0, s1, .own (.val (.int L)), s3, s4, s5, s6, s7, s8, s9, s10, s11, s12, s13, s14, s15, s16, s17, s18, s19, s20, s21] = some (.ok .nx, [s0, s1, .own (.val (.int L)), s3, s4, s5, s6, s7, x, y, s10, s11, s12, s13, s14, s15, s16, s17, s18, s19, s20, s21]) := by
  have ht := topN_le L
  have hall : (allU L (topN L)).length ≤ 6000 := by
    have := allU_small h3 (Nat.le_refl (topN L))
    omega
  have it := ix_top h0 h3
  obtain ⟨st', e, x, y, _, rfl⟩ := sForT (w := (wRng1 (aCons (e2 addD (eC (.int 1)) (e2 ixD (eLst (aCons (eC (.int 6)) (aCons (eC (.int 4)) (aCons (eC (.int 3)) aNil)))) (e2 subD (eVar 2) (eC (.int 1))))) aNil))) (g := gN 9) (b := LB9_law) (st := [s0, s1, .own (.val (.int L)), s3, s4, s5, s6, s7, s8, s9, s10, s11, s12, s13, s14, s15, s16, s17, s18, s19, s20, s21]) (st1 := [s0, s1, .own (.val (.int L)), s3, s4, s5, s6, s7, s8, s9, s10, s11, s12, s13, s14, s15, s16, s17, s18, s19, s20, s21]) (xs := List.range (topN L + 1)) (fun i : Nat => PyData.int i)
    (fun done st => ∃ x y, (x = .own (.lst ((allU L (topN L)).map rowD)) ∨ x = .own (.val (.list ((allU L (topN L)).map rowD)))) ∧ st = [s0, s1, .own (.val (.int L)), s3, s4, s5, s6, s7, x, y, s10, s11, s12, s13, s14, s15, s16, s17, s18, s19, s20, s21]) (by
      rw [← ints_range]
      exact wRng1_n (by simp [it]; omega) (by omega)) ⟨s8, s9, .inl h8, rfl⟩
    (fun done m todo st hd q => by
      obtain ⟨x, y, hx, rfl⟩ := q
      obtain ⟨_, hm⟩ := range_at hd
      refine ⟨[s0, s1, .own (.val (.int L)), s3, s4, s5, s6, s7, x, .own (.val (.int m)), s10, s11, s12, s13, s14, s15, s16, s17, s18, s19, s20, s21], [s0, s1, .own (.val (.int L)), s3, s4, s5, s6, s7, .own (.val (.list ((allU L (topN L)).map rowD))), .own (.val (.int m)), s10, s11, s12, s13, s14, s15, s16, s17, s18, s19, s20, s21], .nx, by simp, ?_, .inl rfl, _, _, .inr rfl, rfl⟩
      obtain ⟨o, f, ho⟩ := plain_rows_ok (L := L) (n := m) h3 (by omega)
      have c := pick_comp (L := L) (n := topN L) (m := m) hall ht s0 s1 (.own (.val (.int L))) s3 s4 s5 s6 s7 x s10 s11 s12 s13 s14 s15 s16 s17 s18 s19 s20 s21 hx
      rw [allU_filter m, if_pos (by omega)] at c
      have so := level_sorted L m
      have sm := same9 (d := .list ((level L m).map rowD)) (so_rows (n := 5) (by have := level_small h3 (k := m) (by omega); omega) fun r hr => by rw [level_len hr]; omega)
      obtain ⟨D, hD⟩ : ∃ d, d = (level L m).map rowD := ⟨_, rfl⟩
      obtain ⟨A, hA⟩ : ∃ d, d = (allU L (topN L)).map rowD := ⟨_, rfl⟩
      obtain ⟨G, hG⟩ : ∃ W, W = D_plain_rows := ⟨_, rfl⟩
      obtain ⟨K, hK⟩ : ∃ W, W = D__law_same 9 := ⟨_, rfl⟩
      obtain ⟨C, hC⟩ : ∃ W, W = C8_law := ⟨_, rfl⟩
      rw [← hD] at c so sm ho
      rw [← hA, ← hC] at c
      rw [← hG] at f
      rw [← hK] at sm
      rw [← hA]
      unfold LB9_law
      rw [← hG, ← hK, ← hC]
      simp [call_s f, ho, c, so, call_s sm])
  exact ⟨x, y, e⟩
theorem count_comp (s0 s1 s2 s3 s4 s5 s6 s7 s8 s9 s11 s12 s13 s14 s15 s16 s17 s18 s19 s20 s21 : Sl) (r : Row) (hr : r.length ≤ 1000) : C7_law [s0, s1, s2, s3, s4, s5, s6, s7, s8, s9, .own (.val (rowD r)), s11, s12, s13, s14, s15, s16, s17, s18, s19, s20, s21] = some (.ok (.lst (r.map nmD)), [s0, s1, s2, s3, s4, s5, s6, s7, s8, s9, .own (.val (rowD r)), s11, s12, s13, s14, s15, s16, s17, s18, s19, s20, s21]) := by
  have := eLcY (own := [13, 20]) (w := wVal (eVar 10)) (g := gT (gsCons (gN 13) (gsCons (gN 20) gsNil))) (e := eTup (aCons (eVar 20) (aCons (eC (.int 0)) aNil))) (st := [s0, s1, s2, s3, s4, s5, s6, s7, s8, s9, .own (.val (rowD r)), s11, s12, s13, s14, s15, s16, s17, s18, s19, s20, s21]) (st1 := [s0, s1, s2, s3, s4, s5, s6, s7, s8, s9, .own (.val (rowD r)), s11, s12, s13, s14, s15, s16, s17, s18, s19, s20, s21]) (xs := r) stD nmD (by simp [rowD]) (by rw [lenLine_val]; omega)
    (fun p hp => ⟨[s0, s1, s2, s3, s4, s5, s6, s7, s8, s9, .own (.val (rowD r)), s11, s12, .own (.val (.str p.1)), s14, s15, s16, s17, s18, s19, .own (.val (.int p.2)), s21], by simp [stD], _, [s0, s1, s2, s3, s4, s5, s6, s7, s8, s9, .own (.val (rowD r)), s11, s12, .own (.val (.str p.1)), s14, s15, s16, s17, s18, s19, .own (.val (.int p.2)), s21], by
      simp
      rfl, rfl, by simp⟩)
  unfold C7_law
  rw [this]
  simp
theorem due_comp (s0 s1 s2 s3 s4 s5 s6 s7 s8 s9 s12 s14 s15 s16 s17 s18 s19 s20 s21 : Sl) (r : Row) (hr : r.length ≤ 1000) (x : Str) : C4_law [s0, s1, s2, s3, s4, s5, s6, s7, s8, s9, .own (.val (rowD r)), .own (.val (.int (seenOf r).length)), s12, .own (.val (.str x)), s14, s15, s16, s17, s18, s19, s20, s21] = some (.ok (.lst ((ext1 r x).map rowD)), [s0, s1, s2, s3, s4, s5, s6, s7, s8, s9, .own (.val (rowD r)), .own (.val (.int (seenOf r).length)), s12, .own (.val (.str x)), s14, s15, s16, s17, s18, s19, s20, s21]) := by
  have hs := seenOf_len r
  have := eLcY (own := [20]) (w := wRng1 (aCons (e2 addD (eVar 11) (eC (.int 1))) aNil)) (g := gN 20) (e := (e2 addD (eVar 10) (eTup (aCons (eTup (aCons (eVar 13) (aCons (eVar 20) aNil))) aNil)))) (st := [s0, s1, s2, s3, s4, s5, s6, s7, s8, s9, .own (.val (rowD r)), .own (.val (.int (seenOf r).length)), s12, .own (.val (.str x)), s14, s15, s16, s17, s18, s19, s20, s21]) (st1 := [s0, s1, s2, s3, s4, s5, s6, s7, s8, s9, .own (.val (rowD r)), .own (.val (.int (seenOf r).length)), s12, .own (.val (.str x)), s14, s15, s16, s17, s18, s19, s20, s21]) (xs := List.range ((seenOf r).length + 1))
    (fun i : Nat => PyData.int i) (fun n : Nat => rowD (r ++ [(x, (n : Int))])) (by rw [← ints_range]; exact wRng1_n (by simp) (by omega)) (by rw [lenLine_val, List.length_range]; omega)
    (fun n hn => ⟨[s0, s1, s2, s3, s4, s5, s6, s7, s8, s9, .own (.val (rowD r)), .own (.val (.int (seenOf r).length)), s12, .own (.val (.str x)), s14, s15, s16, s17, s18, s19, .own (.val (.int n)), s21], by simp, .val (rowD (r ++ [(x, (n : Int))])), [s0, s1, s2, s3, s4, s5, s6, s7, s8, s9, .own (.val (rowD r)), .own (.val (.int (seenOf r).length)), s12, .own (.val (.str x)), s14, s15, s16, s17, s18, s19, .own (.val (.int n)), s21], by
      have c := cat_row hr x (n : Int)
      obtain ⟨R, hR⟩ : ∃ d, d = rowD r := ⟨_, rfl⟩
      obtain ⟨Q, hQ⟩ : ∃ d, d = rowD (r ++ [(x, (n : Int))]) := ⟨_, rfl⟩
      rw [← hR, ← hQ] at c
      rw [← hR, ← hQ]
      simp [c], rfl, by simp⟩)
  unfold C4_law
  rw [this]
  simp [ext1, List.map_map]
theorem due_loop {L : Nat} (s0 s1 s3 s4 s5 s6 s7 s8 s9 s13 s14 s15 s16 s17 s18 s19 s20 s21 : Sl) (r : Row) (hr : r.length ≤ 1000) :
    ∃ y, L6_law [s0, s1, .own (.val (.int L)), s3, s4, s5, s6, s7, s8, s9, .own (.val (rowD r)), .own (.val (.int (seenOf r).length)), .own (.lst []), s13, s14, s15, s16, s17, s18, s19, s20, s21] = some (.ok .nx, [s0, s1, .own (.val (.int L)), s3, s4, s5, s6, s7, s8, s9, .own (.val (rowD r)), .own (.val (.int (seenOf r).length)), .own (.lst ((ext L r).map rowD)), y, s14, s15, s16, s17, s18, s19, s20, s21]) := by
  have hs := seenOf_len r
  obtain ⟨st', e, y, rfl⟩ := sForT (w := (wVal (eSl (eC (.str "abc")) pNo (pSome (eVar 2))))) (g := gN 13) (b := LB5_law) (st := [s0, s1, .own (.val (.int L)), s3, s4, s5, s6, s7, s8, s9, .own (.val (rowD r)), .own (.val (.int (seenOf r).length)), .own (.lst []), s13, s14, s15, s16, s17, s18, s19, s20, s21]) (st1 := [s0, s1, .own (.val (.int L)), s3, s4, s5, s6, s7, s8, s9, .own (.val (rowD r)), .own (.val (.int (seenOf r).length)), .own (.lst []), s13, s14, s15, s16, s17, s18, s19, s20, s21]) (xs := abcL.take L) PyData.str
    (fun done st => ∃ y, st = [s0, s1, .own (.val (.int L)), s3, s4, s5, s6, s7, s8, s9, .own (.val (rowD r)), .own (.val (.int (seenOf r).length)), .own (.lst ((done.flatMap (ext1 r)).map rowD)), y, s14, s15, s16, s17, s18, s19, s20, s21]) (abc_walk rfl) ⟨s13, rfl⟩
    (fun done c todo st hd q => by
      obtain ⟨y, rfl⟩ := q
      obtain ⟨d1, h1⟩ : ∃ d, d = (done.flatMap (ext1 r)).map rowD := ⟨_, rfl⟩
      have f := due_comp s0 s1 (.own (.val (.int L))) s3 s4 s5 s6 s7 s8 s9 (.own (.val (.list d1))) s14 s15 s16 s17 s18 s19 s20 s21 r hr c
      have hdl : done.length ≤ 3 := by
        have := congrArg List.length hd
        simp [abcL] at this
        omega
      have xt := cat_l (xs := d1) (ys := (ext1 r c).map rowD) (by
        rw [h1, List.length_map, List.length_map, exts_len, ext1_len]
        have : done.length * ((seenOf r).length + 1) ≤ 3 * ((seenOf r).length + 1) := Nat.mul_le_mul_right _ hdl
        omega)
      have e3 : ((done ++ [c]).flatMap (ext1 r)).map rowD = d1 ++ (ext1 r c).map rowD := by
        rw [h1, List.flatMap_append, List.flatMap_singleton, List.map_append]
      rw [e3]
      obtain ⟨C, hC⟩ : ∃ W, W = C4_law := ⟨_, rfl⟩
      obtain ⟨d2, h2⟩ : ∃ d, d = (ext1 r c).map rowD := ⟨_, rfl⟩
      rw [← hC, ← h2] at f
      rw [← h2] at xt ⊢
      rw [← h1]
      refine ⟨[s0, s1, .own (.val (.int L)), s3, s4, s5, s6, s7, s8, s9, .own (.val (rowD r)), .own (.val (.int (seenOf r).length)), .own (.lst d1), .own (.val (.str c)), s14, s15, s16, s17, s18, s19, s20, s21], [s0, s1, .own (.val (.int L)), s3, s4, s5, s6, s7, s8, s9, .own (.val (rowD r)), .own (.val (.int (seenOf r).length)), .own (.lst (d1 ++ d2)), .own (.val (.str c)), s14, s15, s16, s17, s18, s19, s20, s21], .nx, by simp, ?_, .inl rfl, _, rfl⟩
      unfold LB5_law
      rw [← hC]
      simp [f, xt])
  exact ⟨y, e⟩
def wordsC : List (List Nat) := [[97, 48], [98, 49], [99, 50], [97], [48], [97, 48, 48], [97, 49, 50, 51, 52, 53, 54, 55], [65, 48], [97, 45, 49], [], [97, 57, 57, 57, 57, 57, 57], [100, 49], [97, 32, 49]]
def wordAt (k : Int) : List Nat := wordsC.getD (k % 13).toNat []
theorem ix_word (k : Int) : ixD (.list (wordsC.map fun w => .str (S w))) (.int (k % 13)) = some (.val (.str (S (wordAt k)))) := by
  have h1 : 0 ≤ k % 13 := Int.emod_nonneg _ (by decide)
  have h2 : k % 13 < 13 := Int.emod_lt_of_pos _ (by decide)
  obtain ⟨j, hj⟩ : ∃ j : Nat, k % 13 = j := ⟨(k % 13).toNat, by omega⟩
  have hlt : j < wordsC.length := by
    have : wordsC.length = 13 := rfl
    omega
  unfold wordAt
  rw [hj, Int.toNat_natCast]
  have hg : wordsC[j]? = some (wordsC.getD j []) := by
    rw [List.getD_eq_getElem?_getD, List.getElem?_eq_getElem hlt]
    rfl
  exact ix_list (atI_map (fun w => PyData.str (S w)) (atI_nat hg))
theorem words_comp (s2 s3 s4 s5 s6 s7 s8 s9 s10 s11 s12 s13 s15 s16 s17 s18 s19 s20 s21 : Sl) (ns : List Int) (hns : ns.length ≤ 63) (ds : List Int) (hd : ds.length = 6) :
    ∃ ks : List Int, ks.length ≤ 5 ∧ C3_law [.own (.val (.list (ns.map .int))), .own (.lst (ds.map .int)), s2, s3, s4, s5, s6, s7, s8, s9, s10, s11, s12, s13, .own (.lst (wordsC.map fun w => .str (S w))), s15, s16, s17, s18, s19, s20, s21] = some (.ok (.lst ((ks.map wordAt).map fun w => .str (S w))), [.own (.val (.list (ns.map .int))), .own (.lst (ds.map .int)), s2, s3, s4, s5, s6, s7, s8, s9, s10, s11, s12, s13, .own (.lst (wordsC.map fun w => .str (S w))), s15, s16, s17, s18, s19, s20, s21]) := by
  have i4 : ixD (.list (ds.map .int)) (.int 4) = some (.val (.int (ds.getD 4 0))) := ix_getD (ds := ds) (j := 4) (by omega)
  have m4 := mod_sm (i := ds.getD 4 0) (j := 5) (by decide)
  have h1 : 0 ≤ ds.getD 4 0 % 5 := Int.emod_nonneg _ (by decide)
  have h2 : ds.getD 4 0 % 5 < 5 := Int.emod_lt_of_pos _ (by decide)
  obtain ⟨c, hc⟩ : ∃ c : Nat, ds.getD 4 0 % 5 = c := ⟨(ds.getD 4 0 % 5).toNat, by omega⟩
  obtain ⟨ks, hk, dr⟩ := draws_ok ns 3 (by decide) hns c (by omega) 5040 (by decide) (by decide)
  refine ⟨ks, by rw [hk.1]; omega, ?_⟩
  rw [hc] at m4
  obtain ⟨d4, hd4⟩ : ∃ d, d = ds.getD 4 0 := ⟨_, rfl⟩
  rw [← hd4] at i4 m4
  have := eLcY (own := [21]) (w := (wVal (eCall D__law_draws (agV (eVar 0) (agV (eC (.int 3)) (agV (e2 modD (eIxS 1 (eC (.int 4))) (eC (.int 5))) (agV (eC (.int 5040)) agNil))))))) (g := gN 21) (e := (eIxS 14 (e2 modD (eVar 21) (eC (.int 13))))) (st := [.own (.val (.list (ns.map .int))), .own (.lst (ds.map .int)), s2, s3, s4, s5, s6, s7, s8, s9, s10, s11, s12, s13, .own (.lst (wordsC.map fun w => .str (S w))), s15, s16, s17, s18, s19, s20, s21]) (st1 := [.own (.val (.list (ns.map .int))), .own (.lst (ds.map .int)), s2, s3, s4, s5, s6, s7, s8, s9, s10, s11, s12, s13, .own (.lst (wordsC.map fun w => .str (S w))), s15, s16, s17, s18, s19, s20, s21]) (xs := ks) PyData.int (fun k => PyData.str (S (wordAt k))) (by
      obtain ⟨G, hG⟩ : ∃ W, W = D__law_draws := ⟨_, rfl⟩
      rw [← hG] at dr
      rw [← hG]
      simp [i4, m4, call_s dr]) (by rw [lenLine_val, hk.1]; omega)
    (fun k _ => ⟨[.own (.val (.list (ns.map .int))), .own (.lst (ds.map .int)), s2, s3, s4, s5, s6, s7, s8, s9, s10, s11, s12, s13, .own (.lst (wordsC.map fun w => .str (S w))), s15, s16, s17, s18, s19, s20, .own (.val (.int k))], by simp, .val (.str (S (wordAt k))), [.own (.val (.list (ns.map .int))), .own (.lst (ds.map .int)), s2, s3, s4, s5, s6, s7, s8, s9, s10, s11, s12, s13, .own (.lst (wordsC.map fun w => .str (S w))), s15, s16, s17, s18, s19, s20, .own (.val (.int k))], by
      have x := ix_word k
      have m := mod_sm (i := k) (j := 13) (by decide)
      obtain ⟨w, hw⟩ : ∃ w, w = S (wordAt k) := ⟨_, rfl⟩
      obtain ⟨W, hW⟩ : ∃ w, w = wordsC.map fun w => PyData.str (S w) := ⟨_, rfl⟩
      rw [← hw, ← hW] at x
      rw [← hw, ← hW]
      simp [m, x], rfl, by simp⟩)
  unfold C3_law
  rw [this]
  simp
theorem cut_to {ds : List Dt} {k : Nat} (h : ds.length ≤ 1000) : slD (.list ds) none (some (k : Int)) = some (.lst (ds.take k)) := by
  show some (Rs.lst (cutL ds none (some (k : Int)))) = _
  unfold cutL
  rw [HT.sIx_nat, HT.sIx_none, List.drop_zero, Nat.sub_zero]
  congr 2
  rw [List.take_eq_take_iff]
  omega
theorem cut_from {ds : List Dt} {k : Nat} (h : ds.length ≤ 1000) : slD (.list ds) (some (k : Int)) none = some (.lst (ds.drop k)) := by
  show some (Rs.lst (cutL ds (some (k : Int)) none)) = _
  unfold cutL
  rw [HT.sIx_nat, HT.sIx_none]
  have e : ds.drop (min k ds.length) = ds.drop k := by
    rcases Nat.le_total k ds.length with h | h
    · rw [Nat.min_eq_left h]
    · rw [Nat.min_eq_right h, List.drop_length, List.drop_eq_nil_of_le h]
  rw [e, List.take_of_length_le]
  rw [List.length_drop]
  omega
theorem bad_loop {L k : Nat} (rs : List Row) (hrs : ∀ r ∈ rs, RowV L r) (hn : rs.length = 4) (hk : k < 4) (s0 s1 s3 s4 s5 s6 s7 s8 s9 s10 s11 s12 s13 s14 s15 s16 s17 s19 s20 s21 : Sl) (h17 : s17 = .own (.lst (lnD (rs.map lineS)))) :
    ∃ x y, L2_law [s0, s1, .own (.val (.int L)), s3, s4, s5, s6, s7, s8, s9, s10, s11, s12, s13, s14, s15, s16, s17, .own (.val (.int k)), s19, s20, s21] = some (.ok .nx, [s0, s1, .own (.val (.int L)), s3, s4, s5, s6, s7, s8, s9, s10, s11, s12, s13, s14, s15, s16, x, .own (.val (.int k)), y, s20, s21]) := by
  obtain ⟨st', e, x, y, _, rfl⟩ := sForT (w := (wVal (eLst (aCons (eC (.str "")) (aCons (eC (.str "x")) (aCons (eC (.str "a0  a1")) (aCons (eC (.str " ")) aNil))))))) (g := gN 19) (b := LB1_law) (st := [s0, s1, .own (.val (.int L)), s3, s4, s5, s6, s7, s8, s9, s10, s11, s12, s13, s14, s15, s16, s17, .own (.val (.int k)), s19, s20, s21]) (st1 := [s0, s1, .own (.val (.int L)), s3, s4, s5, s6, s7, s8, s9, s10, s11, s12, s13, s14, s15, s16, s17, .own (.val (.int k)), s19, s20, s21]) (xs := badC4) (fun b => PyData.str (S b))
    (fun done st => ∃ x y, (x = .own (.lst (lnD (rs.map lineS))) ∨ x = .own (.val (.list (lnD (rs.map lineS))))) ∧ st = [s0, s1, .own (.val (.int L)), s3, s4, s5, s6, s7, s8, s9, s10, s11, s12, s13, s14, s15, s16, x, .own (.val (.int k)), y, s20, s21]) (by
      have z : badC4.map (fun b => PyData.str (S b)) = [.str "", .str "x", .str "a0  a1", .str " "] := rfl
      rw [z]
      simp) ⟨s17, s19, .inl h17, rfl⟩
    (fun done b todo st hd q => by
      obtain ⟨x, y, hx, rfl⟩ := q
      obtain ⟨g1, g2, g3⟩ := bad4 L b (by rw [hd]; simp)
      refine ⟨[s0, s1, .own (.val (.int L)), s3, s4, s5, s6, s7, s8, s9, s10, s11, s12, s13, s14, s15, s16, x, .own (.val (.int k)), .own (.val (.str (S b))), s20, s21], [s0, s1, .own (.val (.int L)), s3, s4, s5, s6, s7, s8, s9, s10, s11, s12, s13, s14, s15, s16, .own (.val (.list (lnD (rs.map lineS)))), .own (.val (.int k)), .own (.val (.str (S b))), s20, s21], .nx, by simp, ?_, .inl rfl, _, _, .inr rfl, rfl⟩
      have hl : (lnD (rs.map lineS)).length = 4 := by simp [lnD, hn]
      have c1 := cut_to (ds := lnD (rs.map lineS)) (k := k) (by omega)
      have c2 := cut_from (ds := lnD (rs.map lineS)) (k := k) (by omega)
      have a1 := cat_l (xs := (lnD (rs.map lineS)).take k) (ys := [.str (S b)]) (by simp; omega)
      have a2 := cat_l (xs := (lnD (rs.map lineS)).take k ++ [.str (S b)]) (ys := (lnD (rs.map lineS)).drop k) (by simp; omega)
      have eq : (lnD (rs.map lineS)).take k ++ [.str (S b)] ++ (lnD (rs.map lineS)).drop k = (((rs.take k).map lineC ++ [b] ++ (rs.drop k).map lineC).map S).map PyData.str := by
        unfold lnD
        rw [lines_S]
        simp [List.map_take, List.map_drop]
      have j := mtV_join (a := "\n") (by decide) (small_S (ys := (rs.take k).map lineC ++ [b] ++ (rs.drop k).map lineC) (by simp; omega) fun y hy => by
        rcases List.mem_append.mp hy with hy | hy
        · rcases List.mem_append.mp hy with hy | hy
          · obtain ⟨r, hr, rfl⟩ := List.mem_map.mp hy
            have := lineC_len (hrs r (List.mem_of_mem_take hr))
            omega
          · have := List.mem_singleton.mp hy
            subst this
            omega
        · obtain ⟨r, hr, rfl⟩ := List.mem_map.mp hy
          have := lineC_len (hrs r (List.mem_of_mem_drop hr))
          omega)
      have tb := told_bad (L := L) (rs := rs.take k) (ts := rs.drop k) (bad := b) (fun r hr => hrs r (List.mem_of_mem_take hr)) (fun r hr => hrs r (List.mem_of_mem_drop hr)) (by simp; omega) (by simp; omega) g1 g2 g3
      have lk : (rs.take k).length = k := by simp; omega
      rw [lk] at tb
      have sm := same9 (so_two (n := 7) 1 (k : Int))
      rw [eq] at a2
      unfold linesT at tb
      obtain ⟨T, hT⟩ : ∃ T, T = Txt.join "\n" (((rs.take k).map lineC ++ [b] ++ (rs.drop k).map lineC).map S) := ⟨_, rfl⟩
      obtain ⟨Q, hQ⟩ : ∃ T, T = (((rs.take k).map lineC ++ [b] ++ (rs.drop k).map lineC).map S).map PyData.str := ⟨_, rfl⟩
      obtain ⟨D, hD⟩ : ∃ d, d = lnD (rs.map lineS) := ⟨_, rfl⟩
      obtain ⟨B, hB⟩ : ∃ d, d = S b := ⟨_, rfl⟩
      obtain ⟨G, hG⟩ : ∃ W, W = D__law_told := ⟨_, rfl⟩
      obtain ⟨K, hK⟩ : ∃ W, W = D__law_same 9 := ⟨_, rfl⟩
      rw [← hG, ← hT] at tb
      rw [← hK] at sm
      rw [← hT, ← hQ] at j
      rw [← hD] at c1 c2 a1 a2 hx
      rw [← hQ] at a2
      rw [← hB] at a1 a2
      rw [← hD, ← hB]
      unfold LB1_law
      rw [← hG, ← hK]
      rcases hx with rfl | rfl
      · simp [c1, c2, a1, a2, j, call_s tb, call_s sm]
      · simp [c1, c2, a1, a2, j, call_s tb, call_s sm])
  exact ⟨x, y, e⟩
end DY

/-! The law holds. -/
namespace DY
open PySem PySem.Spec PySem.Calls PyProof.Rows L2 SX
theorem emod_nat (d : Int) (m : Nat) (hm : 0 < m) : ∃ n : Nat, d % (m : Int) = n ∧ n < m := by
  have h1 : 0 ≤ d % (m : Int) := Int.emod_nonneg _ (by omega)
  have h2 : d % (m : Int) < m := Int.emod_lt_of_pos _ (by omega)
  exact ⟨(d % (m : Int)).toNat, by omega, by omega⟩
theorem mtV_split {T b : Str} {ls : List Str} (hb : (b.length == 0) = false) (hl : T.length ≤ 1000000) (h : Txt.split T b = ls) : mtV splitF (.str T) [.ow (.val (.str b))] = some (.lst (lnD ls)) := by
  unfold mtV
  rw [split_l hb hl h]
  rfl
theorem rowV_of {L n : Nat} {T : Int} {r : Row} (hn : r.length = n) (h9 : n ≤ 100) (hT : T ≤ 1000000) (h : RowOk L T r) : RowV L r := ⟨by omega, fun p hp => by
  have := h p hp
  exact ⟨this.1, this.2.1, by omega⟩⟩
theorem greatV {L : Nat} {T d : Int} {r : Row} (hn : r.length ≤ 100) (hT : T ≤ 6) (h0 : 0 ≤ d) (hd : d < 720) (h : RowOk L T r) : RowV L (greatOf d r) := ⟨by unfold greatOf; rw [mapN_len]; exact hn, fun p hp => by
  obtain ⟨q, hq, rfl⟩ := List.mem_map.mp hp
  have := h q hq
  exact ⟨this.1, by dsimp only; omega, by dsimp only; omega⟩⟩
theorem law_run (ns : List Int) (hns : ns.length ≤ 63) : D_law [.val (.list (ns.map PyData.int))] [] = some (.ok (.val (.bool true)), []) := by
  obtain ⟨ds, hds, dr⟩ := draws_ok ns 0 (by decide) hns 6 (by decide) 720 (by decide) (by decide)
  have dr : D__law_draws [.val (.list (ns.map .int)), .val (.int 0), .val (.int 6), .val (.int 720)] [] = some (.ok (.lst (ds.map .int)), []) := dr
  have hdl : ds.length = 6 := hds.1
  have i0 : ixD (.list (ds.map .int)) (.int 0) = some (.val (.int (ds.getD 0 0))) := ix_getD (ds := ds) (j := 0) (by omega)
  have i1 : ixD (.list (ds.map .int)) (.int 1) = some (.val (.int (ds.getD 1 0))) := ix_getD (ds := ds) (j := 1) (by omega)
  have i2 : ixD (.list (ds.map .int)) (.int 2) = some (.val (.int (ds.getD 2 0))) := ix_getD (ds := ds) (j := 2) (by omega)
  have i5 : ixD (.list (ds.map .int)) (.int 5) = some (.val (.int (ds.getD 5 0))) := ix_getD (ds := ds) (j := 5) (by omega)
  have h3 : 0 ≤ ds.getD 3 0 ∧ ds.getD 3 0 < 720 := hds.2 _ (getD_mem (by omega))
  obtain ⟨z0, e0, b0⟩ := emod_nat (ds.getD 0 0) 3 (by decide)
  obtain ⟨n, e1, b1⟩ := emod_nat (ds.getD 1 0) 9 (by decide)
  obtain ⟨z2, e2, b2⟩ := emod_nat (ds.getD 2 0) 6 (by decide)
  obtain ⟨k, e5, b5⟩ := emod_nat (ds.getD 5 0) 4 (by decide)
  have m0 := mod_sm (i := ds.getD 0 0) (j := 3) (by decide)
  have m1 := mod_sm (i := ds.getD 1 0) (j := 9) (by decide)
  have m2 := mod_sm (i := ds.getD 2 0) (j := 6) (by decide)
  have m5 := mod_sm (i := ds.getD 5 0) (j := 4) (by decide)
  have e0' : ds.getD 0 0 % 3 = (z0 : Int) := e0
  have e1' : ds.getD 1 0 % 9 = (n : Int) := e1
  have e2' : ds.getD 2 0 % 6 = (z2 : Int) := e2
  have e5' : ds.getD 5 0 % 4 = (k : Int) := e5
  rw [e0'] at m0
  rw [e1'] at m1
  rw [e2'] at m2
  rw [e5'] at m5
  obtain ⟨d0, q0⟩ : ∃ d, d = ds.getD 0 0 := ⟨_, rfl⟩
  obtain ⟨d1, q1⟩ : ∃ d, d = ds.getD 1 0 := ⟨_, rfl⟩
  obtain ⟨d2, q2⟩ : ∃ d, d = ds.getD 2 0 := ⟨_, rfl⟩
  obtain ⟨d5, q5⟩ : ∃ d, d = ds.getD 5 0 := ⟨_, rfl⟩
  rw [← q0] at m0 i0
  rw [← q1] at m1 i1
  rw [← q2] at m2 i2
  rw [← q5] at m5 i5
  obtain ⟨L, hL⟩ : ∃ L : Nat, L = 1 + z0 := ⟨_, rfl⟩
  have hz : (1 : Int) + (z0 : Int) = (L : Int) := by omega
  have hL0 : 0 < L := by omega
  have hL3 : L ≤ 3 := by omega
  obtain ⟨T, hT⟩ : ∃ T : Int, T = 1 + (z2 : Int) := ⟨_, rfl⟩
  obtain ⟨r, hrn, hrk, row1⟩ := law_row_ok ns hns 1 (by decide) L n T hL0 hL3 (by omega) (by omega)
  obtain ⟨o, hon, hok, row2⟩ := law_row_ok ns hns 2 (by decide) L n 2 hL0 hL3 (by omega) (by omega)
  have hr : RowV L r := rowV_of hrn (by omega) (by omega) hrk
  have ho : RowV L o := rowV_of hon (by omega) (by omega) hok
  have hg : RowV L (greatOf (ds.getD 3 0) r) := greatV (by omega) (by omega) h3.1 h3.2 hrk
  have hrl := hr.len
  have hol := ho.len
  have c13 := great_comp (.own (.val (.list (ns.map .int)))) (.own (.val (.int L))) .un .un .un .un .un .un .un .un .un .un .un .un .un .un .un .un .un .un ds hdl r (by omega)
  obtain ⟨g, hgg⟩ : ∃ g, g = greatOf (ds.getD 3 0) r := ⟨_, rfl⟩
  rw [← hgg] at c13 hg
  have t13 : PyData.tuple (g.map stD) = rowD g := rfl
  obtain ⟨x6, x7, l12⟩ := judge_loop (L := L) (.own (.val (.list (ns.map .int)))) (.own (.lst (ds.map .int))) .un .un .un .un .un .un .un .un .un .un .un .un .un .un .un .un r g o hr hg ho
  have lr := law_rows_ok hL3 (topN_pos L) (Nat.le_refl (topN L))
  have it := ix_top hL0 hL3
  obtain ⟨x8, x9, l10⟩ := plain_check hL0 hL3 (.own (.val (.list (ns.map .int)))) (.own (.lst (ds.map .int))) (.own (.val (rowD r))) (.own (.val (rowD g))) (.own (.val (rowD o))) x6 x7 (.own (.lst ((allU L (topN L)).map rowD))) .un .un .un .un .un .un .un .un .un .un .un .un .un rfl
  have pl := law_plain_ok o (by omega)
  have hpl := plainOf_len o
  obtain ⟨po, hpo⟩ : ∃ g, g = plainOf o := ⟨_, rfl⟩
  rw [← hpo] at pl hpl
  have c7 := count_comp (.own (.val (.list (ns.map .int)))) (.own (.lst (ds.map .int))) (.own (.val (.int L))) (.own (.val (rowD r))) (.own (.val (rowD g))) (.own (.val (rowD o))) x6 x7 x8 x9 .un .un .un .un .un .un .un .un .un .un .un po (by omega)
  have dn := dict_nm po
  have dl : lenD [.dict (dicF f0 (seenOf po))] = some (.val (.int (seenOf po).length)) := by
    rw [lenD_dic]
    simp [dicF]
  obtain ⟨x13, l6⟩ := due_loop (L := L) (.own (.val (.list (ns.map .int)))) (.own (.lst (ds.map .int))) (.own (.val (rowD r))) (.own (.val (rowD g))) (.own (.val (rowD o))) x6 x7 x8 x9 .un .un .un .un .un .un .un .un .un po (by omega)
  have lo := longer_ok (L := L) po (by omega)
  have s1 := same9 (so_rows (n := 5) (rs := ext L po) (by
    have h1 := ext_card L po
    have h2 : L * (po.length + 1) ≤ 3 * (po.length + 1) := Nat.mul_le_mul_right _ hL3
    omega) fun s hs => by rw [ext_len hs]; omega)
  obtain ⟨ks, hks, c3⟩ := words_comp (.own (.val (.int L))) (.own (.val (rowD r))) (.own (.val (rowD g))) (.own (.val (rowD o))) x6 x7 x8 x9 (.own (.val (rowD po))) (.own (.val (.int (seenOf po).length))) (.own (.val (.list ((ext L po).map rowD)))) x13 .un .un .un .un .un .un .un ns hns ds hdl
  have wl : ∀ y ∈ ks.map wordAt, y.length ≤ 10 := by
    intro y hy
    obtain ⟨j, _, rfl⟩ := List.mem_map.mp hy
    unfold wordAt
    rw [List.getD_eq_getElem?_getD]
    cases hw : wordsC[(j % 13).toNat]? with
    | none => simp
    | some w =>
      have key : ∀ w ∈ wordsC, w.length ≤ 10 := by decide
      exact key w (List.mem_of_getElem? hw)
  have j3 := mtV_join (a := " ") (by decide) (small_S (ys := ks.map wordAt) (by simp; omega) fun y hy => by have := wl y hy; omega)
  rw [List.map_map (f := S)] at j3
  obtain ⟨o1, d, ta, hd1, ⟨o2, lw, hd2⟩, hdd⟩ := told_any (L := L) (words_any (ys := ks.map wordAt) (by simp; omega) wl)
  have s2 := same9 (d := d) (by
    rcases hdd with ⟨r', rfl, h⟩ | ⟨j, rfl⟩
    · exact so_row (n := 6) h
    · exact so_two (n := 7) 0 j)
  obtain ⟨tx, htx⟩ : ∃ t, t = Txt.join " " ((ks.map wordAt).map S) := ⟨_, rfl⟩
  rw [← htx] at j3 ta lw
  have h0 : RowV L [] := ⟨by simp, fun p hp => by simp at hp⟩
  have hrs : ∀ x ∈ [r, [], o, g], RowV L x := by
    intro x hx
    simp at hx
    rcases hx with rfl | rfl | rfl | rfl
    · exact hr
    · exact h0
    · exact ho
    · exact hg
  obtain ⟨rs, hrs'⟩ : ∃ rs, rs = [r, [], o, g] := ⟨_, rfl⟩
  have hrd : [rowD r, .tuple [], rowD o, rowD g] = rs.map rowD := by rw [hrs']; rfl
  have hrn4 : rs.length = 4 := by rw [hrs']; rfl
  rw [← hrs'] at hrs
  have rt := rows_text_ok rs hrs (by omega)
  have tr := told_rows hrs (by omega) (by omega)
  have s3 := same9 (so_rows (n := 5) (rs := rs) (by omega) fun x hx => by have := (hrs x hx).len; omega)
  have tn := told_rows_nil (L := L)
  have s4 : D__law_same 9 [.val (.list []), .val (.list [])] [] = some (.ok (.val (.bool true)), []) := same9 (so_rows (n := 5) (rs := []) (by simp) fun x hx => by simp at hx)
  have sp := mtV_split (T := linesT (rs.map lineC)) (b := "\n") rfl (linesT_len (by simp; omega) fun y hy => by
    obtain ⟨x, hx, rfl⟩ := List.mem_map.mp hy
    exact lineC_len (hrs x hx)) (linesT_split (by
      intro e
      have := congrArg List.length e
      simp at this
      rw [this] at hrn4
      simp at hrn4) fun y hy => by
    obtain ⟨x, hx, rfl⟩ := List.mem_map.mp hy
    intro hc
    have := lineC_mem (hrs x hx) hc
    omega)
  rw [← lines_S] at sp
  obtain ⟨x17, x19, l2⟩ := bad_loop (L := L) (k := k) rs hrs hrn4 (by omega) (.own (.val (.list (ns.map .int)))) (.own (.lst (ds.map .int))) (.own (.val (rowD r))) (.own (.val (rowD g))) (.own (.val (rowD o))) x6 x7 x8 x9 (.own (.val (rowD po))) (.own (.val (.int (seenOf po).length))) (.own (.val (.list ((ext L po).map rowD)))) x13 (.own (.lst (wordsC.map fun w => .str (S w)))) (.own (.val (.str tx))) (.own (.val (.list (rs.map rowD)))) (.own (.lst (lnD (rs.map lineS)))) .un .un .un rfl
  have hwd : [PyData.str "a0", .str "b1", .str "c2", .str "a", .str "0", .str "a00", .str "a1234567", .str "A0", .str "a-1", .str "", .str "a999999", .str "d1", .str "a 1"] = wordsC.map fun w => .str (S w) := rfl
  have j3' : mtV joinF (.str " ") [.ow (.lst ((ks.map wordAt).map fun w => PyData.str (S w)))] = some (.val (.str tx)) := by
    rw [← j3]
    rfl
  clear j3
  have mkw : mkL (wordsC.map fun w => PyData.str (S w)) = some (.lst (wordsC.map fun w => PyData.str (S w))) := mkL_s (by simp [wordsC])
  have mkr : mkL (rs.map rowD) = some (.lst (rs.map rowD)) := mkL_s (by rw [List.length_map, hrn4]; simp)
  clear htx hrs'
  obtain ⟨NS, hNS⟩ : ∃ v, v = ns.map PyData.int := ⟨_, rfl⟩
  obtain ⟨DD, hDD⟩ : ∃ v, v = ds.map PyData.int := ⟨_, rfl⟩
  obtain ⟨RR, hRR⟩ : ∃ v, v = rowD r := ⟨_, rfl⟩
  obtain ⟨GG, hGG⟩ : ∃ v, v = rowD g := ⟨_, rfl⟩
  obtain ⟨OO, hOO⟩ : ∃ v, v = rowD o := ⟨_, rfl⟩
  obtain ⟨PO, hPO⟩ : ∃ v, v = rowD po := ⟨_, rfl⟩
  obtain ⟨GS, hGS⟩ : ∃ v, v = g.map stD := ⟨_, rfl⟩
  obtain ⟨AL, hAL⟩ : ∃ v, v = (allU L (topN L)).map rowD := ⟨_, rfl⟩
  obtain ⟨NM, hNM⟩ : ∃ v, v = po.map nmD := ⟨_, rfl⟩
  obtain ⟨DC, hDC⟩ : ∃ v, v = dicF f0 (seenOf po) := ⟨_, rfl⟩
  obtain ⟨EX, hEX⟩ : ∃ v, v = (ext L po).map rowD := ⟨_, rfl⟩
  obtain ⟨WD, hWD⟩ : ∃ v, v = wordsC.map fun w => PyData.str (S w) := ⟨_, rfl⟩
  obtain ⟨KS, hKS⟩ : ∃ v, v = (ks.map wordAt).map fun w => PyData.str (S w) := ⟨_, rfl⟩
  obtain ⟨RS, hRS⟩ : ∃ v, v = rs.map rowD := ⟨_, rfl⟩
  obtain ⟨LT, hLT⟩ : ∃ v, v = linesT (rs.map lineC) := ⟨_, rfl⟩
  obtain ⟨LN, hLN⟩ : ∃ v, v = lnD (rs.map lineS) := ⟨_, rfl⟩
  obtain ⟨tp, htp⟩ : ∃ v, v = topN L := ⟨_, rfl⟩
  obtain ⟨cn, hcn⟩ : ∃ v, v = (seenOf po).length := ⟨_, rfl⟩
  simp only [← hNS, ← hDD, ← hRR, ← hGG, ← hOO, ← hPO, ← hGS, ← hAL, ← hNM, ← hDC, ← hEX, ← hWD, ← hKS, ← hRS, ← hLT, ← hLN, ← htp, ← hcn] at dr row1 row2 c13 l12 lr it l10 pl c7 dn dl l6 lo s1 c3 j3' ta lw s2 rt tr s3 tn s4 sp l2 hwd hrd mkw mkr t13 i0 i1 i2 i5 ⊢
  obtain ⟨K1, hK1⟩ : ∃ v, v = D__law_draws := ⟨_, rfl⟩
  rw [← hK1] at dr
  obtain ⟨K2, hK2⟩ : ∃ v, v = D__law_row := ⟨_, rfl⟩
  rw [← hK2] at row1 row2
  obtain ⟨K3, hK3⟩ : ∃ v, v = D__law_rows := ⟨_, rfl⟩
  rw [← hK3] at lr
  obtain ⟨K4, hK4⟩ : ∃ v, v = D__law_plain := ⟨_, rfl⟩
  rw [← hK4] at pl
  obtain ⟨K5, hK5⟩ : ∃ v, v = D_longer_rows := ⟨_, rfl⟩
  rw [← hK5] at lo
  obtain ⟨K6, hK6⟩ : ∃ v, v = D__law_told := ⟨_, rfl⟩
  rw [← hK6] at ta tr tn
  obtain ⟨K7, hK7⟩ : ∃ v, v = D__law_read := ⟨_, rfl⟩
  rw [← hK7] at lw
  obtain ⟨K8, hK8⟩ : ∃ v, v = D_rows_text := ⟨_, rfl⟩
  rw [← hK8] at rt
  obtain ⟨K9, hK9⟩ : ∃ v, v = D__law_same 9 := ⟨_, rfl⟩
  rw [← hK9] at s1 s2 s3 s4
  obtain ⟨X1, hX1⟩ : ∃ v, v = L12_law := ⟨_, rfl⟩
  rw [← hX1] at l12
  obtain ⟨X2, hX2⟩ : ∃ v, v = L10_law := ⟨_, rfl⟩
  rw [← hX2] at l10
  obtain ⟨X3, hX3⟩ : ∃ v, v = L6_law := ⟨_, rfl⟩
  rw [← hX3] at l6
  obtain ⟨X4, hX4⟩ : ∃ v, v = L2_law := ⟨_, rfl⟩
  rw [← hX4] at l2
  obtain ⟨Y1, hY1⟩ : ∃ v, v = C13_law := ⟨_, rfl⟩
  rw [← hY1] at c13
  obtain ⟨Y2, hY2⟩ : ∃ v, v = C7_law := ⟨_, rfl⟩
  rw [← hY2] at c7
  obtain ⟨Y3, hY3⟩ : ∃ v, v = C3_law := ⟨_, rfl⟩
  rw [← hY3] at c3
  unfold D_law
  refine runD_ret (st := [.own (.val (.list NS)), .own (.lst DD), .own (.val (.int L)), .own (.val RR), .own (.val GG), .own (.val OO), x6, x7, x8, x9, .own (.val PO), .own (.val (.int cn)), .own (.val (.list EX)), x13, .own (.lst WD), .own (.val (.str tx)), .own (.val (.list RS)), x17, .own (.val (.int k)), x19, .un, .un]) ?_ rfl
  unfold B_law
  rw [← hK1, ← hK2, ← hK3, ← hK4, ← hK5, ← hK6, ← hK7, ← hK8, ← hK9, ← hX1, ← hX2, ← hX3, ← hX4, ← hY1, ← hY2, ← hY3]
  simp [call_s dr, i0, i1, i2, i5, m0, m1, m2, m5, hz, ← hT, call_s row1, call_s row2, c13, t13, l12, it, call_s lr, l10, call_s pl, c7, dn, dl, l6, call_s lo, call_s s1, hwd, mkw, mkr, c3, j3', call_s ta, hd1, call_s lw, hd2, call_s s2, hrd, call_s rt, call_s tr, call_s s3, call_s tn, call_s s4, sp, l2]
theorem law_true : ∀ ns : List Int, ns.length ≤ 63 → (∀ z ∈ ns, Builtin.Int.intBits z ≤ 1048576) → ∃ ext, D_law [.val (.list (ns.map PyData.int))] [] = some (.ok (.val (.bool true)), ext) := fun ns h _ => ⟨[], law_run ns h⟩
end DY

namespace DY
open PySem PySem.Spec PySem.Calls PyProof.Rows L2
/-! ### printed by gen.py: the walks -/
def topS (i : Nat) : Stmt := PySem.Challenge.pw_anynames_k00_rows_up_to_names.main.body.getD i (.Pass ⟨0, 0, 0, 0⟩)
abbrev s__law_number : Stmt := topS 25
abbrev N__law_number : List Str := ["script", "k", "number"]
theorem sc__law_number : FnScope N__law_number ["script", "k"] (defScope s__law_number) := ⟨rfl, rfl, rfl, by decide +kernel, rfl, by decide +kernel, by decide +kernel⟩
abbrev s__law_draws : Stmt := topS 26
abbrev N__law_draws : List Str := ["script", "k", "count", "many", "number", "found", "at", "state", "other"]
theorem sc__law_draws : FnScope N__law_draws ["script", "k", "count", "many"] (defScope s__law_draws) := ⟨rfl, rfl, rfl, by decide +kernel, rfl, by decide +kernel, by decide +kernel⟩
abbrev s__law_row : Stmt := topS 27
abbrev N__law_row : List Str := ["script", "k", "letters", "length", "names", "picks", "j"]
theorem sc__law_row : FnScope N__law_row ["script", "k", "letters", "length", "names"] (defScope s__law_row) := ⟨rfl, rfl, rfl, by decide +kernel, rfl, by decide +kernel, by decide +kernel⟩
abbrev s__law_rows : Stmt := topS 29
abbrev N__law_rows : List Str := ["letters", "length", "found", "at", "row", "count", "letter", "name"]
theorem sc__law_rows : FnScope N__law_rows ["letters", "length"] (defScope s__law_rows) := ⟨rfl, rfl, rfl, by decide +kernel, rfl, by decide +kernel, by decide +kernel⟩
abbrev s__law_plain : Stmt := topS 28
abbrev N__law_plain : List Str := ["row", "seen", "letter", "name"]
theorem sc__law_plain : FnScope N__law_plain ["row"] (defScope s__law_plain) := ⟨rfl, rfl, rfl, by decide +kernel, rfl, by decide +kernel, by decide +kernel⟩
abbrev s__law_same : Stmt := topS 24
abbrev N__law_same : List Str := ["told", "due", "k"]
theorem sc__law_same : FnScope N__law_same ["told", "due"] (defScope s__law_same) := ⟨rfl, rfl, rfl, by decide +kernel, rfl, by decide +kernel, by decide +kernel⟩
abbrev s_names_of : Stmt := topS 8
abbrev N_names_of : List Str := ["row", "found", "letter", "name"]
theorem sc_names_of : FnScope N_names_of ["row"] (defScope s_names_of) := ⟨rfl, rfl, rfl, by decide +kernel, rfl, by decide +kernel, by decide +kernel⟩
abbrev s_renamed : Stmt := topS 12
abbrev N_renamed : List Str := ["row", "names", "numbers", "place", "j", "letter", "name"]
theorem sc_renamed : FnScope N_renamed ["row", "names"] (defScope s_renamed) := ⟨rfl, rfl, rfl, by decide +kernel, rfl, by decide +kernel, by decide +kernel⟩
abbrev s_plain_row : Stmt := topS 9
abbrev N_plain_row : List Str := ["row", "numbers", "found", "letter", "name"]
theorem sc_plain_row : FnScope N_plain_row ["row"] (defScope s_plain_row) := ⟨rfl, rfl, rfl, by decide +kernel, rfl, by decide +kernel, by decide +kernel⟩
abbrev s_are_alike : Stmt := topS 11
abbrev N_are_alike : List Str := ["first", "second"]
theorem sc_are_alike : FnScope N_are_alike ["first", "second"] (defScope s_are_alike) := ⟨rfl, rfl, rfl, by decide +kernel, rfl, by decide +kernel, by decide +kernel⟩
abbrev s_is_plain : Stmt := topS 10
abbrev N_is_plain : List Str := ["row"]
theorem sc_is_plain : FnScope N_is_plain ["row"] (defScope s_is_plain) := ⟨rfl, rfl, rfl, by decide +kernel, rfl, by decide +kernel, by decide +kernel⟩
abbrev s_letters_of : Stmt := topS 13
abbrev N_letters_of : List Str := ["row", "letter", "name"]
theorem sc_letters_of : FnScope N_letters_of ["row"] (defScope s_letters_of) := ⟨rfl, rfl, rfl, by decide +kernel, rfl, by decide +kernel, by decide +kernel⟩
abbrev s_row_text : Stmt := topS 17
abbrev N_row_text : List Str := ["row", "letter", "name"]
theorem sc_row_text : FnScope N_row_text ["row"] (defScope s_row_text) := ⟨rfl, rfl, rfl, by decide +kernel, rfl, by decide +kernel, by decide +kernel⟩
abbrev s_read_step : Stmt := topS 18
abbrev N_read_step : List Str := ["k", "word", "name", "sign"]
theorem sc_read_step : FnScope N_read_step ["k", "word"] (defScope s_read_step) := ⟨rfl, rfl, rfl, by decide +kernel, rfl, by decide +kernel, by decide +kernel⟩
abbrev s_read_row : Stmt := topS 19
abbrev N_read_row : List Str := ["k", "text", "found", "words", "index", "step"]
theorem sc_read_row : FnScope N_read_row ["k", "text"] (defScope s_read_row) := ⟨rfl, rfl, rfl, by decide +kernel, rfl, by decide +kernel, by decide +kernel⟩
abbrev s_read_line : Stmt := topS 22
abbrev N_read_line : List Str := ["k", "line", "index", "steps", "word"]
theorem sc_read_line : FnScope N_read_line ["k", "line", "index"] (defScope s_read_line) := ⟨rfl, rfl, rfl, by decide +kernel, rfl, by decide +kernel, by decide +kernel⟩
abbrev s_read_rows : Stmt := topS 21
abbrev N_read_rows : List Str := ["k", "text", "found", "lines", "index"]
theorem sc_read_rows : FnScope N_read_rows ["k", "text"] (defScope s_read_rows) := ⟨rfl, rfl, rfl, by decide +kernel, rfl, by decide +kernel, by decide +kernel⟩
abbrev s__law_told : Stmt := topS 30
abbrev N__law_told : List Str := ["which", "letters", "text", "error"]
theorem sc__law_told : FnScope N__law_told ["which", "letters", "text"] (defScope s__law_told) := ⟨rfl, rfl, rfl, by decide +kernel, rfl, by decide +kernel, by decide +kernel⟩
abbrev s_part_of : Stmt := topS 14
abbrev N_part_of : List Str := ["row", "name", "letter", "other"]
theorem sc_part_of : FnScope N_part_of ["row", "name"] (defScope s_part_of) := ⟨rfl, rfl, rfl, by decide +kernel, rfl, by decide +kernel, by decide +kernel⟩
abbrev s__law_judged : Stmt := topS 33
abbrev N__law_judged : List Str := ["letters", "row", "other", "seen", "letter", "name", "plain", "fresh", "moved", "text", "one"]
theorem sc__law_judged : FnScope N__law_judged ["letters", "row", "other"] (defScope s__law_judged) := ⟨rfl, rfl, rfl, by decide +kernel, rfl, by decide +kernel, by decide +kernel⟩
abbrev s_longer_rows : Stmt := topS 15
abbrev N_longer_rows : List Str := ["k", "row", "count", "found", "letter", "name"]
theorem sc_longer_rows : FnScope N_longer_rows ["k", "row"] (defScope s_longer_rows) := ⟨rfl, rfl, rfl, by decide +kernel, rfl, by decide +kernel, by decide +kernel⟩
abbrev s__law_step : Stmt := topS 31
abbrev N__law_step : List Str := ["letters", "word", "x"]
theorem sc__law_step : FnScope N__law_step ["letters", "word"] (defScope s__law_step) := ⟨rfl, rfl, rfl, by decide +kernel, rfl, by decide +kernel, by decide +kernel⟩
abbrev s__law_read : Stmt := topS 32
abbrev N__law_read : List Str := ["letters", "text", "steps", "word"]
theorem sc__law_read : FnScope N__law_read ["letters", "text"] (defScope s__law_read) := ⟨rfl, rfl, rfl, by decide +kernel, rfl, by decide +kernel, by decide +kernel⟩
abbrev s_rows_text : Stmt := topS 20
abbrev N_rows_text : List Str := ["rows", "row"]
theorem sc_rows_text : FnScope N_rows_text ["rows"] (defScope s_rows_text) := ⟨rfl, rfl, rfl, by decide +kernel, rfl, by decide +kernel, by decide +kernel⟩
abbrev s_plain_rows : Stmt := topS 16
abbrev N_plain_rows : List Str := ["k", "length", "found", "step", "longer", "row"]
theorem sc_plain_rows : FnScope N_plain_rows ["k", "length"] (defScope s_plain_rows) := ⟨rfl, rfl, rfl, by decide +kernel, rfl, by decide +kernel, by decide +kernel⟩
abbrev s_law : Stmt := topS 34
abbrev N_law : List Str := ["script", "shape", "letters", "row", "great", "other", "one", "two", "every", "length", "plain", "count", "due", "letter", "words", "text", "rows", "lines", "at", "bad", "name", "pick"]
theorem sc_law : FnScope N_law ["script"] (defScope s_law) := ⟨rfl, rfl, rfl, by decide +kernel, rfl, by decide +kernel, by decide +kernel⟩
structure Ad where
  f__law_number : Addr
  d__law_number : FuncData
  f__law_draws : Addr
  d__law_draws : FuncData
  f__law_row : Addr
  d__law_row : FuncData
  f__law_rows : Addr
  d__law_rows : FuncData
  f__law_plain : Addr
  d__law_plain : FuncData
  f__law_same : Addr
  d__law_same : FuncData
  f_names_of : Addr
  d_names_of : FuncData
  f_renamed : Addr
  d_renamed : FuncData
  f_plain_row : Addr
  d_plain_row : FuncData
  f_are_alike : Addr
  d_are_alike : FuncData
  f_is_plain : Addr
  d_is_plain : FuncData
  f_letters_of : Addr
  d_letters_of : FuncData
  f_row_text : Addr
  d_row_text : FuncData
  f_read_step : Addr
  d_read_step : FuncData
  f_read_row : Addr
  d_read_row : FuncData
  f_read_line : Addr
  d_read_line : FuncData
  f_read_rows : Addr
  d_read_rows : FuncData
  f__law_told : Addr
  d__law_told : FuncData
  f_part_of : Addr
  d_part_of : FuncData
  f__law_judged : Addr
  d__law_judged : FuncData
  f_longer_rows : Addr
  d_longer_rows : FuncData
  f__law_step : Addr
  d__law_step : FuncData
  f__law_read : Addr
  d__law_read : FuncData
  f_rows_text : Addr
  d_rows_text : FuncData
  f_plain_rows : Addr
  d_plain_rows : FuncData
  f_law : Addr
  d_law : FuncData
  c_BadLine : Addr
  c_BadStep : Addr
  c_RowError : Addr
structure Txt (P : Program) (K : Fg) (mg : Mg) (a : Ad) : Prop where
  b_abs : mg "abs" = none
  b_bool : mg "bool" = none
  b_dict : mg "dict" = none
  b_int : mg "int" = none
  b_isinstance : mg "isinstance" = none
  b_len : mg "len" = none
  b_list : mg "list" = none
  b_range : mg "range" = none
  b_sorted : mg "sorted" = none
  b_str : mg "str" = none
  b_sum : mg "sum" = none
  b_tuple : mg "tuple" = none
  c_LETTERS : ∃ t, mg "LETTERS" = some (.str "abc" t)
  c_FIGURES : ∃ t, mg "FIGURES" = some (.str "0123456789" t)
  c_MOST_FIGURES : ∃ t, mg "MOST_FIGURES" = some (.int 6 t)
  F__law_number : L2.Fun K "_law_number" "_law_number" s__law_number a.f__law_number a.d__law_number
  m__law_number : mg "_law_number" = some (.ref a.f__law_number)
  bi__law_number : Binds K a.d__law_number ["script", "k"] []
  F__law_draws : L2.Fun K "_law_draws" "_law_draws" s__law_draws a.f__law_draws a.d__law_draws
  m__law_draws : mg "_law_draws" = some (.ref a.f__law_draws)
  bi__law_draws : Binds K a.d__law_draws ["script", "k", "count", "many"] []
  F__law_row : L2.Fun K "_law_row" "_law_row" s__law_row a.f__law_row a.d__law_row
  m__law_row : mg "_law_row" = some (.ref a.f__law_row)
  bi__law_row : Binds K a.d__law_row ["script", "k", "letters", "length", "names"] []
  F__law_rows : L2.Fun K "_law_rows" "_law_rows" s__law_rows a.f__law_rows a.d__law_rows
  m__law_rows : mg "_law_rows" = some (.ref a.f__law_rows)
  bi__law_rows : Binds K a.d__law_rows ["letters", "length"] []
  F__law_plain : L2.Fun K "_law_plain" "_law_plain" s__law_plain a.f__law_plain a.d__law_plain
  m__law_plain : mg "_law_plain" = some (.ref a.f__law_plain)
  bi__law_plain : Binds K a.d__law_plain ["row"] []
  F__law_same : L2.Fun K "_law_same" "_law_same" s__law_same a.f__law_same a.d__law_same
  m__law_same : mg "_law_same" = some (.ref a.f__law_same)
  bi__law_same : Binds K a.d__law_same ["told", "due"] []
  F_names_of : L2.Fun K "names_of" "names_of" s_names_of a.f_names_of a.d_names_of
  m_names_of : mg "names_of" = some (.ref a.f_names_of)
  bi_names_of : Binds K a.d_names_of ["row"] []
  F_renamed : L2.Fun K "renamed" "renamed" s_renamed a.f_renamed a.d_renamed
  m_renamed : mg "renamed" = some (.ref a.f_renamed)
  bi_renamed : Binds K a.d_renamed ["row", "names"] []
  F_plain_row : L2.Fun K "plain_row" "plain_row" s_plain_row a.f_plain_row a.d_plain_row
  m_plain_row : mg "plain_row" = some (.ref a.f_plain_row)
  bi_plain_row : Binds K a.d_plain_row ["row"] []
  F_are_alike : L2.Fun K "are_alike" "are_alike" s_are_alike a.f_are_alike a.d_are_alike
  m_are_alike : mg "are_alike" = some (.ref a.f_are_alike)
  bi_are_alike : Binds K a.d_are_alike ["first", "second"] []
  F_is_plain : L2.Fun K "is_plain" "is_plain" s_is_plain a.f_is_plain a.d_is_plain
  m_is_plain : mg "is_plain" = some (.ref a.f_is_plain)
  bi_is_plain : Binds K a.d_is_plain ["row"] []
  F_letters_of : L2.Fun K "letters_of" "letters_of" s_letters_of a.f_letters_of a.d_letters_of
  m_letters_of : mg "letters_of" = some (.ref a.f_letters_of)
  bi_letters_of : Binds K a.d_letters_of ["row"] []
  F_row_text : L2.Fun K "row_text" "row_text" s_row_text a.f_row_text a.d_row_text
  m_row_text : mg "row_text" = some (.ref a.f_row_text)
  bi_row_text : Binds K a.d_row_text ["row"] []
  F_read_step : L2.Fun K "read_step" "read_step" s_read_step a.f_read_step a.d_read_step
  m_read_step : mg "read_step" = some (.ref a.f_read_step)
  bi_read_step : Binds K a.d_read_step ["k", "word"] []
  F_read_row : L2.Fun K "read_row" "read_row" s_read_row a.f_read_row a.d_read_row
  m_read_row : mg "read_row" = some (.ref a.f_read_row)
  bi_read_row : Binds K a.d_read_row ["k", "text"] []
  F_read_line : L2.Fun K "read_line" "read_line" s_read_line a.f_read_line a.d_read_line
  m_read_line : mg "read_line" = some (.ref a.f_read_line)
  bi_read_line : Binds K a.d_read_line ["k", "line", "index"] []
  F_read_rows : L2.Fun K "read_rows" "read_rows" s_read_rows a.f_read_rows a.d_read_rows
  m_read_rows : mg "read_rows" = some (.ref a.f_read_rows)
  bi_read_rows : Binds K a.d_read_rows ["k", "text"] []
  F__law_told : L2.Fun K "_law_told" "_law_told" s__law_told a.f__law_told a.d__law_told
  m__law_told : mg "_law_told" = some (.ref a.f__law_told)
  bi__law_told : Binds K a.d__law_told ["which", "letters", "text"] []
  F_part_of : L2.Fun K "part_of" "part_of" s_part_of a.f_part_of a.d_part_of
  m_part_of : mg "part_of" = some (.ref a.f_part_of)
  bi_part_of : Binds K a.d_part_of ["row", "name"] []
  F__law_judged : L2.Fun K "_law_judged" "_law_judged" s__law_judged a.f__law_judged a.d__law_judged
  m__law_judged : mg "_law_judged" = some (.ref a.f__law_judged)
  bi__law_judged : Binds K a.d__law_judged ["letters", "row", "other"] []
  F_longer_rows : L2.Fun K "longer_rows" "longer_rows" s_longer_rows a.f_longer_rows a.d_longer_rows
  m_longer_rows : mg "longer_rows" = some (.ref a.f_longer_rows)
  bi_longer_rows : Binds K a.d_longer_rows ["k", "row"] []
  F__law_step : L2.Fun K "_law_step" "_law_step" s__law_step a.f__law_step a.d__law_step
  m__law_step : mg "_law_step" = some (.ref a.f__law_step)
  bi__law_step : Binds K a.d__law_step ["letters", "word"] []
  F__law_read : L2.Fun K "_law_read" "_law_read" s__law_read a.f__law_read a.d__law_read
  m__law_read : mg "_law_read" = some (.ref a.f__law_read)
  bi__law_read : Binds K a.d__law_read ["letters", "text"] []
  F_rows_text : L2.Fun K "rows_text" "rows_text" s_rows_text a.f_rows_text a.d_rows_text
  m_rows_text : mg "rows_text" = some (.ref a.f_rows_text)
  bi_rows_text : Binds K a.d_rows_text ["rows"] []
  F_plain_rows : L2.Fun K "plain_rows" "plain_rows" s_plain_rows a.f_plain_rows a.d_plain_rows
  m_plain_rows : mg "plain_rows" = some (.ref a.f_plain_rows)
  bi_plain_rows : Binds K a.d_plain_rows ["k", "length"] []
  F_law : L2.Fun K "law" "law" s_law a.f_law a.d_law
  m_law : mg "law" = some (.ref a.f_law)
  bi_law : Binds K a.d_law ["script"] []
  k_BadLine : mg "BadLine" = some (.ref a.c_BadLine)
  k_BadStep : mg "BadStep" = some (.ref a.c_BadStep)
  k_RowError : mg "RowError" = some (.ref a.c_RowError)
  s_BadLine : SupC P K a.c_BadLine "line"
  s_BadStep : SupC P K a.c_BadStep "index"
  hit_RowError : ∀ nm b, hit_RowError nm = some b → ∀ C, mg nm = some (.ref C) → PySem.W.exmOne K (.ref C) (.ref a.c_RowError) = some b
  isx_BadLine : ∀ nm b, isx_BadLine nm = some b → ∀ C, mg nm = some (.ref C) → IsxC K C ∧ PySem.W.kitOne K (.ref C) (.ref a.c_BadLine) = some b
  isx_BadStep : ∀ nm b, isx_BadStep nm = some b → ∀ C, mg nm = some (.ref C) → IsxC K C ∧ PySem.W.kitOne K (.ref C) (.ref a.c_BadStep) = some b
  xf_index : ∀ nm ∈ xn_index, ∀ C, mg nm = some (.ref C) → XfC K C ∧ PySem.W.findIn K (.ref C) "index" = some none
  xf_line : ∀ nm ∈ xn_line, ∀ C, mg nm = some (.ref C) → XfC K C ∧ PySem.W.findIn K (.ref C) "line" = some none
section
variable {P : Program} {w : World} {K : Fg} {mg : Mg} {base : Heap} {a : Ad}
theorem ok__law_number (T : Txt P K mg a) : FnOk P w K mg base (L2.CX P w) 1 a.f__law_number a.d__law_number ["script", "k"] (spD K mg 2 D__law_number) :=
  fnD T.F__law_number sc__law_number (by decide) fun cdv A outer s H E L hr tk po =>
  (dss_cons (ds_asg (de_op op_addA sn_addA (de_op op_mul sn_mul (de_callB (cr_sum rfl) sn_sum T.b_sum (by rfl) (da_cons (de_var 0) da_nil)) de_int) (de_op op_mul sn_mul de_int (de_op op_addA sn_addA (de_var 1) de_int))) (dg_name 2 sc__law_number.nd))
  (dss_cons (ds_if (dt_cmp op_lt sn_lt (de_var 1) (de_lenS 0 T.b_len) (nomark _))
  (dss_one (ds_asg (de_ixS 0 (u64 hr) (de_var 1)) (dg_name 2 sc__law_number.nd)))
  dss_nil)
  (dss_one (ds_ret (de_callB call_abs sn_abs T.b_abs (by rfl) (da_cons (de_var 2) da_nil))))))
theorem ok__law_draws (T : Txt P K mg a) : FnOk P w K mg base (L2.CX P w) 2 a.f__law_draws a.d__law_draws ["script", "k", "count", "many"] (spD K mg 4 D__law_draws) :=
  fnD T.F__law_draws sc__law_draws (by decide) fun cdv A outer s H E L hr tk po =>
  (dss_cons (ds_asg (de_call (ok__law_number T) (hr.mono (by first | decide | omega)) T.m__law_number T.F__law_number.kp T.bi__law_number tk (dg_v (de_var 0) (dg_v (de_var 1) dg_nil)) (fun _ _ _ h => len_agV ((fun _ _ _ h => len_agV (fun _ _ _ h => len_agNil h) h)) h)) (dg_name 4 sc__law_draws.nd))
  (dss_cons (ds_asg (de_lst da_nil) (dg_name 5 sc__law_draws.nd))
  (dss_cons (ds_if (dt_cmp op_ge sn_ge (de_var 4) (de_op op_pow sn_pow de_int de_int) (nomark _))
  (dss_cons (ds_asg (de_op op_sub sn_sub (de_var 4) (de_op op_pow sn_pow de_int de_int)) (dg_name 4 sc__law_draws.nd))
  (dss_cons (ds_for po rfl (di_range1 T.b_range (da_cons (de_var 2) da_nil)) (dg_name 6 sc__law_draws.nd)
  (dss_cons (ds_expr (de_mt 5 PySem.F.plainAttrs_list PySem.F.slot_list_append PySem.F.type_list_append mt_append sm_append (da_cons (de_op op_mod sn_mod (de_var 4) (de_var 3)) da_nil)))
  (dss_one (ds_asg (de_op op_fdiv sn_fdiv (de_var 4) (de_var 3)) (dg_name 4 sc__law_draws.nd)))))
  (dss_one (ds_ret (de_move 5)))))
  dss_nil)
  (dss_cons (ds_asg (de_op op_addA sn_addA (de_op op_mod sn_mod (de_var 4) de_int) de_int) (dg_name 7 sc__law_draws.nd))
  (dss_cons (ds_for po rfl (di_range1 T.b_range (da_cons (de_var 2) da_nil)) (dg_name 6 sc__law_draws.nd)
  (dss_cons (ds_asg (de_op op_mod sn_mod (de_op op_addA sn_addA (de_op op_addA sn_addA (de_op op_mul sn_mul (de_var 7) de_int) (de_op op_mul sn_mul de_int (de_var 6))) de_int) de_int) (dg_name 7 sc__law_draws.nd))
  (dss_cons (ds_asg (de_op op_mod sn_mod (de_op op_addA sn_addA (de_op op_addA sn_addA (de_op op_mul sn_mul (de_var 7) (de_var 7)) (de_op op_mul sn_mul de_int (de_var 6))) de_int) de_int) (dg_name 8 sc__law_draws.nd))
  (dss_one (ds_expr (de_mt 5 PySem.F.plainAttrs_list PySem.F.slot_list_append PySem.F.type_list_append mt_append sm_append (da_cons (de_op op_mod sn_mod (de_op op_fdiv sn_fdiv (de_var 8) de_int) (de_var 3)) da_nil)))))))
  (dss_one (ds_ret (de_move 5))))))))
theorem ok__law_row (T : Txt P K mg a) : FnOk P w K mg base (L2.CX P w) 3 a.f__law_row a.d__law_row ["script", "k", "letters", "length", "names"] (spD K mg 5 D__law_row) :=
  fnD T.F__law_row sc__law_row (by decide) fun cdv A outer s H E L hr tk po =>
  (dss_cons (ds_asg (de_call (ok__law_draws T) (hr.mono (by first | decide | omega)) T.m__law_draws T.F__law_draws.kp T.bi__law_draws tk (dg_v (de_var 0) (dg_v (de_var 1) (dg_v (de_op op_mul sn_mul de_int (de_var 3)) (dg_v de_int dg_nil)))) (fun _ _ _ h => len_agV ((fun _ _ _ h => len_agV ((fun _ _ _ h => len_agV ((fun _ _ _ h => len_agV (fun _ _ _ h => len_agNil h) h)) h)) h)) h)) (dg_name 5 sc__law_row.nd))
  (dss_one (ds_ret (de_callTy call_tuple_of sn_tup T.b_tuple (by rfl) (da_cons (de_lc (own := [("j", 6)]) rfl sc__law_row.nd (di_range1 T.b_range (da_cons (de_var 3) da_nil)) (blkOk_by (own := [("j", 6)]) (N := N__law_row) (sc := defScope s__law_row) (by decide +kernel)) (fun _ _ _ _ _ => (dg_name 6 sc__law_row.nd)) (fun _ _ _ _ _ => dts_nil) (fun _ _ _ _ _ => (de_tup (da_cons (de_ix (u64 hr) de_str (de_op op_mod sn_mod (de_ixS 5 (u64 hr) (de_op op_mul sn_mul de_int (de_var 6))) (de_var 2))) (da_cons (de_op op_mod sn_mod (de_ixS 5 (u64 hr) (de_op op_addA sn_addA (de_op op_mul sn_mul de_int (de_var 6)) de_int)) (de_var 4)) da_nil))))) da_nil)))))
theorem ok__law_rows (T : Txt P K mg a) : FnOk P w K mg base (L2.CX P w) 1 a.f__law_rows a.d__law_rows ["letters", "length"] (spD K mg 2 D__law_rows) :=
  fnD T.F__law_rows sc__law_rows (by decide) fun cdv A outer s H E L hr tk po =>
  (dss_cons (ds_asg (de_lst (da_cons (de_tup da_nil) da_nil)) (dg_name 2 sc__law_rows.nd))
  (dss_cons (ds_asg de_int (dg_name 3 sc__law_rows.nd))
  (dss_cons (ds_while fuel po (dt_cmp op_lt sn_lt (de_var 3) (de_lenS 2 T.b_len) (nomark _))
  (dss_cons (ds_asg (de_ixS 2 (u64 hr) (de_var 3)) (dg_name 4 sc__law_rows.nd))
  (dss_cons (ds_if (dt_cmp op_lt sn_lt (de_lenS 4 T.b_len) (de_var 1) (nomark _))
  (dss_cons (ds_asg (de_callB cr_lenA sn_len T.b_len (by rfl) (da_cons (de_callTy (call_dictP rfl) sn_dict T.b_dict (by rfl) (da_cons (de_lc (own := [("letter", 6), ("name", 7)]) rfl sc__law_rows.nd (di_val (de_var 4)) (blkOk_by (own := [("letter", 6), ("name", 7)]) (N := N__law_rows) (sc := defScope s__law_rows) (by decide +kernel)) (fun _ _ _ _ _ => (dg_tup rfl (dgs_cons (dg_name 6 sc__law_rows.nd) (dgs_cons (dg_name 7 sc__law_rows.nd) dgs_nil)) (hl := (fun _ _ _ h => gsN_cons ((fun _ _ _ h => gsN_cons (fun _ _ _ h => gsN_nil h) h)) h)))) (fun _ _ _ _ _ => dts_nil) (fun _ _ _ _ _ => (de_tup (da_cons (de_var 7) (da_cons de_int da_nil))))) da_nil)) da_nil)) (dg_name 5 sc__law_rows.nd))
  (dss_one (ds_for po rfl (di_val (de_sl de_str do_no (do_some (de_var 0)))) (dg_name 6 sc__law_rows.nd)
  (dss_one (ds_asg (de_op op_addA sn_addA (de_var 2) (de_lc (own := [("name", 7)]) rfl sc__law_rows.nd (di_range1 T.b_range (da_cons (de_op op_addA sn_addA (de_var 5) de_int) da_nil)) (blkOk_by (own := [("name", 7)]) (N := N__law_rows) (sc := defScope s__law_rows) (by decide +kernel)) (fun _ _ _ _ _ => (dg_name 7 sc__law_rows.nd)) (fun _ _ _ _ _ => dts_nil) (fun _ _ _ _ _ => (de_op op_addA sn_addA (de_var 4) (de_tup (da_cons (de_tup (da_cons (de_var 6) (da_cons (de_var 7) da_nil))) da_nil)))))) (dg_name 2 sc__law_rows.nd))))))
  dss_nil)
  (dss_one (ds_asg (de_op op_addA sn_addA (de_var 3) de_int) (dg_name 3 sc__law_rows.nd))))))
  (dss_one (ds_ret (de_move 2))))))
theorem ok__law_plain (T : Txt P K mg a) : FnOk P w K mg base (L2.CX P w) 1 a.f__law_plain a.d__law_plain ["row"] (spD K mg 1 D__law_plain) :=
  fnD T.F__law_plain sc__law_plain (by decide) fun cdv A outer s H E L hr tk po =>
  (dss_cons (ds_asg (de_lst da_nil) (dg_name 1 sc__law_plain.nd))
  (dss_cons (ds_for po rfl (di_val (de_var 0)) (dg_tup rfl (dgs_cons (dg_name 2 sc__law_plain.nd) (dgs_cons (dg_name 3 sc__law_plain.nd) dgs_nil)) (hl := (fun _ _ _ h => gsN_cons ((fun _ _ _ h => gsN_cons (fun _ _ _ h => gsN_nil h) h)) h)))
  (dss_one (ds_if (dt_cmpS 1 (op_notInA (u64 hr)) snp_at2 (de_var 3) (by rfl))
  (dss_one (ds_expr (de_mt 1 PySem.F.plainAttrs_list PySem.F.slot_list_append PySem.F.type_list_append mt_append sm_append (da_cons (de_var 3) da_nil))))
  dss_nil)))
  (dss_one (ds_ret (de_callTy call_tuple_of sn_tup T.b_tuple (by rfl) (da_cons (de_lc (own := [("letter", 2), ("name", 3)]) rfl sc__law_plain.nd (di_val (de_var 0)) (blkOk_by (own := [("letter", 2), ("name", 3)]) (N := N__law_plain) (sc := defScope s__law_plain) (by decide +kernel)) (fun _ _ _ _ _ => (dg_tup rfl (dgs_cons (dg_name 2 sc__law_plain.nd) (dgs_cons (dg_name 3 sc__law_plain.nd) dgs_nil)) (hl := (fun _ _ _ h => gsN_cons ((fun _ _ _ h => gsN_cons (fun _ _ _ h => gsN_nil h) h)) h)))) (fun _ _ _ _ _ => dts_nil) (fun _ _ _ _ _ => (de_tup (da_cons (de_var 2) (da_cons (de_mt 1 PySem.F.plainAttrs_list PySem.F.slot_list_index PySem.F.type_list_index (mt_indexP (u65 hr)) sm_index (da_cons (de_var 3) da_nil)) da_nil))))) da_nil))))))
theorem ok__law_same (T : Txt P K mg a) : ∀ n : Nat, FnOk P w K mg base (L2.CX P w) (n + 0) a.f__law_same a.d__law_same ["told", "due"] (spD K mg 2 (D__law_same n))
  | 0 => fn_no
  | n + 1 => by
    have ih := ok__law_same T n
    rw [show n + 1 + 0 = n + 0 + 1 from by omega]
    exact fnD T.F__law_same sc__law_same (by decide) fun cdv A outer s H E L hr tk po =>
  (dss_cons (ds_if (PW.pt (dw_or (dt_truth (de_isi T.b_isinstance T.b_bool (by rfl) (de_var 1))) (dw_or1 (dt_truth (de_isi T.b_isinstance T.b_bool (by rfl) (de_var 0))))))
  (dss_one (ds_ret (de_and (de_isi T.b_isinstance T.b_bool (by rfl) (de_var 1)) (de_and (de_isi T.b_isinstance T.b_bool (by rfl) (de_var 0)) (de_one (de_cmpS 1 (op_eqA (u64 hr)) snp_at2 (de_var 0) (nomark _)))))))
  dss_nil)
  (dss_cons (ds_if (PW.pt (dw_or (dt_cmp op_isA sn_is (de_var 1) de_non (nomark _)) (dw_or1 (dt_truth (de_isi T.b_isinstance T.b_int (by rfl) (de_var 1))))))
  (dss_one (ds_ret (de_and (de_cmpS 1 (op_eqA (u64 hr)) snp_at2 (de_var 0) (nomark _)) (de_one (de_or (de_cmp op_isA sn_is (de_var 1) de_non (nomark _)) (de_one (de_isi T.b_isinstance T.b_int (by rfl) (de_var 0))))))))
  dss_nil)
  (dss_cons (ds_if (dt_truth (de_isi T.b_isinstance T.b_str (by rfl) (de_var 1)))
  (dss_one (ds_ret (de_and (de_isi T.b_isinstance T.b_str (by rfl) (de_var 0)) (de_one (de_cmpS 1 (op_eqA (u64 hr)) snp_at2 (de_var 0) (nomark _))))))
  dss_nil)
  (dss_cons (ds_if (PW.pt (dw_or (dt_cmp (op_neA (u64 hr)) sn_at2 (de_isi T.b_isinstance T.b_list (by rfl) (de_var 1)) (de_isi T.b_isinstance T.b_list (by rfl) (de_var 0)) (nomark _)) (dw_or1 (dt_cmp (op_neA (u64 hr)) sn_at2 (de_isi T.b_isinstance T.b_tuple (by rfl) (de_var 1)) (de_isi T.b_isinstance T.b_tuple (by rfl) (de_var 0)) (nomark _)))))
  (dss_one (ds_ret de_bl))
  dss_nil)
  (dss_cons (ds_if (dt_cmp (op_neA (u64 hr)) sn_at2 (de_lenS 0 T.b_len) (de_lenS 1 T.b_len) (nomark _))
  (dss_one (ds_ret de_bl))
  dss_nil)
  (dss_cons (ds_for po rfl (di_range1 T.b_range (da_cons (de_lenS 1 T.b_len) da_nil)) (dg_name 2 sc__law_same.nd)
  (dss_one (ds_if (dt_not (dt_truth (de_call ih (hr.mono (by omega)) T.m__law_same T.F__law_same.kp T.bi__law_same tk (dg_v (de_ixS 0 (u64 hr) (de_var 2)) (dg_v (de_ixS 1 (u64 hr) (de_var 2)) dg_nil)) (fun _ _ _ h => len_agV ((fun _ _ _ h => len_agV (fun _ _ _ h => len_agNil h) h)) h))))
  (dss_one (ds_ret de_bl))
  dss_nil)))
  (dss_one (ds_ret de_bl))))))))
theorem ok_names_of (T : Txt P K mg a) : FnOk P w K mg base (L2.CX P w) 1 a.f_names_of a.d_names_of ["row"] (spD K mg 1 D_names_of) :=
  fnD T.F_names_of sc_names_of (by decide) fun cdv A outer s H E L hr tk po =>
  (dss_cons (ds_asg de_dnew (dg_name 1 sc_names_of.nd))
  (dss_cons (ds_for po rfl (di_val (de_var 0)) (dg_tup rfl (dgs_cons (dg_name 2 sc_names_of.nd) (dgs_cons (dg_name 3 sc_names_of.nd) dgs_nil)) (hl := (fun _ _ _ h => gsN_cons ((fun _ _ _ h => gsN_cons (fun _ _ _ h => gsN_nil h) h)) h)))
  (dss_one (ds_sub 1 (u1 hr) de_bl (de_var 3))))
  (dss_one (ds_ret (de_callTy (cr_lstA rfl) sn_lst T.b_list (by rfl) (da_cons (de_var 1) da_nil))))))
theorem ok_renamed (T : Txt P K mg a) : FnOk P w K mg base (L2.CX P w) 2 a.f_renamed a.d_renamed ["row", "names"] (spD K mg 2 D_renamed) :=
  fnD T.F_renamed sc_renamed (by decide) fun cdv A outer s H E L hr tk po =>
  (dss_cons (ds_asg (de_call (ok_names_of T) (hr.mono (by first | decide | omega)) T.m_names_of T.F_names_of.kp T.bi_names_of tk (dg_v (de_var 0) dg_nil) (fun _ _ _ h => len_agV (fun _ _ _ h => len_agNil h) h)) (dg_name 2 sc_renamed.nd))
  (dss_cons (ds_asg (de_dc (own := [("j", 4)]) rfl sc_renamed.nd (di_range1 T.b_range (da_cons (de_lenS 2 T.b_len) da_nil)) (blkOk_by (own := [("j", 4)]) (N := N_renamed) (sc := defScope s_renamed) (by decide +kernel)) (fun _ _ _ _ _ => (dg_name 4 sc_renamed.nd)) (fun _ _ _ _ _ => dts_nil) (fun _ _ _ _ _ => (de_ixS 2 (u64 hr) (de_var 4))) (fun _ _ _ _ _ => (de_ixS 1 (u64 hr) (de_var 4)))) (dg_name 3 sc_renamed.nd))
  (dss_one (ds_ret (de_callTy call_tuple_of sn_tup T.b_tuple (by rfl) (da_cons (de_lc (own := [("letter", 5), ("name", 6)]) rfl sc_renamed.nd (di_val (de_var 0)) (blkOk_by (own := [("letter", 5), ("name", 6)]) (N := N_renamed) (sc := defScope s_renamed) (by decide +kernel)) (fun _ _ _ _ _ => (dg_tup rfl (dgs_cons (dg_name 5 sc_renamed.nd) (dgs_cons (dg_name 6 sc_renamed.nd) dgs_nil)) (hl := (fun _ _ _ h => gsN_cons ((fun _ _ _ h => gsN_cons (fun _ _ _ h => gsN_nil h) h)) h)))) (fun _ _ _ _ _ => dts_nil) (fun _ _ _ _ _ => (de_tup (da_cons (de_var 5) (da_cons (de_ixS 3 (u64 hr) (de_var 6)) da_nil))))) da_nil))))))
theorem ok_plain_row (T : Txt P K mg a) : FnOk P w K mg base (L2.CX P w) 1 a.f_plain_row a.d_plain_row ["row"] (spD K mg 1 D_plain_row) :=
  fnD T.F_plain_row sc_plain_row (by decide) fun cdv A outer s H E L hr tk po =>
  (dss_cons (ds_asg de_dnew (dg_name 1 sc_plain_row.nd))
  (dss_cons (ds_asg (de_lst da_nil) (dg_name 2 sc_plain_row.nd))
  (dss_cons (ds_for po rfl (di_val (de_var 0)) (dg_tup rfl (dgs_cons (dg_name 3 sc_plain_row.nd) (dgs_cons (dg_name 4 sc_plain_row.nd) dgs_nil)) (hl := (fun _ _ _ h => gsN_cons ((fun _ _ _ h => gsN_cons (fun _ _ _ h => gsN_nil h) h)) h)))
  (dss_one (ds_expr (de_mt 2 PySem.F.plainAttrs_list PySem.F.slot_list_append PySem.F.type_list_append mt_append sm_append (da_cons (de_tup (da_cons (de_var 3) (da_cons (de_mt 1 PySem.F.plainAttrs_dict PySem.F.slot_dict_setdefault PySem.F.type_dict_setdefault mt_setd sm_setd (da_cons (de_var 4) (da_cons (de_lenS 1 T.b_len) da_nil))) da_nil))) da_nil)))))
  (dss_one (ds_ret (de_callTy call_tuple_of sn_tup T.b_tuple (by rfl) (da_cons (de_var 2) da_nil)))))))
theorem ok_are_alike (T : Txt P K mg a) : FnOk P w K mg base (L2.CX P w) 2 a.f_are_alike a.d_are_alike ["first", "second"] (spD K mg 2 D_are_alike) :=
  fnD T.F_are_alike sc_are_alike (by decide) fun cdv A outer s H E L hr tk po =>
  (dss_one (ds_ret (de_cmp (op_eqA (u64 hr)) sn_at2 (de_call (ok_plain_row T) (hr.mono (by first | decide | omega)) T.m_plain_row T.F_plain_row.kp T.bi_plain_row tk (dg_v (de_var 0) dg_nil) (fun _ _ _ h => len_agV (fun _ _ _ h => len_agNil h) h)) (de_call (ok_plain_row T) (hr.mono (by first | decide | omega)) T.m_plain_row T.F_plain_row.kp T.bi_plain_row tk (dg_v (de_var 1) dg_nil) (fun _ _ _ h => len_agV (fun _ _ _ h => len_agNil h) h)) (nomark _))))
theorem ok_is_plain (T : Txt P K mg a) : FnOk P w K mg base (L2.CX P w) 2 a.f_is_plain a.d_is_plain ["row"] (spD K mg 1 D_is_plain) :=
  fnD T.F_is_plain sc_is_plain (by decide) fun cdv A outer s H E L hr tk po =>
  (dss_one (ds_ret (de_cmp (op_eqA (u64 hr)) sn_at2 (de_call (ok_plain_row T) (hr.mono (by first | decide | omega)) T.m_plain_row T.F_plain_row.kp T.bi_plain_row tk (dg_v (de_var 0) dg_nil) (fun _ _ _ h => len_agV (fun _ _ _ h => len_agNil h) h)) (de_callTy call_tuple_of sn_tup T.b_tuple (by rfl) (da_cons (de_var 0) da_nil)) (nomark _))))
theorem ok_letters_of (T : Txt P K mg a) : FnOk P w K mg base (L2.CX P w) 1 a.f_letters_of a.d_letters_of ["row"] (spD K mg 1 D_letters_of) :=
  fnD T.F_letters_of sc_letters_of (by decide) fun cdv A outer s H E L hr tk po =>
  (dss_one (ds_ret (de_mv PySem.F.plainAttrs_str PySem.F.slot_str_join PySem.F.type_str_join mt_join sm_join de_str (da_cons (de_lc (own := [("letter", 1), ("name", 2)]) rfl sc_letters_of.nd (di_val (de_var 0)) (blkOk_by (own := [("letter", 1), ("name", 2)]) (N := N_letters_of) (sc := defScope s_letters_of) (by decide +kernel)) (fun _ _ _ _ _ => (dg_tup rfl (dgs_cons (dg_name 1 sc_letters_of.nd) (dgs_cons (dg_name 2 sc_letters_of.nd) dgs_nil)) (hl := (fun _ _ _ h => gsN_cons ((fun _ _ _ h => gsN_cons (fun _ _ _ h => gsN_nil h) h)) h)))) (fun _ _ _ _ _ => dts_nil) (fun _ _ _ _ _ => (de_var 1))) da_nil))))
theorem ok_row_text (T : Txt P K mg a) : FnOk P w K mg base (L2.CX P w) 1 a.f_row_text a.d_row_text ["row"] (spD K mg 1 D_row_text) :=
  fnD T.F_row_text sc_row_text (by decide) fun cdv A outer s H E L hr tk po =>
  (dss_one (ds_ret (de_mv PySem.F.plainAttrs_str PySem.F.slot_str_join PySem.F.type_str_join mt_join sm_join de_str (da_cons (de_lc (own := [("letter", 1), ("name", 2)]) rfl sc_row_text.nd (di_val (de_var 0)) (blkOk_by (own := [("letter", 1), ("name", 2)]) (N := N_row_text) (sc := defScope s_row_text) (by decide +kernel)) (fun _ _ _ _ _ => (dg_tup rfl (dgs_cons (dg_name 1 sc_row_text.nd) (dgs_cons (dg_name 2 sc_row_text.nd) dgs_nil)) (hl := (fun _ _ _ h => gsN_cons ((fun _ _ _ h => gsN_cons (fun _ _ _ h => gsN_nil h) h)) h)))) (fun _ _ _ _ _ => dts_nil) (fun _ _ _ _ _ => (de_op op_addA sn_addA (de_var 1) (de_callTy call_str_int sn_str T.b_str (by rfl) (da_cons (de_var 2) da_nil))))) da_nil))))
theorem ok_read_step (T : Txt P K mg a) : FnOk P w K mg base (L2.CX P w) 1 a.f_read_step a.d_read_step ["k", "word"] (spD K mg 2 D_read_step) :=
  fnD T.F_read_step sc_read_step (by decide) fun cdv A outer s H E L hr tk po =>
  (dss_cons (ds_if (PW.pt (dw_or (dt_cmp (op_eqA (u64 hr)) sn_at2 (de_sl (de_var 1) do_no (do_some de_int)) de_str (nomark _)) (dw_or1 (dt_cmp (op_notInA (u64 hr)) sn_at2 (de_ixS 1 (u64 hr) de_int) (de_sl (de_gstr T.c_LETTERS) do_no (do_some (de_var 0))) (by rfl)))))
  (dss_one (ds_ret de_non))
  dss_nil)
  (dss_cons (ds_asg (de_sl (de_var 1) (do_some de_int) do_no) (dg_name 2 sc_read_step.nd))
  (dss_cons (ds_if (PW.pt (dw_or (dt_cmp (op_eqA (u64 hr)) sn_at2 (de_var 2) de_str (nomark _)) (dw_or (dt_cmp op_gt sn_gt (de_lenS 2 T.b_len) (de_gint T.c_MOST_FIGURES) (nomark _)) (dw_or1 (dt_cmp op_gt sn_gt (de_callB cr_lenA sn_len T.b_len (by rfl) (da_cons (de_lc (own := [("sign", 3)]) rfl sc_read_step.nd (di_val (de_var 2)) (blkOk_by (own := [("sign", 3)]) (N := N_read_step) (sc := defScope s_read_step) (by decide +kernel)) (fun _ _ _ _ _ => (dg_name 3 sc_read_step.nd)) (fun _ _ _ _ _ => (dts_one (dt_cmp (op_notInA (u64 hr)) sn_at2 (de_var 3) (de_gstr T.c_FIGURES) (by rfl)))) (fun _ _ _ _ _ => (de_var 3))) da_nil)) de_int (nomark _))))))
  (dss_one (ds_ret de_non))
  dss_nil)
  (dss_cons (ds_if (PW.pt (dw_and (dt_cmp (op_eqA (u64 hr)) sn_at2 (de_ixS 2 (u64 hr) de_int) de_str (nomark _)) (dw_and1 (dt_cmp (op_neA (u64 hr)) sn_at2 (de_var 2) de_str (nomark _)))))
  (dss_one (ds_ret de_non))
  dss_nil)
  (dss_one (ds_ret (de_tup (da_cons (de_ixS 1 (u64 hr) de_int) (da_cons (de_callTy call_int_str sn_int T.b_int (by rfl) (da_cons (de_var 2) da_nil)) da_nil)))))))))
theorem ok_read_row (T : Txt P K mg a) : FnOk P w K mg base (L2.CX P w) 2 a.f_read_row a.d_read_row ["k", "text"] (spD K mg 2 D_read_row) :=
  fnD T.F_read_row sc_read_row (by decide) fun cdv A outer s H E L hr tk po =>
  (dss_cons (ds_if (dt_cmp (op_eqA (u64 hr)) sn_at2 (de_var 1) de_str (nomark _))
  (dss_one (ds_ret (de_tup da_nil)))
  dss_nil)
  (dss_cons (ds_asg (de_lst da_nil) (dg_name 2 sc_read_row.nd))
  (dss_cons (ds_asg (de_mt 1 PySem.F.plainAttrs_str PySem.F.slot_str_split PySem.F.type_str_split mt_split sm_split (da_cons de_str da_nil)) (dg_name 3 sc_read_row.nd))
  (dss_cons (ds_for po rfl (di_range1 T.b_range (da_cons (de_lenS 3 T.b_len) da_nil)) (dg_name 4 sc_read_row.nd)
  (dss_cons (ds_asg (de_call (ok_read_step T) (hr.mono (by first | decide | omega)) T.m_read_step T.F_read_step.kp T.bi_read_step tk (dg_v (de_var 0) (dg_v (de_ixS 3 (u64 hr) (de_var 4)) dg_nil)) (fun _ _ _ h => len_agV ((fun _ _ _ h => len_agV (fun _ _ _ h => len_agNil h) h)) h)) (dg_name 5 sc_read_row.nd))
  (dss_cons (ds_if (dt_cmp op_isA sn_is (de_var 5) de_non (nomark _))
  (dss_one (ds_raise (k := 0) T.s_BadStep rfl tk (hr.mono (by first | decide | omega)) T.k_BadStep (de_var 4)))
  dss_nil)
  (dss_one (ds_expr (de_mt 2 PySem.F.plainAttrs_list PySem.F.slot_list_append PySem.F.type_list_append mt_append sm_append (da_cons (de_var 5) da_nil)))))))
  (dss_one (ds_ret (de_callTy call_tuple_of sn_tup T.b_tuple (by rfl) (da_cons (de_var 2) da_nil))))))))
theorem ok_read_line (T : Txt P K mg a) : FnOk P w K mg base (L2.CX P w) 2 a.f_read_line a.d_read_line ["k", "line", "index"] (spD K mg 3 D_read_line) :=
  fnD T.F_read_line sc_read_line (by decide) fun cdv A outer s H E L hr tk po =>
  (dss_cons (ds_setLc (i := 3) (own := [("word", 4)]) rfl sc_read_line.nd (sw_true rfl rfl rfl (by decide +kernel)) (di_val (de_mt 1 PySem.F.plainAttrs_str PySem.F.slot_str_split PySem.F.type_str_split mt_split sm_split (da_cons de_str da_nil))) (blkOk_by (own := [("word", 4)]) (N := N_read_line) (sc := defScope s_read_line) (by decide +kernel)) (fun _ _ _ _ _ => (dg_name 4 sc_read_line.nd)) (fun _ _ _ _ _ => dts_nil) (fun _ _ _ _ _ => (de_call (ok_read_step T) (hr.mono (by first | decide | omega)) T.m_read_step T.F_read_step.kp T.bi_read_step takes_no (dg_v (de_var 0) (dg_v (de_var 4) dg_nil)) (fun _ _ _ h => len_agV ((fun _ _ _ h => len_agV (fun _ _ _ h => len_agNil h) h)) h))))
  (dss_cons (ds_if (dt_cmpS 3 (op_inA (u64 hr)) snp_at2 de_non (by rfl))
  (dss_one (ds_raise (k := 0) T.s_BadLine rfl tk (hr.mono (by first | decide | omega)) T.k_BadLine (de_var 2)))
  dss_nil)
  (dss_one (ds_ret (de_callTy call_tuple_of sn_tup T.b_tuple (by rfl) (da_cons (de_var 3) da_nil))))))
theorem ok_read_rows (T : Txt P K mg a) : FnOk P w K mg base (L2.CX P w) 3 a.f_read_rows a.d_read_rows ["k", "text"] (spD K mg 2 D_read_rows) :=
  fnD T.F_read_rows sc_read_rows (by decide) fun cdv A outer s H E L hr tk po =>
  (dss_cons (ds_if (dt_cmp (op_eqA (u64 hr)) sn_at2 (de_var 1) de_str (nomark _))
  (dss_one (ds_ret (de_lst da_nil)))
  dss_nil)
  (dss_cons (ds_asg (de_lst da_nil) (dg_name 2 sc_read_rows.nd))
  (dss_cons (ds_asg (de_mt 1 PySem.F.plainAttrs_str PySem.F.slot_str_split PySem.F.type_str_split mt_split sm_split (da_cons de_str da_nil)) (dg_name 3 sc_read_rows.nd))
  (dss_cons (ds_for po rfl (di_range1 T.b_range (da_cons (de_lenS 3 T.b_len) da_nil)) (dg_name 4 sc_read_rows.nd)
  (dss_cons (ds_if (dt_cmp (op_eqA (u64 hr)) sn_at2 (de_ixS 3 (u64 hr) (de_var 4)) de_str (nomark _))
  (dss_one (ds_raise (k := 0) T.s_BadLine rfl tk (hr.mono (by first | decide | omega)) T.k_BadLine (de_var 4)))
  dss_nil)
  (dss_one (ds_if (dt_cmp (op_eqA (u64 hr)) sn_at2 (de_ixS 3 (u64 hr) (de_var 4)) de_str (nomark _))
  (dss_one (ds_expr (de_mt 2 PySem.F.plainAttrs_list PySem.F.slot_list_append PySem.F.type_list_append mt_append sm_append (da_cons (de_tup da_nil) da_nil))))
  (dss_one (ds_expr (de_mt 2 PySem.F.plainAttrs_list PySem.F.slot_list_append PySem.F.type_list_append mt_append sm_append (da_cons (de_call (ok_read_line T) (hr.mono (by first | decide | omega)) T.m_read_line T.F_read_line.kp T.bi_read_line tk (dg_v (de_var 0) (dg_v (de_ixS 3 (u64 hr) (de_var 4)) (dg_v (de_var 4) dg_nil))) (fun _ _ _ h => len_agV ((fun _ _ _ h => len_agV ((fun _ _ _ h => len_agV (fun _ _ _ h => len_agNil h) h)) h)) h)) da_nil))))))))
  (dss_one (ds_ret (de_move 2)))))))
theorem ok__law_told (T : Txt P K mg a) : FnOk P w K mg base (L2.CX P w) 4 a.f__law_told a.d__law_told ["which", "letters", "text"] (spD K mg 3 D__law_told) :=
  fnD T.F__law_told sc__law_told (by decide) fun cdv A outer s H E L hr tk po =>
  (dss_one (ds_tryAs 3 rfl rfl sc__law_told.nd ⟨rfl, by decide, .inl T.k_RowError⟩ tk T.hit_RowError
  (fun L pn xe tk po => (dss_one (ds_ret (de_if (dt_cmp (op_eqA (u64 hr)) sn_at2 (de_var 0) de_int (nomark _)) (de_call (ok_read_row T) (hr.mono (by first | decide | omega)) T.m_read_row T.F_read_row.kp T.bi_read_row tk (dg_v (de_var 1) (dg_v (de_var 2) dg_nil)) (fun _ _ _ h => len_agV ((fun _ _ _ h => len_agV (fun _ _ _ h => len_agNil h) h)) h)) (de_call (ok_read_rows T) (hr.mono (by first | decide | omega)) T.m_read_rows T.F_read_rows.kp T.bi_read_rows tk (dg_v (de_var 1) (dg_v (de_var 2) dg_nil)) (fun _ _ _ h => len_agV ((fun _ _ _ h => len_agV (fun _ _ _ h => len_agNil h) h)) h))))))
  (fun L a oe cls d pn y hz hfd ex hl => (dss_cons (ds_if (dt_truth (de_xis 3 hz hfd ex hl T.b_isinstance T.k_BadStep (T.isx_BadStep)))
  (dss_one (ds_ret (de_lst (da_cons de_int (da_cons (de_xf 3 hz hfd ex hl T.xf_index) da_nil)))))
  dss_nil)
  (dss_one (ds_ret (de_lst (da_cons de_int (da_cons (de_and (de_xis 3 hz hfd ex hl T.b_isinstance T.k_BadLine (T.isx_BadLine)) (de_one (de_xf 3 hz hfd ex hl T.xf_line))) da_nil)))))))))
theorem ok_part_of (T : Txt P K mg a) : FnOk P w K mg base (L2.CX P w) 1 a.f_part_of a.d_part_of ["row", "name"] (spD K mg 2 D_part_of) :=
  fnD T.F_part_of sc_part_of (by decide) fun cdv A outer s H E L hr tk po =>
  (dss_one (ds_ret (de_mv PySem.F.plainAttrs_str PySem.F.slot_str_join PySem.F.type_str_join mt_join sm_join de_str (da_cons (de_lc (own := [("letter", 2), ("other", 3)]) rfl sc_part_of.nd (di_val (de_var 0)) (blkOk_by (own := [("letter", 2), ("other", 3)]) (N := N_part_of) (sc := defScope s_part_of) (by decide +kernel)) (fun _ _ _ _ _ => (dg_tup rfl (dgs_cons (dg_name 2 sc_part_of.nd) (dgs_cons (dg_name 3 sc_part_of.nd) dgs_nil)) (hl := (fun _ _ _ h => gsN_cons ((fun _ _ _ h => gsN_cons (fun _ _ _ h => gsN_nil h) h)) h)))) (fun _ _ _ _ _ => (dts_one (dt_cmpS 1 (op_eqA (u64 hr)) snp_at2 (de_var 3) (nomark _)))) (fun _ _ _ _ _ => (de_var 2))) da_nil))))
theorem ok__law_judged (T : Txt P K mg a) : FnOk P w K mg base (L2.CX P w) 10 a.f__law_judged a.d__law_judged ["letters", "row", "other"] (spD K mg 3 D__law_judged) :=
  fnD T.F__law_judged sc__law_judged (by decide) fun cdv A outer s H E L hr tk po =>
  (dss_cons (ds_asg (de_lst da_nil) (dg_name 3 sc__law_judged.nd))
  (dss_cons (ds_for po rfl (di_val (de_var 1)) (dg_tup rfl (dgs_cons (dg_name 4 sc__law_judged.nd) (dgs_cons (dg_name 5 sc__law_judged.nd) dgs_nil)) (hl := (fun _ _ _ h => gsN_cons ((fun _ _ _ h => gsN_cons (fun _ _ _ h => gsN_nil h) h)) h)))
  (dss_one (ds_if (dt_cmpS 3 (op_notInA (u64 hr)) snp_at2 (de_var 5) (by rfl))
  (dss_one (ds_expr (de_mt 3 PySem.F.plainAttrs_list PySem.F.slot_list_append PySem.F.type_list_append mt_append sm_append (da_cons (de_var 5) da_nil))))
  dss_nil)))
  (dss_cons (ds_asg (de_call (ok__law_plain T) (hr.mono (by first | decide | omega)) T.m__law_plain T.F__law_plain.kp T.bi__law_plain tk (dg_v (de_var 1) dg_nil) (fun _ _ _ h => len_agV (fun _ _ _ h => len_agNil h) h)) (dg_name 6 sc__law_judged.nd))
  (dss_cons (ds_if (PW.pt (dw_or (dt_not (dt_truth (de_call (ok__law_same T 9) (hr.mono (by first | decide | omega)) T.m__law_same T.F__law_same.kp T.bi__law_same tk (dg_v (de_call (ok_names_of T) (hr.mono (by first | decide | omega)) T.m_names_of T.F_names_of.kp T.bi_names_of tk (dg_v (de_var 1) dg_nil) (fun _ _ _ h => len_agV (fun _ _ _ h => len_agNil h) h)) (dg_v (de_var 3) dg_nil)) (fun _ _ _ h => len_agV ((fun _ _ _ h => len_agV (fun _ _ _ h => len_agNil h) h)) h)))) (dw_or (dt_not (dt_truth (de_call (ok__law_same T 9) (hr.mono (by first | decide | omega)) T.m__law_same T.F__law_same.kp T.bi__law_same tk (dg_v (de_call (ok_plain_row T) (hr.mono (by first | decide | omega)) T.m_plain_row T.F_plain_row.kp T.bi_plain_row tk (dg_v (de_var 1) dg_nil) (fun _ _ _ h => len_agV (fun _ _ _ h => len_agNil h) h)) (dg_v (de_var 6) dg_nil)) (fun _ _ _ h => len_agV ((fun _ _ _ h => len_agV (fun _ _ _ h => len_agNil h) h)) h)))) (dw_or1 (dt_not (dt_truth (de_call (ok__law_same T 9) (hr.mono (by first | decide | omega)) T.m__law_same T.F__law_same.kp T.bi__law_same tk (dg_v (de_call (ok_is_plain T) (hr.mono (by first | decide | omega)) T.m_is_plain T.F_is_plain.kp T.bi_is_plain tk (dg_v (de_var 1) dg_nil) (fun _ _ _ h => len_agV (fun _ _ _ h => len_agNil h) h)) (dg_v (de_cmpS 6 (op_eqA (u64 hr)) snp_at2 (de_var 1) (nomark _)) dg_nil)) (fun _ _ _ h => len_agV ((fun _ _ _ h => len_agV (fun _ _ _ h => len_agNil h) h)) h))))))))
  (dss_one (ds_ret de_bl))
  dss_nil)
  (dss_cons (ds_if (PW.pt (dw_or (dt_not (dt_truth (de_call (ok__law_same T 9) (hr.mono (by first | decide | omega)) T.m__law_same T.F__law_same.kp T.bi__law_same tk (dg_v (de_call (ok_are_alike T) (hr.mono (by first | decide | omega)) T.m_are_alike T.F_are_alike.kp T.bi_are_alike tk (dg_v (de_var 1) (dg_v (de_var 2) dg_nil)) (fun _ _ _ h => len_agV ((fun _ _ _ h => len_agV (fun _ _ _ h => len_agNil h) h)) h)) (dg_v (de_cmp (op_eqA (u64 hr)) sn_at2 (de_var 6) (de_call (ok__law_plain T) (hr.mono (by first | decide | omega)) T.m__law_plain T.F__law_plain.kp T.bi__law_plain tk (dg_v (de_var 2) dg_nil) (fun _ _ _ h => len_agV (fun _ _ _ h => len_agNil h) h)) (nomark _)) dg_nil)) (fun _ _ _ h => len_agV ((fun _ _ _ h => len_agV (fun _ _ _ h => len_agNil h) h)) h)))) (dw_or1 (dt_cmp op_isNotA sn_isNot (de_call (ok_are_alike T) (hr.mono (by first | decide | omega)) T.m_are_alike T.F_are_alike.kp T.bi_are_alike tk (dg_v (de_var 1) (dg_v (de_var 6) dg_nil)) (fun _ _ _ h => len_agV ((fun _ _ _ h => len_agV (fun _ _ _ h => len_agNil h) h)) h)) de_bl (nomark _)))))
  (dss_one (ds_ret de_bl))
  dss_nil)
  (dss_cons (ds_asg (de_lc (own := [("name", 5)]) rfl sc__law_judged.nd (di_range1 T.b_range (da_cons (de_lenS 3 T.b_len) da_nil)) (blkOk_by (own := [("name", 5)]) (N := N__law_judged) (sc := defScope s__law_judged) (by decide +kernel)) (fun _ _ _ _ _ => (dg_name 5 sc__law_judged.nd)) (fun _ _ _ _ _ => dts_nil) (fun _ _ _ _ _ => (de_op op_addA sn_addA (de_op op_addA sn_addA (de_var 5) de_int) (de_op op_mul sn_mul de_int (de_var 5))))) (dg_name 7 sc__law_judged.nd))
  (dss_cons (ds_asg (de_call (ok_renamed T) (hr.mono (by first | decide | omega)) T.m_renamed T.F_renamed.kp T.bi_renamed tk (dg_v (de_var 1) (dg_v (de_callTy (cr_lstA rfl) sn_lst T.b_list (by rfl) (da_cons (de_var 7) da_nil)) dg_nil)) (fun _ _ _ h => len_agV ((fun _ _ _ h => len_agV (fun _ _ _ h => len_agNil h) h)) h)) (dg_name 8 sc__law_judged.nd))
  (dss_cons (ds_if (PW.pt (dw_or (dt_not (dt_truth (de_call (ok__law_same T 9) (hr.mono (by first | decide | omega)) T.m__law_same T.F__law_same.kp T.bi__law_same tk (dg_v (de_var 8) (dg_v (de_callTy call_tuple_of sn_tup T.b_tuple (by rfl) (da_cons (de_lc (own := [("letter", 4), ("name", 5)]) rfl sc__law_judged.nd (di_val (de_var 1)) (blkOk_by (own := [("letter", 4), ("name", 5)]) (N := N__law_judged) (sc := defScope s__law_judged) (by decide +kernel)) (fun _ _ _ _ _ => (dg_tup rfl (dgs_cons (dg_name 4 sc__law_judged.nd) (dgs_cons (dg_name 5 sc__law_judged.nd) dgs_nil)) (hl := (fun _ _ _ h => gsN_cons ((fun _ _ _ h => gsN_cons (fun _ _ _ h => gsN_nil h) h)) h)))) (fun _ _ _ _ _ => dts_nil) (fun _ _ _ _ _ => (de_tup (da_cons (de_var 4) (da_cons (de_ixS 7 (u64 hr) (de_mt 3 PySem.F.plainAttrs_list PySem.F.slot_list_index PySem.F.type_list_index (mt_indexP (u65 hr)) sm_index (da_cons (de_var 5) da_nil))) da_nil))))) da_nil)) dg_nil)) (fun _ _ _ h => len_agV ((fun _ _ _ h => len_agV (fun _ _ _ h => len_agNil h) h)) h)))) (dw_or1 (dt_not (dt_truth (de_call (ok_is_plain T) (hr.mono (by first | decide | omega)) T.m_is_plain T.F_is_plain.kp T.bi_is_plain tk (dg_v (de_call (ok_plain_row T) (hr.mono (by first | decide | omega)) T.m_plain_row T.F_plain_row.kp T.bi_plain_row tk (dg_v (de_var 8) dg_nil) (fun _ _ _ h => len_agV (fun _ _ _ h => len_agNil h) h)) dg_nil) (fun _ _ _ h => len_agV (fun _ _ _ h => len_agNil h) h)))))))
  (dss_one (ds_ret de_bl))
  dss_nil)
  (dss_cons (ds_if (dt_not (dt_truth (de_call (ok__law_same T 9) (hr.mono (by first | decide | omega)) T.m__law_same T.F__law_same.kp T.bi__law_same tk (dg_v (de_call (ok_letters_of T) (hr.mono (by first | decide | omega)) T.m_letters_of T.F_letters_of.kp T.bi_letters_of tk (dg_v (de_var 1) dg_nil) (fun _ _ _ h => len_agV (fun _ _ _ h => len_agNil h) h)) (dg_v (de_mv PySem.F.plainAttrs_str PySem.F.slot_str_join PySem.F.type_str_join mt_join sm_join de_str (da_cons (de_lc (own := [("letter", 4), ("name", 5)]) rfl sc__law_judged.nd (di_val (de_var 1)) (blkOk_by (own := [("letter", 4), ("name", 5)]) (N := N__law_judged) (sc := defScope s__law_judged) (by decide +kernel)) (fun _ _ _ _ _ => (dg_tup rfl (dgs_cons (dg_name 4 sc__law_judged.nd) (dgs_cons (dg_name 5 sc__law_judged.nd) dgs_nil)) (hl := (fun _ _ _ h => gsN_cons ((fun _ _ _ h => gsN_cons (fun _ _ _ h => gsN_nil h) h)) h)))) (fun _ _ _ _ _ => dts_nil) (fun _ _ _ _ _ => (de_var 4))) da_nil)) dg_nil)) (fun _ _ _ h => len_agV ((fun _ _ _ h => len_agV (fun _ _ _ h => len_agNil h) h)) h))))
  (dss_one (ds_ret de_bl))
  dss_nil)
  (dss_cons (ds_for po rfl (di_val (de_op op_addA sn_addA (de_var 3) (de_lst (da_cons de_int da_nil)))) (dg_name 5 sc__law_judged.nd)
  (dss_one (ds_if (dt_not (dt_truth (de_call (ok__law_same T 9) (hr.mono (by first | decide | omega)) T.m__law_same T.F__law_same.kp T.bi__law_same tk (dg_v (de_call (ok_part_of T) (hr.mono (by first | decide | omega)) T.m_part_of T.F_part_of.kp T.bi_part_of tk (dg_v (de_var 1) (dg_v (de_var 5) dg_nil)) (fun _ _ _ h => len_agV ((fun _ _ _ h => len_agV (fun _ _ _ h => len_agNil h) h)) h)) (dg_v (de_mv PySem.F.plainAttrs_str PySem.F.slot_str_join PySem.F.type_str_join mt_join sm_join de_str (da_cons (de_lc (own := [("letter", 4), ("one", 10)]) rfl sc__law_judged.nd (di_val (de_var 1)) (blkOk_by (own := [("letter", 4), ("one", 10)]) (N := N__law_judged) (sc := defScope s__law_judged) (by decide +kernel)) (fun _ _ _ _ _ => (dg_tup rfl (dgs_cons (dg_name 4 sc__law_judged.nd) (dgs_cons (dg_name 10 sc__law_judged.nd) dgs_nil)) (hl := (fun _ _ _ h => gsN_cons ((fun _ _ _ h => gsN_cons (fun _ _ _ h => gsN_nil h) h)) h)))) (fun _ _ _ _ _ => (dts_one (dt_cmpS 5 (op_eqA (u64 hr)) snp_at2 (de_var 10) (nomark _)))) (fun _ _ _ _ _ => (de_var 4))) da_nil)) dg_nil)) (fun _ _ _ h => len_agV ((fun _ _ _ h => len_agV (fun _ _ _ h => len_agNil h) h)) h))))
  (dss_one (ds_ret de_bl))
  dss_nil)))
  (dss_cons (ds_asg (de_mv PySem.F.plainAttrs_str PySem.F.slot_str_join PySem.F.type_str_join mt_join sm_join de_str (da_cons (de_lc (own := [("letter", 4), ("name", 5)]) rfl sc__law_judged.nd (di_val (de_var 1)) (blkOk_by (own := [("letter", 4), ("name", 5)]) (N := N__law_judged) (sc := defScope s__law_judged) (by decide +kernel)) (fun _ _ _ _ _ => (dg_tup rfl (dgs_cons (dg_name 4 sc__law_judged.nd) (dgs_cons (dg_name 5 sc__law_judged.nd) dgs_nil)) (hl := (fun _ _ _ h => gsN_cons ((fun _ _ _ h => gsN_cons (fun _ _ _ h => gsN_nil h) h)) h)))) (fun _ _ _ _ _ => dts_nil) (fun _ _ _ _ _ => (de_op op_addA sn_addA (de_var 4) (de_callTy call_str_int sn_str T.b_str (by rfl) (da_cons (de_var 5) da_nil))))) da_nil)) (dg_name 9 sc__law_judged.nd))
  (dss_one (ds_ret (de_and (de_call (ok__law_same T 9) (hr.mono (by first | decide | omega)) T.m__law_same T.F__law_same.kp T.bi__law_same tk (dg_v (de_call (ok_row_text T) (hr.mono (by first | decide | omega)) T.m_row_text T.F_row_text.kp T.bi_row_text tk (dg_v (de_var 1) dg_nil) (fun _ _ _ h => len_agV (fun _ _ _ h => len_agNil h) h)) (dg_v (de_var 9) dg_nil)) (fun _ _ _ h => len_agV ((fun _ _ _ h => len_agV (fun _ _ _ h => len_agNil h) h)) h)) (de_one (de_call (ok__law_same T 9) (hr.mono (by first | decide | omega)) T.m__law_same T.F__law_same.kp T.bi__law_same tk (dg_v (de_call (ok__law_told T) (hr.mono (by first | decide | omega)) T.m__law_told T.F__law_told.kp T.bi__law_told tk (dg_v de_int (dg_v (de_var 0) (dg_v (de_var 9) dg_nil))) (fun _ _ _ h => len_agV ((fun _ _ _ h => len_agV ((fun _ _ _ h => len_agV (fun _ _ _ h => len_agNil h) h)) h)) h)) (dg_v (de_var 1) dg_nil)) (fun _ _ _ h => len_agV ((fun _ _ _ h => len_agV (fun _ _ _ h => len_agNil h) h)) h)))))))))))))))))
theorem ok_longer_rows (T : Txt P K mg a) : FnOk P w K mg base (L2.CX P w) 2 a.f_longer_rows a.d_longer_rows ["k", "row"] (spD K mg 2 D_longer_rows) :=
  fnD T.F_longer_rows sc_longer_rows (by decide) fun cdv A outer s H E L hr tk po =>
  (dss_cons (ds_asg (de_callB cr_lenA sn_len T.b_len (by rfl) (da_cons (de_call (ok_names_of T) (hr.mono (by first | decide | omega)) T.m_names_of T.F_names_of.kp T.bi_names_of tk (dg_v (de_var 1) dg_nil) (fun _ _ _ h => len_agV (fun _ _ _ h => len_agNil h) h)) da_nil)) (dg_name 2 sc_longer_rows.nd))
  (dss_cons (ds_asg (de_lst da_nil) (dg_name 3 sc_longer_rows.nd))
  (dss_cons (ds_for po rfl (di_val (de_sl (de_gstr T.c_LETTERS) do_no (do_some (de_var 0)))) (dg_name 4 sc_longer_rows.nd)
  (dss_one (ds_expr (de_mt 3 PySem.F.plainAttrs_list PySem.F.slot_list_extend PySem.F.type_list_extend mt_extend sm_extend (da_cons (de_lc (own := [("name", 5)]) rfl sc_longer_rows.nd (di_range1 T.b_range (da_cons (de_op op_addA sn_addA (de_var 2) de_int) da_nil)) (blkOk_by (own := [("name", 5)]) (N := N_longer_rows) (sc := defScope s_longer_rows) (by decide +kernel)) (fun _ _ _ _ _ => (dg_name 5 sc_longer_rows.nd)) (fun _ _ _ _ _ => dts_nil) (fun _ _ _ _ _ => (de_op op_addA sn_addA (de_callTy call_tuple_of sn_tup T.b_tuple (by rfl) (da_cons (de_var 1) da_nil)) (de_tup (da_cons (de_tup (da_cons (de_var 4) (da_cons (de_var 5) da_nil))) da_nil))))) da_nil)))))
  (dss_one (ds_ret (de_move 3))))))
theorem ok__law_step (T : Txt P K mg a) : FnOk P w K mg base (L2.CX P w) 1 a.f__law_step a.d__law_step ["letters", "word"] (spD K mg 2 D__law_step) :=
  fnD T.F__law_step sc__law_step (by decide) fun cdv A outer s H E L hr tk po =>
  (dss_cons (ds_if (PW.pt (dw_or (dt_cmp (op_eqA (u64 hr)) sn_at2 (de_sl (de_var 1) do_no (do_some de_int)) de_str (nomark _)) (dw_or (dt_cmp (op_notInA (u64 hr)) sn_at2 (de_ixS 1 (u64 hr) de_int) (de_sl de_str do_no (do_some (de_var 0))) (by rfl)) (dw_or (dt_cmp op_lt sn_lt (de_lenS 1 T.b_len) de_int (nomark _)) (dw_or1 (dt_cmp op_gt sn_gt (de_lenS 1 T.b_len) de_int (nomark _)))))))
  (dss_one (ds_ret de_non))
  dss_nil)
  (dss_cons (ds_if (PW.pt (dw_or (dt_cmp op_gt sn_gt (de_callB cr_lenA sn_len T.b_len (by rfl) (da_cons (de_lc (own := [("x", 2)]) rfl sc__law_step.nd (di_val (de_sl (de_var 1) (do_some de_int) do_no)) (blkOk_by (own := [("x", 2)]) (N := N__law_step) (sc := defScope s__law_step) (by decide +kernel)) (fun _ _ _ _ _ => (dg_name 2 sc__law_step.nd)) (fun _ _ _ _ _ => (dts_one (dt_cmp (op_notInA (u64 hr)) sn_at2 (de_var 2) de_str (by rfl)))) (fun _ _ _ _ _ => (de_var 2))) da_nil)) de_int (nomark _)) (dw_or1 (PW.pt (dw_and (dt_cmp (op_eqA (u64 hr)) sn_at2 (de_ixS 1 (u64 hr) de_int) de_str (nomark _)) (dw_and1 (dt_cmp op_gt sn_gt (de_lenS 1 T.b_len) de_int (nomark _))))))))
  (dss_one (ds_ret de_non))
  dss_nil)
  (dss_one (ds_ret (de_tup (da_cons (de_ixS 1 (u64 hr) de_int) (da_cons (de_callTy call_int_str sn_int T.b_int (by rfl) (da_cons (de_sl (de_var 1) (do_some de_int) do_no) da_nil)) da_nil)))))))
theorem ok__law_read (T : Txt P K mg a) : FnOk P w K mg base (L2.CX P w) 2 a.f__law_read a.d__law_read ["letters", "text"] (spD K mg 2 D__law_read) :=
  fnD T.F__law_read sc__law_read (by decide) fun cdv A outer s H E L hr tk po =>
  (dss_cons (ds_if (dt_cmp (op_eqA (u64 hr)) sn_at2 (de_var 1) de_str (nomark _))
  (dss_one (ds_ret (de_tup da_nil)))
  dss_nil)
  (dss_cons (ds_setLc (i := 2) (own := [("word", 3)]) rfl sc__law_read.nd (sw_true rfl rfl rfl (by decide +kernel)) (di_val (de_mt 1 PySem.F.plainAttrs_str PySem.F.slot_str_split PySem.F.type_str_split mt_split sm_split (da_cons de_str da_nil))) (blkOk_by (own := [("word", 3)]) (N := N__law_read) (sc := defScope s__law_read) (by decide +kernel)) (fun _ _ _ _ _ => (dg_name 3 sc__law_read.nd)) (fun _ _ _ _ _ => dts_nil) (fun _ _ _ _ _ => (de_call (ok__law_step T) (hr.mono (by first | decide | omega)) T.m__law_step T.F__law_step.kp T.bi__law_step takes_no (dg_v (de_var 0) (dg_v (de_var 3) dg_nil)) (fun _ _ _ h => len_agV ((fun _ _ _ h => len_agV (fun _ _ _ h => len_agNil h) h)) h))))
  (dss_cons (ds_if (dt_cmpS 2 (op_inA (u64 hr)) snp_at2 de_non (by rfl))
  (dss_one (ds_ret (de_lst (da_cons de_int (da_cons (de_mt 2 PySem.F.plainAttrs_list PySem.F.slot_list_index PySem.F.type_list_index (mt_indexP (u65 hr)) sm_index (da_cons de_non da_nil)) da_nil)))))
  dss_nil)
  (dss_one (ds_ret (de_callTy call_tuple_of sn_tup T.b_tuple (by rfl) (da_cons (de_var 2) da_nil)))))))
theorem ok_rows_text (T : Txt P K mg a) : FnOk P w K mg base (L2.CX P w) 2 a.f_rows_text a.d_rows_text ["rows"] (spD K mg 1 D_rows_text) :=
  fnD T.F_rows_text sc_rows_text (by decide) fun cdv A outer s H E L hr tk po =>
  (dss_one (ds_ret (de_mv PySem.F.plainAttrs_str PySem.F.slot_str_join PySem.F.type_str_join mt_join sm_join de_str (da_cons (de_lc (own := [("row", 1)]) rfl sc_rows_text.nd (di_val (de_var 0)) (blkOk_by (own := [("row", 1)]) (N := N_rows_text) (sc := defScope s_rows_text) (by decide +kernel)) (fun _ _ _ _ _ => (dg_name 1 sc_rows_text.nd)) (fun _ _ _ _ _ => dts_nil) (fun _ _ _ _ _ => (de_or (de_call (ok_row_text T) (hr.mono (by first | decide | omega)) T.m_row_text T.F_row_text.kp T.bi_row_text takes_no (dg_v (de_var 1) dg_nil) (fun _ _ _ h => len_agV (fun _ _ _ h => len_agNil h) h)) (de_one de_str)))) da_nil))))
theorem ok_plain_rows (T : Txt P K mg a) : FnOk P w K mg base (L2.CX P w) 3 a.f_plain_rows a.d_plain_rows ["k", "length"] (spD K mg 2 D_plain_rows) :=
  fnD T.F_plain_rows sc_plain_rows (by decide) fun cdv A outer s H E L hr tk po =>
  (dss_cons (ds_asg (de_lst (da_cons (de_tup da_nil) da_nil)) (dg_name 2 sc_plain_rows.nd))
  (dss_cons (ds_for po rfl (di_range1 T.b_range (da_cons (de_var 1) da_nil)) (dg_name 3 sc_plain_rows.nd)
  (dss_cons (ds_asg (de_lst da_nil) (dg_name 4 sc_plain_rows.nd))
  (dss_cons (ds_for po rfl (di_val (de_var 2)) (dg_name 5 sc_plain_rows.nd)
  (dss_one (ds_expr (de_mt 4 PySem.F.plainAttrs_list PySem.F.slot_list_extend PySem.F.type_list_extend mt_extend sm_extend (da_cons (de_call (ok_longer_rows T) (hr.mono (by first | decide | omega)) T.m_longer_rows T.F_longer_rows.kp T.bi_longer_rows tk (dg_v (de_var 0) (dg_v (de_var 5) dg_nil)) (fun _ _ _ h => len_agV ((fun _ _ _ h => len_agV (fun _ _ _ h => len_agNil h) h)) h)) da_nil)))))
  (dss_one (ds_asg (de_var 4) (dg_name 2 sc_plain_rows.nd))))))
  (dss_one (ds_ret (de_move 2)))))
theorem ok_law (T : Txt P K mg a) : FnOk P w K mg base (L2.CX P w) 11 a.f_law a.d_law ["script"] (spD K mg 1 D_law) :=
  fnD T.F_law sc_law (by decide) fun cdv A outer s H E L hr tk po =>
  (dss_cons (ds_asg (de_call (ok__law_draws T) (hr.mono (by first | decide | omega)) T.m__law_draws T.F__law_draws.kp T.bi__law_draws tk (dg_v (de_var 0) (dg_v de_int (dg_v de_int (dg_v de_int dg_nil)))) (fun _ _ _ h => len_agV ((fun _ _ _ h => len_agV ((fun _ _ _ h => len_agV ((fun _ _ _ h => len_agV (fun _ _ _ h => len_agNil h) h)) h)) h)) h)) (dg_name 1 sc_law.nd))
  (dss_cons (ds_asg (de_op op_addA sn_addA de_int (de_op op_mod sn_mod (de_ixS 1 (u64 hr) de_int) de_int)) (dg_name 2 sc_law.nd))
  (dss_cons (ds_asg (de_call (ok__law_row T) (hr.mono (by first | decide | omega)) T.m__law_row T.F__law_row.kp T.bi__law_row tk (dg_v (de_var 0) (dg_v de_int (dg_v (de_var 2) (dg_v (de_op op_mod sn_mod (de_ixS 1 (u64 hr) de_int) de_int) (dg_v (de_op op_addA sn_addA de_int (de_op op_mod sn_mod (de_ixS 1 (u64 hr) de_int) de_int)) dg_nil))))) (fun _ _ _ h => len_agV ((fun _ _ _ h => len_agV ((fun _ _ _ h => len_agV ((fun _ _ _ h => len_agV ((fun _ _ _ h => len_agV (fun _ _ _ h => len_agNil h) h)) h)) h)) h)) h)) (dg_name 3 sc_law.nd))
  (dss_cons (ds_asg (de_callTy call_tuple_of sn_tup T.b_tuple (by rfl) (da_cons (de_lc (own := [("letter", 13), ("name", 20)]) rfl sc_law.nd (di_val (de_var 3)) (blkOk_by (own := [("letter", 13), ("name", 20)]) (N := N_law) (sc := defScope s_law) (by decide +kernel)) (fun _ _ _ _ _ => (dg_tup rfl (dgs_cons (dg_name 13 sc_law.nd) (dgs_cons (dg_name 20 sc_law.nd) dgs_nil)) (hl := (fun _ _ _ h => gsN_cons ((fun _ _ _ h => gsN_cons (fun _ _ _ h => gsN_nil h) h)) h)))) (fun _ _ _ _ _ => dts_nil) (fun _ _ _ _ _ => (de_tup (da_cons (de_var 13) (da_cons (de_op op_addA sn_addA (de_op op_mul sn_mul (de_var 20) de_int) (de_ixS 1 (u64 hr) de_int)) da_nil))))) da_nil)) (dg_name 4 sc_law.nd))
  (dss_cons (ds_asg (de_call (ok__law_row T) (hr.mono (by first | decide | omega)) T.m__law_row T.F__law_row.kp T.bi__law_row tk (dg_v (de_var 0) (dg_v de_int (dg_v (de_var 2) (dg_v (de_op op_mod sn_mod (de_ixS 1 (u64 hr) de_int) de_int) (dg_v de_int dg_nil))))) (fun _ _ _ h => len_agV ((fun _ _ _ h => len_agV ((fun _ _ _ h => len_agV ((fun _ _ _ h => len_agV ((fun _ _ _ h => len_agV (fun _ _ _ h => len_agNil h) h)) h)) h)) h)) h)) (dg_name 5 sc_law.nd))
  (dss_cons (ds_for po rfl (di_val (de_lst (da_cons (de_tup (da_cons (de_var 3) (da_cons (de_var 5) da_nil))) (da_cons (de_tup (da_cons (de_var 4) (da_cons (de_var 3) da_nil))) (da_cons (de_tup (da_cons (de_var 5) (da_cons (de_var 3) da_nil))) (da_cons (de_tup (da_cons (de_tup da_nil) (da_cons (de_tup da_nil) da_nil))) da_nil)))))) (dg_tup rfl (dgs_cons (dg_name 6 sc_law.nd) (dgs_cons (dg_name 7 sc_law.nd) dgs_nil)) (hl := (fun _ _ _ h => gsN_cons ((fun _ _ _ h => gsN_cons (fun _ _ _ h => gsN_nil h) h)) h)))
  (dss_one (ds_if (dt_not (dt_truth (de_call (ok__law_judged T) (hr.mono (by first | decide | omega)) T.m__law_judged T.F__law_judged.kp T.bi__law_judged tk (dg_v (de_var 2) (dg_v (de_var 6) (dg_v (de_var 7) dg_nil))) (fun _ _ _ h => len_agV ((fun _ _ _ h => len_agV ((fun _ _ _ h => len_agV (fun _ _ _ h => len_agNil h) h)) h)) h))))
  (dss_one (ds_ret de_bl))
  dss_nil)))
  (dss_cons (ds_asg (de_call (ok__law_rows T) (hr.mono (by first | decide | omega)) T.m__law_rows T.F__law_rows.kp T.bi__law_rows tk (dg_v (de_var 2) (dg_v (de_ix (u64 hr) (de_lst (da_cons de_int (da_cons de_int (da_cons de_int da_nil)))) (de_op op_sub sn_sub (de_var 2) de_int)) dg_nil)) (fun _ _ _ h => len_agV ((fun _ _ _ h => len_agV (fun _ _ _ h => len_agNil h) h)) h)) (dg_name 8 sc_law.nd))
  (dss_cons (ds_for po rfl (di_range1 T.b_range (da_cons (de_op op_addA sn_addA de_int (de_ix (u64 hr) (de_lst (da_cons de_int (da_cons de_int (da_cons de_int da_nil)))) (de_op op_sub sn_sub (de_var 2) de_int))) da_nil)) (dg_name 9 sc_law.nd)
  (dss_one (ds_if (dt_not (dt_truth (de_call (ok__law_same T 9) (hr.mono (by first | decide | omega)) T.m__law_same T.F__law_same.kp T.bi__law_same tk (dg_v (de_call (ok_plain_rows T) (hr.mono (by first | decide | omega)) T.m_plain_rows T.F_plain_rows.kp T.bi_plain_rows tk (dg_v (de_var 2) (dg_v (de_var 9) dg_nil)) (fun _ _ _ h => len_agV ((fun _ _ _ h => len_agV (fun _ _ _ h => len_agNil h) h)) h)) (dg_v (de_callB (cr_sortedDt (u64 hr)) sn_sortedDt T.b_sorted (by rfl) (da_cons (de_lc (own := [("one", 6)]) rfl sc_law.nd (di_val (de_var 8)) (blkOk_by (own := [("one", 6)]) (N := N_law) (sc := defScope s_law) (by decide +kernel)) (fun _ _ _ _ _ => (dg_name 6 sc_law.nd)) (fun _ _ _ _ _ => (dts_one (dt_cmpS 9 (op_eqA (u64 hr)) snp_at2 (de_lenS 6 T.b_len) (nomark _)))) (fun _ _ _ _ _ => (de_var 6))) da_nil)) dg_nil)) (fun _ _ _ h => len_agV ((fun _ _ _ h => len_agV (fun _ _ _ h => len_agNil h) h)) h))))
  (dss_one (ds_ret de_bl))
  dss_nil)))
  (dss_cons (ds_asg (de_call (ok__law_plain T) (hr.mono (by first | decide | omega)) T.m__law_plain T.F__law_plain.kp T.bi__law_plain tk (dg_v (de_var 5) dg_nil) (fun _ _ _ h => len_agV (fun _ _ _ h => len_agNil h) h)) (dg_name 10 sc_law.nd))
  (dss_cons (ds_asg (de_callB cr_lenA sn_len T.b_len (by rfl) (da_cons (de_callTy (call_dictP rfl) sn_dict T.b_dict (by rfl) (da_cons (de_lc (own := [("letter", 13), ("name", 20)]) rfl sc_law.nd (di_val (de_var 10)) (blkOk_by (own := [("letter", 13), ("name", 20)]) (N := N_law) (sc := defScope s_law) (by decide +kernel)) (fun _ _ _ _ _ => (dg_tup rfl (dgs_cons (dg_name 13 sc_law.nd) (dgs_cons (dg_name 20 sc_law.nd) dgs_nil)) (hl := (fun _ _ _ h => gsN_cons ((fun _ _ _ h => gsN_cons (fun _ _ _ h => gsN_nil h) h)) h)))) (fun _ _ _ _ _ => dts_nil) (fun _ _ _ _ _ => (de_tup (da_cons (de_var 20) (da_cons de_int da_nil))))) da_nil)) da_nil)) (dg_name 11 sc_law.nd))
  (dss_cons (ds_asg (de_lst da_nil) (dg_name 12 sc_law.nd))
  (dss_cons (ds_for po rfl (di_val (de_sl de_str do_no (do_some (de_var 2)))) (dg_name 13 sc_law.nd)
  (dss_one (ds_asg (de_op op_addA sn_addA (de_var 12) (de_lc (own := [("name", 20)]) rfl sc_law.nd (di_range1 T.b_range (da_cons (de_op op_addA sn_addA (de_var 11) de_int) da_nil)) (blkOk_by (own := [("name", 20)]) (N := N_law) (sc := defScope s_law) (by decide +kernel)) (fun _ _ _ _ _ => (dg_name 20 sc_law.nd)) (fun _ _ _ _ _ => dts_nil) (fun _ _ _ _ _ => (de_op op_addA sn_addA (de_var 10) (de_tup (da_cons (de_tup (da_cons (de_var 13) (da_cons (de_var 20) da_nil))) da_nil)))))) (dg_name 12 sc_law.nd))))
  (dss_cons (ds_if (dt_not (dt_truth (de_call (ok__law_same T 9) (hr.mono (by first | decide | omega)) T.m__law_same T.F__law_same.kp T.bi__law_same tk (dg_v (de_call (ok_longer_rows T) (hr.mono (by first | decide | omega)) T.m_longer_rows T.F_longer_rows.kp T.bi_longer_rows tk (dg_v (de_var 2) (dg_v (de_var 10) dg_nil)) (fun _ _ _ h => len_agV ((fun _ _ _ h => len_agV (fun _ _ _ h => len_agNil h) h)) h)) (dg_v (de_var 12) dg_nil)) (fun _ _ _ h => len_agV ((fun _ _ _ h => len_agV (fun _ _ _ h => len_agNil h) h)) h))))
  (dss_one (ds_ret de_bl))
  dss_nil)
  (dss_cons (ds_asg (de_lst (da_cons de_str (da_cons de_str (da_cons de_str (da_cons de_str (da_cons de_str (da_cons de_str (da_cons de_str (da_cons de_str (da_cons de_str (da_cons de_str (da_cons de_str (da_cons de_str (da_cons de_str da_nil)))))))))))))) (dg_name 14 sc_law.nd))
  (dss_cons (ds_asg (de_mv PySem.F.plainAttrs_str PySem.F.slot_str_join PySem.F.type_str_join mt_join sm_join de_str (da_cons (de_lc (own := [("pick", 21)]) rfl sc_law.nd (di_val (de_call (ok__law_draws T) (hr.mono (by first | decide | omega)) T.m__law_draws T.F__law_draws.kp T.bi__law_draws tk (dg_v (de_var 0) (dg_v de_int (dg_v (de_op op_mod sn_mod (de_ixS 1 (u64 hr) de_int) de_int) (dg_v de_int dg_nil)))) (fun _ _ _ h => len_agV ((fun _ _ _ h => len_agV ((fun _ _ _ h => len_agV ((fun _ _ _ h => len_agV (fun _ _ _ h => len_agNil h) h)) h)) h)) h))) (blkOk_by (own := [("pick", 21)]) (N := N_law) (sc := defScope s_law) (by decide +kernel)) (fun _ _ _ _ _ => (dg_name 21 sc_law.nd)) (fun _ _ _ _ _ => dts_nil) (fun _ _ _ _ _ => (de_ixS 14 (u64 hr) (de_op op_mod sn_mod (de_var 21) de_int)))) da_nil)) (dg_name 15 sc_law.nd))
  (dss_cons (ds_if (dt_not (dt_truth (de_call (ok__law_same T 9) (hr.mono (by first | decide | omega)) T.m__law_same T.F__law_same.kp T.bi__law_same tk (dg_v (de_call (ok__law_told T) (hr.mono (by first | decide | omega)) T.m__law_told T.F__law_told.kp T.bi__law_told tk (dg_v de_int (dg_v (de_var 2) (dg_v (de_var 15) dg_nil))) (fun _ _ _ h => len_agV ((fun _ _ _ h => len_agV ((fun _ _ _ h => len_agV (fun _ _ _ h => len_agNil h) h)) h)) h)) (dg_v (de_call (ok__law_read T) (hr.mono (by first | decide | omega)) T.m__law_read T.F__law_read.kp T.bi__law_read tk (dg_v (de_var 2) (dg_v (de_var 15) dg_nil)) (fun _ _ _ h => len_agV ((fun _ _ _ h => len_agV (fun _ _ _ h => len_agNil h) h)) h)) dg_nil)) (fun _ _ _ h => len_agV ((fun _ _ _ h => len_agV (fun _ _ _ h => len_agNil h) h)) h))))
  (dss_one (ds_ret de_bl))
  dss_nil)
  (dss_cons (ds_asg (de_lst (da_cons (de_var 3) (da_cons (de_tup da_nil) (da_cons (de_var 5) (da_cons (de_var 4) da_nil))))) (dg_name 16 sc_law.nd))
  (dss_cons (ds_if (PW.pt (dw_or (dt_not (dt_truth (de_call (ok__law_same T 9) (hr.mono (by first | decide | omega)) T.m__law_same T.F__law_same.kp T.bi__law_same tk (dg_v (de_call (ok__law_told T) (hr.mono (by first | decide | omega)) T.m__law_told T.F__law_told.kp T.bi__law_told tk (dg_v de_int (dg_v (de_var 2) (dg_v (de_call (ok_rows_text T) (hr.mono (by first | decide | omega)) T.m_rows_text T.F_rows_text.kp T.bi_rows_text tk (dg_v (de_callTy (cr_lstA rfl) sn_lst T.b_list (by rfl) (da_cons (de_var 16) da_nil)) dg_nil) (fun _ _ _ h => len_agV (fun _ _ _ h => len_agNil h) h)) dg_nil))) (fun _ _ _ h => len_agV ((fun _ _ _ h => len_agV ((fun _ _ _ h => len_agV (fun _ _ _ h => len_agNil h) h)) h)) h)) (dg_v (de_var 16) dg_nil)) (fun _ _ _ h => len_agV ((fun _ _ _ h => len_agV (fun _ _ _ h => len_agNil h) h)) h)))) (dw_or1 (dt_not (dt_truth (de_call (ok__law_same T 9) (hr.mono (by first | decide | omega)) T.m__law_same T.F__law_same.kp T.bi__law_same tk (dg_v (de_call (ok__law_told T) (hr.mono (by first | decide | omega)) T.m__law_told T.F__law_told.kp T.bi__law_told tk (dg_v de_int (dg_v (de_var 2) (dg_v de_str dg_nil))) (fun _ _ _ h => len_agV ((fun _ _ _ h => len_agV ((fun _ _ _ h => len_agV (fun _ _ _ h => len_agNil h) h)) h)) h)) (dg_v (de_lst da_nil) dg_nil)) (fun _ _ _ h => len_agV ((fun _ _ _ h => len_agV (fun _ _ _ h => len_agNil h) h)) h)))))))
  (dss_one (ds_ret de_bl))
  dss_nil)
  (dss_cons (ds_asg (de_mv PySem.F.plainAttrs_str PySem.F.slot_str_split PySem.F.type_str_split mt_split sm_split (de_call (ok_rows_text T) (hr.mono (by first | decide | omega)) T.m_rows_text T.F_rows_text.kp T.bi_rows_text tk (dg_v (de_var 16) dg_nil) (fun _ _ _ h => len_agV (fun _ _ _ h => len_agNil h) h)) (da_cons de_str da_nil)) (dg_name 17 sc_law.nd))
  (dss_cons (ds_asg (de_op op_mod sn_mod (de_ixS 1 (u64 hr) de_int) de_int) (dg_name 18 sc_law.nd))
  (dss_cons (ds_for po rfl (di_val (de_lst (da_cons de_str (da_cons de_str (da_cons de_str (da_cons de_str da_nil)))))) (dg_name 19 sc_law.nd)
  (dss_one (ds_if (dt_not (dt_truth (de_call (ok__law_same T 9) (hr.mono (by first | decide | omega)) T.m__law_same T.F__law_same.kp T.bi__law_same tk (dg_v (de_call (ok__law_told T) (hr.mono (by first | decide | omega)) T.m__law_told T.F__law_told.kp T.bi__law_told tk (dg_v de_int (dg_v (de_var 2) (dg_v (de_mv PySem.F.plainAttrs_str PySem.F.slot_str_join PySem.F.type_str_join mt_join sm_join de_str (da_cons (de_op op_addA sn_addA (de_op op_addA sn_addA (de_sl (de_var 17) do_no (do_some (de_var 18))) (de_lst (da_cons (de_var 19) da_nil))) (de_sl (de_var 17) (do_some (de_var 18)) do_no)) da_nil)) dg_nil))) (fun _ _ _ h => len_agV ((fun _ _ _ h => len_agV ((fun _ _ _ h => len_agV (fun _ _ _ h => len_agNil h) h)) h)) h)) (dg_v (de_lst (da_cons de_int (da_cons (de_var 18) da_nil))) dg_nil)) (fun _ _ _ h => len_agV ((fun _ _ _ h => len_agV (fun _ _ _ h => len_agNil h) h)) h))))
  (dss_one (ds_ret de_bl))
  dss_nil)))
  (dss_one (ds_ret de_bl)))))))))))))))))))))))
end
end DY

namespace DY
open PySem PySem.Spec PySem.Calls PyProof.Rows L2
abbrev si_BadLine : Stmt := match topS 2 with | .ClassDef _ _ _ (b :: _) _ _ _ _ _ _ _ => b | s => s
abbrev si_BadStep : Stmt := match topS 3 with | .ClassDef _ _ _ (b :: _) _ _ _ _ _ _ _ => b | s => s
theorem all_mk {P : Program} {w : World} {K : Fg} {h : Heap} {mg : Mg} {fa : Addr} {tc_LETTERS : Tok} {tc_FIGURES : Tok} {tc_MOST_FIGURES : Tok} {f__law_number : Addr} {od__law_number an__law_number : Option Addr} {sl__law_number : Array (Option Value)} {oc__law_number kV__law_number dc__law_number pm__law_number cd__law_number ct__law_number : Value} {f__law_draws : Addr} {od__law_draws an__law_draws : Option Addr} {sl__law_draws : Array (Option Value)} {oc__law_draws kV__law_draws dc__law_draws pm__law_draws cd__law_draws ct__law_draws : Value} {f__law_row : Addr} {od__law_row an__law_row : Option Addr} {sl__law_row : Array (Option Value)} {oc__law_row kV__law_row dc__law_row pm__law_row cd__law_row ct__law_row : Value} {f__law_rows : Addr} {od__law_rows an__law_rows : Option Addr} {sl__law_rows : Array (Option Value)} {oc__law_rows kV__law_rows dc__law_rows pm__law_rows cd__law_rows ct__law_rows : Value} {f__law_plain : Addr} {od__law_plain an__law_plain : Option Addr} {sl__law_plain : Array (Option Value)} {oc__law_plain kV__law_plain dc__law_plain pm__law_plain cd__law_plain ct__law_plain : Value} {f__law_same : Addr} {od__law_same an__law_same : Option Addr} {sl__law_same : Array (Option Value)} {oc__law_same kV__law_same dc__law_same pm__law_same cd__law_same ct__law_same : Value} {f_names_of : Addr} {od_names_of an_names_of : Option Addr} {sl_names_of : Array (Option Value)} {oc_names_of kV_names_of dc_names_of pm_names_of cd_names_of ct_names_of : Value} {f_renamed : Addr} {od_renamed an_renamed : Option Addr} {sl_renamed : Array (Option Value)} {oc_renamed kV_renamed dc_renamed pm_renamed cd_renamed ct_renamed : Value} {f_plain_row : Addr} {od_plain_row an_plain_row : Option Addr} {sl_plain_row : Array (Option Value)} {oc_plain_row kV_plain_row dc_plain_row pm_plain_row cd_plain_row ct_plain_row : Value} {f_are_alike : Addr} {od_are_alike an_are_alike : Option Addr} {sl_are_alike : Array (Option Value)} {oc_are_alike kV_are_alike dc_are_alike pm_are_alike cd_are_alike ct_are_alike : Value} {f_is_plain : Addr} {od_is_plain an_is_plain : Option Addr} {sl_is_plain : Array (Option Value)} {oc_is_plain kV_is_plain dc_is_plain pm_is_plain cd_is_plain ct_is_plain : Value} {f_letters_of : Addr} {od_letters_of an_letters_of : Option Addr} {sl_letters_of : Array (Option Value)} {oc_letters_of kV_letters_of dc_letters_of pm_letters_of cd_letters_of ct_letters_of : Value} {f_row_text : Addr} {od_row_text an_row_text : Option Addr} {sl_row_text : Array (Option Value)} {oc_row_text kV_row_text dc_row_text pm_row_text cd_row_text ct_row_text : Value} {f_read_step : Addr} {od_read_step an_read_step : Option Addr} {sl_read_step : Array (Option Value)} {oc_read_step kV_read_step dc_read_step pm_read_step cd_read_step ct_read_step : Value} {f_read_row : Addr} {od_read_row an_read_row : Option Addr} {sl_read_row : Array (Option Value)} {oc_read_row kV_read_row dc_read_row pm_read_row cd_read_row ct_read_row : Value} {f_read_line : Addr} {od_read_line an_read_line : Option Addr} {sl_read_line : Array (Option Value)} {oc_read_line kV_read_line dc_read_line pm_read_line cd_read_line ct_read_line : Value} {f_read_rows : Addr} {od_read_rows an_read_rows : Option Addr} {sl_read_rows : Array (Option Value)} {oc_read_rows kV_read_rows dc_read_rows pm_read_rows cd_read_rows ct_read_rows : Value} {f__law_told : Addr} {od__law_told an__law_told : Option Addr} {sl__law_told : Array (Option Value)} {oc__law_told kV__law_told dc__law_told pm__law_told cd__law_told ct__law_told : Value} {f_part_of : Addr} {od_part_of an_part_of : Option Addr} {sl_part_of : Array (Option Value)} {oc_part_of kV_part_of dc_part_of pm_part_of cd_part_of ct_part_of : Value} {f__law_judged : Addr} {od__law_judged an__law_judged : Option Addr} {sl__law_judged : Array (Option Value)} {oc__law_judged kV__law_judged dc__law_judged pm__law_judged cd__law_judged ct__law_judged : Value} {f_longer_rows : Addr} {od_longer_rows an_longer_rows : Option Addr} {sl_longer_rows : Array (Option Value)} {oc_longer_rows kV_longer_rows dc_longer_rows pm_longer_rows cd_longer_rows ct_longer_rows : Value} {f__law_step : Addr} {od__law_step an__law_step : Option Addr} {sl__law_step : Array (Option Value)} {oc__law_step kV__law_step dc__law_step pm__law_step cd__law_step ct__law_step : Value} {f__law_read : Addr} {od__law_read an__law_read : Option Addr} {sl__law_read : Array (Option Value)} {oc__law_read kV__law_read dc__law_read pm__law_read cd__law_read ct__law_read : Value} {f_rows_text : Addr} {od_rows_text an_rows_text : Option Addr} {sl_rows_text : Array (Option Value)} {oc_rows_text kV_rows_text dc_rows_text pm_rows_text cd_rows_text ct_rows_text : Value} {f_plain_rows : Addr} {od_plain_rows an_plain_rows : Option Addr} {sl_plain_rows : Array (Option Value)} {oc_plain_rows kV_plain_rows dc_plain_rows pm_plain_rows cd_plain_rows ct_plain_rows : Value} {f_law : Addr} {od_law an_law : Option Addr} {sl_law : Array (Option Value)} {oc_law kV_law dc_law pm_law cd_law ct_law : Value} {C_BadLine : Addr} {C_BadStep : Addr} {C_RowError : Addr} {M_BadLine_RowError : Addr} {nm_BadLine q_BadLine : Str} {N_BadLine I_BadLine cc_BadLine cda_BadLine : Addr} {bs_BadLine sub_BadLine : List Value} {sn_BadLine : List Str} {ab_BadLine : Bool} {col_BadLine : Option Bool} {dd_BadLine iod_BadLine ian_BadLine icdd_BadLine icld_BadLine : Option Addr} {m0_BadLine m1_BadLine m2_BadLine m3_BadLine m5_BadLine : Option Value} {ioc_BadLine ikV_BadLine idc_BadLine ipm_BadLine ict_BadLine iccl_BadLine icl_BadLine : Value} {iosl_BadLine iccs_BadLine icsl_BadLine : Array (Option Value)} {ivs_BadLine : Array Value} {ifile_BadLine : Str} {itf_BadLine : Tok} {M_BadStep_RowError : Addr} {nm_BadStep q_BadStep : Str} {N_BadStep I_BadStep cc_BadStep cda_BadStep : Addr} {bs_BadStep sub_BadStep : List Value} {sn_BadStep : List Str} {ab_BadStep : Bool} {col_BadStep : Option Bool} {dd_BadStep iod_BadStep ian_BadStep icdd_BadStep icld_BadStep : Option Addr} {m0_BadStep m1_BadStep m2_BadStep m3_BadStep m5_BadStep : Option Value} {ioc_BadStep ikV_BadStep idc_BadStep ipm_BadStep ict_BadStep iccl_BadStep icl_BadStep : Value} {iosl_BadStep iccs_BadStep icsl_BadStep : Array (Option Value)} {ivs_BadStep : Array Value} {ifile_BadStep : Str} {itf_BadStep : Tok}
    (X : K.In h) (G : h.Ns mainGlobals mg) (hfa : mg "law" = some (.ref fa))
    (z_abs : PySem.W.nsIn K mainGlobals "abs" = some none)
    (z_bool : PySem.W.nsIn K mainGlobals "bool" = some none)
    (z_dict : PySem.W.nsIn K mainGlobals "dict" = some none)
    (z_int : PySem.W.nsIn K mainGlobals "int" = some none)
    (z_isinstance : PySem.W.nsIn K mainGlobals "isinstance" = some none)
    (z_len : PySem.W.nsIn K mainGlobals "len" = some none)
    (z_list : PySem.W.nsIn K mainGlobals "list" = some none)
    (z_range : PySem.W.nsIn K mainGlobals "range" = some none)
    (z_sorted : PySem.W.nsIn K mainGlobals "sorted" = some none)
    (z_str : PySem.W.nsIn K mainGlobals "str" = some none)
    (z_sum : PySem.W.nsIn K mainGlobals "sum" = some none)
    (z_tuple : PySem.W.nsIn K mainGlobals "tuple" = some none)
    (g_LETTERS : PySem.W.nsIn K mainGlobals "LETTERS" = some (some (.str "abc" tc_LETTERS)))
    (g_FIGURES : PySem.W.nsIn K mainGlobals "FIGURES" = some (some (.str "0123456789" tc_FIGURES)))
    (g_MOST_FIGURES : PySem.W.nsIn K mainGlobals "MOST_FIGURES" = some (some (.int 6 tc_MOST_FIGURES)))
    (a__law_number : PySem.W.nsIn K mainGlobals "_law_number" = some (some (.ref f__law_number)))
    (l__law_number : K.lookup f__law_number = some ⟨oc__law_number, od__law_number, .func (PySem.W.fnOf "_law_number" "_law_number" (defArgs s__law_number) (defBody s__law_number) (defScope s__law_number) .none kV__law_number dc__law_number pm__law_number an__law_number cd__law_number ct__law_number), sl__law_number⟩)
    (c__law_number : PySem.W.codeIn K cd__law_number "_law_number" = true)
    (k__law_number : PySem.W.keepIn K (.ref f__law_number) = true)
    (a__law_draws : PySem.W.nsIn K mainGlobals "_law_draws" = some (some (.ref f__law_draws)))
    (l__law_draws : K.lookup f__law_draws = some ⟨oc__law_draws, od__law_draws, .func (PySem.W.fnOf "_law_draws" "_law_draws" (defArgs s__law_draws) (defBody s__law_draws) (defScope s__law_draws) .none kV__law_draws dc__law_draws pm__law_draws an__law_draws cd__law_draws ct__law_draws), sl__law_draws⟩)
    (c__law_draws : PySem.W.codeIn K cd__law_draws "_law_draws" = true)
    (k__law_draws : PySem.W.keepIn K (.ref f__law_draws) = true)
    (a__law_row : PySem.W.nsIn K mainGlobals "_law_row" = some (some (.ref f__law_row)))
    (l__law_row : K.lookup f__law_row = some ⟨oc__law_row, od__law_row, .func (PySem.W.fnOf "_law_row" "_law_row" (defArgs s__law_row) (defBody s__law_row) (defScope s__law_row) .none kV__law_row dc__law_row pm__law_row an__law_row cd__law_row ct__law_row), sl__law_row⟩)
    (c__law_row : PySem.W.codeIn K cd__law_row "_law_row" = true)
    (k__law_row : PySem.W.keepIn K (.ref f__law_row) = true)
    (a__law_rows : PySem.W.nsIn K mainGlobals "_law_rows" = some (some (.ref f__law_rows)))
    (l__law_rows : K.lookup f__law_rows = some ⟨oc__law_rows, od__law_rows, .func (PySem.W.fnOf "_law_rows" "_law_rows" (defArgs s__law_rows) (defBody s__law_rows) (defScope s__law_rows) .none kV__law_rows dc__law_rows pm__law_rows an__law_rows cd__law_rows ct__law_rows), sl__law_rows⟩)
    (c__law_rows : PySem.W.codeIn K cd__law_rows "_law_rows" = true)
    (k__law_rows : PySem.W.keepIn K (.ref f__law_rows) = true)
    (a__law_plain : PySem.W.nsIn K mainGlobals "_law_plain" = some (some (.ref f__law_plain)))
    (l__law_plain : K.lookup f__law_plain = some ⟨oc__law_plain, od__law_plain, .func (PySem.W.fnOf "_law_plain" "_law_plain" (defArgs s__law_plain) (defBody s__law_plain) (defScope s__law_plain) .none kV__law_plain dc__law_plain pm__law_plain an__law_plain cd__law_plain ct__law_plain), sl__law_plain⟩)
    (c__law_plain : PySem.W.codeIn K cd__law_plain "_law_plain" = true)
    (k__law_plain : PySem.W.keepIn K (.ref f__law_plain) = true)
    (a__law_same : PySem.W.nsIn K mainGlobals "_law_same" = some (some (.ref f__law_same)))
    (l__law_same : K.lookup f__law_same = some ⟨oc__law_same, od__law_same, .func (PySem.W.fnOf "_law_same" "_law_same" (defArgs s__law_same) (defBody s__law_same) (defScope s__law_same) .none kV__law_same dc__law_same pm__law_same an__law_same cd__law_same ct__law_same), sl__law_same⟩)
    (c__law_same : PySem.W.codeIn K cd__law_same "_law_same" = true)
    (k__law_same : PySem.W.keepIn K (.ref f__law_same) = true)
    (a_names_of : PySem.W.nsIn K mainGlobals "names_of" = some (some (.ref f_names_of)))
    (l_names_of : K.lookup f_names_of = some ⟨oc_names_of, od_names_of, .func (PySem.W.fnOf "names_of" "names_of" (defArgs s_names_of) (defBody s_names_of) (defScope s_names_of) .none kV_names_of dc_names_of pm_names_of an_names_of cd_names_of ct_names_of), sl_names_of⟩)
    (c_names_of : PySem.W.codeIn K cd_names_of "names_of" = true)
    (k_names_of : PySem.W.keepIn K (.ref f_names_of) = true)
    (a_renamed : PySem.W.nsIn K mainGlobals "renamed" = some (some (.ref f_renamed)))
    (l_renamed : K.lookup f_renamed = some ⟨oc_renamed, od_renamed, .func (PySem.W.fnOf "renamed" "renamed" (defArgs s_renamed) (defBody s_renamed) (defScope s_renamed) .none kV_renamed dc_renamed pm_renamed an_renamed cd_renamed ct_renamed), sl_renamed⟩)
    (c_renamed : PySem.W.codeIn K cd_renamed "renamed" = true)
    (k_renamed : PySem.W.keepIn K (.ref f_renamed) = true)
    (a_plain_row : PySem.W.nsIn K mainGlobals "plain_row" = some (some (.ref f_plain_row)))
    (l_plain_row : K.lookup f_plain_row = some ⟨oc_plain_row, od_plain_row, .func (PySem.W.fnOf "plain_row" "plain_row" (defArgs s_plain_row) (defBody s_plain_row) (defScope s_plain_row) .none kV_plain_row dc_plain_row pm_plain_row an_plain_row cd_plain_row ct_plain_row), sl_plain_row⟩)
    (c_plain_row : PySem.W.codeIn K cd_plain_row "plain_row" = true)
    (k_plain_row : PySem.W.keepIn K (.ref f_plain_row) = true)
    (a_are_alike : PySem.W.nsIn K mainGlobals "are_alike" = some (some (.ref f_are_alike)))
    (l_are_alike : K.lookup f_are_alike = some ⟨oc_are_alike, od_are_alike, .func (PySem.W.fnOf "are_alike" "are_alike" (defArgs s_are_alike) (defBody s_are_alike) (defScope s_are_alike) .none kV_are_alike dc_are_alike pm_are_alike an_are_alike cd_are_alike ct_are_alike), sl_are_alike⟩)
    (c_are_alike : PySem.W.codeIn K cd_are_alike "are_alike" = true)
    (k_are_alike : PySem.W.keepIn K (.ref f_are_alike) = true)
    (a_is_plain : PySem.W.nsIn K mainGlobals "is_plain" = some (some (.ref f_is_plain)))
    (l_is_plain : K.lookup f_is_plain = some ⟨oc_is_plain, od_is_plain, .func (PySem.W.fnOf "is_plain" "is_plain" (defArgs s_is_plain) (defBody s_is_plain) (defScope s_is_plain) .none kV_is_plain dc_is_plain pm_is_plain an_is_plain cd_is_plain ct_is_plain), sl_is_plain⟩)
    (c_is_plain : PySem.W.codeIn K cd_is_plain "is_plain" = true)
    (k_is_plain : PySem.W.keepIn K (.ref f_is_plain) = true)
    (a_letters_of : PySem.W.nsIn K mainGlobals "letters_of" = some (some (.ref f_letters_of)))
    (l_letters_of : K.lookup f_letters_of = some ⟨oc_letters_of, od_letters_of, .func (PySem.W.fnOf "letters_of" "letters_of" (defArgs s_letters_of) (defBody s_letters_of) (defScope s_letters_of) .none kV_letters_of dc_letters_of pm_letters_of an_letters_of cd_letters_of ct_letters_of), sl_letters_of⟩)
    (c_letters_of : PySem.W.codeIn K cd_letters_of "letters_of" = true)
    (k_letters_of : PySem.W.keepIn K (.ref f_letters_of) = true)
    (a_row_text : PySem.W.nsIn K mainGlobals "row_text" = some (some (.ref f_row_text)))
    (l_row_text : K.lookup f_row_text = some ⟨oc_row_text, od_row_text, .func (PySem.W.fnOf "row_text" "row_text" (defArgs s_row_text) (defBody s_row_text) (defScope s_row_text) .none kV_row_text dc_row_text pm_row_text an_row_text cd_row_text ct_row_text), sl_row_text⟩)
    (c_row_text : PySem.W.codeIn K cd_row_text "row_text" = true)
    (k_row_text : PySem.W.keepIn K (.ref f_row_text) = true)
    (a_read_step : PySem.W.nsIn K mainGlobals "read_step" = some (some (.ref f_read_step)))
    (l_read_step : K.lookup f_read_step = some ⟨oc_read_step, od_read_step, .func (PySem.W.fnOf "read_step" "read_step" (defArgs s_read_step) (defBody s_read_step) (defScope s_read_step) .none kV_read_step dc_read_step pm_read_step an_read_step cd_read_step ct_read_step), sl_read_step⟩)
    (c_read_step : PySem.W.codeIn K cd_read_step "read_step" = true)
    (k_read_step : PySem.W.keepIn K (.ref f_read_step) = true)
    (a_read_row : PySem.W.nsIn K mainGlobals "read_row" = some (some (.ref f_read_row)))
    (l_read_row : K.lookup f_read_row = some ⟨oc_read_row, od_read_row, .func (PySem.W.fnOf "read_row" "read_row" (defArgs s_read_row) (defBody s_read_row) (defScope s_read_row) .none kV_read_row dc_read_row pm_read_row an_read_row cd_read_row ct_read_row), sl_read_row⟩)
    (c_read_row : PySem.W.codeIn K cd_read_row "read_row" = true)
    (k_read_row : PySem.W.keepIn K (.ref f_read_row) = true)
    (a_read_line : PySem.W.nsIn K mainGlobals "read_line" = some (some (.ref f_read_line)))
    (l_read_line : K.lookup f_read_line = some ⟨oc_read_line, od_read_line, .func (PySem.W.fnOf "read_line" "read_line" (defArgs s_read_line) (defBody s_read_line) (defScope s_read_line) .none kV_read_line dc_read_line pm_read_line an_read_line cd_read_line ct_read_line), sl_read_line⟩)
    (c_read_line : PySem.W.codeIn K cd_read_line "read_line" = true)
    (k_read_line : PySem.W.keepIn K (.ref f_read_line) = true)
    (a_read_rows : PySem.W.nsIn K mainGlobals "read_rows" = some (some (.ref f_read_rows)))
    (l_read_rows : K.lookup f_read_rows = some ⟨oc_read_rows, od_read_rows, .func (PySem.W.fnOf "read_rows" "read_rows" (defArgs s_read_rows) (defBody s_read_rows) (defScope s_read_rows) .none kV_read_rows dc_read_rows pm_read_rows an_read_rows cd_read_rows ct_read_rows), sl_read_rows⟩)
    (c_read_rows : PySem.W.codeIn K cd_read_rows "read_rows" = true)
    (k_read_rows : PySem.W.keepIn K (.ref f_read_rows) = true)
    (a__law_told : PySem.W.nsIn K mainGlobals "_law_told" = some (some (.ref f__law_told)))
    (l__law_told : K.lookup f__law_told = some ⟨oc__law_told, od__law_told, .func (PySem.W.fnOf "_law_told" "_law_told" (defArgs s__law_told) (defBody s__law_told) (defScope s__law_told) .none kV__law_told dc__law_told pm__law_told an__law_told cd__law_told ct__law_told), sl__law_told⟩)
    (c__law_told : PySem.W.codeIn K cd__law_told "_law_told" = true)
    (k__law_told : PySem.W.keepIn K (.ref f__law_told) = true)
    (a_part_of : PySem.W.nsIn K mainGlobals "part_of" = some (some (.ref f_part_of)))
    (l_part_of : K.lookup f_part_of = some ⟨oc_part_of, od_part_of, .func (PySem.W.fnOf "part_of" "part_of" (defArgs s_part_of) (defBody s_part_of) (defScope s_part_of) .none kV_part_of dc_part_of pm_part_of an_part_of cd_part_of ct_part_of), sl_part_of⟩)
    (c_part_of : PySem.W.codeIn K cd_part_of "part_of" = true)
    (k_part_of : PySem.W.keepIn K (.ref f_part_of) = true)
    (a__law_judged : PySem.W.nsIn K mainGlobals "_law_judged" = some (some (.ref f__law_judged)))
    (l__law_judged : K.lookup f__law_judged = some ⟨oc__law_judged, od__law_judged, .func (PySem.W.fnOf "_law_judged" "_law_judged" (defArgs s__law_judged) (defBody s__law_judged) (defScope s__law_judged) .none kV__law_judged dc__law_judged pm__law_judged an__law_judged cd__law_judged ct__law_judged), sl__law_judged⟩)
    (c__law_judged : PySem.W.codeIn K cd__law_judged "_law_judged" = true)
    (k__law_judged : PySem.W.keepIn K (.ref f__law_judged) = true)
    (a_longer_rows : PySem.W.nsIn K mainGlobals "longer_rows" = some (some (.ref f_longer_rows)))
    (l_longer_rows : K.lookup f_longer_rows = some ⟨oc_longer_rows, od_longer_rows, .func (PySem.W.fnOf "longer_rows" "longer_rows" (defArgs s_longer_rows) (defBody s_longer_rows) (defScope s_longer_rows) .none kV_longer_rows dc_longer_rows pm_longer_rows an_longer_rows cd_longer_rows ct_longer_rows), sl_longer_rows⟩)
    (c_longer_rows : PySem.W.codeIn K cd_longer_rows "longer_rows" = true)
    (k_longer_rows : PySem.W.keepIn K (.ref f_longer_rows) = true)
    (a__law_step : PySem.W.nsIn K mainGlobals "_law_step" = some (some (.ref f__law_step)))
    (l__law_step : K.lookup f__law_step = some ⟨oc__law_step, od__law_step, .func (PySem.W.fnOf "_law_step" "_law_step" (defArgs s__law_step) (defBody s__law_step) (defScope s__law_step) .none kV__law_step dc__law_step pm__law_step an__law_step cd__law_step ct__law_step), sl__law_step⟩)
    (c__law_step : PySem.W.codeIn K cd__law_step "_law_step" = true)
    (k__law_step : PySem.W.keepIn K (.ref f__law_step) = true)
    (a__law_read : PySem.W.nsIn K mainGlobals "_law_read" = some (some (.ref f__law_read)))
    (l__law_read : K.lookup f__law_read = some ⟨oc__law_read, od__law_read, .func (PySem.W.fnOf "_law_read" "_law_read" (defArgs s__law_read) (defBody s__law_read) (defScope s__law_read) .none kV__law_read dc__law_read pm__law_read an__law_read cd__law_read ct__law_read), sl__law_read⟩)
    (c__law_read : PySem.W.codeIn K cd__law_read "_law_read" = true)
    (k__law_read : PySem.W.keepIn K (.ref f__law_read) = true)
    (a_rows_text : PySem.W.nsIn K mainGlobals "rows_text" = some (some (.ref f_rows_text)))
    (l_rows_text : K.lookup f_rows_text = some ⟨oc_rows_text, od_rows_text, .func (PySem.W.fnOf "rows_text" "rows_text" (defArgs s_rows_text) (defBody s_rows_text) (defScope s_rows_text) .none kV_rows_text dc_rows_text pm_rows_text an_rows_text cd_rows_text ct_rows_text), sl_rows_text⟩)
    (c_rows_text : PySem.W.codeIn K cd_rows_text "rows_text" = true)
    (k_rows_text : PySem.W.keepIn K (.ref f_rows_text) = true)
    (a_plain_rows : PySem.W.nsIn K mainGlobals "plain_rows" = some (some (.ref f_plain_rows)))
    (l_plain_rows : K.lookup f_plain_rows = some ⟨oc_plain_rows, od_plain_rows, .func (PySem.W.fnOf "plain_rows" "plain_rows" (defArgs s_plain_rows) (defBody s_plain_rows) (defScope s_plain_rows) .none kV_plain_rows dc_plain_rows pm_plain_rows an_plain_rows cd_plain_rows ct_plain_rows), sl_plain_rows⟩)
    (c_plain_rows : PySem.W.codeIn K cd_plain_rows "plain_rows" = true)
    (k_plain_rows : PySem.W.keepIn K (.ref f_plain_rows) = true)
    (a_law : PySem.W.nsIn K mainGlobals "law" = some (some (.ref f_law)))
    (l_law : K.lookup f_law = some ⟨oc_law, od_law, .func (PySem.W.fnOf "law" "law" (defArgs s_law) (defBody s_law) (defScope s_law) .none kV_law dc_law pm_law an_law cd_law ct_law), sl_law⟩)
    (c_law : PySem.W.codeIn K cd_law "law" = true)
    (k_law : PySem.W.keepIn K (.ref f_law) = true)
    (aC_BadLine : PySem.W.nsIn K mainGlobals "BadLine" = some (some (.ref C_BadLine)))
    (aC_BadStep : PySem.W.nsIn K mainGlobals "BadStep" = some (some (.ref C_BadStep)))
    (aC_RowError : PySem.W.nsIn K mainGlobals "RowError" = some (some (.ref C_RowError)))
    (xL_BadLine : K.lookup C_BadLine = some (excClassObj nm_BadLine q_BadLine C_BadLine N_BadLine bs_BadLine [.ref M_BadLine_RowError, .type "ValueError", .type "Exception", .type "BaseException", .type "object"] true sn_BadLine sub_BadLine ab_BadLine col_BadLine dd_BadLine m0_BadLine m1_BadLine m2_BadLine m3_BadLine m5_BadLine "ValueError.__new__"))
    (sa_BadLine : PySem.W.findIn K (.ref C_BadLine) "__setattr__" = some (some (.builtin "object.__setattr__")))
    (eC_BadLine : PySem.W.subIn K (.ref C_BadLine) (.type "BaseException") = some true)
    (tC_BadLine : PySem.W.typeIn K (.ref C_BadLine) = some (.type "type"))
    (kC_BadLine : PySem.W.keepIn K (.ref C_BadLine) = true)
    (nf_BadLine : PySem.W.findIn K (.ref C_BadLine) "line" = some none)
    (i1_BadLine : PySem.W.findIn K (.ref C_BadLine) "__init__" = some (some (.ref I_BadLine)))
    (it_BadLine : PySem.W.typeIn K (.ref I_BadLine) = some (.type "function"))
    (il_BadLine : K.lookup I_BadLine = some ⟨ioc_BadLine, iod_BadLine, .func (PySem.W.ksFn "__init__" "BadLine.__init__" (defArgs si_BadLine) (defBody si_BadLine) (defScope si_BadLine) .none ikV_BadLine idc_BadLine ipm_BadLine ian_BadLine (.ref cda_BadLine) ict_BadLine cc_BadLine), iosl_BadLine⟩)
    (ic_BadLine : PySem.W.codeIn K (.ref cda_BadLine) "BadLine.__init__" = true)
    (id_BadLine : K.lookup cda_BadLine = some ⟨iccl_BadLine, icdd_BadLine, .fields ivs_BadLine, iccs_BadLine⟩)
    (iv_BadLine : ivs_BadLine[2]? = some (.str ifile_BadLine itf_BadLine))
    (if_BadLine : ((P.main.file : Str) == ifile_BadLine) = true)
    (ie_BadLine : K.lookup cc_BadLine = some ⟨icl_BadLine, icld_BadLine, .cell (some (.ref C_BadLine)), icsl_BadLine⟩)
    (su_BadLine : PySem.W.ks_superIn K C_BadLine C_BadLine "__init__" = some (some (.builtin "ValueError.__init__")))
    (va_BadLine : PySem.W.subIn K (.ref C_BadLine) (.type "ValueError") = some true)
    (ga_BadLine : PySem.W.findIn K (.ref C_BadLine) "__getattribute__" = some (some (.builtin "BaseException.__getattribute__")))
    (gg_BadLine : PySem.W.findIn K (.ref C_BadLine) "__getattr__" = some none)
    (hd_BadLine : PySem.W.hasDictIn K C_BadLine = true)
    (ca_BadLine : PySem.W.findIn K (.ref C_BadLine) "__class__" = some (some (.builtin "object.__class__")))
    (mr_BadLine : PySem.W.mroIn K C_BadLine (.type "object") = some true)
    (xL_BadStep : K.lookup C_BadStep = some (excClassObj nm_BadStep q_BadStep C_BadStep N_BadStep bs_BadStep [.ref M_BadStep_RowError, .type "ValueError", .type "Exception", .type "BaseException", .type "object"] true sn_BadStep sub_BadStep ab_BadStep col_BadStep dd_BadStep m0_BadStep m1_BadStep m2_BadStep m3_BadStep m5_BadStep "ValueError.__new__"))
    (sa_BadStep : PySem.W.findIn K (.ref C_BadStep) "__setattr__" = some (some (.builtin "object.__setattr__")))
    (eC_BadStep : PySem.W.subIn K (.ref C_BadStep) (.type "BaseException") = some true)
    (tC_BadStep : PySem.W.typeIn K (.ref C_BadStep) = some (.type "type"))
    (kC_BadStep : PySem.W.keepIn K (.ref C_BadStep) = true)
    (nf_BadStep : PySem.W.findIn K (.ref C_BadStep) "index" = some none)
    (i1_BadStep : PySem.W.findIn K (.ref C_BadStep) "__init__" = some (some (.ref I_BadStep)))
    (it_BadStep : PySem.W.typeIn K (.ref I_BadStep) = some (.type "function"))
    (il_BadStep : K.lookup I_BadStep = some ⟨ioc_BadStep, iod_BadStep, .func (PySem.W.ksFn "__init__" "BadStep.__init__" (defArgs si_BadStep) (defBody si_BadStep) (defScope si_BadStep) .none ikV_BadStep idc_BadStep ipm_BadStep ian_BadStep (.ref cda_BadStep) ict_BadStep cc_BadStep), iosl_BadStep⟩)
    (ic_BadStep : PySem.W.codeIn K (.ref cda_BadStep) "BadStep.__init__" = true)
    (id_BadStep : K.lookup cda_BadStep = some ⟨iccl_BadStep, icdd_BadStep, .fields ivs_BadStep, iccs_BadStep⟩)
    (iv_BadStep : ivs_BadStep[2]? = some (.str ifile_BadStep itf_BadStep))
    (if_BadStep : ((P.main.file : Str) == ifile_BadStep) = true)
    (ie_BadStep : K.lookup cc_BadStep = some ⟨icl_BadStep, icld_BadStep, .cell (some (.ref C_BadStep)), icsl_BadStep⟩)
    (su_BadStep : PySem.W.ks_superIn K C_BadStep C_BadStep "__init__" = some (some (.builtin "ValueError.__init__")))
    (va_BadStep : PySem.W.subIn K (.ref C_BadStep) (.type "ValueError") = some true)
    (ga_BadStep : PySem.W.findIn K (.ref C_BadStep) "__getattribute__" = some (some (.builtin "BaseException.__getattribute__")))
    (gg_BadStep : PySem.W.findIn K (.ref C_BadStep) "__getattr__" = some none)
    (hd_BadStep : PySem.W.hasDictIn K C_BadStep = true)
    (ca_BadStep : PySem.W.findIn K (.ref C_BadStep) "__class__" = some (some (.builtin "object.__class__")))
    (mr_BadStep : PySem.W.mroIn K C_BadStep (.type "object") = some true)
    (opq : PySem.W.nsIn K cStatics "thirdparty.any" = some none)
    (nos : PySem.W.nsIn K mainGlobals "super" = some none)
    (top : (P.main.scope.names.lookup ("super" : Str)).isSome = false)
    (spc : PySem.W.specialIn K (.builtin "object.__class__") "__get__" = some (some (.builtin "getset_descriptor.__get__")))
    (tkc : PySem.W.takesIn K (.builtin "object.__class__") = some true)
    (he_RowError : PySem.W.subIn K (.ref C_RowError) (.type "BaseException") = some true)
    (hh_RowError : PySem.W.hasDictIn K C_RowError = true)
    (ht_RowError : PySem.W.typeIn K (.ref C_RowError) = some (.type "type"))
    (hs_BadLine_RowError : PySem.W.subIn K (.ref C_BadLine) (.ref C_RowError) = some true)
    (hs_BadStep_RowError : PySem.W.subIn K (.ref C_BadStep) (.ref C_RowError) = some true)
    (is_BadLine_BadLine : PySem.W.kitOne K (.ref C_BadLine) (.ref C_BadLine) = some true)
    (is_BadStep_BadLine : PySem.W.kitOne K (.ref C_BadStep) (.ref C_BadLine) = some false)
    (is_BadLine_BadStep : PySem.W.kitOne K (.ref C_BadLine) (.ref C_BadStep) = some false)
    (is_BadStep_BadStep : PySem.W.kitOne K (.ref C_BadStep) (.ref C_BadStep) = some true) :
    ∃ fd : FuncData, (∀ (s : Shared) (v : Value), BindsTo s fd ⟨[v], []⟩ [("script", v)]) ∧ ∀ base : Heap, K.In base → base.Ns mainGlobals mg → FnOk P w K mg base (L2.CX P w) 11 fa fd ["script"] (spD K mg 1 D_law) := by
  have e := hfa.symm.trans (PySem.W.mg_of X G a_law)
  cases e
  have F__law_number := fun_mk (st := s__law_number) l__law_number c__law_number k__law_number
  have b__law_number := F__law_number.binds (ps := ["script", "k"]) fun _ _ _ _ _ _ us hl => match us, hl with | [_, _], _ => rfl
  have F__law_draws := fun_mk (st := s__law_draws) l__law_draws c__law_draws k__law_draws
  have b__law_draws := F__law_draws.binds (ps := ["script", "k", "count", "many"]) fun _ _ _ _ _ _ us hl => match us, hl with | [_, _, _, _], _ => rfl
  have F__law_row := fun_mk (st := s__law_row) l__law_row c__law_row k__law_row
  have b__law_row := F__law_row.binds (ps := ["script", "k", "letters", "length", "names"]) fun _ _ _ _ _ _ us hl => match us, hl with | [_, _, _, _, _], _ => rfl
  have F__law_rows := fun_mk (st := s__law_rows) l__law_rows c__law_rows k__law_rows
  have b__law_rows := F__law_rows.binds (ps := ["letters", "length"]) fun _ _ _ _ _ _ us hl => match us, hl with | [_, _], _ => rfl
  have F__law_plain := fun_mk (st := s__law_plain) l__law_plain c__law_plain k__law_plain
  have b__law_plain := F__law_plain.binds (ps := ["row"]) fun _ _ _ _ _ _ us hl => match us, hl with | [_], _ => rfl
  have F__law_same := fun_mk (st := s__law_same) l__law_same c__law_same k__law_same
  have b__law_same := F__law_same.binds (ps := ["told", "due"]) fun _ _ _ _ _ _ us hl => match us, hl with | [_, _], _ => rfl
  have F_names_of := fun_mk (st := s_names_of) l_names_of c_names_of k_names_of
  have b_names_of := F_names_of.binds (ps := ["row"]) fun _ _ _ _ _ _ us hl => match us, hl with | [_], _ => rfl
  have F_renamed := fun_mk (st := s_renamed) l_renamed c_renamed k_renamed
  have b_renamed := F_renamed.binds (ps := ["row", "names"]) fun _ _ _ _ _ _ us hl => match us, hl with | [_, _], _ => rfl
  have F_plain_row := fun_mk (st := s_plain_row) l_plain_row c_plain_row k_plain_row
  have b_plain_row := F_plain_row.binds (ps := ["row"]) fun _ _ _ _ _ _ us hl => match us, hl with | [_], _ => rfl
  have F_are_alike := fun_mk (st := s_are_alike) l_are_alike c_are_alike k_are_alike
  have b_are_alike := F_are_alike.binds (ps := ["first", "second"]) fun _ _ _ _ _ _ us hl => match us, hl with | [_, _], _ => rfl
  have F_is_plain := fun_mk (st := s_is_plain) l_is_plain c_is_plain k_is_plain
  have b_is_plain := F_is_plain.binds (ps := ["row"]) fun _ _ _ _ _ _ us hl => match us, hl with | [_], _ => rfl
  have F_letters_of := fun_mk (st := s_letters_of) l_letters_of c_letters_of k_letters_of
  have b_letters_of := F_letters_of.binds (ps := ["row"]) fun _ _ _ _ _ _ us hl => match us, hl with | [_], _ => rfl
  have F_row_text := fun_mk (st := s_row_text) l_row_text c_row_text k_row_text
  have b_row_text := F_row_text.binds (ps := ["row"]) fun _ _ _ _ _ _ us hl => match us, hl with | [_], _ => rfl
  have F_read_step := fun_mk (st := s_read_step) l_read_step c_read_step k_read_step
  have b_read_step := F_read_step.binds (ps := ["k", "word"]) fun _ _ _ _ _ _ us hl => match us, hl with | [_, _], _ => rfl
  have F_read_row := fun_mk (st := s_read_row) l_read_row c_read_row k_read_row
  have b_read_row := F_read_row.binds (ps := ["k", "text"]) fun _ _ _ _ _ _ us hl => match us, hl with | [_, _], _ => rfl
  have F_read_line := fun_mk (st := s_read_line) l_read_line c_read_line k_read_line
  have b_read_line := F_read_line.binds (ps := ["k", "line", "index"]) fun _ _ _ _ _ _ us hl => match us, hl with | [_, _, _], _ => rfl
  have F_read_rows := fun_mk (st := s_read_rows) l_read_rows c_read_rows k_read_rows
  have b_read_rows := F_read_rows.binds (ps := ["k", "text"]) fun _ _ _ _ _ _ us hl => match us, hl with | [_, _], _ => rfl
  have F__law_told := fun_mk (st := s__law_told) l__law_told c__law_told k__law_told
  have b__law_told := F__law_told.binds (ps := ["which", "letters", "text"]) fun _ _ _ _ _ _ us hl => match us, hl with | [_, _, _], _ => rfl
  have F_part_of := fun_mk (st := s_part_of) l_part_of c_part_of k_part_of
  have b_part_of := F_part_of.binds (ps := ["row", "name"]) fun _ _ _ _ _ _ us hl => match us, hl with | [_, _], _ => rfl
  have F__law_judged := fun_mk (st := s__law_judged) l__law_judged c__law_judged k__law_judged
  have b__law_judged := F__law_judged.binds (ps := ["letters", "row", "other"]) fun _ _ _ _ _ _ us hl => match us, hl with | [_, _, _], _ => rfl
  have F_longer_rows := fun_mk (st := s_longer_rows) l_longer_rows c_longer_rows k_longer_rows
  have b_longer_rows := F_longer_rows.binds (ps := ["k", "row"]) fun _ _ _ _ _ _ us hl => match us, hl with | [_, _], _ => rfl
  have F__law_step := fun_mk (st := s__law_step) l__law_step c__law_step k__law_step
  have b__law_step := F__law_step.binds (ps := ["letters", "word"]) fun _ _ _ _ _ _ us hl => match us, hl with | [_, _], _ => rfl
  have F__law_read := fun_mk (st := s__law_read) l__law_read c__law_read k__law_read
  have b__law_read := F__law_read.binds (ps := ["letters", "text"]) fun _ _ _ _ _ _ us hl => match us, hl with | [_, _], _ => rfl
  have F_rows_text := fun_mk (st := s_rows_text) l_rows_text c_rows_text k_rows_text
  have b_rows_text := F_rows_text.binds (ps := ["rows"]) fun _ _ _ _ _ _ us hl => match us, hl with | [_], _ => rfl
  have F_plain_rows := fun_mk (st := s_plain_rows) l_plain_rows c_plain_rows k_plain_rows
  have b_plain_rows := F_plain_rows.binds (ps := ["k", "length"]) fun _ _ _ _ _ _ us hl => match us, hl with | [_, _], _ => rfl
  have F_law := fun_mk (st := s_law) l_law c_law k_law
  have b_law := F_law.binds (ps := ["script"]) fun _ _ _ _ _ _ us hl => match us, hl with | [_], _ => rfl
  have kk_BadLine := PySem.W.mg_of X G aC_BadLine
  have kk_BadStep := PySem.W.mg_of X G aC_BadStep
  have kk_RowError := PySem.W.mg_of X G aC_RowError
  have xc_BadLine : OexC K C_BadLine := ⟨⟨_, _, _, _, _, _, _, _, _, _, _, _, _, _, _, xL_BadLine, by first | rfl | (simp only [PySem.HandSPX.refsVE]; decide +kernel)⟩, sa_BadLine, eC_BadLine, tC_BadLine, kC_BadLine⟩
  have sc_BadLine : SupC P K C_BadLine "line" := ⟨xc_BadLine, nf_BadLine, ⟨I_BadLine, cc_BadLine, cda_BadLine, _, _, _, _, _, _, _, _, _, _, _, _, _, _, _, _, _, _, _, _, _, _, _, _, _, _, _, _, _, _, _, _, _, _, _, _, i1_BadLine, it_BadLine, il_BadLine, ic_BadLine, id_BadLine, iv_BadLine, if_BadLine, ie_BadLine, rfl, rfl, fun s a u => BindsTo.of_eq rfl, rfl, rfl, rfl, by decide +kernel, by decide +kernel, by decide +kernel, by decide +kernel, by decide +kernel, by decide +kernel, by decide +kernel, fun env => ⟨_, rfl⟩⟩, su_BadLine, va_BadLine, opq, nos, top⟩
  have xi_BadLine : IsxC K C_BadLine := ⟨by unfold PySem.W.clsIn; rw [xL_BadLine]; rfl, ga_BadLine, gg_BadLine, eC_BadLine, ca_BadLine, spc, tkc, mr_BadLine⟩
  have xc_BadStep : OexC K C_BadStep := ⟨⟨_, _, _, _, _, _, _, _, _, _, _, _, _, _, _, xL_BadStep, by first | rfl | (simp only [PySem.HandSPX.refsVE]; decide +kernel)⟩, sa_BadStep, eC_BadStep, tC_BadStep, kC_BadStep⟩
  have sc_BadStep : SupC P K C_BadStep "index" := ⟨xc_BadStep, nf_BadStep, ⟨I_BadStep, cc_BadStep, cda_BadStep, _, _, _, _, _, _, _, _, _, _, _, _, _, _, _, _, _, _, _, _, _, _, _, _, _, _, _, _, _, _, _, _, _, _, _, _, i1_BadStep, it_BadStep, il_BadStep, ic_BadStep, id_BadStep, iv_BadStep, if_BadStep, ie_BadStep, rfl, rfl, fun s a u => BindsTo.of_eq rfl, rfl, rfl, rfl, by decide +kernel, by decide +kernel, by decide +kernel, by decide +kernel, by decide +kernel, by decide +kernel, by decide +kernel, fun env => ⟨_, rfl⟩⟩, su_BadStep, va_BadStep, opq, nos, top⟩
  have xi_BadStep : IsxC K C_BadStep := ⟨by unfold PySem.W.clsIn; rw [xL_BadStep]; rfl, ga_BadStep, gg_BadStep, eC_BadStep, ca_BadStep, spc, tkc, mr_BadStep⟩
  have hv_RowError : ∀ nm b, hit_RowError nm = some b → ∀ C, mg nm = some (.ref C) → PySem.W.exmOne K (.ref C) (.ref C_RowError) = some b := fun nm b hb C hC => by
      unfold hit_RowError at hb
      split at hb
      · rename_i en; subst en; cases hb; rw [kk_BadLine] at hC; cases hC; exact PySem.W.exm_ref he_RowError hh_RowError ht_RowError hs_BadLine_RowError
      · split at hb
        · rename_i en; subst en; cases hb; rw [kk_BadStep] at hC; cases hC; exact PySem.W.exm_ref he_RowError hh_RowError ht_RowError hs_BadStep_RowError
        · cases hb
  have iv_isx_BadLine : ∀ nm b, isx_BadLine nm = some b → ∀ C, mg nm = some (.ref C) → IsxC K C ∧ PySem.W.kitOne K (.ref C) (.ref C_BadLine) = some b := fun nm b hb C hC => by
      unfold isx_BadLine at hb
      split at hb
      · rename_i en; subst en; cases hb; rw [kk_BadLine] at hC; cases hC; exact ⟨xi_BadLine, is_BadLine_BadLine⟩
      · split at hb
        · rename_i en; subst en; cases hb; rw [kk_BadStep] at hC; cases hC; exact ⟨xi_BadStep, is_BadStep_BadLine⟩
        · cases hb
  have iv_isx_BadStep : ∀ nm b, isx_BadStep nm = some b → ∀ C, mg nm = some (.ref C) → IsxC K C ∧ PySem.W.kitOne K (.ref C) (.ref C_BadStep) = some b := fun nm b hb C hC => by
      unfold isx_BadStep at hb
      split at hb
      · rename_i en; subst en; cases hb; rw [kk_BadLine] at hC; cases hC; exact ⟨xi_BadLine, is_BadLine_BadStep⟩
      · split at hb
        · rename_i en; subst en; cases hb; rw [kk_BadStep] at hC; cases hC; exact ⟨xi_BadStep, is_BadStep_BadStep⟩
        · cases hb
  have xv_index : ∀ nm ∈ xn_index, ∀ C, mg nm = some (.ref C) → XfC K C ∧ PySem.W.findIn K (.ref C) "index" = some none := fun nm hn C hC => by
      unfold xn_index at hn
      rcases List.mem_cons.mp hn with en | hn
      · subst en; rw [kk_BadStep] at hC; cases hC; exact ⟨⟨ga_BadStep, gg_BadStep, eC_BadStep, hd_BadStep⟩, nf_BadStep⟩
      cases hn
  have xv_line : ∀ nm ∈ xn_line, ∀ C, mg nm = some (.ref C) → XfC K C ∧ PySem.W.findIn K (.ref C) "line" = some none := fun nm hn C hC => by
      unfold xn_line at hn
      rcases List.mem_cons.mp hn with en | hn
      · subst en; rw [kk_BadLine] at hC; cases hC; exact ⟨⟨ga_BadLine, gg_BadLine, eC_BadLine, hd_BadLine⟩, nf_BadLine⟩
      cases hn
  have T : Txt P K mg ⟨f__law_number, _, f__law_draws, _, f__law_row, _, f__law_rows, _, f__law_plain, _, f__law_same, _, f_names_of, _, f_renamed, _, f_plain_row, _, f_are_alike, _, f_is_plain, _, f_letters_of, _, f_row_text, _, f_read_step, _, f_read_row, _, f_read_line, _, f_read_rows, _, f__law_told, _, f_part_of, _, f__law_judged, _, f_longer_rows, _, f__law_step, _, f__law_read, _, f_rows_text, _, f_plain_rows, _, fa, _, C_BadLine, C_BadStep, C_RowError⟩ := {
    b_abs := PySem.W.mg_none_of X G z_abs,
    b_bool := PySem.W.mg_none_of X G z_bool,
    b_dict := PySem.W.mg_none_of X G z_dict,
    b_int := PySem.W.mg_none_of X G z_int,
    b_isinstance := PySem.W.mg_none_of X G z_isinstance,
    b_len := PySem.W.mg_none_of X G z_len,
    b_list := PySem.W.mg_none_of X G z_list,
    b_range := PySem.W.mg_none_of X G z_range,
    b_sorted := PySem.W.mg_none_of X G z_sorted,
    b_str := PySem.W.mg_none_of X G z_str,
    b_sum := PySem.W.mg_none_of X G z_sum,
    b_tuple := PySem.W.mg_none_of X G z_tuple,
    c_LETTERS := ⟨_, PySem.W.mg_of X G g_LETTERS⟩,
    c_FIGURES := ⟨_, PySem.W.mg_of X G g_FIGURES⟩,
    c_MOST_FIGURES := ⟨_, PySem.W.mg_of X G g_MOST_FIGURES⟩,
    F__law_number := F__law_number,
    m__law_number := PySem.W.mg_of X G a__law_number,
    bi__law_number := b__law_number,
    F__law_draws := F__law_draws,
    m__law_draws := PySem.W.mg_of X G a__law_draws,
    bi__law_draws := b__law_draws,
    F__law_row := F__law_row,
    m__law_row := PySem.W.mg_of X G a__law_row,
    bi__law_row := b__law_row,
    F__law_rows := F__law_rows,
    m__law_rows := PySem.W.mg_of X G a__law_rows,
    bi__law_rows := b__law_rows,
    F__law_plain := F__law_plain,
    m__law_plain := PySem.W.mg_of X G a__law_plain,
    bi__law_plain := b__law_plain,
    F__law_same := F__law_same,
    m__law_same := PySem.W.mg_of X G a__law_same,
    bi__law_same := b__law_same,
    F_names_of := F_names_of,
    m_names_of := PySem.W.mg_of X G a_names_of,
    bi_names_of := b_names_of,
    F_renamed := F_renamed,
    m_renamed := PySem.W.mg_of X G a_renamed,
    bi_renamed := b_renamed,
    F_plain_row := F_plain_row,
    m_plain_row := PySem.W.mg_of X G a_plain_row,
    bi_plain_row := b_plain_row,
    F_are_alike := F_are_alike,
    m_are_alike := PySem.W.mg_of X G a_are_alike,
    bi_are_alike := b_are_alike,
    F_is_plain := F_is_plain,
    m_is_plain := PySem.W.mg_of X G a_is_plain,
    bi_is_plain := b_is_plain,
    F_letters_of := F_letters_of,
    m_letters_of := PySem.W.mg_of X G a_letters_of,
    bi_letters_of := b_letters_of,
    F_row_text := F_row_text,
    m_row_text := PySem.W.mg_of X G a_row_text,
    bi_row_text := b_row_text,
    F_read_step := F_read_step,
    m_read_step := PySem.W.mg_of X G a_read_step,
    bi_read_step := b_read_step,
    F_read_row := F_read_row,
    m_read_row := PySem.W.mg_of X G a_read_row,
    bi_read_row := b_read_row,
    F_read_line := F_read_line,
    m_read_line := PySem.W.mg_of X G a_read_line,
    bi_read_line := b_read_line,
    F_read_rows := F_read_rows,
    m_read_rows := PySem.W.mg_of X G a_read_rows,
    bi_read_rows := b_read_rows,
    F__law_told := F__law_told,
    m__law_told := PySem.W.mg_of X G a__law_told,
    bi__law_told := b__law_told,
    F_part_of := F_part_of,
    m_part_of := PySem.W.mg_of X G a_part_of,
    bi_part_of := b_part_of,
    F__law_judged := F__law_judged,
    m__law_judged := PySem.W.mg_of X G a__law_judged,
    bi__law_judged := b__law_judged,
    F_longer_rows := F_longer_rows,
    m_longer_rows := PySem.W.mg_of X G a_longer_rows,
    bi_longer_rows := b_longer_rows,
    F__law_step := F__law_step,
    m__law_step := PySem.W.mg_of X G a__law_step,
    bi__law_step := b__law_step,
    F__law_read := F__law_read,
    m__law_read := PySem.W.mg_of X G a__law_read,
    bi__law_read := b__law_read,
    F_rows_text := F_rows_text,
    m_rows_text := PySem.W.mg_of X G a_rows_text,
    bi_rows_text := b_rows_text,
    F_plain_rows := F_plain_rows,
    m_plain_rows := PySem.W.mg_of X G a_plain_rows,
    bi_plain_rows := b_plain_rows,
    F_law := F_law,
    m_law := PySem.W.mg_of X G a_law,
    bi_law := b_law,
    k_BadLine := kk_BadLine,
    k_BadStep := kk_BadStep,
    k_RowError := kk_RowError,
    s_BadLine := sc_BadLine,
    s_BadStep := sc_BadStep,
    hit_RowError := hv_RowError,
    isx_BadLine := iv_isx_BadLine,
    isx_BadStep := iv_isx_BadStep,
    xf_index := xv_index,
    xf_line := xv_line }
  exact ⟨PySem.W.fnOf "law" "law" (defArgs s_law) (defBody s_law) (defScope s_law) .none kV_law dc_law pm_law an_law cd_law ct_law, fun s v => .of_eq rfl, fun base _ _ => ok_law T⟩
theorem walk {l : PySem.W.OpenLaw} {q : Program} {loose : List Str} {XP : Mg → Heap → Prop} {YP : World → Heap → Prop} {d : DefRec} {K : Params → Fg} (hn : l.most = some 63) (hdf : d.params.defaults = [])
    (hY : ∀ (w : World) (h : Heap), YP w h → (K w.params).In h) (hlaw : ∀ ns : List Int, ns.length ≤ 63 → (∀ z ∈ ns, Builtin.Int.intBits z ≤ 1048576) → ∃ ext, D_law [.val (.list (ns.map PyData.int))] [] = some (.ok (.val (.bool true)), ext))
    (F : ∀ (w : World) (mg : Mg) (fa : Addr) (h : Heap), (K w.params).In h → h.Ns mainGlobals mg → mg d.name = some (.ref fa) →
      ∃ fd : FuncData, (∀ (s : Shared) (u : Value), BindsTo s fd ⟨[u], []⟩ [("script", u)]) ∧ ∀ base : Heap, (K w.params).In base → base.Ns mainGlobals mg → FnOk l.prog w (K w.params) mg base (L2.CX l.prog w) 11 fa fd ["script"] (spD (K w.params) mg 1 D_law)) :
    PySem.W.WalkO q loose XP YP l.row.toRowW d [] (fun f vs => PySem.call f vs) :=
  LamX.walk_ofTs (n := 63) (k := 11) (x := "script") (CX := fun w => L2.CX l.prog w) hn (by decide) hdf ⟨rfl, by decide, by decide⟩ hY
    (fun w mg fa h _ KX G hmg => by
      obtain ⟨fd, hb, hF⟩ := F w mg fa h KX G hmg
      exact ⟨fd, [], spD (K w.params) mg 1 D_law, (fun _ hp => nomatch hp), (fun _ hp => nomatch hp), (fun _ hp => nomatch hp), hb, fun H a ns hl hbits _ hS => sp_end (fun _ _ _ => trivial) hS (hlaw ns hl hbits), fun base h1 h2 _ => hF base h1 h2⟩)
    fun w H s e s' hcx => by
      obtain ⟨_, _, _, _, _, _, _, _, _, _, _, _, z⟩ := hcx
      exact z
end DY

open PySem PySem.W PyProof.Rows
set_option maxRecDepth 100000 in
set_option maxHeartbeats 0 in
theorem PySem.Challenge.cw_anynames_k00_rows_up_to_names_holds : PySem.Challenge.rw_anynames_k00_rows_up_to_names.Holds := by
  w_on; o_law; k_head; (case hw => w_witness2)
  k_fill
  refine DY.walk (l := PySem.Challenge.rw_anynames_k00_rows_up_to_names) rfl rfl (fun w h Y => PySem.W.kIn_of Y) DY.law_true ?F
  case F =>
    intro w mg fa h KX G hmg
    refine' DY.all_mk KX G hmg ?z_abs ?z_bool ?z_dict ?z_int ?z_isinstance ?z_len ?z_list ?z_range ?z_sorted ?z_str ?z_sum ?z_tuple ?g_LETTERS ?g_FIGURES ?g_MOST_FIGURES ?a__law_number ?l__law_number ?c__law_number ?k__law_number ?a__law_draws ?l__law_draws ?c__law_draws ?k__law_draws ?a__law_row ?l__law_row ?c__law_row ?k__law_row ?a__law_rows ?l__law_rows ?c__law_rows ?k__law_rows ?a__law_plain ?l__law_plain ?c__law_plain ?k__law_plain ?a__law_same ?l__law_same ?c__law_same ?k__law_same ?a_names_of ?l_names_of ?c_names_of ?k_names_of ?a_renamed ?l_renamed ?c_renamed ?k_renamed ?a_plain_row ?l_plain_row ?c_plain_row ?k_plain_row ?a_are_alike ?l_are_alike ?c_are_alike ?k_are_alike ?a_is_plain ?l_is_plain ?c_is_plain ?k_is_plain ?a_letters_of ?l_letters_of ?c_letters_of ?k_letters_of ?a_row_text ?l_row_text ?c_row_text ?k_row_text ?a_read_step ?l_read_step ?c_read_step ?k_read_step ?a_read_row ?l_read_row ?c_read_row ?k_read_row ?a_read_line ?l_read_line ?c_read_line ?k_read_line ?a_read_rows ?l_read_rows ?c_read_rows ?k_read_rows ?a__law_told ?l__law_told ?c__law_told ?k__law_told ?a_part_of ?l_part_of ?c_part_of ?k_part_of ?a__law_judged ?l__law_judged ?c__law_judged ?k__law_judged ?a_longer_rows ?l_longer_rows ?c_longer_rows ?k_longer_rows ?a__law_step ?l__law_step ?c__law_step ?k__law_step ?a__law_read ?l__law_read ?c__law_read ?k__law_read ?a_rows_text ?l_rows_text ?c_rows_text ?k_rows_text ?a_plain_rows ?l_plain_rows ?c_plain_rows ?k_plain_rows ?a_law ?l_law ?c_law ?k_law ?aC_BadLine ?aC_BadStep ?aC_RowError ?xL_BadLine ?sa_BadLine ?eC_BadLine ?tC_BadLine ?kC_BadLine ?nf_BadLine ?i1_BadLine ?it_BadLine ?il_BadLine ?ic_BadLine ?id_BadLine ?iv_BadLine ?if_BadLine ?ie_BadLine ?su_BadLine ?va_BadLine ?ga_BadLine ?gg_BadLine ?hd_BadLine ?ca_BadLine ?mr_BadLine ?xL_BadStep ?sa_BadStep ?eC_BadStep ?tC_BadStep ?kC_BadStep ?nf_BadStep ?i1_BadStep ?it_BadStep ?il_BadStep ?ic_BadStep ?id_BadStep ?iv_BadStep ?if_BadStep ?ie_BadStep ?su_BadStep ?va_BadStep ?ga_BadStep ?gg_BadStep ?hd_BadStep ?ca_BadStep ?mr_BadStep ?opq ?nos ?top ?spc ?tkc ?he_RowError ?hh_RowError ?ht_RowError ?hs_BadLine_RowError ?hs_BadStep_RowError ?is_BadLine_BadLine ?is_BadStep_BadLine ?is_BadLine_BadStep ?is_BadStep_BadStep
    (case z_abs => k_is); (case z_bool => k_is); (case z_dict => k_is); (case z_int => k_is); (case z_isinstance => k_is); (case z_len => k_is)
    (case z_list => k_is); (case z_range => k_is); (case z_sorted => k_is); (case z_str => k_is); (case z_sum => k_is); (case z_tuple => k_is)
    (case g_LETTERS => k_is); (case g_FIGURES => k_is); (case g_MOST_FIGURES => k_is); (case a__law_number => k_is); (case l__law_number => k_is); (case c__law_number => k_is)
    (case k__law_number => k_is); (case a__law_draws => k_is); (case l__law_draws => k_is); (case c__law_draws => k_is); (case k__law_draws => k_is); (case a__law_row => k_is)
    (case l__law_row => k_is); (case c__law_row => k_is); (case k__law_row => k_is); (case a__law_rows => k_is); (case l__law_rows => k_is); (case c__law_rows => k_is)
    (case k__law_rows => k_is); (case a__law_plain => k_is); (case l__law_plain => k_is); (case c__law_plain => k_is); (case k__law_plain => k_is); (case a__law_same => k_is)
    (case l__law_same => k_is); (case c__law_same => k_is); (case k__law_same => k_is); (case a_names_of => k_is); (case l_names_of => k_is); (case c_names_of => k_is)
    (case k_names_of => k_is); (case a_renamed => k_is); (case l_renamed => k_is); (case c_renamed => k_is); (case k_renamed => k_is); (case a_plain_row => k_is)
    (case l_plain_row => k_is); (case c_plain_row => k_is); (case k_plain_row => k_is); (case a_are_alike => k_is); (case l_are_alike => k_is); (case c_are_alike => k_is)
    (case k_are_alike => k_is); (case a_is_plain => k_is); (case l_is_plain => k_is); (case c_is_plain => k_is); (case k_is_plain => k_is); (case a_letters_of => k_is)
    (case l_letters_of => k_is); (case c_letters_of => k_is); (case k_letters_of => k_is); (case a_row_text => k_is); (case l_row_text => k_is); (case c_row_text => k_is)
    (case k_row_text => k_is); (case a_read_step => k_is); (case l_read_step => k_is); (case c_read_step => k_is); (case k_read_step => k_is); (case a_read_row => k_is)
    (case l_read_row => k_is); (case c_read_row => k_is); (case k_read_row => k_is); (case a_read_line => k_is); (case l_read_line => k_is); (case c_read_line => k_is)
    (case k_read_line => k_is); (case a_read_rows => k_is); (case l_read_rows => k_is); (case c_read_rows => k_is); (case k_read_rows => k_is); (case a__law_told => k_is)
    (case l__law_told => k_is); (case c__law_told => k_is); (case k__law_told => k_is); (case a_part_of => k_is); (case l_part_of => k_is); (case c_part_of => k_is)
    (case k_part_of => k_is); (case a__law_judged => k_is); (case l__law_judged => k_is); (case c__law_judged => k_is); (case k__law_judged => k_is); (case a_longer_rows => k_is)
    (case l_longer_rows => k_is); (case c_longer_rows => k_is); (case k_longer_rows => k_is); (case a__law_step => k_is); (case l__law_step => k_is); (case c__law_step => k_is)
    (case k__law_step => k_is); (case a__law_read => k_is); (case l__law_read => k_is); (case c__law_read => k_is); (case k__law_read => k_is); (case a_rows_text => k_is)
    (case l_rows_text => k_is); (case c_rows_text => k_is); (case k_rows_text => k_is); (case a_plain_rows => k_is); (case l_plain_rows => k_is); (case c_plain_rows => k_is)
    (case k_plain_rows => k_is); (case a_law => k_is); (case l_law => k_is); (case c_law => k_is); (case k_law => k_is); (case aC_BadLine => k_is)
    (case aC_BadStep => k_is); (case aC_RowError => k_is); (case xL_BadLine => k_is); (case sa_BadLine => k_is); (case eC_BadLine => k_is); (case tC_BadLine => k_is)
    (case kC_BadLine => k_is); (case nf_BadLine => k_is); (case i1_BadLine => k_is); (case it_BadLine => k_is); (case il_BadLine => k_is); (case ic_BadLine => k_is)
    (case id_BadLine => k_is); (case iv_BadLine => rfl); (case if_BadLine => first | rfl | decide +kernel); (case ie_BadLine => k_is); (case su_BadLine => first | ks_is | k_is | rfl); (case va_BadLine => k_is)
    (case ga_BadLine => k_is); (case gg_BadLine => k_is); (case hd_BadLine => k_is); (case ca_BadLine => k_is); (case mr_BadLine => k_is); (case xL_BadStep => k_is)
    (case sa_BadStep => k_is); (case eC_BadStep => k_is); (case tC_BadStep => k_is); (case kC_BadStep => k_is); (case nf_BadStep => k_is); (case i1_BadStep => k_is)
    (case it_BadStep => k_is); (case il_BadStep => k_is); (case ic_BadStep => k_is); (case id_BadStep => k_is); (case iv_BadStep => rfl); (case if_BadStep => first | rfl | decide +kernel)
    (case ie_BadStep => k_is); (case su_BadStep => first | ks_is | k_is | rfl); (case va_BadStep => k_is); (case ga_BadStep => k_is); (case gg_BadStep => k_is); (case hd_BadStep => k_is)
    (case ca_BadStep => k_is); (case mr_BadStep => k_is); (case opq => k_is); (case nos => k_is); (case top => first | rfl | decide +kernel); (case spc => k_is)
    (case tkc => k_is); (case he_RowError => k_is); (case hh_RowError => k_is); (case ht_RowError => k_is); (case hs_BadLine_RowError => k_is); (case hs_BadStep_RowError => k_is)
    (case is_BadLine_BadLine => first | k_is | kit_is | rfl); (case is_BadStep_BadLine => first | k_is | kit_is | rfl); (case is_BadLine_BadStep => first | k_is | kit_is | rfl); (case is_BadStep_BadStep => first | k_is | kit_is | rfl)
#print axioms PySem.Challenge.cw_anynames_k00_rows_up_to_names_holds

