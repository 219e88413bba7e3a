import PyProof.Rows.All
import Wide.All
import OpenK.AllK
import Wide.FinOn
import HandS.ForMost
import HandS.TupAny
import HandS.IsInst
import HandS.SortInts
import HandS.SortRule
import HandS.Deep
import HandS.More
import HandS.Small
import PySem.Challenge.RW_shorthold_k22_fronts_and_their_ranges
set_option Elab.async false
set_option linter.all false
set_option maxRecDepth 100000
/-! ML1: data trees over HandS: frozen data, owned containers, environments, one step of the heap. -/
namespace ML
open PySem L2

abbrev D := PyData
def isD : HO → Prop
  | .dK _ => True
  | .dT _ => True
  | _ => False
/-- all that stands in F stands in F' -/
def Ext (F F' : Hp) : Prop := ∀ a o, F a = some o → F' a = some o
/-- all that stands in F stands in H, a dict perhaps locked -/
def Sub (F H : Hp) : Prop := ∀ a o, F a = some o → H a = some o ∨ (isD o ∧ ∃ od, H a = some (.frz od o))
theorem Ext.refl (F : Hp) : Ext F F := fun _ _ h => h
theorem Ext.trans {F G H : Hp} (a : Ext F G) (b : Ext G H) : Ext F H := fun x o h => b x o (a x o h)
theorem Sub.of {F H : Hp} (h : Ext F H) : Sub F H := fun a o e => .inl (h a o e)
theorem Sub.refl (F : Hp) : Sub F F := Sub.of (Ext.refl F)
theorem Ext.sub {F G H : Hp} (a : Ext F G) (b : Sub G H) : Sub F H := fun x o h => b x o (a x o h)
theorem Sub.ext {F G H : Hp} (a : Sub F G) (b : Ext G H) : Sub F H := fun x o h => (a x o h).elim (fun z => .inl (b x o z)) fun ⟨d, od, z⟩ => .inr ⟨d, od, b x _ z⟩
theorem Sub.rd {F H : Hp} {a : Addr} {o : HO} (h : Sub F H) (e : F a = some o) : Rd H a o := (h a o e).elim .inl fun ⟨_, od, z⟩ => .inr ⟨od, z⟩
theorem Sub.some {F H : Hp} {a : Addr} {o : HO} (h : Sub F H) (e : F a = some o) : ∃ o', H a = Option.some o' := (h a o e).elim (fun z => ⟨_, z⟩) fun ⟨_, _, z⟩ => ⟨_, z⟩
theorem Sub.lst {F H : Hp} {a : Addr} {xs : List V} (h : Sub F H) (e : F a = Option.some (.lst xs)) : H a = Option.some (.lst xs) := (h a _ e).elim id fun ⟨d, _⟩ => d.elim
theorem Sub.tup {F H : Hp} {a : Addr} {xs : List V} (h : Sub F H) (e : F a = Option.some (.tup xs)) : H a = Option.some (.tup xs) := (h a _ e).elim id fun ⟨d, _⟩ => d.elim

/-- a key as data -/
def kD : Key → D
  | .inl i => .int i
  | .inr x => .str x

mutual
/-- frozen data -/
inductive Fz (F : Hp) : V → D → Prop
  | non : Fz F .non .none
  | bl (b : Bool) : Fz F (.bl b) (.bool b)
  | int (i : Int) : Fz F (.int i) (.int i)
  | str (x : Str) : Fz F (.str x) (.str x)
  | lst {a : Addr} {xs : List V} {ds : List D} : F a = some (.lst xs) → FzL F xs ds → Fz F (.ref a) (.list ds)
  | tup {a : Addr} {xs : List V} {ds : List D} : F a = some (.tup xs) → FzL F xs ds → Fz F (.ref a) (.tuple ds)
  | dK {a : Addr} {kvs : List (Key × V)} {ds : List (D × D)} : F a = some (.dK kvs) → FzK F kvs ds → Fz F (.ref a) (.dict ds)
inductive FzL (F : Hp) : List V → List D → Prop
  | nil : FzL F [] []
  | cons {v : V} {vs : List V} {d : D} {ds : List D} : Fz F v d → FzL F vs ds → FzL F (v :: vs) (d :: ds)
inductive FzK (F : Hp) : List (Key × V) → List (D × D) → Prop
  | nil : FzK F [] []
  | cons {k : Key} {v : V} {vs : List (Key × V)} {d : D} {ds : List (D × D)} : Fz F v d → FzK F vs ds → FzK F ((k, v) :: vs) ((kD k, d) :: ds)
inductive FzT (F : Hp) : List (List Key × V) → List (D × D) → Prop
  | nil : FzT F [] []
  | cons {k : List Key} {v : V} {vs : List (List Key × V)} {d : D} {ds : List (D × D)} : Fz F v d → FzT F vs ds → FzT F ((k, v) :: vs) ((.tuple (k.map kD), d) :: ds)
end
section
variable {F F' : Hp}
mutual
theorem Fz.mono (e : Ext F F') : ∀ {v : V} {d : D}, Fz F v d → Fz F' v d
  | _, _, .non => .non
  | _, _, .bl b => .bl b
  | _, _, .int i => .int i
  | _, _, .str x => .str x
  | _, _, .lst h r => .lst (e _ _ h) (FzL.mono e r)
  | _, _, .tup h r => .tup (e _ _ h) (FzL.mono e r)
  | _, _, .dK h r => .dK (e _ _ h) (FzK.mono e r)
theorem FzL.mono (e : Ext F F') : ∀ {vs : List V} {ds : List D}, FzL F vs ds → FzL F' vs ds
  | _, _, .nil => .nil
  | _, _, .cons h r => .cons (Fz.mono e h) (FzL.mono e r)
theorem FzK.mono (e : Ext F F') : ∀ {vs : List (Key × V)} {ds : List (D × D)}, FzK F vs ds → FzK F' vs ds
  | _, _, .nil => .nil
  | _, _, .cons h r => .cons (Fz.mono e h) (FzK.mono e r)
theorem FzT.mono (e : Ext F F') : ∀ {vs : List (List Key × V)} {ds : List (D × D)}, FzT F vs ds → FzT F' vs ds
  | _, _, .nil => .nil
  | _, _, .cons h r => .cons (Fz.mono e h) (FzT.mono e r)
end
theorem FzL.length : ∀ {vs : List V} {ds : List D}, FzL F vs ds → vs.length = ds.length
  | _, _, .nil => rfl
  | _, _, .cons _ r => by rw [List.length_cons, List.length_cons, FzL.length r]
theorem FzK.length : ∀ {vs : List (Key × V)} {ds : List (D × D)}, FzK F vs ds → vs.length = ds.length
  | _, _, .nil => rfl
  | _, _, .cons _ r => by rw [List.length_cons, List.length_cons, FzK.length r]
theorem FzT.length : ∀ {vs : List (List Key × V)} {ds : List (D × D)}, FzT F vs ds → vs.length = ds.length
  | _, _, .nil => rfl
  | _, _, .cons _ r => by rw [List.length_cons, List.length_cons, FzT.length r]
theorem FzL.get : ∀ {vs : List V} {ds : List D} {i : Nat} {d : D}, FzL F vs ds → ds[i]? = some d → ∃ v, vs[i]? = some v ∧ Fz F v d
  | _, _, _, _, .nil, e => by simp at e
  | _, _, 0, _, .cons h _, e => by simp at e; subst e; exact ⟨_, rfl, h⟩
  | _, _, i + 1, _, .cons _ r, e => by
    obtain ⟨v, h1, h2⟩ := FzL.get (i := i) r (by simpa using e)
    exact ⟨v, by simpa using h1, h2⟩
theorem FzL.get' : ∀ {vs : List V} {ds : List D} {i : Nat} {v : V}, FzL F vs ds → vs[i]? = some v → ∃ d, ds[i]? = some d ∧ Fz F v d
  | _, _, _, _, .nil, e => by simp at e
  | _, _, 0, _, .cons h _, e => by simp at e; subst e; exact ⟨_, rfl, h⟩
  | _, _, i + 1, _, .cons _ r, e => by
    obtain ⟨v, h1, h2⟩ := FzL.get' (i := i) r (by simpa using e)
    exact ⟨v, by simpa using h1, h2⟩
theorem FzL.append : ∀ {vs us : List V} {ds es : List D}, FzL F vs ds → FzL F us es → FzL F (vs ++ us) (ds ++ es)
  | _, _, _, _, .nil, s => s
  | _, _, _, _, .cons h r, s => .cons h (FzL.append r s)
theorem FzL.set {v : V} {d : D} (h : Fz F v d) : ∀ {vs : List V} {ds : List D} (i : Nat), FzL F vs ds → FzL F (vs.set i v) (ds.set i d)
  | _, _, _, .nil => .nil
  | _, _, 0, .cons _ r => .cons h r
  | _, _, i + 1, .cons q r => .cons q (FzL.set h i r)
theorem FzL.take : ∀ {vs : List V} {ds : List D} (n : Nat), FzL F vs ds → FzL F (vs.take n) (ds.take n)
  | _, _, 0, _ => .nil
  | _, _, _ + 1, .nil => .nil
  | _, _, n + 1, .cons h r => .cons h (FzL.take n r)
theorem FzL.drop : ∀ {vs : List V} {ds : List D} (n : Nat), FzL F vs ds → FzL F (vs.drop n) (ds.drop n)
  | _, _, 0, r => r
  | _, _, _ + 1, .nil => .nil
  | _, _, n + 1, .cons _ r => FzL.drop n r
theorem FzL.one {v : V} {d : D} (h : Fz F v d) : FzL F [v] [d] := .cons h .nil
theorem FzL.ints : ∀ (ns : List Int), FzL F (ns.map V.int) (ns.map PyData.int)
  | [] => .nil
  | n :: ns => .cons (.int n) (FzL.ints ns)
theorem FzL.strs : ∀ (ns : List Str), FzL F (ns.map V.str) (ns.map PyData.str)
  | [] => .nil
  | n :: ns => .cons (.str n) (FzL.strs ns)
theorem FzL.ints_inv : ∀ {vs : List V} (ns : List Int), FzL F vs (ns.map PyData.int) → vs = ns.map V.int
  | _, [], .nil => rfl
  | _, n :: ns, .cons h r => by cases h; rw [FzL.ints_inv ns r]; rfl
theorem FzL.bools_inv : ∀ {vs : List V} (ns : List Bool), FzL F vs (ns.map PyData.bool) → vs = ns.map V.bl
  | _, [], .nil => rfl
  | _, n :: ns, .cons h r => by cases h; rw [FzL.bools_inv ns r]; rfl
theorem FzL.strs_inv : ∀ {vs : List V} (ns : List Str), FzL F vs (ns.map PyData.str) → vs = ns.map V.str
  | _, [], .nil => rfl
  | _, n :: ns, .cons h r => by cases h; rw [FzL.strs_inv ns r]; rfl
end

/-- what a name holds: frozen data, a list or a dict of its own (int and text keys; tuple keys), a locked dict, the script -/
inductive M where
  | v (d : D)
  | own (d : D)
  | ownT (d : D)
  | lk (o : HO) (d : D)
  | lkF (o : HO) (d : D)
  | scr (ns : List Int)

inductive Own (K : PySem.W.Frag) (F H : Hp) : V → M → List Addr → Prop
  | v {x : V} {d : D} : Fz F x d → Own K F H x (.v d) []
  | lst {a : Addr} {xs : List V} {ds : List D} : H a = some (.lst xs) → F a = none → FzL F xs ds → Own K F H (.ref a) (.own (.list ds)) [a]
  | dK {a : Addr} {kvs : List (Key × V)} {ds : List (D × D)} : H a = some (.dK kvs) → F a = none → FzK F kvs ds → Own K F H (.ref a) (.own (.dict ds)) [a]
  | dT {a : Addr} {kvs : List (List Key × V)} {ds : List (D × D)} : H a = some (.dT kvs) → F a = none → FzT F kvs ds → Own K F H (.ref a) (.ownT (.dict ds)) [a]
  | lk {a : Addr} {od : Obj} {kvs : List (Key × V)} {ds : List (D × D)} : H a = some (.frz od (.dK kvs)) → F a = none → FzK F kvs ds → Own K F H (.ref a) (.lk (.frz od (.dK kvs)) (.dict ds)) [a]
  | lkF {a : Addr} {od : Obj} {kvs : List (Key × V)} {ds : List (D × D)} : H a = some (.frz od (.dK kvs)) → F a = some (.dK kvs) → FzK F kvs ds → Own K F H (.ref a) (.lkF (.frz od (.dK kvs)) (.dict ds)) [a]
  | scr {a : Addr} {ns : List Int} : SqL K F a (ns.map V.int) → Own K F H (.ref a) (.scr ns) []

theorem sqL_ext {K : PySem.W.Frag} {F F' : Hp} {a : Addr} {xs : List V} (e : Ext F F') (h : SqL K F a xs) : SqL K F' a xs := Same.seq e h

section
variable {K : PySem.W.Frag} {F F' H H' : Hp} {x : V} {m : M} {A : List Addr}
theorem Own.dom (h : Own K F H x m A) : ∀ a ∈ A, ∃ o, H a = some o := by
  intro a ha
  cases h with
  | v h => simp at ha
  | lst h n r => simp at ha; subst ha; exact ⟨_, h⟩
  | dK h n r => simp at ha; subst ha; exact ⟨_, h⟩
  | dT h n r => simp at ha; subst ha; exact ⟨_, h⟩
  | lk h n r => simp at ha; subst ha; exact ⟨_, h⟩
  | lkF h n r => simp at ha; subst ha; exact ⟨_, h⟩
  | scr h => simp at ha
theorem Own.frame (h : Own K F H x m A) (e : Ext F F') (k : ∀ a ∈ A, H' a = H a ∧ F' a = F a) : Own K F' H' x m A := by
  cases h with
  | v h => exact .v (h.mono e)
  | lst h n r => exact .lst (((k _ (by simp)).1).trans h) (((k _ (by simp)).2).trans n) (r.mono e)
  | dK h n r => exact .dK (((k _ (by simp)).1).trans h) (((k _ (by simp)).2).trans n) (r.mono e)
  | dT h n r => exact .dT (((k _ (by simp)).1).trans h) (((k _ (by simp)).2).trans n) (r.mono e)
  | lk h n r => exact .lk (((k _ (by simp)).1).trans h) (((k _ (by simp)).2).trans n) (r.mono e)
  | lkF h n r => exact .lkF (((k _ (by simp)).1).trans h) (((k _ (by simp)).2).trans n) (r.mono e)
  | scr h => exact .scr (sqL_ext e h)
end

/-- one step: from frozen F, heap H, owned A to F', H', A' -/
structure Stp (F H : Hp) (A : List Addr) (F' H' : Hp) (A' : List Addr) : Prop where
  fz : Ext F F'
  keep : ∀ a o, H a = some o → a ∉ A → H' a = some o
  keepF : ∀ a o, H a = some o → a ∉ A → F' a = F a
  new : ∀ a ∈ A', a ∈ A ∨ H a = none
section
variable {F H F1 H1 F2 H2 : Hp} {A A1 A2 B : List Addr}
theorem Stp.refl : Stp F H A F H A := ⟨Ext.refl F, fun _ _ h _ => h, fun _ _ _ _ => rfl, fun _ h => .inl h⟩
theorem Stp.trans (s : Stp F H A F1 H1 A1) (t : Stp F1 H1 A1 F2 H2 A2) : Stp F H A F2 H2 A2 := by
  have no : ∀ a o, H a = some o → a ∉ A → a ∉ A1 := fun a o e n z => (s.new a z).elim n fun q => by rw [e] at q; cases q
  refine ⟨s.fz.trans t.fz, fun a o e n => t.keep a o (s.keep a o e n) (no a o e n), fun a o e n => ?_, fun a z => ?_⟩
  · rw [t.keepF a o (s.keep a o e n) (no a o e n), s.keepF a o e n]
  · rcases t.new a z with z | z
    · exact s.new a z
    · by_cases n : a ∈ A
      · exact .inl n
      · refine .inr ?_
        cases q : H a with
        | none => rfl
        | some o => rw [s.keep a o q n] at z; cases z
/-- fewer owned behind, more ahead -/
theorem Stp.weak (s : Stp F H A F1 H1 A1) (h : ∀ a ∈ A, a ∈ B) (h2 : ∀ a ∈ A2, a ∈ A1) : Stp F H B F1 H1 A2 :=
  ⟨s.fz, fun a o e n => s.keep a o e fun z => n (h a z), fun a o e n => s.keepF a o e fun z => n (h a z), fun a z => (s.new a (h2 a z)).elim (fun q => .inl (h a q)) .inr⟩
theorem Stp.less (s : Stp F H A F1 H1 A1) (h2 : ∀ a ∈ A2, a ∈ A1) : Stp F H A F1 H1 A2 := s.weak (fun _ z => z) h2
/-- what is held beside it -/
theorem Stp.side (s : Stp F H A F1 H1 A1) : Stp F H (A ++ B) F1 H1 (A1 ++ B) :=
  ⟨s.fz, fun a o e n => s.keep a o e fun z => n (List.mem_append_left _ z), fun a o e n => s.keepF a o e fun z => n (List.mem_append_left _ z),
    fun a z => (List.mem_append.mp z).elim (fun q => (s.new a q).elim (fun q => .inl (List.mem_append_left _ q)) .inr) fun q => .inl (List.mem_append_right _ q)⟩
theorem Stp.nd (s : Stp F H A F1 H1 A1) (n : (A ++ B).Nodup) (n1 : A1.Nodup) (hB : ∀ b ∈ B, ∃ o, H b = some o) : (A1 ++ B).Nodup := by
  rw [List.nodup_append] at n ⊢
  refine ⟨n1, n.2.1, fun a ha b hb e => ?_⟩
  subst e
  rcases s.new a ha with z | z
  · exact n.2.2 a z a hb rfl
  · obtain ⟨o, q⟩ := hB a hb
    rw [q] at z; cases z
theorem Stp.own {K : PySem.W.Frag} {x : V} {m : M} (s : Stp F H A F1 H1 A1) (h : Own K F H x m B) (n : (A ++ B).Nodup) : Own K F1 H1 x m B := by
  refine h.frame s.fz fun b hb => ?_
  obtain ⟨o, q⟩ := h.dom b hb
  have nA : b ∉ A := fun z => (List.nodup_append.mp n).2.2 b z b hb rfl
  exact ⟨by rw [q]; exact s.keep b o q nA, s.keepF b o q nA⟩
end

/-! ### environments -/
abbrev Env := List (Option M)
inductive Slots (K : PySem.W.Frag) (F H : Hp) : L2.St → Env → List Addr → Prop
  | nil : Slots K F H [] [] []
  | skip {o : Option V} {σ : L2.St} {env : Env} {A : List Addr} : Slots K F H σ env A → Slots K F H (o :: σ) (none :: env) A
  | cons {v : V} {m : M} {σ : L2.St} {env : Env} {A B : List Addr} : Own K F H v m B → Slots K F H σ env A → Slots K F H (some v :: σ) (some m :: env) (B ++ A)
section
variable {K : PySem.W.Frag} {F H F' H' : Hp} {σ : L2.St} {env : Env} {A B : List Addr} {v : V} {m : M}
theorem Slots.dom (h : Slots K F H σ env A) : ∀ a ∈ A, ∃ o, H a = some o := by
  induction h with
  | nil => intro a ha; simp at ha
  | skip _ ih => exact ih
  | cons o _ ih => intro a ha; exact (List.mem_append.mp ha).elim (o.dom a) (ih a)
theorem Slots.frame (h : Slots K F H σ env A) (e : Ext F F') (k : ∀ a ∈ A, H' a = H a ∧ F' a = F a) : Slots K F' H' σ env A := by
  induction h with
  | nil => exact .nil
  | skip _ ih => exact .skip (ih k)
  | cons o _ ih => exact .cons (o.frame e fun a ha => k a (List.mem_append_left _ ha)) (ih fun a ha => k a (List.mem_append_right _ ha))
theorem Slots.len (h : Slots K F H σ env A) : σ.length = env.length := by
  induction h with
  | nil => rfl
  | skip _ ih => rw [List.length_cons, List.length_cons, ih]
  | cons _ _ ih => rw [List.length_cons, List.length_cons, ih]
/-- the thing at slot i, the rest with the slot emptied -/
theorem Slots.get (h : Slots K F H σ env A) : ∀ {i : Nat} {m : M}, env[i]? = some (some m) → ∃ v B R, σ[i]? = some (some v) ∧ Own K F H v m B ∧ Slots K F H σ (env.set i none) R ∧ A.Perm (B ++ R) := by
  induction h with
  | nil => intro i m e; simp at e
  | @skip o σ env A h ih =>
    intro i m e
    cases i with
    | zero => simp at e
    | succ i =>
      obtain ⟨v, B, R, h1, h2, h3, h4⟩ := ih (i := i) (by simpa using e)
      exact ⟨v, B, R, by simpa using h1, h2, .skip h3, h4⟩
  | @cons v m σ env A B o h ih =>
    intro i m' e
    cases i with
    | zero =>
      simp at e; subst e
      exact ⟨v, B, A, rfl, o, .skip h, List.Perm.refl _⟩
    | succ i =>
      obtain ⟨v', B', R, h1, h2, h3, h4⟩ := ih (i := i) (by simpa using e)
      refine ⟨v', B', B ++ R, by simpa using h1, h2, .cons o h3, ?_⟩
      refine (List.Perm.append_left B h4).trans ?_
      rw [← List.append_assoc, ← List.append_assoc]
      exact List.Perm.append_right R List.perm_append_comm
/-- a slot stored -/
theorem Slots.put (h : Slots K F H σ env A) : ∀ {i : Nat} {v : V} {m : M} {B : List Addr}, i < σ.length → Own K F H v m B → ∃ R, Slots K F H (σ.set i (some v)) (env.set i (some m)) (R) ∧ (∀ a ∈ R, a ∈ A ∨ a ∈ B) ∧ ((A ++ B).Nodup → R.Nodup) := by
  induction h with
  | nil => intro i v m B hi; simp at hi
  | @skip o σ env A h ih =>
    intro i v m B hi ho
    cases i with
    | zero => exact ⟨B ++ A, .cons ho h, fun a ha => (List.mem_append.mp ha).elim .inr .inl, fun n => (List.perm_append_comm.nodup_iff).mp n⟩
    | succ i =>
      obtain ⟨R, h1, h2, h3⟩ := ih (i := i) (v := v) (m := m) (by simpa using hi) ho
      exact ⟨R, .skip h1, h2, h3⟩
  | @cons v0 m0 σ env A B0 o h ih =>
    intro i v m B hi ho
    cases i with
    | zero =>
      refine ⟨B ++ A, .cons ho h, fun a ha => (List.mem_append.mp ha).elim .inr fun z => .inl (List.mem_append_right _ z), fun n => ?_⟩
      rw [List.append_assoc] at n
      exact (List.perm_append_comm.nodup_iff).mp (List.nodup_append.mp n).2.1
    | succ i =>
      obtain ⟨R, h1, h2, h3⟩ := ih (i := i) (v := v) (m := m) (by simpa using hi) ho
      refine ⟨B0 ++ R, .cons o h1, fun a ha => (List.mem_append.mp ha).elim (fun z => .inl (List.mem_append_left _ z)) fun z => (h2 a z).elim (fun q => .inl (List.mem_append_right _ q)) .inr, fun n => ?_⟩
      rw [List.append_assoc, List.nodup_append] at n
      rw [List.nodup_append]
      refine ⟨n.1, h3 n.2.1, fun a ha b hb e => n.2.2 a ha b ?_ e⟩
      exact (h2 b hb).elim (fun z => List.mem_append_left _ z) fun z => List.mem_append_right _ z
/-- a slot forgotten -/
theorem Slots.drop (h : Slots K F H σ env A) (o : Option V) : ∀ (i : Nat), ∃ R, Slots K F H (σ.set i o) (env.set i none) R ∧ List.Sublist R A := by
  induction h with
  | nil => intro i; exact ⟨[], .nil, List.Sublist.refl _⟩
  | @skip o' σ env A h ih =>
    intro i
    cases i with
    | zero => exact ⟨A, .skip h, List.Sublist.refl _⟩
    | succ i =>
      obtain ⟨R, h1, h2⟩ := ih i
      exact ⟨R, .skip h1, h2⟩
  | @cons v m σ env A B ow h ih =>
    intro i
    cases i with
    | zero => exact ⟨A, .skip h, List.sublist_append_right _ _⟩
    | succ i =>
      obtain ⟨R, h1, h2⟩ := ih i
      exact ⟨B ++ R, .cons ow h1, List.Sublist.append (List.Sublist.refl _) h2⟩
theorem Slots.forget (h : Slots K F H σ env A) (i : Nat) : ∃ R, Slots K F H σ (env.set i none) R ∧ List.Sublist R A := by
  induction h generalizing i with
  | nil => exact ⟨[], .nil, List.Sublist.refl _⟩
  | @skip o' σ env A h ih =>
    cases i with
    | zero => exact ⟨A, .skip h, List.Sublist.refl _⟩
    | succ i =>
      obtain ⟨R, h1, h2⟩ := ih i
      exact ⟨R, .skip h1, h2⟩
  | @cons v m σ env A B ow h ih =>
    cases i with
    | zero => exact ⟨A, .skip h, List.sublist_append_right _ _⟩
    | succ i =>
      obtain ⟨R, h1, h2⟩ := ih i
      exact ⟨B ++ R, .cons ow h1, List.Sublist.append (List.Sublist.refl _) h2⟩
end
/-- the whole state of a def's body -/
structure Ste (K : PySem.W.Frag) (F H : Hp) (σ : L2.St) (env : Env) (A : List Addr) : Prop where
  sub : Sub F H
  sl : Slots K F H σ env A
  nd : A.Nodup
end ML
/-! ML2: what an expression's reading gives over environments of data. -/
namespace ML
open PySem L2

/-- an expression's value: data (perhaps its own), or the thing that a slot holds -/
inductive X where
  | val (m : M)
  | slot (i : Nat)

inductive RepX (K : PySem.W.Frag) (F H : Hp) (σ : L2.St) : V → X → List Addr → Prop
  | val {v : V} {m : M} {B : List Addr} : Own K F H v m B → RepX K F H σ v (.val m) B
  | slot {v : V} {i : Nat} : σ[i]? = some (some v) → RepX K F H σ v (.slot i) []

abbrev AE := Env → (X → Env → Prop) → Prop
abbrev AT := Env → (Bool → Env → Prop) → Prop
abbrev AA := Env → (List X → Env → Prop) → Prop

section
variable {K : PySem.W.Frag} {F H F' H' F1 H1 : Hp} {σ : L2.St} {env env' : Env} {A A' A1 B B' : List Addr} {v : V} {x : X} {m : M} {d : D}
theorem RepX.dom (h : RepX K F H σ v x B) : ∀ b ∈ B, ∃ o, H b = some o := by
  cases h with
  | val h => exact h.dom
  | slot e => intro b hb; simp at hb
theorem RepX.keep (h : RepX K F H σ v x B) (s : Stp F H A F1 H1 A1) (n : (A ++ B).Nodup) : RepX K F1 H1 σ v x B := by
  cases h with
  | val h => exact .val (s.own h n)
  | slot e => exact .slot e
theorem Ste.after (S : Ste K F H σ env A) (s : Stp F H [] F1 H1 B) (sub : Sub F1 H1) : Ste K F1 H1 σ env A :=
  ⟨sub, S.sl.frame s.fz fun a ha => by
    obtain ⟨o, e⟩ := S.sl.dom a ha
    exact ⟨by rw [e]; exact s.keep a o e (by simp), s.keepF a o e (by simp)⟩, S.nd⟩
end

structure Aft (K : PySem.W.Frag) (F H : Hp) (A : List Addr) (σ : L2.St) (F' H' : Hp) (env' : Env) (A' : List Addr) (v : V) (x : X) (B : List Addr) : Prop where
  ste : Ste K F' H' σ env' A'
  rep : RepX K F' H' σ v x B
  nd : (A' ++ B).Nodup
  stp : Stp F H A F' H' (A' ++ B)

def Snd (K : PySem.W.Frag) (te : TE) (ae : AE) : Prop := ∀ (F H : Hp) (σ : L2.St) (env : Env) (A : List Addr), Ste K F H σ env A → ∀ Qa : X → Env → Prop, ae env Qa → ∀ Q : VK,
  (∀ F' H' env' A' v x B, Qa x env' → Aft K F H A σ F' H' env' A' v x B → Q v H') → te σ H Q
def SndT (K : PySem.W.Frag) (tt : TT) (at_ : AT) : Prop := ∀ (F H : Hp) (σ : L2.St) (env : Env) (A : List Addr), Ste K F H σ env A → ∀ Qa : Bool → Env → Prop, at_ env Qa → ∀ Q : Bool → Hp → Prop,
  (∀ F' H' env' A' b, Qa b env' → Ste K F' H' σ env' A' → Stp F H A F' H' A' → Q b H') → tt σ H Q

/-- values one by one, their things apart -/
inductive RepXs (K : PySem.W.Frag) (F H : Hp) (σ : L2.St) : List V → List X → List Addr → Prop
  | nil : RepXs K F H σ [] [] []
  | cons {v : V} {x : X} {vs : List V} {xs : List X} {B C : List Addr} : RepX K F H σ v x B → RepXs K F H σ vs xs C → RepXs K F H σ (v :: vs) (x :: xs) (B ++ C)
theorem RepXs.dom {K : PySem.W.Frag} {F H : Hp} {σ : L2.St} {vs : List V} {xs : List X} {B : List Addr} (h : RepXs K F H σ vs xs B) : ∀ b ∈ B, ∃ o, H b = some o := by
  induction h with
  | nil => intro b hb; simp at hb
  | cons o _ ih => intro b hb; exact (List.mem_append.mp hb).elim (o.dom b) (ih b)
structure AftL (K : PySem.W.Frag) (F H : Hp) (A : List Addr) (σ : L2.St) (F' H' : Hp) (env' : Env) (A' : List Addr) (vs : List V) (xs : List X) (B : List Addr) : Prop where
  ste : Ste K F' H' σ env' A'
  rep : RepXs K F' H' σ vs xs B
  nd : (A' ++ B).Nodup
  stp : Stp F H A F' H' (A' ++ B)
def SndA (K : PySem.W.Frag) (ta : TA) (aa : AA) : Prop := ∀ (F H : Hp) (σ : L2.St) (env : Env) (A : List Addr), Ste K F H σ env A → ∀ Qa : List X → Env → Prop, aa env Qa → ∀ Q : List V → Hp → Prop,
  (∀ F' H' env' A' vs xs B, Qa xs env' → AftL K F H A σ F' H' env' A' vs xs B → Q vs H') → ta σ H Q

/-! ### data that is read -/
def rdM : M → Option D
  | .v d => some d
  | .own d => some d
  | .lk _ d => some d
  | .lkF _ d => some d
  | _ => none
def rd (env : Env) : X → Option D
  | .val m => rdM m
  | .slot i => match env[i]? with
    | some (some m) => rdM m
    | _ => none
inductive RepH (F H : Hp) : V → D → Prop
  | fz {v : V} {d : D} : Fz F v d → RepH F H v d
  | lst {a : Addr} {xs : List V} {ds : List D} : H a = some (.lst xs) → FzL F xs ds → RepH F H (.ref a) (.list ds)
  | dK {a : Addr} {kvs : List (Key × V)} {ds : List (D × D)} : Rd H a (.dK kvs) → FzK F kvs ds → RepH F H (.ref a) (.dict ds)
section
variable {K : PySem.W.Frag} {F H : Hp} {σ : L2.St} {env : Env} {A B : List Addr} {v : V} {x : X} {m : M} {d : D}
theorem Own.repH (h : Own K F H v m B) (e : rdM m = some d) : RepH F H v d := by
  cases h with
  | v h => cases e; exact .fz h
  | lst h n r => cases e; exact .lst h r
  | dK h n r => cases e; exact .dK (.inl h) r
  | dT h n r => cases e
  | lk h n r => cases e; exact .dK (.inr ⟨_, h⟩) r
  | lkF h n r => cases e; exact .dK (.inr ⟨_, h⟩) r
  | scr h => cases e
theorem Ste.slot (S : Ste K F H σ env A) {i : Nat} (hs : σ[i]? = some (some v)) (e : env[i]? = some (some m)) : ∃ B, Own K F H v m B := by
  obtain ⟨u, B, R, h1, h2, _⟩ := S.sl.get e
  rw [hs] at h1; cases h1
  exact ⟨B, h2⟩
theorem Ste.repH (S : Ste K F H σ env A) (h : RepX K F H σ v x B) (e : rd env x = some d) : RepH F H v d := by
  cases h with
  | val h => exact h.repH e
  | @slot i hs =>
    have e' : (match env[i]? with | some (some m) => rdM m | _ => none) = some d := e
    cases q : env[i]? with
    | none => rw [q] at e'; cases e'
    | some o =>
      cases o with
      | none => rw [q] at e'; cases e'
      | some m =>
        rw [q] at e'
        obtain ⟨B, h⟩ := S.slot hs q
        exact h.repH e'
theorem RepH.non (h : RepH F H v .none) : v = .non := by cases h with | fz h => cases h; rfl
theorem RepH.bool {b : Bool} (h : RepH F H v (.bool b)) : v = .bl b := by cases h with | fz h => cases h; rfl
theorem RepH.int {i : Int} (h : RepH F H v (.int i)) : v = .int i := by cases h with | fz h => cases h; rfl
theorem RepH.str {i : Str} (h : RepH F H v (.str i)) : v = .str i := by cases h with | fz h => cases h; rfl
theorem RepH.tup {ds : List D} (s : Sub F H) (h : RepH F H v (.tuple ds)) : ∃ a xs, v = .ref a ∧ F a = some (.tup xs) ∧ H a = some (.tup xs) ∧ FzL F xs ds := by
  cases h with | fz h => cases h with | tup h r => exact ⟨_, _, rfl, h, s.tup h, r⟩
theorem RepH.list {ds : List D} (s : Sub F H) (h : RepH F H v (.list ds)) : ∃ a xs, v = .ref a ∧ H a = some (.lst xs) ∧ FzL F xs ds := by
  cases h with
  | fz h => cases h with | lst h r => exact ⟨_, _, rfl, s.lst h, r⟩
  | lst h r => exact ⟨_, _, rfl, h, r⟩
theorem RepH.dict {ds : List (D × D)} (s : Sub F H) (h : RepH F H v (.dict ds)) : ∃ a kvs, v = .ref a ∧ Rd H a (.dK kvs) ∧ FzK F kvs ds := by
  cases h with
  | fz h => cases h with
    | dK h r => exact ⟨_, _, rfl, s.rd h, r⟩
  | dK h r => exact ⟨_, _, rfl, h, r⟩
end

/-! ### the data becomes frozen -/
def frzM : M → Option D
  | .v d => some d
  | .own d => some d
  | _ => none
def frzAt (F H : Hp) (B : List Addr) : Hp := fun a => if a ∈ B then H a else F a
section
variable {K : PySem.W.Frag} {F H F1 H1 : Hp} {σ : L2.St} {env : Env} {A B : List Addr} {v : V} {x : X} {m : M} {d : D}
theorem Own.frz (s : Sub F H) (h : Own K F H v m B) (e : frzM m = some d) : Fz (frzAt F H B) v d ∧ Ext F (frzAt F H B) ∧ Sub (frzAt F H B) H := by
  have ext : Ext F (frzAt F H B) := fun a o q => by
    refine (if_neg (fun z => ?_)).trans q
    have n : F a = none := by
      cases h with
      | v h => simp at z
      | lst h n r => simp at z; rw [z]; exact n
      | dK h n r => simp at z; rw [z]; exact n
      | _ => cases e
    rw [n] at q; cases q
  refine ⟨?_, ext, fun a o q => ?_⟩
  · cases h with
    | v h => cases e; exact h.mono ext
    | lst h n r => cases e; exact .lst (by unfold frzAt; rw [if_pos (by simp)]; exact h) (r.mono ext)
    | dK h n r => cases e; exact .dK (by unfold frzAt; rw [if_pos (by simp)]; exact h) (r.mono ext)
    | _ => cases e
  · unfold frzAt at q
    by_cases z : a ∈ B
    · rw [if_pos z] at q; exact .inl q
    · rw [if_neg z] at q; exact s a o q
theorem frzAt_ne {a : Addr} (h : a ∉ B) : frzAt F H B a = F a := by unfold frzAt; rw [if_neg h]
/-- a temporary is frozen -/
theorem Ste.frz (S : Ste K F H σ env A) (h : Own K F H v m B) (n : (A ++ B).Nodup) (e : frzM m = some d) : ∃ F', Ste K F' H σ env A ∧ Fz F' v d ∧ Stp F H (A ++ B) F' H A ∧ (∀ a, a ∉ B → F' a = F a) := by
  obtain ⟨h1, h2, h3⟩ := h.frz S.sub e
  refine ⟨frzAt F H B, ⟨h3, S.sl.frame h2 fun a ha => ⟨rfl, frzAt_ne fun z => (List.nodup_append.mp n).2.2 a ha a z rfl⟩, S.nd⟩, h1, ⟨h2, fun a o e _ => e, fun a o _ n => frzAt_ne fun z => n (List.mem_append_right _ z), fun a z => .inl (List.mem_append_left _ z)⟩, fun a z => frzAt_ne z⟩
end

/-- the thing is put where it is shared: it is frozen -/
def use (x : X) (env : Env) (Q : D → Env → Prop) : Prop := match x with
  | .val m => ∃ d, frzM m = some d ∧ Q d env
  | .slot i => ∃ m d, env[i]? = some (some m) ∧ frzM m = some d ∧ Q d (env.set i (some (.v d)))
section
variable {K : PySem.W.Frag} {F H F1 H1 : Hp} {σ : L2.St} {env : Env} {A B C : List Addr} {v : V} {x : X} {m : M} {d : D}
theorem set_same {α : Type} : ∀ {l : List α} {i : Nat} {x : α}, l[i]? = some x → l.set i x = l
  | [], _, _, e => rfl
  | a :: l, 0, x, e => by simp at e; subst e; rfl
  | a :: l, i + 1, x, e => by rw [List.set_cons_succ, set_same (by simpa using e)]
theorem use_ok (S : Ste K F H σ env A) (r : RepX K F H σ v x B) (n : (A ++ B).Nodup) {Q : D → Env → Prop} (h : use x env Q) :
    ∃ d env' F' A', Q d env' ∧ Ste K F' H σ env' A' ∧ Fz F' v d ∧ Stp F H (A ++ B) F' H A' ∧ (∀ a ∈ A', a ∈ A) ∧ (∀ a, a ∉ A ++ B → F' a = F a) := by
  cases r with
  | val o =>
    obtain ⟨d, e, q⟩ := h
    obtain ⟨F', h1, h2, h3, h4⟩ := S.frz o n e
    exact ⟨d, env, F', A, q, h1, h2, h3, fun _ z => z, fun a z => h4 a fun y => z (List.mem_append_right _ y)⟩
  | @slot i hs =>
    obtain ⟨m, d, e, ef, q⟩ := h
    obtain ⟨u, C, R, g1, g2, g3, g4⟩ := S.sl.get e
    rw [hs] at g1; cases g1
    have nd : (C ++ R).Nodup := (g4.nodup_iff).mp S.nd
    obtain ⟨h1, h2, h3⟩ := g2.frz S.sub ef
    have nd' := List.nodup_append.mp nd
    have g3' : Slots K (frzAt F H C) H σ (env.set i none) R := g3.frame h2 fun a ha => ⟨rfl, frzAt_ne fun z => nd'.2.2 a z a ha rfl⟩
    have hi : i < σ.length := (List.getElem?_eq_some_iff.mp hs).1
    obtain ⟨R', p1, p2, p3⟩ := g3'.put (i := i) (m := .v d) (B := []) hi (.v h1)
    rw [set_same hs, List.set_set] at p1
    refine ⟨d, _, frzAt F H C, R', q, ⟨h3, p1, p3 (by rw [List.append_nil]; exact nd'.2.1)⟩, h1, ⟨h2, fun a o e _ => e, fun a o _ z => frzAt_ne fun y => z (List.mem_append_left _ (g4.mem_iff.mpr (List.mem_append_left _ y))), fun a z => .inl ?_⟩, fun a z => ?_, fun a z => frzAt_ne fun y => z (List.mem_append_left _ (g4.mem_iff.mpr (List.mem_append_left _ y)))⟩
    · exact List.mem_append_left _ (g4.mem_iff.mpr (List.mem_append_right _ ((p2 a z).elim id fun y => by simp at y)))
    · exact g4.mem_iff.mpr (List.mem_append_right _ ((p2 a z).elim id fun y => by simp at y))
end
def useL : List X → Env → (List D → Env → Prop) → Prop
  | [], env, Q => Q [] env
  | x :: xs, env, Q => use x env fun d env1 => useL xs env1 fun ds env2 => Q (d :: ds) env2
section
variable {K : PySem.W.Frag} {F H F1 H1 : Hp} {σ : L2.St} {env : Env} {A B C : List Addr} {v : V} {x : X} {m : M} {d : D}
theorem RepXs.keep {vs : List V} {xs : List X} (h : RepXs K F H σ vs xs B) (s : Stp F H A F1 H1 C) (n : (A ++ B).Nodup) : RepXs K F1 H1 σ vs xs B := by
  induction h with
  | nil => exact .nil
  | @cons v x vs xs B C o _ ih =>
    rw [← List.append_assoc] at n
    have n1 : (A ++ B).Nodup := (List.nodup_append.mp n).1
    have n2 : (A ++ C).Nodup := by
      rw [List.nodup_append] at n ⊢
      exact ⟨(List.nodup_append.mp n1).1, n.2.1, fun a ha b hb e => n.2.2 a (List.mem_append_left _ ha) b hb e⟩
    exact .cons (o.keep s n1) (ih n2)
theorem useL_ok {vs : List V} {xs : List X} : ∀ {F : Hp} {env : Env} {A B : List Addr}, Ste K F H σ env A → RepXs K F H σ vs xs B → (A ++ B).Nodup → ∀ {Q : List D → Env → Prop}, useL xs env Q →
    ∃ ds env' F' A', Q ds env' ∧ Ste K F' H σ env' A' ∧ FzL F' vs ds ∧ Stp F H (A ++ B) F' H A' := by
  induction xs generalizing vs with
  | nil =>
    intro F env A B S r n Q h
    cases r
    exact ⟨[], env, F, A, h, S, .nil, by rw [List.append_nil]; exact Stp.refl⟩
  | cons x xs ih =>
    intro F env A B S r n Q h
    cases r with
    | @cons v _ vs _ B C r1 r2 =>
      rw [← List.append_assoc] at n
      have n1 : (A ++ B).Nodup := (List.nodup_append.mp n).1
      obtain ⟨d, env1, F1, A1, q1, S1, z1, s1, sub1, _⟩ := use_ok S r1 n1 h
      have n2 : (A1 ++ C).Nodup := by
        rw [List.nodup_append] at n ⊢
        exact ⟨S1.nd, n.2.1, fun a ha b hb e => n.2.2 a (List.mem_append_left _ (sub1 a ha)) b hb e⟩
      obtain ⟨ds, env2, F2, A2, q2, S2, z2, s2⟩ := ih S1 (r2.keep s1 n) n2 q1
      refine ⟨d :: ds, env2, F2, A2, q2, S2, .cons (z1.mono s2.fz) z2, ?_⟩
      have t := (s1.side (B := C)).trans s2
      rw [List.append_assoc] at t
      exact t
end

/-! ### the rules: names, constants -/
section
variable {K : PySem.W.Frag}
def slX : M → Nat → Env → (X → Env → Prop) → Prop
  | .v d, _, env, Q => Q (.val (.v d)) env
  | .own _, i, env, Q => Q (.slot i) env
  | .ownT _, i, env, Q => Q (.slot i) env
  | .lk _ _, i, env, Q => Q (.slot i) env
  | .lkF _ _, i, env, Q => Q (.slot i) env
  | .scr _, i, env, Q => Q (.slot i) env
def aVx : Env → Nat → Nat → Env → (X → Env → Prop) → Prop
  | some m :: _, 0, i, env, Q => slX m i env Q
  | none :: _, 0, _, _, _ => False
  | _ :: r, n + 1, i, env, Q => aVx r n i env Q
  | [], _, _, _, _ => False
def aV (i : Nat) : AE := fun env Q => aVx env i i env Q
theorem aVx_get : ∀ {r : Env} {n i : Nat} {env : Env} {Q : X → Env → Prop}, aVx r n i env Q → ∃ m, r[n]? = some (some m) ∧ slX m i env Q
  | some m :: r, 0, i, env, Q, h => ⟨m, rfl, h⟩
  | none :: r, 0, _, _, _, h => h.elim
  | o :: r, n + 1, i, env, Q, h => by
    have h : aVx r n i env Q := by cases o <;> exact h
    obtain ⟨m, e, h⟩ := aVx_get h
    exact ⟨m, by simpa using e, h⟩
  | [], n, _, _, _, h => by cases n <;> exact h.elim
theorem snd_v {i : Nat} : Snd K (tVar i) (aV i) := by
  intro F H σ env A S Qa h Q k
  obtain ⟨m, e, h⟩ := aVx_get h
  obtain ⟨v, B, R, h1, h2, _⟩ := S.sl.get e
  have slot : ∀ x, (x = .slot i) → Qa x env → tVar i σ H Q := fun x ex q => by
    subst ex
    exact ⟨v, h1, k F H env A v _ [] q ⟨S, .slot h1, by rw [List.append_nil]; exact S.nd, by rw [List.append_nil]; exact Stp.refl⟩⟩
  cases m with
  | v d =>
    cases h2 with
    | v h2 => exact ⟨v, h1, k F H env A v _ [] h ⟨S, .val (.v h2), by rw [List.append_nil]; exact S.nd, by rw [List.append_nil]; exact Stp.refl⟩⟩
  | own d => exact slot _ rfl h
  | ownT d => exact slot _ rfl h
  | lk o d => exact slot _ rfl h
  | lkF o d => exact slot _ rfl h
  | scr d => exact slot _ rfl h
def aC (d : D) : AE := fun env Q => Q (.val (.v d)) env
theorem snd_c {v : V} {d : D} (h : ∀ F : Hp, Fz F v d) : Snd K (tC v) (aC d) := fun F H σ env A S Qa q Q k =>
  k F H env A v _ [] q ⟨S, .val (.v (h F)), by rw [List.append_nil]; exact S.nd, by rw [List.append_nil]; exact Stp.refl⟩
theorem snd_int {i : Int} : Snd K (tC (.int i)) (aC (.int i)) := snd_c fun F => .int i
theorem snd_str {i : Str} : Snd K (tC (.str i)) (aC (.str i)) := snd_c fun F => .str i
theorem snd_bl {i : Bool} : Snd K (tC (.bl i)) (aC (.bool i)) := snd_c fun F => .bl i
theorem snd_non : Snd K (tC .non) (aC .none) := snd_c fun F => .non
end

/-! ### operations on data -/
structure New (K : PySem.W.Frag) (F H F' H' : Hp) (v : V) (m : M) (B : List Addr) : Prop where
  sub : Sub F' H'
  stp : Stp F H [] F' H' B
  own : Own K F' H' v m B
  nd : B.Nodup
theorem New.same {K : PySem.W.Frag} {F H : Hp} {v : V} {d : D} (s : Sub F H) (h : Fz F v d) : New K F H F H v (.v d) [] := ⟨s, Stp.refl, .v h, List.nodup_nil⟩
/-- a new list, tuple, dict -/
theorem ext_upd {F : Hp} {p : Addr} {o : HO} (h : F p = none) : Ext F (upd F p o) := fun a u e => by rw [upd_ne (ne_of_none e h)]; exact e
theorem Sub.none {F H : Hp} {p : Addr} (s : Sub F H) (h : H p = none) : F p = none := by
  cases e : F p with
  | none => rfl
  | some o =>
    obtain ⟨_, q⟩ := s.some e
    rw [h] at q; cases q
theorem sub_new {F H : Hp} {p : Addr} {o : HO} (s : Sub F H) (h : H p = none) : Sub F (upd H p o) := s.ext (ext_upd h)
theorem sub_both {F H : Hp} {p : Addr} {o : HO} (s : Sub F H) (h : H p = none) : Sub (upd F p o) (upd H p o) := fun a u e => by
  by_cases q : a = p
  · subst q; rw [upd_same] at e ⊢; exact .inl e
  · rw [upd_ne q] at e ⊢; exact s a u e
theorem stp_new {F H : Hp} {p : Addr} {o : HO} (h : H p = none) : Stp F H [] F (upd H p o) [p] :=
  ⟨Ext.refl F, fun a u e _ => by rw [upd_ne (ne_of_none e h)]; exact e, fun _ _ _ _ => rfl, fun a z => .inr (by simp at z; rw [z]; exact h)⟩
theorem stp_both {F H : Hp} {p : Addr} {o : HO} (s : Sub F H) (h : H p = none) : Stp F H [] (upd F p o) (upd H p o) [] :=
  ⟨ext_upd (s.none h), fun a u e _ => by rw [upd_ne (ne_of_none e h)]; exact e, fun a u e _ => by rw [upd_ne (ne_of_none e h)], fun a z => by simp at z⟩
theorem New.lst {K : PySem.W.Frag} {F H : Hp} {p : Addr} {xs : List V} {ds : List D} (s : Sub F H) (h : H p = none) (r : FzL F xs ds) : New K F H F (upd H p (.lst xs)) (.ref p) (.own (.list ds)) [p] :=
  ⟨sub_new s h, stp_new h, .lst upd_same (s.none h) r, by simp⟩
theorem New.dK {K : PySem.W.Frag} {F H : Hp} {p : Addr} {xs : List (Key × V)} {ds : List (D × D)} (s : Sub F H) (h : H p = none) (r : FzK F xs ds) : New K F H F (upd H p (.dK xs)) (.ref p) (.own (.dict ds)) [p] :=
  ⟨sub_new s h, stp_new h, .dK upd_same (s.none h) r, by simp⟩
theorem New.dT {K : PySem.W.Frag} {F H : Hp} {p : Addr} {xs : List (List Key × V)} {ds : List (D × D)} (s : Sub F H) (h : H p = none) (r : FzT F xs ds) : New K F H F (upd H p (.dT xs)) (.ref p) (.ownT (.dict ds)) [p] :=
  ⟨sub_new s h, stp_new h, .dT upd_same (s.none h) r, by simp⟩
theorem New.tup {K : PySem.W.Frag} {F H : Hp} {p : Addr} {xs : List V} {ds : List D} (s : Sub F H) (h : H p = none) (r : FzL F xs ds) : New K F H (upd F p (.tup xs)) (upd H p (.tup xs)) (.ref p) (.v (.tuple ds)) [] :=
  ⟨sub_both s h, stp_both s h, .v (.tup upd_same (r.mono (ext_upd (s.none h)))), by simp⟩

def Prim1 (K : PySem.W.Frag) (r : V → Hp → VK → Prop) (p : D → Option M) : Prop := ∀ (F H : Hp) (x : V) (d : D) (m : M), Sub F H → RepH F H x d → p d = some m → ∀ Q : VK, (∀ F' H' v B, New K F H F' H' v m B → Q v H') → r x H Q
def Prim2 (K : PySem.W.Frag) (r : R2) (p : D → D → Option M) : Prop := ∀ (F H : Hp) (x y : V) (d e : D) (m : M), Sub F H → RepH F H x d → RepH F H y e → p d e = some m → ∀ Q : VK, (∀ F' H' v B, New K F H F' H' v m B → Q v H') → r x y H Q
inductive RepHs (F H : Hp) : List V → List D → Prop
  | nil : RepHs F H [] []
  | cons {v : V} {d : D} {vs : List V} {ds : List D} : RepH F H v d → RepHs F H vs ds → RepHs F H (v :: vs) (d :: ds)
def PrimN (K : PySem.W.Frag) (r : List V → Hp → VK → Prop) (p : List D → Option M) : Prop := ∀ (F H : Hp) (xs : List V) (ds : List D) (m : M), Sub F H → RepHs F H xs ds → p ds = some m → ∀ Q : VK, (∀ F' H' v B, New K F H F' H' v m B → Q v H') → r xs H Q
def PrimM (K : PySem.W.Frag) (T : String) (r : V → List V → Hp → VK → Prop) (p : D → List D → Option M) : Prop := ∀ (F H : Hp) (x : V) (xs : List V) (d : D) (ds : List D) (m : M), Sub F H → RepH F H x d → RepHs F H xs ds → p d ds = some m →
  ∀ Q : VK, (∀ F' H' v B, New K F H F' H' v m B → Q v H') → r x xs H Q
def rdL (env : Env) : List X → Option (List D)
  | [] => some []
  | x :: xs => match rd env x, rdL env xs with
    | some d, some ds => some (d :: ds)
    | _, _ => none
section
variable {K : PySem.W.Frag} {F H F1 H1 : Hp} {σ : L2.St} {env : Env} {A B C : List Addr} {v : V} {x : X} {m : M} {d : D}
theorem Ste.repHs (S : Ste K F H σ env A) {vs : List V} {xs : List X} (h : RepXs K F H σ vs xs B) : ∀ {ds : List D}, rdL env xs = some ds → RepHs F H vs ds := by
  induction h with
  | nil => intro ds e; cases e; exact .nil
  | cons o _ ih =>
    intro ds e
    unfold rdL at e
    split at e
    · rename_i _ _ d ds' e1 e2
      cases e
      exact .cons (S.repH o e1) (ih e2)
    · cases e
/-- behind an operation that made m at v -/
theorem Aft.new {F0 H0 : Hp} {A0 : List Addr} {E : List Addr} (S : Ste K F H σ env A) (st : Stp F0 H0 A0 F H (A ++ E)) (n : New K F H F1 H1 v m C) : Aft K F0 H0 A0 σ F1 H1 env A v (.val m) C := by
  refine ⟨S.after n.stp n.sub, .val n.own, ?_, ?_⟩
  · have q := n.stp.nd (A := []) (B := A) (by simpa using S.nd) n.nd fun b hb => S.sl.dom b hb
    exact List.perm_append_comm.nodup_iff.mp q
  · have q := n.stp.side (B := A ++ E)
    refine (st.trans q).less fun a z => ?_
    rcases List.mem_append.mp z with z | z
    · exact List.mem_append_right _ (List.mem_append_left _ z)
    · exact List.mem_append_left _ z
/-- two parts -/
theorem Aft.two {F0 H0 F2 H2 : Hp} {A0 A2 B2 : List Addr} {env2 : Env} {u : V} {y : X} (t1 : Aft K F0 H0 A0 σ F1 H1 env A v x B) (t2 : Aft K F1 H1 A σ F2 H2 env2 A2 u y B2) :
    RepX K F2 H2 σ v x B ∧ Stp F0 H0 A0 F2 H2 (A2 ++ (B2 ++ B)) ∧ (A2 ++ (B2 ++ B)).Nodup := by
  refine ⟨t1.rep.keep t2.stp t1.nd, ?_, ?_⟩
  · rw [← List.append_assoc]
    exact t1.stp.trans t2.stp.side
  · rw [← List.append_assoc]
    exact t2.stp.nd t1.nd t2.nd fun b hb => t1.rep.dom b hb
end

def a1 (p : D → Option M) (a : AE) : AE := fun env Q => a env fun x e1 => ∃ d m, rd e1 x = some d ∧ p d = some m ∧ Q (.val m) e1
def a2 (p : D → D → Option M) (a b : AE) : AE := fun env Q => a env fun x e1 => b e1 fun y e2 => ∃ d e m, rd e2 x = some d ∧ rd e2 y = some e ∧ p d e = some m ∧ Q (.val m) e2
def aNil : AA := fun env Q => Q [] env
def aCons (a : AE) (r : AA) : AA := fun env Q => a env fun x e1 => r e1 fun xs e2 => Q (x :: xs) e2
def aN (p : List D → Option M) (a : AA) : AE := fun env Q => a env fun xs e1 => ∃ ds m, rdL e1 xs = some ds ∧ p ds = some m ∧ Q (.val m) e1
section
variable {K : PySem.W.Frag} {ta tb : TE} {a b : AE} {t : TA} {aa : AA}
theorem snd_1 {r : V → Hp → VK → Prop} {p : D → Option M} (hr : Prim1 K r p) (ha : Snd K ta a) : Snd K (tUn r ta) (a1 p a) := by
  intro F H σ env A S Qa h Q k
  refine ha F H σ env A S _ h _ fun F1 H1 e1 A1 v x B q t => ?_
  obtain ⟨d, m, e, ep, q⟩ := q
  exact hr F1 H1 v d m t.ste.sub (t.ste.repH t.rep e) ep Q fun F' H' v' C n => k F' H' e1 A1 v' _ C q (Aft.new t.ste t.stp n)
theorem snd_2 {r : R2} {p : D → D → Option M} (hr : Prim2 K r p) (ha : Snd K ta a) (hb : Snd K tb b) : Snd K (tOp r ta tb) (a2 p a b) := by
  intro F H σ env A S Qa h Q k
  refine ha F H σ env A S _ h _ fun F1 H1 e1 A1 v x B1 q1 t1 => ?_
  refine hb F1 H1 σ e1 A1 t1.ste _ q1 _ fun F2 H2 e2 A2 u y B2 q2 t2 => ?_
  obtain ⟨d, e, m, ed, ee, ep, q⟩ := q2
  obtain ⟨r1, st, _⟩ := t1.two t2
  exact hr F2 H2 v u d e m t2.ste.sub (t2.ste.repH r1 ed) (t2.ste.repH t2.rep ee) ep Q fun F' H' v' C n => k F' H' e2 A2 v' _ C q (Aft.new t2.ste st n)
theorem snda_nil : SndA K tNil aNil := fun F H σ env A S Qa h Q k => k F H env A [] [] [] h ⟨S, .nil, by rw [List.append_nil]; exact S.nd, by rw [List.append_nil]; exact Stp.refl⟩
theorem snda_cons (ha : Snd K ta a) (hr : SndA K t aa) : SndA K (tCons ta t) (aCons a aa) := by
  intro F H σ env A S Qa h Q k
  refine ha F H σ env A S _ h _ fun F1 H1 e1 A1 v x B1 q1 t1 => ?_
  refine hr F1 H1 σ e1 A1 t1.ste _ q1 _ fun F2 H2 e2 A2 us ys B2 q2 t2 => ?_
  refine k F2 H2 e2 A2 _ _ (B1 ++ B2) q2 ⟨t2.ste, .cons (t1.rep.keep t2.stp t1.nd) t2.rep, ?_, ?_⟩
  · have q := t2.stp.nd t1.nd t2.nd fun b hb => t1.rep.dom b hb
    rw [List.append_assoc] at q
    exact (List.Perm.append_left A2 List.perm_append_comm).nodup_iff.mp q
  · refine (t1.stp.trans t2.stp.side).less fun a z => ?_
    rcases List.mem_append.mp z with z | z
    · exact List.mem_append_left _ (List.mem_append_left _ z)
    · rcases List.mem_append.mp z with z | z
      · exact List.mem_append_right _ z
      · exact List.mem_append_left _ (List.mem_append_right _ z)
theorem snd_n {r : List V → Hp → VK → Prop} {p : List D → Option M} (hr : PrimN K r p) (ha : SndA K t aa) : Snd K (tCB r t) (aN p aa) := by
  intro F H σ env A S Qa h Q k
  refine ha F H σ env A S _ h _ fun F1 H1 e1 A1 vs xs B q t => ?_
  obtain ⟨ds, m, e, ep, q⟩ := q
  exact hr F1 H1 vs ds m t.ste.sub (t.ste.repHs t.rep e) ep Q fun F' H' v' C n => k F' H' e1 A1 v' _ C q (Aft.new t.ste t.stp n)
/-- displays -/
def aTup (a : AA) : AE := fun env Q => a env fun xs e1 => useL xs e1 fun ds e2 => ds.length ≤ 1000000 ∧ Q (.val (.v (.tuple ds))) e2
def aLst (a : AA) : AE := fun env Q => a env fun xs e1 => useL xs e1 fun ds e2 => ds.length ≤ 1000000 ∧ Q (.val (.own (.list ds))) e2
theorem line_of {n : Nat} (h : n ≤ 1000000) : n ≤ sizeLine := Nat.le_trans h (by decide)
theorem line_lt {n : Nat} (h : n < 1000000) : n < sizeLine := Nat.lt_of_lt_of_le h (by decide)
theorem snd_tup (ha : SndA K t aa) : Snd K (tTup t) (aTup aa) := by
  intro F H σ env A S Qa h Q k
  refine ha F H σ env A S _ h _ fun F1 H1 e1 A1 vs xs B q t => ?_
  obtain ⟨ds, e2, F2, A2, ⟨hz, q⟩, S2, z, st⟩ := useL_ok t.ste t.rep t.nd q
  refine ⟨by rw [z.length]; exact line_of hz, fun p hp => ?_⟩
  refine k _ _ e2 A2 _ _ [] q (Aft.new (E := []) S2 (by rw [List.append_nil]; exact t.stp.trans st) (New.tup S2.sub hp z))
theorem snd_lst (ha : SndA K t aa) : Snd K (tLst t) (aLst aa) := by
  intro F H σ env A S Qa h Q k
  refine ha F H σ env A S _ h _ fun F1 H1 e1 A1 vs xs B q t => ?_
  obtain ⟨ds, e2, F2, A2, ⟨hz, q⟩, S2, z, st⟩ := useL_ok t.ste t.rep t.nd q
  refine ⟨by rw [z.length]; exact line_of hz, fun p hp => ?_⟩
  refine k _ _ e2 A2 _ _ [p] q (Aft.new (E := []) S2 (by rw [List.append_nil]; exact t.stp.trans st) (New.lst S2.sub hp z))
end
end ML
/-! ML3: tests, statements, loops, comprehensions, calls. -/
namespace ML
open PySem L2

/-! ### tests -/
section
variable {K : PySem.W.Frag} {ta tb tc : TE} {a b c : AE} {t u : TT} {at_ bt : AT}
def aB (a : AE) : AT := fun env Q => a env fun x e1 => ∃ b, x = .val (.v (.bool b)) ∧ Q b e1
theorem sndt_B (ha : Snd K ta a) : SndT K (tB ta) (aB a) := by
  intro F H σ env A S Qa h Q k
  refine ha F H σ env A S _ h _ fun F1 H1 e1 A1 v x B q t => ?_
  obtain ⟨b, rfl, q⟩ := q
  cases t.rep with
  | val o => cases o with
    | v z => cases z with
      | bl b => exact ⟨b, rfl, k F1 H1 e1 A1 b q t.ste (by have q := t.stp; rw [List.append_nil] at q; exact q)⟩
theorem sndt_test (ha : Snd K ta a) : SndT K (tTest ta) (aB a) := sndt_B ha
def andX : Bool → AT → Env → (Bool → Env → Prop) → Prop
  | true, b, e1, Q => b e1 Q
  | false, _, e1, Q => Q false e1
def orX : Bool → AT → Env → (Bool → Env → Prop) → Prop
  | true, _, e1, Q => Q true e1
  | false, b, e1, Q => b e1 Q
def aAnd (a b : AT) : AT := fun env Q => a env fun c e1 => andX c b e1 Q
def aOr (a b : AT) : AT := fun env Q => a env fun c e1 => orX c b e1 Q
def aNot (a : AT) : AT := fun env Q => a env fun c e1 => Q (!c) e1
theorem sndt_and (ha : SndT K t at_) (hb : SndT K u bt) : SndT K (tAnd t u) (aAnd at_ bt) := by
  intro F H σ env A S Qa h Q k
  refine ha F H σ env A S _ h _ fun F1 H1 e1 A1 c q S1 s1 => ?_
  cases c with
  | true => exact hb F1 H1 σ e1 A1 S1 _ q _ fun F2 H2 e2 A2 d q2 S2 s2 => k F2 H2 e2 A2 d q2 S2 (s1.trans s2)
  | false => exact k F1 H1 e1 A1 false q S1 s1
theorem sndt_or (ha : SndT K t at_) (hb : SndT K u bt) : SndT K (tOr t u) (aOr at_ bt) := by
  intro F H σ env A S Qa h Q k
  refine ha F H σ env A S _ h _ fun F1 H1 e1 A1 c q S1 s1 => ?_
  cases c with
  | false => exact hb F1 H1 σ e1 A1 S1 _ q _ fun F2 H2 e2 A2 d q2 S2 s2 => k F2 H2 e2 A2 d q2 S2 (s1.trans s2)
  | true => exact k F1 H1 e1 A1 true q S1 s1
theorem sndt_not (ha : SndT K t at_) : SndT K (tNot t) (aNot at_) := by
  intro F H σ env A S Qa h Q k
  exact ha F H σ env A S _ h _ fun F1 H1 e1 A1 c q S1 s1 => k F1 H1 e1 A1 (!c) q S1 s1
theorem Aft.nil {F H F' H' : Hp} {A A' B : List Addr} {σ : L2.St} {env' : Env} {v : V} {d : D} (t : Aft K F H A σ F' H' env' A' v (.val (.v d)) B) : B = [] := by
  cases t.rep with
  | val o => cases o; rfl
theorem Aft.more {F H F1 H1 F2 H2 : Hp} {A A1 A2 B : List Addr} {σ : L2.St} {e2 : Env} {v : V} {x : X} (s : Stp F H A F1 H1 A1) (t : Aft K F1 H1 A1 σ F2 H2 e2 A2 v x B) : Aft K F H A σ F2 H2 e2 A2 v x B := ⟨t.ste, t.rep, t.nd, s.trans t.stp⟩
/-- and, or, not as values of truths -/
def andVX : Bool → AE → Env → (X → Env → Prop) → Prop
  | true, b, e1, Q => b e1 Q
  | false, _, e1, Q => Q (.val (.v (.bool false))) e1
def orVX : Bool → AE → Env → (X → Env → Prop) → Prop
  | true, _, e1, Q => Q (.val (.v (.bool true))) e1
  | false, b, e1, Q => b e1 Q
def aAndV (a b : AE) : AE := fun env Q => a env fun x e1 => ∃ c, x = .val (.v (.bool c)) ∧ andVX c b e1 Q
def aOrV (a b : AE) : AE := fun env Q => a env fun x e1 => ∃ c, x = .val (.v (.bool c)) ∧ orVX c b e1 Q
def aNotV (a : AE) : AE := fun env Q => a env fun x e1 => ∃ c, x = .val (.v (.bool c)) ∧ Q (.val (.v (.bool (!c)))) e1
theorem aft_v {F H F' H' : Hp} {A A' : List Addr} {σ : L2.St} {env' : Env} {v : V} {d : D} (S : Ste K F' H' σ env' A') (s : Stp F H A F' H' A') (z : Fz F' v d) : Aft K F H A σ F' H' env' A' v (.val (.v d)) [] :=
  ⟨S, .val (.v z), by rw [List.append_nil]; exact S.nd, by rw [List.append_nil]; exact s⟩
theorem snd_andV (ha : Snd K ta a) (hb : Snd K tb b) : Snd K (tAndV ta tb) (aAndV a b) := by
  intro F H σ env A S Qa h Q k
  refine ha F H σ env A S _ h _ fun F1 H1 e1 A1 v x B q t => ?_
  obtain ⟨c, rfl, q⟩ := q
  have nb := t.nil
  subst nb
  have st := t.stp
  rw [List.append_nil] at st
  cases t.rep with
  | val o => cases o with
    | v z => cases z with
      | bl c =>
        refine ⟨c, rfl, ?_⟩
        cases c with
        | true => exact hb F1 H1 σ e1 A1 t.ste _ q _ fun F2 H2 e2 A2 u y B2 q2 t2 => k F2 H2 e2 A2 u y B2 q2 (t2.more st)
        | false => exact k F1 H1 e1 A1 _ _ [] q (aft_v t.ste st (.bl false))
theorem snd_orV (ha : Snd K ta a) (hb : Snd K tb b) : Snd K (tOrV ta tb) (aOrV a b) := by
  intro F H σ env A S Qa h Q k
  refine ha F H σ env A S _ h _ fun F1 H1 e1 A1 v x B q t => ?_
  obtain ⟨c, rfl, q⟩ := q
  have nb := t.nil
  subst nb
  have st := t.stp
  rw [List.append_nil] at st
  cases t.rep with
  | val o => cases o with
    | v z => cases z with
      | bl c =>
        refine ⟨c, rfl, ?_⟩
        cases c with
        | false => exact hb F1 H1 σ e1 A1 t.ste _ q _ fun F2 H2 e2 A2 u y B2 q2 t2 => k F2 H2 e2 A2 u y B2 q2 (t2.more st)
        | true => exact k F1 H1 e1 A1 _ _ [] q (aft_v t.ste st (.bl true))
theorem snd_notV (ha : Snd K ta a) : Snd K (tNotV ta) (aNotV a) := by
  intro F H σ env A S Qa h Q k
  refine ha F H σ env A S _ h _ fun F1 H1 e1 A1 v x B q t => ?_
  obtain ⟨c, rfl, q⟩ := q
  have nb := t.nil
  subst nb
  have st := t.stp
  rw [List.append_nil] at st
  cases t.rep with
  | val o => cases o with
    | v z => cases z with
      | bl c => exact ⟨c, rfl, k F1 H1 e1 A1 _ _ [] q (aft_v t.ste st (.bl _))⟩
def ifVX : Bool → AE → AE → Env → (X → Env → Prop) → Prop
  | true, a, _, e1, Q => a e1 Q
  | false, _, b, e1, Q => b e1 Q
def aIf (c : AT) (a b : AE) : AE := fun env Q => c env fun k e1 => ifVX k a b e1 Q
theorem snd_if (hc : SndT K t at_) (ha : Snd K ta a) (hb : Snd K tb b) : Snd K (tIf t ta tb) (aIf at_ a b) := by
  intro F H σ env A S Qa h Q k
  refine hc F H σ env A S _ h _ fun F1 H1 e1 A1 c q S1 s1 => ?_
  cases c with
  | true => exact ha F1 H1 σ e1 A1 S1 _ q _ fun F2 H2 e2 A2 u y B2 q2 t2 => k F2 H2 e2 A2 u y B2 q2 (t2.more s1)
  | false => exact hb F1 H1 σ e1 A1 S1 _ q _ fun F2 H2 e2 A2 u y B2 q2 t2 => k F2 H2 e2 A2 u y B2 q2 (t2.more s1)
/-- x is None, x is not None -/
def aIsN (neg : Bool) (a : AE) : AE := fun env Q => a env fun x e1 => ∃ d, rd e1 x = some d ∧ Q (.val (.v (.bool (match d with | .none => !neg | _ => neg)))) e1
theorem Fz.notnon {F H : Hp} {v : V} {d : D} (h : RepH F H v d) : (match d with | .none => v = .non | _ => v ≠ .non) := by
  cases h with
  | fz h => cases h <;> simp
  | _ => simp
theorem isN_ok {F H : Hp} {v : V} {d : D} (h : RepH F H v d) : decide (v = .non) = (match d with | .none => true | _ => false) := by
  have q := Fz.notnon h
  cases d <;> simp only at q ⊢ <;> first | exact decide_eq_true q | exact decide_eq_false q
theorem snd_isN (ha : Snd K ta a) : Snd K (tIsN ta) (aIsN false a) := by
  intro F H σ env A S Qa h Q k
  refine ha F H σ env A S _ h _ fun F1 H1 e1 A1 v x B q t => ?_
  obtain ⟨d, e, q⟩ := q
  have r := isN_ok (t.ste.repH t.rep e)
  refine k F1 H1 e1 A1 _ _ [] q (aft_v t.ste (t.stp.less fun _ z => List.mem_append_left _ z) ?_)
  rw [r]
  cases d <;> exact .bl _
theorem snd_notN (ha : Snd K ta a) : Snd K (tNotN ta) (aIsN true a) := by
  intro F H σ env A S Qa h Q k
  refine ha F H σ env A S _ h _ fun F1 H1 e1 A1 v x B q t => ?_
  obtain ⟨d, e, q⟩ := q
  have r := isN_ok (t.ste.repH t.rep e)
  refine k F1 H1 e1 A1 _ _ [] q (aft_v t.ste (t.stp.less fun _ z => List.mem_append_left _ z) ?_)
  rw [r]
  cases d <;> exact .bl _
/-- a < b < c -/
def aChain (p p' : D → D → Option M) (a b c : AE) : AE := fun env Q => a env fun x e1 => b e1 fun y e2 => ∃ d e k, rd e2 x = some d ∧ rd e2 y = some e ∧ p d e = some (.v (.bool k)) ∧
  if k = true then c e2 fun z e3 => ∃ f g m, rd e3 y = some f ∧ rd e3 z = some g ∧ p' f g = some m ∧ Q (.val m) e3 else Q (.val (.v (.bool false))) e2
theorem snd_chain {r r' : R2} {p p' : D → D → Option M} (hr : Prim2 K r p) (hr' : Prim2 K r' p') (ha : Snd K ta a) (hb : Snd K tb b) (hc : Snd K tc c) : Snd K (tChain r r' ta tb tc) (aChain p p' a b c) := by
  intro F H σ env A S Qa h Q k
  refine ha F H σ env A S _ h _ fun F1 H1 e1 A1 v x B1 q1 t1 => ?_
  refine hb F1 H1 σ e1 A1 t1.ste _ q1 _ fun F2 H2 e2 A2 u y B2 q2 t2 => ?_
  obtain ⟨d, e, kk, ed, ee, ep, q⟩ := q2
  obtain ⟨r1, st, _⟩ := t1.two t2
  refine hr F2 H2 v u d e _ t2.ste.sub (t2.ste.repH r1 ed) (t2.ste.repH t2.rep ee) ep _ fun F3 H3 v3 C n => ?_
  have S3 := t2.ste.after n.stp n.sub
  have ry : RepX K F3 H3 σ u y B2 := t2.rep.keep (A := []) n.stp (by simpa using (List.nodup_append.mp t2.nd).2.1)
  have nd2 : (A2 ++ B2).Nodup := t2.nd
  have st0 : Stp F H A F2 H2 (A2 ++ B2) := st.less fun a z => by
    rcases List.mem_append.mp z with z | z
    · exact List.mem_append_left _ z
    · exact List.mem_append_right _ (List.mem_append_left _ z)
  have st3 : Stp F H A F3 H3 (A2 ++ B2) := st0.trans ((n.stp.side (B := A2 ++ B2)).less fun a z => List.mem_append_right _ z)
  cases n.own with
  | v z => cases z with
    | bl _ =>
      refine ⟨kk, rfl, ?_⟩
      cases kk with
      | true =>
        refine hc F3 H3 σ e2 A2 S3 _ q _ fun F4 H4 e4 A4 w z B4 q4 t4 => ?_
        obtain ⟨f, g, m, ef, eg, ep', q4⟩ := q4
        have t2' : Aft K F H A σ F3 H3 e2 A2 u y B2 := ⟨S3, ry, nd2, st3⟩
        obtain ⟨ry4, st4, _⟩ := t2'.two t4
        exact hr' F4 H4 u w f g m t4.ste.sub (t4.ste.repH ry4 ef) (t4.ste.repH t4.rep eg) ep' Q fun F' H' v' C n => k F' H' e4 A4 v' _ C q4 (Aft.new t4.ste st4 n)
      | false => exact k F3 H3 e2 A2 _ _ [] q (aft_v S3 (st3.less fun a z => List.mem_append_left _ z) (.bl false))
end

/-! ### statements -/
structure AEnds where
  nx : Env → Prop
  rt : M → Env → Prop
  bk : Env → Prop := fun _ => False
  ct : Env → Prop := fun _ => False
abbrev AS := AEnds → Env → Prop
def Pin (P : List Nat) (σ σ' : L2.St) : Prop := ∀ i ∈ P, σ'[i]? = σ[i]?
theorem Pin.refl {P : List Nat} {σ : L2.St} : Pin P σ σ := fun _ _ => rfl
theorem Pin.trans {P : List Nat} {σ σ1 σ2 : L2.St} (a : Pin P σ σ1) (b : Pin P σ1 σ2) : Pin P σ σ2 := fun i h => (b i h).trans (a i h)
theorem Pin.set {P : List Nat} {σ : L2.St} {i : Nat} {o : Option V} (h : i ∉ P) : Pin P σ (σ.set i o) := fun j hj => by
  rw [List.getElem?_set_ne (fun e => h (by rw [e]; exact hj))]

def EndN (K : PySem.W.Frag) (P : List Nat) (F H : Hp) (A : List Addr) (σ : L2.St) (a : Env → Prop) (c : L2.St → Hp → Prop) : Prop :=
  ∀ F' H' σ' env' A', a env' → Ste K F' H' σ' env' A' → Stp F H A F' H' A' → Pin P σ σ' → c σ' H'
def EndR (K : PySem.W.Frag) (P : List Nat) (F H : Hp) (A : List Addr) (σ : L2.St) (a : M → Env → Prop) (c : VK) : Prop :=
  ∀ F' H' σ' env' A' v m B, a m env' → Ste K F' H' σ' env' A' → Own K F' H' v m B → (A' ++ B).Nodup → Stp F H A F' H' (A' ++ B) → Pin P σ σ' → c v H'
structure EndsOk (K : PySem.W.Frag) (P : List Nat) (F H : Hp) (A : List Addr) (σ : L2.St) (DA : AEnds) (D : Ends) : Prop where
  nx : EndN K P F H A σ DA.nx D.nx
  rt : EndR K P F H A σ DA.rt D.rt
  bk : EndN K P F H A σ DA.bk D.bk
  ct : EndN K P F H A σ DA.ct D.ct
section
variable {K : PySem.W.Frag} {P : List Nat} {F H F1 H1 : Hp} {A A1 : List Addr} {σ σ1 : L2.St}
theorem EndN.go {a : Env → Prop} {c : L2.St → Hp → Prop} (h : EndN K P F H A σ a c) (s : Stp F H A F1 H1 A1) (p : Pin P σ σ1) : EndN K P F1 H1 A1 σ1 a c :=
  fun F' H' σ' env' A' q S s' p' => h F' H' σ' env' A' q S (s.trans s') (p.trans p')
theorem EndR.go {a : M → Env → Prop} {c : VK} (h : EndR K P F H A σ a c) (s : Stp F H A F1 H1 A1) (p : Pin P σ σ1) : EndR K P F1 H1 A1 σ1 a c :=
  fun F' H' σ' env' A' v m B q S o n s' p' => h F' H' σ' env' A' v m B q S o n (s.trans s') (p.trans p')
theorem EndsOk.go {DA : AEnds} {D : Ends} (h : EndsOk K P F H A σ DA D) (s : Stp F H A F1 H1 A1) (p : Pin P σ σ1) : EndsOk K P F1 H1 A1 σ1 DA D :=
  ⟨h.nx.go s p, h.rt.go s p, h.bk.go s p, h.ct.go s p⟩
theorem EndsOk.with {DA : AEnds} {D : Ends} (h : EndsOk K P F H A σ DA D) {n : Env → Prop} {n' : L2.St → Hp → Prop} (hn : EndN K P F H A σ n n') : EndsOk K P F H A σ { DA with nx := n } { D with nx := n' } := ⟨hn, h.rt, h.bk, h.ct⟩
end
def SndS (K : PySem.W.Frag) (P : List Nat) (ts : TS) (as : AS) : Prop := ∀ (F H : Hp) (σ : L2.St) (env : Env) (A : List Addr), Ste K F H σ env A → ∀ DA : AEnds, as DA env → ∀ D : Ends, EndsOk K P F H A σ DA D → ts D σ H

section
variable {K : PySem.W.Frag} {P : List Nat} {te ta tb : TE} {a b : AE} {t u : TS} {as bs : AS} {c : TT} {ct : AT}
def aNext : AS := fun D env => D.nx env
theorem snds_next : SndS K P tNext aNext := fun F H σ env A S DA h D k => k.nx F H σ env A h S Stp.refl Pin.refl
def aBreak : AS := fun D env => D.bk env
theorem snds_break : SndS K P tBreak aBreak := fun F H σ env A S DA h D k => k.bk F H σ env A h S Stp.refl Pin.refl
def aCont : AS := fun D env => D.ct env
theorem snds_cont : SndS K P tCont aCont := fun F H σ env A S DA h D k => k.ct F H σ env A h S Stp.refl Pin.refl
def aSeq (t u : AS) : AS := fun D env => t { D with nx := u D } env
theorem snds_seq (h1 : SndS K P t as) (h2 : SndS K P u bs) : SndS K P (tSeq t u) (aSeq as bs) := fun F H σ env A S DA h D k =>
  h1 F H σ env A S _ h _ (k.with fun F' H' σ' env' A' q S' s' p' => h2 F' H' σ' env' A' S' DA q D (k.go s' p'))
def aDrop (a : AE) : AS := fun D env => a env fun _ e1 => D.nx e1
theorem Aft.lost {F H F' H' : Hp} {A A' B : List Addr} {σ : L2.St} {env' : Env} {v : V} {x : X} (t : Aft K F H A σ F' H' env' A' v x B) : Stp F H A F' H' A' := t.stp.less fun _ z => List.mem_append_left _ z
theorem snds_drop (h : Snd K te a) : SndS K P (tDrop te) (aDrop a) := fun F H σ env A S DA q D k =>
  h F H σ env A S _ q _ fun F1 H1 e1 A1 v x B q1 t => k.nx F1 H1 σ e1 A1 q1 t.ste t.lost Pin.refl
def retX : X → Env → (M → Env → Prop) → Prop
  | .val m, e1, R => R m e1
  | .slot i, e1, R => ∃ m, e1[i]? = some (some m) ∧ R m (e1.set i none)
def aRet (a : AE) : AS := fun D env => a env fun x e1 => retX x e1 D.rt
theorem snds_ret (h : Snd K te a) : SndS K P (tRet te) (aRet a) := fun F H σ env A S DA q D k =>
  h F H σ env A S _ q _ fun F1 H1 e1 A1 v x B q1 t => by
    cases hr : t.rep with
    | val o => exact k.rt F1 H1 σ e1 A1 v _ B q1 t.ste o t.nd t.stp Pin.refl
    | @slot i hs =>
      obtain ⟨m, em, q1⟩ := q1
      obtain ⟨u, C, R, g1, g2, g3, g4⟩ := t.ste.sl.get em
      rw [hs] at g1; cases g1
      have st := t.stp
      rw [List.append_nil] at st
      refine k.rt F1 H1 σ _ R v m C q1 ⟨t.ste.sub, g3, (List.nodup_append.mp ((g4.nodup_iff).mp t.ste.nd)).2.1⟩ g2 ?_ ?_ Pin.refl
      · exact List.perm_append_comm.nodup_iff.mp ((g4.nodup_iff).mp t.ste.nd)
      · exact st.less fun b hb => g4.mem_iff.mpr (by rcases List.mem_append.mp hb with z | z; exact List.mem_append_right _ z; exact List.mem_append_left _ z)
/-- what is given back stays shared -/
def aRetF (a : AE) : AS := fun D env => a env fun x e1 => use x e1 fun d e2 => D.rt (.v d) e2
theorem snds_retF (h : Snd K te a) : SndS K P (tRet te) (aRetF a) := fun F H σ env A S DA q D k =>
  h F H σ env A S _ q _ fun F1 H1 e1 A1 v x B q1 t => by
    obtain ⟨d, e2, F2, A2, q2, S2, z, s2, _⟩ := use_ok t.ste t.rep t.nd q1
    exact k.rt F2 H1 σ e2 A2 v _ [] q2 S2 (.v z) (by rw [List.append_nil]; exact S2.nd) (by rw [List.append_nil]; exact t.stp.trans s2) Pin.refl
def aRetN : AS := fun D env => D.rt (.v .none) env
theorem snds_retN : SndS K P tRetN aRetN := fun F H σ env A S DA q D k => k.rt F H σ env A .non _ [] q S (.v .non) (by rw [List.append_nil]; exact S.nd) (by rw [List.append_nil]; exact Stp.refl) Pin.refl
def ifX : Bool → AS → AS → AEnds → Env → Prop
  | true, t, _, E, e1 => t E e1
  | false, _, u, E, e1 => u E e1
def aIfS (c : AT) (t u : AS) : AS := fun D env => c env fun b e1 => ifX b t u D e1
theorem snds_if (hc : SndT K c ct) (h1 : SndS K P t as) (h2 : SndS K P u bs) : SndS K P (tIfS c t u) (aIfS ct as bs) := by
  intro F H σ env A S DA q D k
  refine hc F H σ env A S _ q _ fun F1 H1 e1 A1 b q1 S1 s1 => ?_
  cases b with
  | true => exact h1 F1 H1 σ e1 A1 S1 DA q1 D (k.go s1 Pin.refl)
  | false => exact h2 F1 H1 σ e1 A1 S1 DA q1 D (k.go s1 Pin.refl)
/-- forward with a word between -/
def aCut (t u : AS) : AS := fun D env => ∃ Mid : Env → Prop, t { D with nx := Mid } env ∧ ∀ e, Mid e → u D e
theorem snds_cut (h1 : SndS K P t as) (h2 : SndS K P u bs) : SndS K P (tSeq t u) (aCut as bs) := fun F H σ env A S DA h D k => by
  obtain ⟨Mid, h, hm⟩ := h
  exact h1 F H σ env A S _ h _ (k.with fun F' H' σ' env' A' q S' s' p' => h2 F' H' σ' env' A' S' DA (hm _ q) D (k.go s' p'))

/-! ### targets -/
abbrev AG := D → Env → (Env → Prop) → Prop
abbrev AGs := List D → Env → (Env → Prop) → Prop
structure Tgt (K : PySem.W.Frag) (W : List Nat) (F H : Hp) (σ : L2.St) (A : List Addr) (σ' : L2.St) (env' : Env) (A' : List Addr) : Prop where
  ste : Ste K F H σ' env' A'
  sub : ∀ a ∈ A', a ∈ A
  keep : ∀ i, i ∉ W → σ'[i]? = σ[i]?
  len : σ'.length = σ.length
def SndG (K : PySem.W.Frag) (W : List Nat) (g : TG) (ag : AG) : Prop := ∀ (F H : Hp) (σ : L2.St) (env : Env) (A : List Addr) (v : V) (d : D), Ste K F H σ env A → Fz F v d → ∀ Qa, ag d env Qa → ∀ Q : L2.St → Hp → Prop,
  (∀ σ' env' A', Qa env' → Tgt K W F H σ A σ' env' A' → Q σ' H) → g v σ H Q
def SndGs (K : PySem.W.Frag) (W : List Nat) (g : TGs) (ag : AGs) : Prop := ∀ (F H : Hp) (σ : L2.St) (env : Env) (A : List Addr) (vs : List V) (ds : List D), Ste K F H σ env A → FzL F vs ds → ∀ Qa, ag ds env Qa → ∀ Q : L2.St → Hp → Prop,
  (∀ σ' env' A', Qa env' → Tgt K W F H σ A σ' env' A' → Q σ' H) → g vs σ H Q
/-- a slot stored with anything apart -/
theorem Ste.store {F H : Hp} {σ : L2.St} {env : Env} {A B : List Addr} {v : V} {m : M} (S : Ste K F H σ env A) (i : Nat) (o : Own K F H v m B) (n : (A ++ B).Nodup) :
    ∃ A', Ste K F H (σ.set i (some v)) (env.set i (some m)) A' ∧ ∀ a ∈ A', a ∈ A ++ B := by
  by_cases hi : i < σ.length
  · obtain ⟨R, h1, h2, h3⟩ := S.sl.put hi o
    exact ⟨R, ⟨S.sub, h1, h3 n⟩, fun a z => List.mem_append.mpr (h2 a z)⟩
  · refine ⟨A, ?_, fun a z => List.mem_append_left _ z⟩
    rw [List.set_eq_of_length_le (by omega), List.set_eq_of_length_le (by rw [← S.sl.len]; omega)]
    exact S
def gN (i : Nat) : AG := fun d env Q => Q (env.set i (some (.v d)))
theorem sndg_name {i : Nat} : SndG K [i] (gName i) (gN i) := by
  intro F H σ env A v d S z Qa h Q k
  obtain ⟨A', S', sub⟩ := S.store i (.v z) (by rw [List.append_nil]; exact S.nd)
  refine k _ _ A' h ⟨S', fun a y => by have q := sub a y; rw [List.append_nil] at q; exact q, fun j hj => ?_, List.length_set⟩
  rw [List.getElem?_set_ne (fun e => hj (by simp [e]))]
def gNilA : AGs := fun ds env Q => ds = [] ∧ Q env
def gConsA (g : AG) (r : AGs) : AGs := fun ds env Q => ∃ d ds', ds = d :: ds' ∧ g d env fun e1 => r ds' e1 Q
theorem sndgs_nil : SndGs K [] gNil gNilA := by
  intro F H σ env A vs ds S z Qa h Q k
  obtain ⟨rfl, h⟩ := h
  cases z
  exact ⟨rfl, k σ env A h ⟨S, fun _ y => y, fun _ _ => rfl, rfl⟩⟩
theorem sndgs_cons {W1 W2 : List Nat} {g : TG} {gs : TGs} {ag : AG} {ags : AGs} (h1 : SndG K W1 g ag) (h2 : SndGs K W2 gs ags) : SndGs K (W1 ++ W2) (gCons g gs) (gConsA ag ags) := by
  intro F H σ env A vs ds S z Qa h Q k
  obtain ⟨d, ds', rfl, h⟩ := h
  cases z with
  | cons z zs =>
    refine ⟨_, _, rfl, h1 F H σ env A _ d S z _ h _ fun σ1 e1 A1 q1 t1 => ?_⟩
    refine h2 F H σ1 e1 A1 _ ds' t1.ste zs _ q1 _ fun σ2 e2 A2 q2 t2 => ?_
    refine k σ2 e2 A2 q2 ⟨t2.ste, fun a y => t1.sub a (t2.sub a y), fun i hi => ?_, t2.len.trans t1.len⟩
    rw [t2.keep i fun y => hi (List.mem_append_right _ y), t1.keep i fun y => hi (List.mem_append_left _ y)]
def gTupA (r : AGs) : AG := fun d env Q => ∃ ds, d = .tuple ds ∧ r ds env Q
theorem sndg_tup {W : List Nat} {n : Nat} {gs : TGs} {ags : AGs} (h1 : SndGs K W gs ags) (hn : ∀ ds env Q, ags ds env Q → ds.length = n) : SndG K W (gTup K n gs) (gTupA ags) := by
  intro F H σ env A v d S z Qa h Q k
  obtain ⟨ds, rfl, h⟩ := h
  cases z with
  | @tup a xs _ e zs =>
    exact ⟨a, xs, rfl, .inl (.inl (S.sub.tup e)), by rw [zs.length]; exact hn _ _ _ h, h1 F H σ env A xs ds S zs _ h Q k⟩
theorem gNil_len : ∀ ds env Q, gNilA ds env Q → ds.length = 0 := fun ds env Q h => by rw [h.1]; rfl
theorem gCons_len {g : AG} {r : AGs} {n : Nat} (hm : ∀ d env (Q : Env → Prop), g d env Q → True) (h : ∀ ds env Q, r ds env Q → ds.length = n) (hg : ∀ d env (Q : Env → Prop), g d env Q → ∃ e, Q e) : ∀ ds env Q, gConsA g r ds env Q → ds.length = n + 1 := fun ds env Q q => by
  obtain ⟨d, ds', rfl, q⟩ := q
  obtain ⟨e, q⟩ := hg _ _ _ q
  rw [List.length_cons, h _ _ _ q]
theorem gN_ex {i : Nat} : ∀ d env (Q : Env → Prop), gN i d env Q → ∃ e, Q e := fun _ _ _ h => ⟨_, h⟩

/-! ### assignments -/
def asgX : X → Nat → Env → (Env → Prop) → Prop
  | .val m, i, e1, N => N (e1.set i (some m))
  | .slot j, i, e1, N => use (.slot j) e1 fun d e2 => N (e2.set i (some (.v d)))
def aAsg (i : Nat) (a : AE) : AS := fun D env => a env fun x e1 => asgX x i e1 D.nx
theorem snds_asg {i : Nat} (hP : i ∉ P) (h : Snd K te a) : SndS K P (tAsg te (gName i)) (aAsg i a) := fun F H σ env A S DA q D k =>
  h F H σ env A S _ q _ fun F1 H1 e1 A1 v x B q1 t => by
    cases hr : t.rep with
    | val o =>
      obtain ⟨A', S', sub⟩ := t.ste.store i o t.nd
      exact k.nx F1 H1 _ _ A' q1 S' (t.stp.less sub) (Pin.set hP)
    | @slot j hs =>
      have q1 : use (X.slot j) e1 (fun d e2 => DA.nx (e2.set i (some (.v d)))) := q1
      obtain ⟨d, e2, F2, A2, q2, S2, z, s2, _⟩ := use_ok t.ste t.rep t.nd q1
      obtain ⟨A', S', sub⟩ := S2.store i (.v z) (by rw [List.append_nil]; exact S2.nd)
      exact k.nx F2 H1 _ _ A' q2 S' ((t.stp.trans s2).less fun a y => by have q := sub a y; rw [List.append_nil] at q; exact q) (Pin.set hP)
def aAsgG (g : AG) (a : AE) : AS := fun D env => a env fun x e1 => use x e1 fun d e2 => g d e2 D.nx
theorem Pin.of {W : List Nat} {σ σ' : L2.St} (hP : ∀ i ∈ P, i ∉ W) (h : ∀ i, i ∉ W → σ'[i]? = σ[i]?) : Pin P σ σ' := fun i hi => h i (hP i hi)
theorem snds_asgG {W : List Nat} {g : TG} {ag : AG} (hP : ∀ i ∈ P, i ∉ W) (hg : SndG K W g ag) (h : Snd K te a) : SndS K P (tAsg te g) (aAsgG ag a) := fun F H σ env A S DA q D k =>
  h F H σ env A S _ q _ fun F1 H1 e1 A1 v x B q1 t => by
    obtain ⟨d, e2, F2, A2, q2, S2, z, s2, _⟩ := use_ok t.ste t.rep t.nd q1
    refine hg F2 H1 σ e2 A2 v d S2 z _ q2 _ fun σ' env' A' q3 t3 => ?_
    exact k.nx F2 H1 σ' env' A' q3 t3.ste ((t.stp.trans s2).less t3.sub) (Pin.of hP t3.keep)
/-- a, b = x, y -/
def parX : X → X → Nat → Nat → Env → (Env → Prop) → Prop
  | .val m, .val n, i, j, e1, N => N ((e1.set i (some m)).set j (some n))
  | .val m, .slot y, i, j, e1, N => use (.val m) e1 fun d e2 => use (.slot y) e2 fun f e3 => N ((e3.set i (some (.v d))).set j (some (.v f)))
  | .slot x, y, i, j, e1, N => use (.slot x) e1 fun d e2 => use y e2 fun f e3 => N ((e3.set i (some (.v d))).set j (some (.v f)))
def aPar (i j : Nat) (a : AA) : AS := fun D env => a env fun xs e1 => ∃ x y, xs = [x, y] ∧ parX x y i j e1 D.nx
theorem snds_par {i j : Nat} {ta : TA} {aa : AA} (hi : i ∉ P) (hj : j ∉ P) (h : SndA K ta aa) : SndS K P (tPar i j ta) (aPar i j aa) := fun F H σ env A S DA q D k =>
  h F H σ env A S _ q _ fun F1 H1 e1 A1 vs xs B q1 t => by
    obtain ⟨x, y, rfl, q1⟩ := q1
    cases hr : t.rep with
    | @cons v _ _ _ B1 C1 r1 r2 =>
      cases r2 with
      | @cons u _ _ _ B2 C2 r2 r3 =>
        cases r3
        refine ⟨v, u, rfl, ?_⟩
        have nd := t.nd
        rw [List.append_nil] at nd
        have st := t.stp
        rw [List.append_nil] at st
        rw [← List.append_assoc] at nd st
        have gen : (use x e1 fun d e2 => use y e2 fun f e3 => DA.nx ((e3.set i (some (.v d))).set j (some (.v f)))) → D.nx ((σ.set i (some v)).set j (some u)) H1 := fun q1 => by
          obtain ⟨d, e2, F2, A2, q2, S2, z2, s2, sub2, _⟩ := use_ok t.ste r1 (List.nodup_append.mp nd).1 q1
          have n2 : (A2 ++ B2).Nodup := by
            rw [List.nodup_append] at nd ⊢
            exact ⟨S2.nd, nd.2.1, fun a ha b hb e => nd.2.2 a (List.mem_append_left _ (sub2 a ha)) b hb e⟩
          obtain ⟨f, e3, F3, A3, q3, S3, z3, s3, sub3, _⟩ := use_ok S2 (r2.keep s2 nd) n2 q2
          obtain ⟨A', S', sub'⟩ := S3.store i (.v (z2.mono s3.fz)) (by rw [List.append_nil]; exact S3.nd)
          obtain ⟨A'', S'', sub''⟩ := S'.store j (.v z3) (by rw [List.append_nil]; exact S'.nd)
          refine k.nx F3 H1 _ _ A'' q3 S'' ((st.trans (s2.side.trans s3)).less fun a y => ?_) ((Pin.set hi).trans (Pin.set hj))
          have q := sub'' a y
          rw [List.append_nil] at q
          have q := sub' a q
          rw [List.append_nil] at q
          exact q
        cases x with
        | slot x => exact gen q1
        | val m =>
          cases y with
          | slot y => exact gen q1
          | val n =>
            cases r1 with
            | val o1 =>
              cases r2 with
              | val o2 =>
                obtain ⟨A', S', sub'⟩ := t.ste.store i o1 (List.nodup_append.mp nd).1
                have n2 : (A' ++ B2).Nodup := by
                  rw [List.nodup_append] at nd ⊢
                  exact ⟨S'.nd, nd.2.1, fun a ha b hb e => nd.2.2 a (sub' a ha) b hb e⟩
                obtain ⟨A'', S'', sub''⟩ := S'.store j o2 n2
                refine k.nx F1 H1 _ _ A'' q1 S'' (st.less fun a y => ?_) ((Pin.set hi).trans (Pin.set hj))
                rcases List.mem_append.mp (sub'' a y) with z | z
                · exact List.mem_append_left _ (sub' a z)
                · exact List.mem_append_right _ z
/-- x += e -/
def aAug (i : Nat) (p : D → D → Option M) (a : AE) : AS := fun D env => ∃ d, env[i]? = some (some (.v d)) ∧ a env fun y e1 => ∃ e m, rd e1 y = some e ∧ p d e = some m ∧ D.nx (e1.set i (some m))
theorem snds_aug {i : Nat} {r : R2} {p : D → D → Option M} (hP : i ∉ P) (hr : Prim2 K r p) (h : Snd K te a) : SndS K P (tAug i te r) (aAug i p a) := fun F H σ env A S DA q D k => by
  obtain ⟨d, e, q⟩ := q
  obtain ⟨v, B, R, h1, h2, _⟩ := S.sl.get e
  cases h2 with
  | v z =>
    refine ⟨v, h1, h F H σ env A S _ q _ fun F1 H1 e1 A1 u y B q1 t => ?_⟩
    obtain ⟨e, m, ee, ep, q1⟩ := q1
    refine hr F1 H1 v u d e m t.ste.sub (.fz (z.mono t.stp.fz)) (t.ste.repH t.rep ee) ep _ fun F' H' v' C n => ?_
    have t' := Aft.new t.ste t.stp n
    obtain ⟨A', S', sub⟩ := t'.ste.store i n.own t'.nd
    exact k.nx F' H' _ _ A' q1 S' (t'.stp.less sub) (Pin.set hP)
end
end ML
/-! ML4: loops, comprehensions, calls, defs. -/
namespace ML
open PySem L2

section
variable {K : PySem.W.Frag} {P : List Nat} {te ta tb : TE} {a b : AE} {t u : TS} {as bs : AS} {c : TT} {ct : AT}
/-! ### while -/
def aWhile (c : AT) (b : AS) : AS := fun D env => ∃ W : Nat → Env → Prop, (∃ m, W m env) ∧ ∀ m e, W m e → c e fun k e1 => if k = true then b { D with nx := fun e2 => ∃ m', m' < m ∧ W m' e2, ct := fun e2 => ∃ m', m' < m ∧ W m' e2, bk := D.nx } e1 else D.nx e1
theorem snds_while (hc : SndT K c ct) (hb : SndS K P t as) : SndS K P (tWhile c t) (aWhile ct as) := by
  intro F H σ env A S DA q D k
  obtain ⟨W, ⟨m0, w0⟩, turn⟩ := q
  refine ⟨fun m σ' H' => ∃ F' env' A', W m env' ∧ Ste K F' H' σ' env' A' ∧ Stp F H A F' H' A' ∧ Pin P σ σ', ⟨m0, F, env, A, w0, S, Stp.refl, Pin.refl⟩, ?_⟩
  rintro m σ1 H1 ⟨F1, e1, A1, w1, S1, s1, p1⟩
  refine hc F1 H1 σ1 e1 A1 S1 _ (turn m e1 w1) _ fun F2 H2 e2 A2 b q2 S2 s2 => ?_
  cases b with
  | false => exact k.nx F2 H2 σ1 e2 A2 q2 S2 (s1.trans s2) p1
  | true =>
    refine ⟨fun σ' H' => ∃ m', m' < m ∧ ∃ F' env' A', W m' env' ∧ Ste K F' H' σ' env' A' ∧ Stp F H A F' H' A' ∧ Pin P σ σ', fun σ' H' h => h, ?_⟩
    have k1 := k.go (s1.trans s2) p1
    refine hb F2 H2 σ1 e2 A2 S2 _ q2 _ ⟨fun F' H' σ' env' A' q S' s' p' => ?_, k1.rt, fun F' H' σ' env' A' q S' s' p' => ?_, fun F' H' σ' env' A' q S' s' p' => ?_⟩
    · obtain ⟨m', hm, w⟩ := q
      exact ⟨m', hm, F', env', A', w, S', (s1.trans s2).trans s', p1.trans p'⟩
    · exact k1.nx F' H' σ' env' A' q S' s' p'
    · obtain ⟨m', hm, w⟩ := q
      exact ⟨m', hm, F', env', A', w, S', (s1.trans s2).trans s', p1.trans p'⟩

/-! ### what is walked -/
abbrev Src := Option (Nat × M)
abbrev AI := Env → (List D → Src → Env → Prop) → Prop
def srcOk (src : Src) (env : Env) : Prop := match src with
  | none => True
  | some (j, m) => env[j]? = some (some m)
def ItOk (K : PySem.W.Frag) (J : It) (items : List D) (src : Src) (F0 H0 : Hp) (A0 : List Addr) (σ : L2.St) : Prop :=
  ∀ (i : Nat) (F1 H1 : Hp) (σ1 : L2.St) (e1 : Env) (A1 : List Addr), Ste K F1 H1 σ1 e1 A1 → Ext F0 F1 → (∀ a o, H0 a = some o → a ∉ A0 → H1 a = some o) → srcOk src e1 → (∀ j m, src = some (j, m) → σ1[j]? = σ[j]?) →
    (items.length ≤ i → J.stop i H1) ∧ ∀ d, items[i]? = some d → J.go i H1 ∧ ∀ x H2, J.yld i H1 x H2 → ∃ F2, Sub F2 H2 ∧ Stp F1 H1 [] F2 H2 [] ∧ Fz F2 x d
def SndI (K : PySem.W.Frag) (wi : TI) (ai : AI) : Prop := ∀ (F H : Hp) (σ : L2.St) (env : Env) (A : List Addr), Ste K F H σ env A → ∀ Qa, ai env Qa → ∀ R : It → Hp → Prop,
  (∀ F' H' env' A' J items src, Qa items src env' → Ste K F' H' σ env' A' → Stp F H A F' H' A' → ItOk K J items src F' H' A' σ → R J H') → wi σ H R

/-- a list: its own (it must stay while it is walked), or frozen -/
def iL (a : AE) : AI := fun env Q => a env fun x e1 => match x with
  | .val m => ∃ ds, frzM m = some (.list ds) ∧ Q ds none e1
  | .slot j => ∃ ds, e1[j]? = some (some (.own (.list ds))) ∧ Q ds (some (j, .own (.list ds))) e1
def iLF (a : AE) : AI := fun env Q => a env fun x e1 => use x e1 fun d e2 => ∃ ds, d = .list ds ∧ Q ds none e2
theorem itl_fz {F0 H0 : Hp} {A0 : List Addr} {a0 : Addr} {xs : List V} {ds : List D} {src : Src} {σ : L2.St} (h : F0 a0 = some (.lst xs)) (z : FzL F0 xs ds) : ItOk K (Itl K a0) ds src F0 H0 A0 σ := by
  intro i F1 H1 σ1 e1 A1 S e _ _ _
  have h1 : SqL K H1 a0 xs := .inl (.inl (S.sub.lst (e _ _ h)))
  refine ⟨fun hl => ⟨xs, h1, by rw [z.length]; exact hl⟩, fun d hd => ?_⟩
  obtain ⟨v, hv, zv⟩ := z.get hd
  refine ⟨⟨xs, v, h1, hv⟩, fun x H2 y => ?_⟩
  obtain ⟨rfl, y⟩ := y
  have q := y xs h1
  rw [hv] at q; cases q
  exact ⟨F1, S.sub, Stp.refl, zv.mono e⟩
theorem sndi_LF (h : Snd K ta a) : SndI K (iList K ta) (iLF a) := by
  intro F H σ env A S Qa q R k
  refine h F H σ env A S _ q _ fun F1 H1 e1 A1 v x B q1 t => ?_
  obtain ⟨d, e2, F2, A2, ⟨ds, rfl, q2⟩, S2, z, s2, _⟩ := use_ok t.ste t.rep t.nd q1
  cases z with
  | @lst a0 xs _ e zs => exact ⟨a0, rfl, ⟨xs, .inl (.inl (S2.sub.lst e))⟩, k F2 H1 e2 A2 _ ds none q2 S2 (t.stp.trans s2) (itl_fz e zs)⟩
theorem sndi_L (h : Snd K ta a) : SndI K (iList K ta) (iL a) := by
  intro F H σ env A S Qa q R k
  refine h F H σ env A S _ q _ fun F1 H1 e1 A1 v x B q1 t => ?_
  cases hr : t.rep with
  | @val m _ o =>
    obtain ⟨ds, em, q1⟩ := q1
    obtain ⟨F2, S2, z, s2, _⟩ := t.ste.frz o t.nd em
    cases z with
    | @lst a0 xs _ e zs => exact ⟨a0, rfl, ⟨xs, .inl (.inl (S2.sub.lst e))⟩, k F2 H1 e1 A1 _ ds none q1 S2 (t.stp.trans s2) (itl_fz e zs)⟩
  | @slot j hs =>
    obtain ⟨ds, em, q1⟩ := q1
    obtain ⟨B, o⟩ := t.ste.slot hs em
    cases o with
    | @lst a0 xs _ e n zs =>
      have st := t.stp
      rw [List.append_nil] at st
      refine ⟨a0, rfl, ⟨xs, .inl (.inl e)⟩, k F1 H1 e1 A1 _ ds _ q1 t.ste st ?_⟩
      intro i F3 H3 σ3 e3 A3 S3 ex _ so sj
      have hs3 : σ3[j]? = some (some (.ref a0)) := (sj j _ rfl).trans hs
      obtain ⟨C, o3⟩ := S3.slot hs3 so
      cases o3 with
      | @lst _ ys _ e3' n3 zs3 =>
        have h1 : SqL K H3 a0 ys := .inl (.inl e3')
        refine ⟨fun hl => ⟨ys, h1, by rw [zs3.length]; exact hl⟩, fun d hd => ?_⟩
        obtain ⟨v, hv, zv⟩ := zs3.get hd
        refine ⟨⟨ys, v, h1, hv⟩, fun x H2 y => ?_⟩
        obtain ⟨rfl, y⟩ := y
        have q := y ys h1
        rw [hv] at q; cases q
        exact ⟨F3, S3.sub, Stp.refl, zv⟩
/-- a tuple -/
def iT (a : AE) : AI := fun env Q => a env fun x e1 => ∃ ds, x = .val (.v (.tuple ds)) ∧ Q ds none e1
theorem sndi_T (h : Snd K ta a) : SndI K (iTup K ta) (iT a) := by
  intro F H σ env A S Qa q R k
  refine h F H σ env A S _ q _ fun F1 H1 e1 A1 v x B q1 t => ?_
  obtain ⟨ds, rfl, q1⟩ := q1
  cases t.rep with
  | val o => cases o with
    | v z => cases z with
      | @tup a0 xs _ e zs =>
        have st := t.stp
        rw [List.append_nil] at st
        refine ⟨a0, rfl, ⟨xs, .inl (.inl (t.ste.sub.tup e))⟩, k F1 H1 e1 A1 _ ds none q1 t.ste st ?_⟩
        intro i F3 H3 σ3 e3 A3 S3 ex _ _ _
        have h1 : SqT K H3 a0 xs := .inl (.inl (S3.sub.tup (ex _ _ e)))
        refine ⟨fun hl => ⟨xs, h1, by rw [zs.length]; exact hl⟩, fun d hd => ?_⟩
        obtain ⟨v, hv, zv⟩ := zs.get hd
        refine ⟨⟨xs, v, h1, hv⟩, fun x H2 y => ?_⟩
        obtain ⟨rfl, y⟩ := y
        have q := y xs h1
        rw [hv] at q; cases q
        exact ⟨F3, S3.sub, Stp.refl, zv.mono ex⟩
/-- the script -/
def iScr (j : Nat) : AI := fun env Q => ∃ ns, env[j]? = some (some (.scr ns)) ∧ Q (ns.map PyData.int) none env
theorem sndi_scr {j : Nat} : SndI K (iList K (tVar j)) (iScr j) := by
  intro F H σ env A S Qa q R k
  obtain ⟨ns, e, q⟩ := q
  obtain ⟨v, B, R', h1, h2, _⟩ := S.sl.get e
  cases h2 with
  | @scr a0 _ hq =>
    have up : ∀ {F1 H1 : Hp}, Ext F F1 → Sub F1 H1 → SqL K H1 a0 (ns.map V.int) := fun {F1 H1} ex sub => by
      rcases hq with (hq | ⟨o, hq⟩) | hq
      · exact .inl (.inl (sub.lst (ex _ _ hq)))
      · rcases sub _ _ (ex _ _ hq) with z | ⟨z, _⟩
        · exact .inl (.inr ⟨o, z⟩)
        · exact z.elim
      · exact .inr hq
    refine ⟨.ref a0, h1, a0, rfl, ⟨_, up (Ext.refl F) S.sub⟩, k F H env A _ _ none q S Stp.refl ?_⟩
    intro i F3 H3 σ3 e3 A3 S3 ex _ _ _
    have h1 := up ex S3.sub
    refine ⟨fun hl => ⟨_, h1, by rw [List.length_map] at hl ⊢; exact hl⟩, fun d hd => ?_⟩
    rw [List.getElem?_map] at hd
    obtain ⟨n, hn, rfl⟩ := Option.map_eq_some_iff.mp hd
    refine ⟨⟨_, .int n, h1, by rw [List.getElem?_map, hn] <;> rfl⟩, fun x H2 y => ?_⟩
    obtain ⟨rfl, y⟩ := y
    have q := y _ h1
    rw [List.getElem?_map, hn] at q
    cases q
    exact ⟨F3, S3.sub, Stp.refl, .int n⟩
/-- a range -/
def rngD (lo : Int) (n : Nat) : List D := (List.range n).map fun k : Nat => .int (lo + (k : Int))
theorem itr_ok {F0 H0 : Hp} {A0 : List Addr} {lo : Int} {n : Nat} {src : Src} {σ : L2.St} : ItOk K (Itr lo n) (rngD lo n) src F0 H0 A0 σ := by
  intro i F1 H1 σ1 e1 A1 S _ _ _ _
  refine ⟨fun hl => ?_, fun d hd => ?_⟩
  · unfold rngD at hl
    rw [List.length_map, List.length_range] at hl
    exact hl
  · unfold rngD at hd
    rw [List.getElem?_map] at hd
    obtain ⟨j, hj, rfl⟩ := Option.map_eq_some_iff.mp hd
    obtain ⟨hi, e⟩ := List.getElem?_eq_some_iff.mp hj
    rw [List.getElem_range] at e
    subst e
    rw [List.length_range] at hi
    refine ⟨hi, fun x H2 y => ?_⟩
    obtain ⟨rfl, rfl⟩ := y
    exact ⟨F1, S.sub, Stp.refl, .int _⟩
theorem AftL.lost {F H F' H' : Hp} {A A' B : List Addr} {σ : L2.St} {env' : Env} {vs : List V} {xs : List X} (t : AftL K F H A σ F' H' env' A' vs xs B) : Stp F H A F' H' A' := t.stp.less fun _ z => List.mem_append_left _ z
def iR1 (a : AA) : AI := fun env Q => a env fun xs e1 => ∃ j : Int, xs = [.val (.v (.int j))] ∧ (-4611686018427387904 ≤ j ∧ j < 4611686018427387904) ∧ Q (rngD 0 j.toNat) none e1
def iR2 (a : AA) : AI := fun env Q => a env fun xs e1 => ∃ i j : Int, xs = [.val (.v (.int i)), .val (.v (.int j))] ∧ (-4611686018427387904 ≤ i ∧ i < 4611686018427387904 ∧ -4611686018427387904 ≤ j ∧ j < 4611686018427387904) ∧ Q (rngD i (j - i).toNat) none e1
theorem RepX.int {F H : Hp} {σ : L2.St} {v : V} {i : Int} {B : List Addr} (h : RepX K F H σ v (.val (.v (.int i))) B) : v = .int i := by
  cases h with
  | val o => cases o with
    | v z => cases z; rfl
theorem sndi_R1 {t : TA} {aa : AA} (h : SndA K t aa) : SndI K (iRng1 t) (iR1 aa) := by
  intro F H σ env A S Qa q R k
  refine h F H σ env A S _ q _ fun F1 H1 e1 A1 vs xs B q1 t => ?_
  obtain ⟨j, rfl, ⟨b1, b2⟩, q1⟩ := q1
  cases hr : t.rep with
  | cons r1 r2 =>
    cases r2
    cases r1.int
    exact ⟨j, rfl, by omega, by omega, k F1 H1 e1 A1 _ _ none q1 t.ste t.lost itr_ok⟩
theorem sndi_R2 {t : TA} {aa : AA} (h : SndA K t aa) : SndI K (iRng2 t) (iR2 aa) := by
  intro F H σ env A S Qa q R k
  refine h F H σ env A S _ q _ fun F1 H1 e1 A1 vs xs B q1 t => ?_
  obtain ⟨i, j, rfl, ⟨b1, b2, b3, b4⟩, q1⟩ := q1
  cases hr : t.rep with
  | cons r1 r2 =>
    cases r2 with
    | cons r2 r3 =>
      cases r3
      cases r1.int
      cases r2.int
      exact ⟨i, j, rfl, by omega, k F1 H1 e1 A1 _ _ none q1 t.ste t.lost itr_ok⟩
/-- range with a step: written bounds on the number of turns -/
def iR3 (a : AA) : AI := fun env Q => a env fun xs e1 => ∃ (i j c : Int) (n : Nat), xs = [.val (.v (.int i)), .val (.v (.int j)), .val (.v (.int c))] ∧ RgC i j c n ∧ Q ((List.range n).map fun k : Nat => .int (i + (k : Int) * c)) none e1
theorem sndi_R3 {t : TA} {aa : AA} (h : SndA K t aa) : SndI K (iRng3 t) (iR3 aa) := by
  intro F H σ env A S Qa q R k
  refine h F H σ env A S _ q _ fun F1 H1 e1 A1 vs xs B q1 t => ?_
  obtain ⟨i, j, c, n, rfl, hg, q1⟩ := q1
  cases hr : t.rep with
  | cons r1 r2 =>
    cases r2 with
    | cons r2 r3 =>
      cases r3 with
      | cons r3 r4 =>
        cases r4
        cases r1.int
        cases r2.int
        cases r3.int
        refine ⟨i, j, c, n, rfl, hg, k F1 H1 e1 A1 _ _ none q1 t.ste t.lost ?_⟩
        intro m F1 H1 σ1 e1 A1 S _ _ _ _
        refine ⟨fun hl => ?_, fun d hd => ?_⟩
        · rw [List.length_map, List.length_range] at hl
          exact hl
        · rw [List.getElem?_map] at hd
          obtain ⟨j, hj, rfl⟩ := Option.map_eq_some_iff.mp hd
          obtain ⟨hi, e⟩ := List.getElem?_eq_some_iff.mp hj
          rw [List.getElem_range] at e
          subst e
          rw [List.length_range] at hi
          refine ⟨hi, fun x H2 y => ?_⟩
          obtain ⟨rfl, rfl⟩ := y
          exact ⟨F1, S.sub, Stp.refl, .int _⟩
/-- a text -/
def strD (x : Str) : List D := x.cps.toList.map fun c => .str ⟨#[c]⟩
def iS (a : AE) : AI := fun env Q => a env fun x e1 => ∃ s, x = .val (.v (.str s)) ∧ Q (strD s) none e1
theorem sndi_S (h : Snd K ta a) : SndI K (iStr ta) (iS a) := by
  intro F H σ env A S Qa q R k
  refine h F H σ env A S _ q _ fun F1 H1 e1 A1 v x B q1 t => ?_
  obtain ⟨s, rfl, q1⟩ := q1
  cases t.rep with
  | val o => cases o with
    | v z => cases z with
      | str _ =>
        refine ⟨s, rfl, k F1 H1 e1 A1 _ _ none q1 t.ste t.lost ?_⟩
        intro i F3 H3 σ3 e3 A3 S3 ex _ _ _
        refine ⟨fun hl => ?_, fun d hd => ?_⟩
        · unfold strD at hl
          rw [List.length_map, Array.length_toList] at hl
          exact hl
        · unfold strD at hd
          rw [List.getElem?_map] at hd
          obtain ⟨c, hc, rfl⟩ := Option.map_eq_some_iff.mp hd
          rw [Array.getElem?_toList] at hc
          refine ⟨(Array.getElem?_eq_some_iff.mp hc).1, fun x H2 y => ?_⟩
          obtain ⟨rfl, c', hc', rfl⟩ := y
          rw [hc] at hc'; cases hc'
          exact ⟨F3, S3.sub, Stp.refl, .str _⟩

/-! ### for -/
def forGo (g : AG) (b : AS) (E : AEnds) : List D → Env → Prop
  | [], env => E.nx env
  | d :: ds, env => g d env fun e1 => b { E with nx := forGo g b E ds, ct := forGo g b E ds, bk := E.nx } e1
def aFor (ai : AI) (g : AG) (b : AS) : AS := fun D env => ai env fun items src e1 => src = none ∧ forGo g b D items e1
theorem drop_cons {α : Type} {l : List α} {i : Nat} (h : i < l.length) : ∃ x, l[i]? = some x ∧ l.drop i = x :: l.drop (i + 1) := ⟨l[i], List.getElem?_eq_getElem h, List.drop_eq_getElem_cons h⟩
theorem snds_for {wi : TI} {ai : AI} {W : List Nat} {g : TG} {ag : AG} (hP : ∀ i ∈ P, i ∉ W) (hi : SndI K wi ai) (hg : SndG K W g ag) (hb : SndS K P t as) : SndS K P (tFor wi g t) (aFor ai ag as) := by
  intro F H σ env A S DA q D k
  refine hi F H σ env A S _ q _ fun F1 H1 e1 A1 J items src q1 S1 s1 ok => ?_
  obtain ⟨rfl, q1⟩ := q1
  refine ⟨fun i m σ' H' => m = items.length - i ∧ i ≤ items.length ∧ ∃ F' env' A', forGo ag as DA (items.drop i) env' ∧ Ste K F' H' σ' env' A' ∧ Stp F1 H1 A1 F' H' A' ∧ Pin P σ σ', ⟨items.length, by simp, Nat.zero_le _, F1, e1, A1, q1, S1, Stp.refl, Pin.refl⟩, ?_⟩
  rintro i m σ2 H2 ⟨rfl, hle, F2, e2, A2, q2, S2, s2, p2⟩
  obtain ⟨o1, o2⟩ := ok i F2 H2 σ2 e2 A2 S2 s2.fz s2.keep trivial (fun _ _ z => by cases z)
  have k2 := k.go (s1.trans s2) p2
  by_cases hlt : i < items.length
  · obtain ⟨d, hd, hdr⟩ := drop_cons hlt
    rw [hdr] at q2
    obtain ⟨go, step⟩ := o2 d hd
    refine .inr ⟨go, fun σ' H' => ∃ F' env' A', forGo ag as DA (items.drop (i + 1)) env' ∧ Ste K F' H' σ' env' A' ∧ Stp F1 H1 A1 F' H' A' ∧ Pin P σ σ', fun σ' H' h => ⟨items.length - (i + 1), by omega, rfl, hlt, h⟩, fun x H3 y => ?_⟩
    obtain ⟨F3, sub3, st3, z3⟩ := step x H3 y
    have S3 := S2.after st3 sub3
    have st3' : Stp F2 H2 A2 F3 H3 A2 := by
      have q := st3.side (B := A2)
      exact q
    refine hg F3 H3 σ2 e2 A2 x d S3 z3 _ q2 _ fun σ4 e4 A4 q4 t4 => ?_
    have s4 : Stp F2 H2 A2 F3 H3 A4 := st3'.less t4.sub
    have p4 : Pin P σ2 σ4 := Pin.of hP t4.keep
    have k4 := k2.go s4 p4
    refine hb F3 H3 σ4 e4 A4 t4.ste _ q4 _ ⟨fun F' H' σ' env' A' q S' s' p' => ?_, k4.rt, k4.nx, fun F' H' σ' env' A' q S' s' p' => ?_⟩
    · exact ⟨F', env', A', q, S', s2.trans (s4.trans s'), p2.trans (p4.trans p')⟩
    · exact ⟨F', env', A', q, S', s2.trans (s4.trans s'), p2.trans (p4.trans p')⟩
  · have e : i = items.length := by omega
    subst e
    rw [List.drop_length] at q2
    exact .inl ⟨o1 (Nat.le_refl _), k2.nx F2 H2 σ2 e2 A2 q2 S2 Stp.refl Pin.refl⟩
/-- the loop by a word: from turn to turn -/
theorem forGo_inv {g : AG} {b : AS} {E : AEnds} {items : List D} (Pv : Nat → Env → Prop) (hs : ∀ i d e (N : Env → Prop), items[i]? = some d → Pv i e → (∀ e', Pv (i + 1) e' → N e') → g d e fun e1 => b { E with nx := N, ct := N, bk := E.nx } e1)
    (hd : ∀ e, Pv items.length e → E.nx e) : ∀ (i : Nat) (e : Env), i ≤ items.length → Pv i e → forGo g b E (items.drop i) e := by
  intro i
  generalize hn : items.length - i = n
  induction n generalizing i with
  | zero =>
    intro e hi p
    have q : i = items.length := by omega
    subst q
    rw [List.drop_length]
    exact hd e p
  | succ n ih =>
    intro e hi p
    obtain ⟨d, hd', hdr⟩ := drop_cons (l := items) (i := i) (by omega)
    rw [hdr]
    exact hs i d e _ hd' p fun e2 p2 => ih (i + 1) (by omega) e2 (by omega) p2
theorem forGo_all {g : AG} {b : AS} {E : AEnds} {items : List D} {e : Env} (Pv : Nat → Env → Prop) (h0 : Pv 0 e) (hs : ∀ i d e (N : Env → Prop), items[i]? = some d → Pv i e → (∀ e', Pv (i + 1) e' → N e') → g d e fun e1 => b { E with nx := N, ct := N, bk := E.nx } e1)
    (hd : ∀ e, Pv items.length e → E.nx e) : forGo g b E items e := forGo_inv Pv hs hd 0 e (Nat.zero_le _) h0

/-! ### comprehensions -/
def wipeE (env : Env) : List Nat → Env
  | [] => env
  | v :: vs => (wipeE env vs).set v none
def frzE (o : Option M) : Option M := match o with
  | some (.v d) => some (.v d)
  | _ => none
def restE (e0 e1 : Env) : List Nat → Env
  | [] => e1
  | v :: vs => match e0[v]? with
    | some (some (.v d)) => (restE e0 e1 vs).set v (some (.v d))
    | _ => (restE e0 e1 vs).set v none
def srcFree (src : Src) (vs : List Nat) : Prop := match src with
  | none => True
  | some (j, _) => j ∉ vs
def compGo (src : Src) (vs : List Nat) (g : AG) (tt : AT) (te : AE) : List D → List D → Env → (List D → Env → Prop) → Prop
  | [], acc, env, Q => srcOk src env ∧ Q acc env
  | d :: ds, acc, env, Q => srcOk src env ∧ g d env fun e1 => tt e1 fun b e2 => if b = true then te e2 fun x e3 => use x e3 fun y e4 => acc.length < 1000000 ∧ compGo src vs g tt te ds (acc ++ [y]) (wipeE e4 vs) Q else compGo src vs g tt te ds acc (wipeE e2 vs) Q
def aLc (ai : AI) (g : AG) (tt : AT) (te : AE) (vs : List Nat) : AE := fun env Q => ai env fun items src e1 => srcFree src vs ∧ compGo src vs g tt te items [] (wipeE e1 vs) fun acc e2 => Q (.val (.own (.list acc))) (restE e1 e2 vs)
def aYes : AT := fun env Q => Q true env
theorem sndt_yes : SndT K tYes aYes := fun F H σ env A S Qa h Q k => k F H env A true h S Stp.refl
theorem Slots.wipe {F H : Hp} {σ : L2.St} {env : Env} {A : List Addr} (h : Slots K F H σ env A) : ∀ vs : List Nat, ∃ R, Slots K F H (L2.wipe σ vs) (wipeE env vs) R ∧ List.Sublist R A
  | [] => ⟨A, h, List.Sublist.refl _⟩
  | v :: vs => by
    obtain ⟨R, h1, h2⟩ := Slots.wipe h vs
    obtain ⟨R', h3, h4⟩ := h1.drop none v
    exact ⟨R', h3, h4.trans h2⟩
theorem Ste.wipe {F H : Hp} {σ : L2.St} {env : Env} {A : List Addr} (S : Ste K F H σ env A) (vs : List Nat) : ∃ R, Ste K F H (L2.wipe σ vs) (wipeE env vs) R ∧ ∀ a ∈ R, a ∈ A := by
  obtain ⟨R, h1, h2⟩ := S.sl.wipe vs
  exact ⟨R, ⟨S.sub, h1, h2.nodup S.nd⟩, fun a z => h2.subset z⟩
/-- two states that hold the same slots but vs -/
theorem wipe_get {σ : L2.St} {vs : List Nat} {i : Nat} (h : i ∉ vs) : (L2.wipe σ vs)[i]? = σ[i]? := by
  induction vs with
  | nil => rfl
  | cons v vs ih =>
    show ((L2.wipe σ vs).set v none)[i]? = _
    rw [List.getElem?_set_ne (fun e => h (by rw [e]; exact List.mem_cons_self)), ih fun z => h (List.mem_cons_of_mem _ z)]
theorem wipe_none {σ : L2.St} {vs : List Nat} {i : Nat} (h : i ∈ vs) (hi : i < σ.length) : (L2.wipe σ vs)[i]? = some none := by
  induction vs with
  | nil => simp at h
  | cons v vs ih =>
    show ((L2.wipe σ vs).set v none)[i]? = _
    by_cases e : v = i
    · subst e
      rw [List.getElem?_set_self (by rw [wipe_length]; exact hi)]
    · rw [List.getElem?_set_ne e]
      exact ih ((List.mem_cons.mp h).elim (fun z => absurd z.symm e) id)
theorem wipe_ext {σ τ : L2.St} {vs : List Nat} (hl : τ.length = σ.length) (h : ∀ i, i ∉ vs → τ[i]? = σ[i]?) : L2.wipe τ vs = L2.wipe σ vs := by
  refine List.ext_getElem? fun i => ?_
  by_cases hi : i ∈ vs
  · by_cases hl' : i < σ.length
    · rw [wipe_none hi hl', wipe_none hi (by omega)]
    · rw [List.getElem?_eq_none (by rw [wipe_length]; omega), List.getElem?_eq_none (by rw [wipe_length]; omega)]
  · rw [wipe_get hi, wipe_get hi, h i hi]
theorem wipe_wipe {σ : L2.St} {vs : List Nat} : L2.wipe (L2.wipe σ vs) vs = L2.wipe σ vs := wipe_ext (wipe_length _ _) fun i hi => wipe_get hi
/-- the slots vs come back -/
theorem Ste.rest {F0 H0 F H : Hp} {σ : L2.St} {env env2 : Env} {A0 A : List Addr} (S0 : Ste K F0 H0 σ env A0) (e : Ext F0 F) (vs : List Nat) (S : Ste K F H (L2.wipe σ vs) env2 A) : ∃ R, Ste K F H σ (restE env env2 vs) R ∧ ∀ a ∈ R, a ∈ A := by
  have all : ∀ us : List Nat, (∀ i ∈ us, i ∈ vs) → ∃ τ R, Ste K F H τ (restE env env2 us) R ∧ (∀ a ∈ R, a ∈ A) ∧ τ.length = σ.length ∧ ∀ i, τ[i]? = if i ∈ us then σ[i]? else (L2.wipe σ vs)[i]? := by
    intro us
    induction us with
    | nil => intro _; exact ⟨L2.wipe σ vs, A, S, fun _ z => z, wipe_length _ _, fun i => by simp⟩
    | cons u us ih =>
      intro hu
      obtain ⟨τ, R, h1, h2, h3, h4⟩ := ih fun i z => hu i (List.mem_cons_of_mem _ z)
      by_cases hlt : u < σ.length
      · have key : ∀ (o : Option V), σ[u]? = some o → ∀ i, (τ.set u o)[i]? = if i ∈ u :: us then σ[i]? else (L2.wipe σ vs)[i]? := fun o ho i => by
          by_cases e1 : u = i
          · subst e1
            rw [List.getElem?_set_self (by rw [h3]; exact hlt), if_pos List.mem_cons_self, ho]
          · rw [List.getElem?_set_ne e1, h4 i]
            by_cases e2 : i ∈ us
            · rw [if_pos e2, if_pos (List.mem_cons_of_mem _ e2)]
            · rw [if_neg e2, if_neg (fun z => (List.mem_cons.mp z).elim (fun y => e1 y.symm) e2)]
        obtain ⟨o, ho⟩ : ∃ o, σ[u]? = some o := ⟨_, List.getElem?_eq_getElem hlt⟩
        have plain : ∃ τ' R', Ste K F H τ' ((restE env env2 us).set u none) R' ∧ (∀ a ∈ R', a ∈ A) ∧ τ'.length = σ.length ∧ ∀ i, τ'[i]? = if i ∈ u :: us then σ[i]? else (L2.wipe σ vs)[i]? := by
          obtain ⟨R', g1, g2⟩ := h1.sl.drop o u
          exact ⟨τ.set u o, R', ⟨h1.sub, g1, g2.nodup h1.nd⟩, fun a z => h2 a (g2.subset z), by rw [List.length_set, h3], key o ho⟩
        show ∃ τ R, Ste K F H τ (match env[u]? with | some (some (.v d)) => (restE env env2 us).set u (some (.v d)) | _ => (restE env env2 us).set u none) R ∧ _
        split
        · rename_i _ d ed
          obtain ⟨v, B, R1, g1, g2, _⟩ := S0.sl.get ed
          rw [ho] at g1; cases g1
          cases g2 with
          | v z =>
            obtain ⟨A', g3, g4⟩ := h1.store u (.v (z.mono e)) (by rw [List.append_nil]; exact h1.nd)
            exact ⟨_, A', g3, fun a y => h2 a (by have q := g4 a y; rw [List.append_nil] at q; exact q), by rw [List.length_set, h3], key _ ho⟩
        · exact plain
      · have hn : σ.length ≤ u := by omega
        have e0 : env[u]? = none := List.getElem?_eq_none (by rw [← S0.sl.len]; exact hn)
        show ∃ τ R, Ste K F H τ (match env[u]? with | some (some (.v d)) => (restE env env2 us).set u (some (.v d)) | _ => (restE env env2 us).set u none) R ∧ _
        rw [e0]
        show ∃ τ R, Ste K F H τ ((restE env env2 us).set u none) R ∧ _
        rw [List.set_eq_of_length_le (by rw [← h1.sl.len, h3]; exact hn)]
        refine ⟨τ, R, h1, h2, h3, fun i => ?_⟩
        rw [h4 i]
        by_cases e2 : i ∈ us
        · rw [if_pos e2, if_pos (List.mem_cons_of_mem _ e2)]
        · by_cases e1 : i = u
          · subst e1
            rw [if_neg e2, if_pos List.mem_cons_self, List.getElem?_eq_none (by rw [wipe_length]; exact hn), List.getElem?_eq_none hn]
          · rw [if_neg e2, if_neg (fun z => (List.mem_cons.mp z).elim e1 e2)]
  obtain ⟨τ, R, h1, h2, h3, h4⟩ := all vs fun _ z => z
  have et : τ = σ := List.ext_getElem? fun i => by
    rw [h4 i]
    by_cases q : i ∈ vs
    · rw [if_pos q]
    · rw [if_neg q, wipe_get q]
  rw [et] at h1
  exact ⟨R, h1, h2⟩
end
end ML
/-! ML5: comprehensions, calls, defs. -/
namespace ML
open PySem L2

section
variable {K : PySem.W.Frag} {P : List Nat} {te ta tb : TE} {a b : AE} {t u : TS} {as bs : AS} {tt : TT} {att : AT}
theorem snd_lc {wi : TI} {ai : AI} {W vs : List Nat} {g : TG} {ag : AG} (hW : ∀ i ∈ W, i ∈ vs) (hi : SndI K wi ai) (hg : SndG K W g ag) (ht : SndT K tt att) (he : Snd K te a) : Snd K (tLc wi g tt te vs) (aLc ai ag att a vs) := by
  intro F H σ env A S Qa q Q k
  refine hi F H σ env A S _ q _ fun F1 H1 e1 A1 J items src q1 S1 s1 ok => ?_
  obtain ⟨fr, q1⟩ := q1
  intro Dl hD
  have hDF : F1 Dl = none := S1.sub.none hD
  -- what stands between turns: the new list Dl is apart from all
  refine ⟨fun i m H' => m = items.length - i ∧ i ≤ items.length ∧ ∃ F' env' A' acc vs', compGo src vs ag att a (items.drop i) acc env' (fun acc e2 => Qa (.val (.own (.list acc))) (restE e1 e2 vs)) ∧ Ste K F' H' (L2.wipe σ vs) env' A' ∧ Stp F1 H1 A1 F' H' (A' ++ [Dl]) ∧
    Dl ∉ A' ∧ F' Dl = none ∧ H' Dl = some (.lst vs') ∧ FzL F' vs' acc, ?_, ?_⟩
  · obtain ⟨R, S2, sub⟩ := S1.wipe vs
    refine ⟨items.length, by simp, Nat.zero_le _, F1, _, R, [], [], q1, S2.after (stp_new hD) (sub_new S2.sub hD), ?_, fun z => ?_, hDF, upd_same, .nil⟩
    · exact (((stp_new hD).side (B := A1)).less fun a z => (List.mem_append.mp z).elim (fun y => List.mem_append_right _ (sub a y)) fun y => List.mem_append_left _ y)
    · obtain ⟨o, e⟩ := S2.sl.dom Dl z
      rw [hD] at e; cases e
  · rintro i m H2 ⟨rfl, hle, F2, e2, A2, acc, vs', q2, S2, s2, nD, fD, hD2, zD⟩
    have sok : srcOk src e2 := by
      by_cases hlt : i < items.length
      · obtain ⟨d, hd, hdr⟩ := drop_cons hlt
        rw [hdr] at q2
        exact q2.1
      · rw [List.drop_of_length_le (by omega)] at q2
        exact q2.1
    have sj : ∀ j m, src = some (j, m) → (L2.wipe σ vs)[j]? = σ[j]? := fun j m e => by
      subst e
      exact wipe_get fr
    obtain ⟨o1, o2⟩ := ok i F2 H2 _ e2 A2 S2 s2.fz s2.keep sok sj
    by_cases hlt : i < items.length
    · obtain ⟨d, hd, hdr⟩ := drop_cons hlt
      rw [hdr] at q2
      obtain ⟨go, step⟩ := o2 d hd
      refine .inr ⟨go, fun H' => ∃ F' env' A' acc vs', compGo src vs ag att a (items.drop (i + 1)) acc env' (fun acc e2 => Qa (.val (.own (.list acc))) (restE e1 e2 vs)) ∧ Ste K F' H' (L2.wipe σ vs) env' A' ∧ Stp F1 H1 A1 F' H' (A' ++ [Dl]) ∧
        Dl ∉ A' ∧ F' Dl = none ∧ H' Dl = some (.lst vs') ∧ FzL F' vs' acc, fun H' h => ⟨items.length - (i + 1), by omega, rfl, hlt, h⟩, fun x H3 y => ?_⟩
      obtain ⟨F3, sub3, st3, z3⟩ := step x H3 y
      have S3 := S2.after st3 sub3
      -- Dl apart behind any step that owns not it
      have hold : ∀ {Fa Ha Fb Hb : Hp} {Aa Ab : List Addr}, Stp Fa Ha Aa Fb Hb Ab → Dl ∉ Aa → Fa Dl = none → Ha Dl = some (.lst vs') → Dl ∉ Ab ∧ Fb Dl = none ∧ Hb Dl = some (.lst vs') := fun {Fa Ha Fb Hb Aa Ab} s n f h =>
        ⟨fun z => (s.new Dl z).elim n (fun q => by rw [h] at q; exact nomatch q), by rw [s.keepF Dl _ h n]; exact f, s.keep Dl _ h n⟩
      have h3 : Dl ∉ A2 ∧ F3 Dl = none ∧ H3 Dl = some (.lst vs') := by
        have q := hold st3 (by simp) fD hD2
        exact ⟨nD, q.2⟩
      have t3 : Stp F2 H2 (A2 ++ [Dl]) F3 H3 (A2 ++ [Dl]) := by
        have q := st3.side (B := A2 ++ [Dl])
        exact q
      refine hg F3 H3 _ e2 A2 x d S3 z3 _ q2.2 _ fun σ4 e4 A4 q4 t4 => ?_
      have len4 : σ4.length = σ.length := by rw [t4.len, wipe_length]
      have w4 : L2.wipe σ4 vs = L2.wipe σ vs := by
        rw [← wipe_wipe (σ := σ)]
        exact wipe_ext t4.len fun i hi => t4.keep i fun z => hi (hW i z)
      have n4 : Dl ∉ A4 := fun z => h3.1 (t4.sub _ z)
      refine ⟨w4, ht F3 H3 σ4 e4 A4 t4.ste _ q4 _ fun F5 H5 e5 A5 b q5 S5 s5 => ?_⟩
      obtain ⟨n5, f5, h5⟩ := hold s5 n4 h3.2.1 h3.2.2
      have t5 : Stp F1 H1 A1 F5 H5 (A5 ++ [Dl]) := s2.trans ((t3.less fun a z => (List.mem_append.mp z).elim (fun y => List.mem_append_left _ (t4.sub a y)) fun y => List.mem_append_right _ y).trans s5.side)
      have x5 : Ext F2 F5 := st3.fz.trans s5.fz
      cases b with
      | false =>
        obtain ⟨R, S6, sub6⟩ := S5.wipe vs
        rw [w4] at S6
        exact ⟨F5, _, R, acc, vs', q5, S6, t5.less fun a z => (List.mem_append.mp z).elim (fun y => List.mem_append_left _ (sub6 a y)) fun y => List.mem_append_right _ y, fun z => n5 (sub6 _ z), f5, h5, zD.mono x5⟩
      | true =>
        refine he F5 H5 σ4 e5 A5 S5 _ q5 _ fun F6 H6 e6 A6 v x6 B6 q6 t6 => ?_
        obtain ⟨n6, f6, h6⟩ := hold t6.stp n5 f5 h5
        obtain ⟨d7, e7, F7, A7, ⟨hz, q7⟩, S7, z7, s7, sub7, fk7⟩ := use_ok t6.ste t6.rep t6.nd q6
        have f7 : F7 Dl = none := by rw [fk7 Dl n6]; exact f6
        have n7 : Dl ∉ A7 := fun z => n6 (List.mem_append_left _ (sub7 _ z))
        obtain ⟨R, S8, sub8⟩ := S7.wipe vs
        rw [w4] at S8
        refine ⟨vs', h6, ?_, F7, _, R, acc ++ [d7], vs' ++ [v], q7, ⟨?_, ?_, S8.nd⟩, ?_, fun z => n7 (sub8 _ z), f7, upd_same, ((zD.mono (x5.trans (t6.stp.fz.trans s7.fz))).append (.one z7))⟩
        · rw [zD.length]; exact line_lt hz
        · intro a o e
          by_cases ea : a = Dl
          · rw [ea, f7] at e; cases e
          · rw [upd_ne ea]; exact S8.sub a o e
        · refine S8.sl.frame (Ext.refl _) fun a ha => ⟨upd_ne fun e => n7 (sub8 _ (e ▸ ha)), rfl⟩
        · have big : Stp F1 H1 A1 F7 H6 (R ++ [Dl]) := (t5.trans ((t6.stp.trans s7).side (B := [Dl]))).less fun a z => (List.mem_append.mp z).elim (fun y => List.mem_append_left _ (sub8 a y)) fun y => List.mem_append_right _ y
          refine ⟨big.fz, fun a o e n => ?_, big.keepF, big.new⟩
          have ne : a ≠ Dl := fun z => by rw [z, hD] at e; cases e
          rw [upd_ne ne]
          exact big.keep a o e n
    · have e : i = items.length := by omega
      subst e
      rw [List.drop_length] at q2
      refine .inl ⟨o1 (Nat.le_refl _), ?_⟩
      obtain ⟨R, S3, sub3⟩ := S1.rest s2.fz vs S2
      refine k F2 H2 _ R (.ref Dl) _ [Dl] q2.2 ⟨S3, .val (.lst hD2 fD zD), ?_, s1.trans (s2.less fun a z => (List.mem_append.mp z).elim (fun y => List.mem_append_left _ (sub3 a y)) fun y => List.mem_append_right _ y)⟩
      rw [List.nodup_append]
      refine ⟨S3.nd, by simp, fun a ha b hb => ?_⟩
      simp at hb
      subst hb
      exact fun z => nD (sub3 _ (z ▸ ha))
end

/-! ### what a def promises over data -/
abbrev ASp := List M → (M → List M → Prop) → Prop
inductive OwnL (K : PySem.W.Frag) (F H : Hp) : List V → List M → List Addr → Prop
  | nil : OwnL K F H [] [] []
  | cons {v : V} {m : M} {vs : List V} {ms : List M} {A B : List Addr} : Own K F H v m B → OwnL K F H vs ms A → OwnL K F H (v :: vs) (m :: ms) (B ++ A)
/-- the arguments' kinds: false: frozen data; true: a thing of the caller's, lent -/
inductive Mds : List Bool → List M → Prop
  | nil : Mds [] []
  | fz {d : D} {md : List Bool} {ms : List M} : Mds md ms → Mds (false :: md) (.v d :: ms)
  | lent {m : M} {md : List Bool} {ms : List M} : Mds md ms → Mds (true :: md) (m :: ms)
def lift (K : PySem.W.Frag) (md : List Bool) (asp : ASp) : Sp := fun vs H Q _ => ∃ F A ms Qa, Sub F H ∧ OwnL K F H vs ms A ∧ A.Nodup ∧ Mds md ms ∧ asp ms Qa ∧
  ∀ F' H' v m ms' A' B, Qa m ms' → Sub F' H' → OwnL K F' H' vs ms' A' → Own K F' H' v m B → (A' ++ B).Nodup → Stp F H A F' H' (A' ++ B) → Q v H'
section
variable {K : PySem.W.Frag} {F H F1 H1 : Hp} {A A1 B C : List Addr} {σ : L2.St} {env : Env} {vs : List V} {ms : List M}
theorem OwnL.len (h : OwnL K F H vs ms A) : vs.length = ms.length := by
  induction h with
  | nil => rfl
  | cons _ _ ih => rw [List.length_cons, List.length_cons, ih]
theorem Mds.len {md : List Bool} (h : Mds md ms) : md.length = ms.length := by
  induction h with
  | nil => rfl
  | fz _ ih => rw [List.length_cons, List.length_cons, ih]
  | lent _ ih => rw [List.length_cons, List.length_cons, ih]
theorem OwnL.dom (h : OwnL K F H vs ms A) : ∀ a ∈ A, ∃ o, H a = some o := by
  induction h with
  | nil => intro a ha; simp at ha
  | cons o _ ih => intro a ha; exact (List.mem_append.mp ha).elim (o.dom a) (ih a)
theorem OwnL.frame (h : OwnL K F H vs ms A) (e : Ext F F1) (k : ∀ a ∈ A, H1 a = H a ∧ F1 a = F a) : OwnL K F1 H1 vs ms A := by
  induction h with
  | nil => exact .nil
  | cons o _ ih => exact .cons (o.frame e fun a ha => k a (List.mem_append_left _ ha)) (ih fun a ha => k a (List.mem_append_right _ ha))
end
/-- the arguments are handed over: frozen, or lent (the slot is empty meanwhile) -/
def passL : List Bool → List X → Env → (List M → List (Option Nat) → Env → Prop) → Prop
  | [], [], env, Q => Q [] [] env
  | false :: md, x :: xs, env, Q => use x env fun d e1 => passL md xs e1 fun ms sl e2 => Q (.v d :: ms) (none :: sl) e2
  | true :: md, .val m :: xs, env, Q => passL md xs env fun ms sl e2 => Q (m :: ms) (none :: sl) e2
  | true :: md, .slot i :: xs, env, Q => ∃ m, env[i]? = some (some m) ∧ passL md xs (env.set i none) fun ms sl e2 => Q (m :: ms) (some i :: sl) e2
  | _, _, _, _ => False
/-- what was lent comes back -/
def backL : List (Option Nat) → List M → Env → Env
  | some i :: sl, m :: ms, env => (backL sl ms env).set i (some m)
  | none :: sl, _ :: ms, env => backL sl ms env
  | _, _, env => env
def aCall (md : List Bool) (asp : ASp) (a : AA) : AE := fun env Q => a env fun xs e1 => passL md xs e1 fun ms sl e2 => asp ms fun m ms' => Q (.val m) (backL sl ms' e2)
section
variable {K : PySem.W.Frag} {F H F1 H1 : Hp} {A A1 B C : List Addr} {σ : L2.St} {env : Env} {vs : List V} {ms : List M}
inductive Lent (σ : L2.St) : List V → List (Option Nat) → Prop
  | nil : Lent σ [] []
  | none {v : V} {vs : List V} {sl : List (Option Nat)} : Lent σ vs sl → Lent σ (v :: vs) (Option.none :: sl)
  | some {v : V} {i : Nat} {vs : List V} {sl : List (Option Nat)} : σ[i]? = Option.some (Option.some v) → Lent σ vs sl → Lent σ (v :: vs) (Option.some i :: sl)
theorem Stp.ownL (s : Stp F H A F1 H1 A1) (h : OwnL K F H vs ms B) (n : (A ++ B).Nodup) : OwnL K F1 H1 vs ms B := by
  refine h.frame s.fz fun b hb => ?_
  obtain ⟨o, q⟩ := h.dom b hb
  have nA : b ∉ A := fun z => (List.nodup_append.mp n).2.2 b z b hb rfl
  exact ⟨by rw [q]; exact s.keep b o q nA, s.keepF b o q nA⟩
theorem pass_ok : ∀ {md : List Bool} {xs : List X} {vs : List V} {F : Hp} {env : Env} {A B : List Addr}, Ste K F H σ env A → RepXs K F H σ vs xs B → (A ++ B).Nodup → ∀ {Q : List M → List (Option Nat) → Env → Prop}, passL md xs env Q →
    ∃ ms sl env' F' A' C, Q ms sl env' ∧ Ste K F' H σ env' A' ∧ OwnL K F' H vs ms C ∧ (A' ++ C).Nodup ∧ Mds md ms ∧ Lent σ vs sl ∧ Stp F H (A ++ B) F' H (A' ++ C) := by
  intro md
  induction md with
  | nil =>
    intro xs vs F env A B S r n Q h
    cases xs with
    | nil => cases r; exact ⟨[], [], env, F, A, [], h, S, .nil, n, .nil, .nil, Stp.refl⟩
    | cons x xs => exact h.elim
  | cons b md ih =>
    intro xs vs F env A B S r n Q h
    cases xs with
    | nil => cases b <;> exact h.elim
    | cons x xs =>
      cases r with
      | @cons v _ vs _ B1 B2 r1 r2 =>
        rw [← List.append_assoc] at n
        have n1 : (A ++ B1).Nodup := (List.nodup_append.mp n).1
        cases b with
        | false =>
          obtain ⟨d, e1, F1, A1, q1, S1, z1, s1, sub1, _⟩ := use_ok S r1 n1 h
          have n2 : (A1 ++ B2).Nodup := by
            rw [List.nodup_append] at n ⊢
            exact ⟨S1.nd, n.2.1, fun a ha b hb e => n.2.2 a (List.mem_append_left _ (sub1 a ha)) b hb e⟩
          obtain ⟨ms, sl, e2, F2, A2, C2, q2, S2, o2, nd2, m2, l2, s2⟩ := ih S1 (r2.keep s1 n) n2 q1
          refine ⟨.v d :: ms, none :: sl, e2, F2, A2, C2, q2, S2, ?_, nd2, .fz m2, .none l2, ?_⟩
          · have q := OwnL.cons (.v (z1.mono s2.fz)) o2
            exact q
          · have q := (s1.side (B := B2)).trans s2
            rw [List.append_assoc] at q
            exact q
        | true =>
          cases r1 with
          | @val m _ o =>
            have h : passL md xs env fun ms sl e2 => Q (m :: ms) (none :: sl) e2 := h
            have n2 : (A ++ B2).Nodup := by
              rw [List.nodup_append] at n ⊢
              exact ⟨S.nd, n.2.1, fun a ha b hb e => n.2.2 a (List.mem_append_left _ ha) b hb e⟩
            obtain ⟨ms, sl, e2, F2, A2, C2, q2, S2, o2, nd2, m2, l2, s2⟩ := ih S r2 n2 h
            have nB : ((A ++ B2) ++ B1).Nodup := by
              have p : List.Perm (A ++ B1 ++ B2) (A ++ B2 ++ B1) := by
                rw [List.append_assoc, List.append_assoc]
                exact List.Perm.append_left A List.perm_append_comm
              exact p.nodup_iff.mp n
            have o1 := s2.own o nB
            have nd3 := s2.nd nB nd2 fun b hb => o.dom b hb
            refine ⟨m :: ms, none :: sl, e2, F2, A2, B1 ++ C2, q2, S2, .cons o1 o2, ?_, .lent m2, .none l2, ?_⟩
            · have p : List.Perm (A2 ++ C2 ++ B1) (A2 ++ (B1 ++ C2)) := by
                rw [List.append_assoc]
                exact List.Perm.append_left A2 List.perm_append_comm
              exact p.nodup_iff.mp nd3
            · refine (s2.side (B := B1)).weak (fun a z => ?_) fun a z => ?_
              · rcases List.mem_append.mp z with z | z
                · rcases List.mem_append.mp z with z | z
                  · exact List.mem_append_left _ z
                  · exact List.mem_append_right _ (List.mem_append_right _ z)
                · exact List.mem_append_right _ (List.mem_append_left _ z)
              · rcases List.mem_append.mp z with z | z
                · exact List.mem_append_left _ (List.mem_append_left _ z)
                · rcases List.mem_append.mp z with z | z
                  · exact List.mem_append_right _ z
                  · exact List.mem_append_left _ (List.mem_append_right _ z)
          | @slot i hs =>
            obtain ⟨m, em, h⟩ := h
            obtain ⟨u, C, R, g1, g2, g3, g4⟩ := S.sl.get em
            rw [hs] at g1; cases g1
            rw [List.append_nil] at n n1
            have nCR : (C ++ R).Nodup := (g4.nodup_iff).mp S.nd
            have S1 : Ste K F H σ (env.set i none) R := ⟨S.sub, g3, (List.nodup_append.mp nCR).2.1⟩
            have n2 : (R ++ B2).Nodup := by
              rw [List.nodup_append] at n ⊢
              exact ⟨S1.nd, n.2.1, fun a ha b hb e => n.2.2 a (g4.mem_iff.mpr (List.mem_append_right _ ha)) b hb e⟩
            obtain ⟨ms, sl, e2, F2, A2, C2, q2, S2, o2, nd2, m2, l2, s2⟩ := ih S1 r2 n2 h
            have nB : ((R ++ B2) ++ C).Nodup := by
              have p : List.Perm (A ++ B2) (R ++ B2 ++ C) := (List.Perm.append_right B2 g4).trans (by
                rw [List.append_assoc]
                exact List.perm_append_comm)
              exact p.nodup_iff.mp n
            have o1 := s2.own g2 nB
            have nd3 := s2.nd nB nd2 fun b hb => g2.dom b hb
            refine ⟨m :: ms, some i :: sl, e2, F2, A2, C ++ C2, q2, S2, .cons o1 o2, ?_, .lent m2, .some hs l2, ?_⟩
            · have p : List.Perm (A2 ++ C2 ++ C) (A2 ++ (C ++ C2)) := by
                rw [List.append_assoc]
                exact List.Perm.append_left A2 List.perm_append_comm
              exact p.nodup_iff.mp nd3
            · refine (s2.side (B := C)).weak (fun a z => ?_) fun a z => ?_
              · rcases List.mem_append.mp z with z | z
                · rcases List.mem_append.mp z with z | z
                  · exact List.mem_append_left _ (g4.mem_iff.mpr (List.mem_append_right _ z))
                  · exact List.mem_append_right _ (List.mem_append_right _ z)
                · exact List.mem_append_left _ (g4.mem_iff.mpr (List.mem_append_left _ z))
              · rcases List.mem_append.mp z with z | z
                · exact List.mem_append_left _ (List.mem_append_left _ z)
                · rcases List.mem_append.mp z with z | z
                  · exact List.mem_append_right _ z
                  · exact List.mem_append_left _ (List.mem_append_right _ z)
theorem back_ok : ∀ {sl : List (Option Nat)} {vs : List V} {ms : List M} {A C : List Addr}, Ste K F H σ env A → OwnL K F H vs ms C → (A ++ C).Nodup → Lent σ vs sl → ∃ A', Ste K F H σ (backL sl ms env) A' ∧ ∀ a ∈ A', a ∈ A ++ C := by
  intro sl
  induction sl with
  | nil => intro vs ms A C S o n l; cases l; cases o; exact ⟨A, S, fun a z => List.mem_append_left _ z⟩
  | cons s sl ih =>
    intro vs ms A C S o n l
    cases o with
    | nil => cases l
    | @cons v m vs ms C2 C1 o1 o2 =>
      have n2 : (A ++ C2).Nodup := by
        rw [List.nodup_append] at n ⊢
        exact ⟨n.1, (List.nodup_append.mp n.2.1).2.1, fun a ha b hb e => n.2.2 a ha b (List.mem_append_right _ hb) e⟩
      cases l with
      | none l =>
        obtain ⟨A', S', sub⟩ := ih S o2 n2 l
        exact ⟨A', S', fun a z => (List.mem_append.mp (sub a z)).elim (List.mem_append_left _) fun y => List.mem_append_right _ (List.mem_append_right _ y)⟩
      | @some _ i _ _ hs l =>
        obtain ⟨A', S', sub⟩ := ih S o2 n2 l
        have n3 : (A' ++ C1).Nodup := by
          rw [List.nodup_append]
          refine ⟨S'.nd, (List.nodup_append.mp (List.nodup_append.mp n).2.1).1, fun a ha b hb e => ?_⟩
          rcases List.mem_append.mp (sub a ha) with z | z
          · exact (List.nodup_append.mp n).2.2 a z b (List.mem_append_left _ hb) e
          · exact (List.nodup_append.mp (List.nodup_append.mp n).2.1).2.2 b hb a z e.symm
        obtain ⟨A'', S'', sub'⟩ := S'.store i o1 n3
        rw [set_same hs] at S''
        refine ⟨A'', S'', fun a z => ?_⟩
        rcases List.mem_append.mp (sub' a z) with z | z
        · exact (List.mem_append.mp (sub a z)).elim (List.mem_append_left _) fun y => List.mem_append_right _ (List.mem_append_right _ y)
        · exact List.mem_append_right _ (List.mem_append_left _ z)
theorem snd_call {t : TA} {aa : AA} {md : List Bool} {asp : ASp} {E : XK} (ha : SndA K t aa) : Snd K (tCall (lift K md asp) [] E t) (aCall md asp aa) := by
  intro F H σ env A S Qa q Q k
  refine ha F H σ env A S _ q _ fun F1 H1 e1 A1 vs xs B q1 t => ?_
  obtain ⟨ms, sl, e2, F2, A2, C, q2, S2, o2, nd2, m2, l2, s2⟩ := pass_ok t.ste t.rep t.nd q1
  rw [List.append_nil]
  refine ⟨F2, C, ms, _, S2.sub, o2, (List.nodup_append.mp nd2).2.1, m2, q2, fun F' H' v m ms' A' B' q3 sub3 o3 own3 nd3 s3 => ?_⟩
  have nCA : (C ++ A2).Nodup := List.perm_append_comm.nodup_iff.mp nd2
  have S3 : Ste K F' H' σ e2 A2 := ⟨sub3, S2.sl.frame s3.fz fun a ha => by
    obtain ⟨o, e⟩ := S2.sl.dom a ha
    have n : a ∉ C := fun z => (List.nodup_append.mp nCA).2.2 a z a ha rfl
    exact ⟨by rw [e]; exact s3.keep a o e n, s3.keepF a o e n⟩, S2.nd⟩
  have nd4 : ((A' ++ B') ++ A2).Nodup := s3.nd nCA nd3 fun b hb => S2.sl.dom b hb
  have nd5 : (A2 ++ A').Nodup := by
    have p : List.Perm ((A' ++ B') ++ A2) ((A2 ++ A') ++ B') := by
      rw [List.append_assoc A2]
      exact List.perm_append_comm
    exact (List.nodup_append.mp (p.nodup_iff.mp nd4)).1
  obtain ⟨A5, S5, sub5⟩ := back_ok S3 o3 nd5 l2
  refine k F' H' _ A5 v (.val m) B' q3 ⟨S5, .val own3, ?_, ?_⟩
  · rw [List.nodup_append]
    refine ⟨S5.nd, (List.nodup_append.mp nd3).2.1, fun a ha b hb e => ?_⟩
    rcases List.mem_append.mp (sub5 a ha) with z | z
    · exact (List.nodup_append.mp nd4).2.2 b (List.mem_append_right _ hb) a z e.symm
    · exact (List.nodup_append.mp nd3).2.2 a z b hb e
  · have big := (t.stp.trans s2).trans ((s3.side (B := A2)).weak (B := A2 ++ C) (fun a z => (List.mem_append.mp z).elim (List.mem_append_right _) (List.mem_append_left _)) fun a z => z)
    refine big.less fun a z => ?_
    rcases List.mem_append.mp z with z | z
    · rcases List.mem_append.mp (sub5 a z) with z | z
      · exact List.mem_append_right _ z
      · exact List.mem_append_left _ (List.mem_append_left _ z)
    · exact List.mem_append_left _ (List.mem_append_right _ z)
end

/-! ### defs -/
def pinsOf : Nat → List Bool → List Nat
  | _, [] => []
  | i, true :: md => i :: pinsOf (i + 1) md
  | i, false :: md => pinsOf (i + 1) md
/-- the lent things at the end -/
def finL : List Bool → List M → Env → Option (List M)
  | [], _, _ => some []
  | false :: md, m :: ms, _ :: env => (finL md ms env).map fun r => m :: r
  | true :: md, _ :: ms, some m :: env => (finL md ms env).map fun r => m :: r
  | _, _, _ => none
def startE (n : Nat) (ms : List M) : Env := ms.map some ++ List.replicate (n - ms.length) none
def endsD (md : List Bool) (ms : List M) (Q : M → List M → Prop) : AEnds where
  nx := fun env => ∃ r, finL md ms env = some r ∧ Q (.v .none) r
  rt := fun m env => ∃ r, finL md ms env = some r ∧ Q m r
section
variable {K : PySem.W.Frag} {F H F1 H1 : Hp} {A A1 B C : List Addr} {σ : L2.St} {env : Env} {vs : List V} {ms : List M}
theorem slots_none (n : Nat) : Slots K F H (List.replicate n none) (List.replicate n none) [] := by
  induction n with
  | zero => exact .nil
  | succ n ih => rw [List.replicate_succ, List.replicate_succ]; exact .skip ih
theorem start_slots (o : OwnL K F H vs ms A) (n : Nat) : Slots K F H (vs.map some ++ List.replicate n none) (ms.map some ++ List.replicate n none) A := by
  induction o with
  | nil => exact slots_none n
  | cons o _ ih => exact .cons o ih
/-- from the slots at the end: the lent things, the frozen ones as they were -/
theorem fin_ok : ∀ {md : List Bool} {ms : List M} {vs : List V} {A0 : List Addr} {σ : L2.St} {env : Env} {A : List Addr} {r : List M}, OwnL K F H vs ms A0 → Mds md ms → Ext F F1 → Slots K F1 H1 σ env A → finL md ms env = some r →
    (∀ (i : Nat) (v : V), md[i]? = some true → vs[i]? = some v → σ[i]? = some (some v)) → ∃ A', OwnL K F1 H1 vs r A' ∧ List.Sublist A' A := by
  intro md
  induction md with
  | nil =>
    intro ms vs A0 σ env A r o m e s h p
    cases m
    cases o
    cases h
    exact ⟨[], .nil, List.nil_sublist _⟩
  | cons b md ih =>
    intro ms vs A0 σ env A r o m e s h p
    cases b with
    | false =>
      cases m with
      | fz m =>
        cases o with
        | cons o1 o2 =>
          cases o1 with
          | v z =>
            cases s with
            | nil => cases h
            | skip s =>
              obtain ⟨r', h', rfl⟩ := Option.map_eq_some_iff.mp h
              obtain ⟨A', g1, g2⟩ := ih o2 m e s h' fun i v h1 h2 => p (i + 1) v h1 h2
              exact ⟨A', .cons (.v (z.mono e)) g1, g2⟩
            | cons o' s =>
              obtain ⟨r', h', rfl⟩ := Option.map_eq_some_iff.mp h
              obtain ⟨A', g1, g2⟩ := ih o2 m e s h' fun i v h1 h2 => p (i + 1) v h1 h2
              exact ⟨A', .cons (.v (z.mono e)) g1, g2.trans (List.sublist_append_right _ _)⟩
    | true =>
      cases m with
      | lent m =>
        cases o with
        | cons o1 o2 =>
          cases s with
          | nil => cases h
          | skip s => cases h
          | cons o' s =>
            obtain ⟨r', h', rfl⟩ := Option.map_eq_some_iff.mp h
            obtain ⟨A', g1, g2⟩ := ih o2 m e s h' fun i v h1 h2 => p (i + 1) v h1 h2
            have q := p 0 _ rfl rfl
            cases q
            exact ⟨_, .cons o' g1, List.Sublist.append (List.Sublist.refl _) g2⟩
theorem pinsOf_mem : ∀ {md : List Bool} {i j : Nat}, md[j]? = some true → i + j ∈ pinsOf i md
  | [], i, j, h => by simp at h
  | b :: md, i, 0, h => by
    simp at h
    subst h
    exact List.mem_cons_self
  | b :: md, i, j + 1, h => by
    have q := pinsOf_mem (md := md) (i := i + 1) (j := j) (by simpa using h)
    have e : i + 1 + j = i + (j + 1) := by omega
    rw [e] at q
    cases b
    · exact q
    · exact List.mem_cons_of_mem _ q
theorem body_ok {md : List Bool} {N : List Str} {t : TS} {as : AS} {vs : List V} {H : Hp} {Q : VK} {E : XK} {asp : ASp} (hl : vs.length ≤ N.length) (h : lift K md asp vs H Q E) (hb : SndS K (pinsOf 0 md) t as)
    (ha : ∀ ms Qa, Mds md ms → asp ms Qa → as (endsD md ms Qa) (startE N.length ms)) : t { nx := fun _ H' => Q .non H', rt := Q } (L2.start N vs) H := by
  obtain ⟨F, A, ms, Qa, sub, o, nd, m, ap, q⟩ := h
  have hlen := o.len
  have S : Ste K F H (L2.start N vs) (startE N.length ms) A := ⟨sub, by unfold L2.start startE; rw [hlen]; exact start_slots o _, nd⟩
  have pin : ∀ {σ' : L2.St}, Pin (pinsOf 0 md) (L2.start N vs) σ' → ∀ (i : Nat) (v : V), md[i]? = some true → vs[i]? = some v → σ'[i]? = some (some v) := fun {σ'} p i v h1 h2 => by
    have q1 := pinsOf_mem (i := 0) h1
    rw [Nat.zero_add] at q1
    rw [p i q1]
    unfold L2.start
    rw [List.getElem?_append_left (by rw [List.length_map]; exact (List.getElem?_eq_some_iff.mp h2).1), List.getElem?_map, h2]
    rfl
  refine hb F H _ _ A S _ (ha ms Qa m ap) _ ⟨fun F' H' σ' env' A' qa S' s' p' => ?_, fun F' H' σ' env' A' v m' B qa S' o' nd' s' p' => ?_, fun _ _ _ _ _ z => z.elim, fun _ _ _ _ _ z => z.elim⟩
  · obtain ⟨r, hr, qa⟩ := qa
    obtain ⟨A2, g1, g2⟩ := fin_ok o m s'.fz S'.sl hr (pin p')
    exact q F' H' .non _ r A2 [] qa S'.sub g1 (.v .non) (by rw [List.append_nil]; exact g2.nodup S'.nd) (by rw [List.append_nil]; exact s'.less fun a z => g2.subset z)
  · obtain ⟨r, hr, qa⟩ := qa
    obtain ⟨A2, g1, g2⟩ := fin_ok o m s'.fz S'.sl hr (pin p')
    refine q F' H' v m' r A2 B qa S'.sub g1 o' ?_ (s'.less fun a z => (List.mem_append.mp z).elim (fun y => List.mem_append_left _ (g2.subset y)) (List.mem_append_right _))
    rw [List.nodup_append] at nd' ⊢
    exact ⟨g2.nodup nd'.1, nd'.2.1, fun a ha b hb e => nd'.2.2 a (g2.subset ha) b hb e⟩
end
section
variable {Pr : Program} {w : World} {K : PySem.W.Frag} {mg : Str → Option Value} {base : Heap}
/-- THE RULE for a def: its body as a term of the hand layer's rules, what it gives over data, and the reading of that -/
theorem fn_ok {x qual : Str} {st : Stmt} {f : Addr} {fd : FuncData} {N ps : List Str} {k : Nat} {asp : ASp} (Fn : Fun K x qual st f fd) (Sc : FnScope N ps (defScope st)) (md : List Bool) (hl : md.length = ps.length)
    (hbody : ∀ (cdv : Value) (A : Around) (outer : List PySem.Env) (s : Shared) (H : Hp) (E : XK), Room k (A.deeper (PyProof.Rows.envOfC qual (defScope st) s.heap.objs.size f cdv)) →
      ∃ t as, PSs (cxOf CX0 Pr w K mg base N qual (defScope st) f cdv A outer s H E).nox (defBody st) t ∧ SndS K (pinsOf 0 md) t as ∧ ∀ ms Qa, Mds md ms → asp ms Qa → as (endsD md ms Qa) (startE N.length ms)) :
    FnOk Pr w K mg base CX0 (k + 1) f fd ps (lift K md asp) := by
  have len : ∀ vs H Q E, lift K md asp vs H Q E → vs.length = ps.length := fun vs H Q E h => by
    obtain ⟨F, A, ms, Qa, sub, o, nd, m, ap, q⟩ := h
    rw [o.len, ← m.len, hl]
  refine Fun.ok Fn Sc len fun cdv A outer s H vs Q E hr h => ?_
  obtain ⟨t, as, p, sn, ha⟩ := hbody cdv A outer s H E hr
  refine ⟨t, p, body_ok ?_ h sn ha⟩
  rw [len vs H Q E h, ← Sc.pre, List.length_take]
  exact Nat.min_le_right _ _
end
end ML
/-! ML6: operations on data. -/
namespace ML
open PySem L2

section
variable {K : PySem.W.Frag} {F H : Hp} {v u : V} {d e : D}
theorem RepHs.one {vs : List V} {d : D} (h : RepHs F H vs [d]) : ∃ v, vs = [v] ∧ RepH F H v d := by
  cases h with
  | cons h t => cases t; exact ⟨_, rfl, h⟩
theorem RepHs.two {vs : List V} {d e : D} (h : RepHs F H vs [d, e]) : ∃ v u, vs = [v, u] ∧ RepH F H v d ∧ RepH F H u e := by
  cases h with
  | cons h t => cases t with
    | cons h2 t => cases t; exact ⟨_, _, rfl, h, h2⟩
theorem sqL_H {a : Addr} {xs : List V} (h : H a = some (.lst xs)) : SqL K H a xs := .inl (.inl h)
theorem sqT_H {a : Addr} {xs : List V} (h : H a = some (.tup xs)) : SqT K H a xs := .inl (.inl h)
theorem ite_some {α : Type} {c : Prop} [Decidable c] {a b : α} (h : (if c then some a else none) = some b) : c ∧ a = b := by
  by_cases q : c
  · rw [if_pos q] at h; exact ⟨q, Option.some.inj h⟩
  · rw [if_neg q] at h; cases h
end

/-! ### + - * // % ** << >> - -/
section
variable {X : Cx} {K : PySem.W.Frag}
def rAddStr : R2 := fun x y H Q => ∃ i j, x = .str i ∧ y = .str j ∧ i.length + j.length ≤ sizeLine ∧ Q (.str (i ++ j)) H
def rAddU (K : PySem.W.Frag) : R2 := fun x y H Q => rI0 (fun i j => .int (i + j)) x y H Q ∨ rAddStr x y H Q ∨ rCat x y H Q ∨ rCatA K x y H Q
theorem op_addU : OpR X (binaryOp .Add) (rAddU X.K) := op_add.or (OpR.or op_add_str (op_cat.or op_catA))
def pAdd : D → D → Option M
  | .int i, .int j => some (.v (.int (i + j)))
  | .str a, .str b => if a.length + b.length ≤ 1000000 then some (.v (.str (a ++ b))) else none
  | .list a, .list b => if a.length + b.length ≤ 1000000 then some (.own (.list (a ++ b))) else none
  | .tuple a, .tuple b => if a.length + b.length ≤ 1000000 then some (.v (.tuple (a ++ b))) else none
  | _, _ => none
theorem prim_add : Prim2 K (rAddU K) pAdd := by
  intro F H x y d e m sub hx hy h Q q
  unfold pAdd at h
  split at h
  · cases h; obtain rfl := hx.int; obtain rfl := hy.int
    exact .inl ⟨_, _, rfl, rfl, q F H _ _ (New.same sub (.int _))⟩
  · obtain ⟨hz, rfl⟩ := ite_some h; obtain rfl := hx.str; obtain rfl := hy.str
    exact .inr (.inl ⟨_, _, rfl, rfl, line_of hz, q F H _ _ (New.same sub (.str _))⟩)
  · obtain ⟨hz, rfl⟩ := ite_some h
    obtain ⟨a, xs, rfl, h1, z1⟩ := hx.list sub
    obtain ⟨b, ys, rfl, h2, z2⟩ := hy.list sub
    exact .inr (.inr (.inl ⟨a, b, xs, ys, rfl, rfl, h1, h2, by rw [z1.length, z2.length]; exact line_of hz, fun p hp => q _ _ _ _ (New.lst sub hp (z1.append z2))⟩))
  · obtain ⟨hz, rfl⟩ := ite_some h
    obtain ⟨a, xs, rfl, f1, h1, z1⟩ := hx.tup sub
    obtain ⟨b, ys, rfl, f2, h2, z2⟩ := hy.tup sub
    refine .inr (.inr (.inr ⟨a, b, xs, ys, rfl, rfl, sqT_H h1, sqT_H h2, by rw [z1.length, z2.length]; exact line_of hz, fun e => ?_, fun e => ?_, fun _ _ p hp => q _ _ _ _ (New.tup sub hp (z1.append z2))⟩))
    · subst e
      cases z1
      exact q F H _ _ (New.same sub (.tup f2 (by simpa using z2)))
    · intro e2
      subst e2
      cases z2
      exact q F H _ _ (New.same sub (.tup f1 (by simpa using z1)))
  · cases h
def pSub : D → D → Option M
  | .int i, .int j => some (.v (.int (i - j)))
  | _, _ => none
theorem prim_sub : Prim2 K (rI0 fun i j => .int (i - j)) pSub := by
  intro F H x y d e m sub hx hy h Q q
  unfold pSub at h
  split at h
  · cases h; obtain rfl := hx.int; obtain rfl := hy.int
    exact ⟨_, _, rfl, rfl, q F H _ _ (New.same sub (.int _))⟩
  · cases h
def rMulU : R2 := fun x y H Q => rI CMul (fun i j => .int (i * j)) x y H Q ∨ rRep x y H Q
theorem op_mulU : OpR X (binaryOp .Mult) rMulU := op_mul.or op_rep
def pMul : D → D → Option M
  | .int i, .int j => if (-18446744073709551616 < i ∧ i < 18446744073709551616) ∨ (-18446744073709551616 < j ∧ j < 18446744073709551616) then some (.v (.int (i * j))) else none
  | .list a, .int k => if k < 1000000 ∧ -1000000 < k ∧ a.length * k.toNat ≤ 1000000 then some (.own (.list (List.replicate k.toNat a).flatten)) else none
  | _, _ => none
theorem FzL.rep {F : Hp} {xs : List V} {ds : List D} (h : FzL F xs ds) : ∀ n, FzL F (List.replicate n xs).flatten (List.replicate n ds).flatten
  | 0 => .nil
  | n + 1 => by rw [List.replicate_succ, List.replicate_succ, List.flatten_cons, List.flatten_cons]; exact h.append (FzL.rep h n)
theorem prim_mul : Prim2 K rMulU pMul := by
  intro F H x y d e m sub hx hy h Q q
  unfold pMul at h
  split at h
  · obtain ⟨hz, rfl⟩ := ite_some h; obtain rfl := hx.int; obtain rfl := hy.int
    exact .inl ⟨_, _, rfl, rfl, hz, q F H _ _ (New.same sub (.int _))⟩
  · obtain ⟨⟨b1, b2, hz⟩, rfl⟩ := ite_some h
    obtain ⟨a, xs, rfl, h1, z1⟩ := hx.list sub
    obtain rfl := hy.int
    exact .inr ⟨a, _, xs, rfl, rfl, h1, by omega, by omega, by rw [z1.length]; exact line_of hz, fun p hp => q _ _ _ _ (New.lst sub hp (z1.rep _))⟩
  · cases h
def pMod : D → D → Option M
  | .int i, .int j => if j ≠ 0 then some (.v (.int (i.fmod j))) else none
  | _, _ => none
theorem prim_mod : Prim2 K (rI (fun _ j => j ≠ 0) fun i j => .int (i.fmod j)) pMod := by
  intro F H x y d e m sub hx hy h Q q
  unfold pMod at h
  split at h
  · obtain ⟨hz, rfl⟩ := ite_some h; obtain rfl := hx.int; obtain rfl := hy.int
    exact ⟨_, _, rfl, rfl, hz, q F H _ _ (New.same sub (.int _))⟩
  · cases h
def pFdiv : D → D → Option M
  | .int i, .int j => if j ≠ 0 ∧ j.natAbs < 1073741824 then some (.v (.int (i.fdiv j))) else none
  | _, _ => none
theorem prim_fdiv : Prim2 K (rI CDivN fun i j => .int (i.fdiv j)) pFdiv := by
  intro F H x y d e m sub hx hy h Q q
  unfold pFdiv at h
  split at h
  · obtain ⟨hz, rfl⟩ := ite_some h; obtain rfl := hx.int; obtain rfl := hy.int
    exact ⟨_, _, rfl, rfl, hz, q F H _ _ (New.same sub (.int _))⟩
  · cases h
def pPow (g : Int → Int → Int) : D → D → Option M
  | .int i, .int j => if 0 ≤ j ∧ j ≤ 1000000 ∧ i.natAbs < 18446744073709551616 then some (.v (.int (g i j))) else none
  | _, _ => none
theorem prim_pow {g : Int → Int → Int} : Prim2 K (rI CPow fun i j => .int (g i j)) (pPow g) := by
  intro F H x y d e m sub hx hy h Q q
  unfold pPow at h
  split at h
  · obtain ⟨hz, rfl⟩ := ite_some h; obtain rfl := hx.int; obtain rfl := hy.int
    exact ⟨_, _, rfl, rfl, hz, q F H _ _ (New.same sub (.int _))⟩
  · cases h
def pShr : D → D → Option M
  | .int i, .int j => if 0 ≤ j then some (.v (.int (i / 2 ^ j.toNat))) else none
  | _, _ => none
theorem prim_shr : Prim2 K (rI (fun _ j => 0 ≤ j) fun i j => .int (i / 2 ^ j.toNat)) pShr := by
  intro F H x y d e m sub hx hy h Q q
  unfold pShr at h
  split at h
  · obtain ⟨hz, rfl⟩ := ite_some h; obtain rfl := hx.int; obtain rfl := hy.int
    exact ⟨_, _, rfl, rfl, hz, q F H _ _ (New.same sub (.int _))⟩
  · cases h
def pNeg : D → Option M
  | .int i => some (.v (.int (-i)))
  | _ => none
theorem prim_neg : Prim1 K (rU fun i => .int (-i)) pNeg := by
  intro F H x d m sub hx h Q q
  unfold pNeg at h
  split at h
  · cases h; obtain rfl := hx.int
    exact ⟨_, rfl, q F H _ _ (New.same sub (.int _))⟩
  · cases h
/-! ### comparisons -/
def pCmp (f : Int → Int → Bool) (g : List Nat → List Nat → Bool) : D → D → Option M
  | .int i, .int j => some (.v (.bool (f i j)))
  | .str a, .str b => some (.v (.bool (g a.cps.toList b.cps.toList)))
  | _, _ => none
def rCmp (f : Int → Int → Bool) (g : List Nat → List Nat → Bool) : R2 := fun x y H Q => rI0 (fun i j => .bl (f i j)) x y H Q ∨ ∃ i j, x = .str i ∧ y = .str j ∧ Q (.bl (g i.cps.toList j.cps.toList)) H
theorem prim_cmp {f : Int → Int → Bool} {g : List Nat → List Nat → Bool} : Prim2 K (rCmp f g) (pCmp f g) := by
  intro F H x y d e m sub hx hy h Q q
  unfold pCmp at h
  split at h
  · cases h; obtain rfl := hx.int; obtain rfl := hy.int
    exact .inl ⟨_, _, rfl, rfl, q F H _ _ (New.same sub (.bl _))⟩
  · cases h; obtain rfl := hx.str; obtain rfl := hy.str
    exact .inr ⟨_, _, rfl, rfl, q F H _ _ (New.same sub (.bl _))⟩
  · cases h
abbrev rLt := rCmp (fun i j => decide (i < j)) fun a b => decide (a < b)
abbrev rLe := rCmp (fun i j => decide (i ≤ j)) fun a b => !decide (b < a)
abbrev rGt := rCmp (fun i j => decide (i > j)) fun a b => decide (b < a)
abbrev rGe := rCmp (fun i j => decide (i ≥ j)) fun a b => !decide (a < b)
theorem op_ltU : OpR X (compareOp .Lt) rLt := op_lt.or op_lt_str
theorem op_leU : OpR X (compareOp .LtE) rLe := op_le.or op_le_str
theorem op_gtU : OpR X (compareOp .Gt) rGt := op_gt.or op_gt_str
theorem op_geU : OpR X (compareOp .GtE) rGe := op_ge.or op_ge_str
abbrev pLt := pCmp (fun i j => decide (i < j)) fun a b => decide (a < b)
abbrev pLe := pCmp (fun i j => decide (i ≤ j)) fun a b => !decide (b < a)
abbrev pGt := pCmp (fun i j => decide (i > j)) fun a b => decide (b < a)
abbrev pGe := pCmp (fun i j => decide (i ≥ j)) fun a b => !decide (a < b)
mutual
theorem Fz.dp {F H : Hp} (s : Sub F H) : ∀ {v : V} {d : D}, Fz F v d → d.canLay0 = true → Dp K H v d
  | _, _, .non, _ => .non
  | _, _, .bl b, _ => .bl b
  | _, _, .int i, _ => .int i
  | _, _, .str x, _ => .str x
  | _, _, .lst h r, c => .lst (sqL_H (s.lst h)) (FzL.dp s r (by simpa [PyData.canLay0] using c))
  | _, _, .tup h r, c => .tup (sqT_H (s.tup h)) (FzL.dp s r (by simpa [PyData.canLay0] using c))
  | _, _, .dK h r, c => by simp [PyData.canLay0] at c
theorem FzL.dp {F H : Hp} (s : Sub F H) : ∀ {vs : List V} {ds : List D}, FzL F vs ds → PyData.canLayAll0 ds = true → DpAll K H vs ds
  | _, _, .nil, _ => .nil
  | _, _, @FzL.cons _ v vs d ds h r, c => by
    have c' : PyData.canLay0 d = true ∧ PyData.canLayAll0 ds = true := by simpa [PyData.canLayAll0] using c
    exact .cons (Fz.dp s h c'.1) (FzL.dp s r c'.2)
end
theorem RepH.dp {F H : Hp} {v : V} {d : D} (s : Sub F H) (h : RepH F H v d) (c : d.canLay0 = true) : Dp K H v d := by
  cases h with
  | fz h => exact h.dp s c
  | lst h r => exact .lst (sqL_H h) (r.dp s (by simpa [PyData.canLay0] using c))
  | dK h r => simp [PyData.canLay0] at c
def pEqB : D → D → Option Bool
  | .int i, .int j => some (decide (i = j))
  | .str a, .str b => some (decide (a = b))
  | d, e => if SeqAt.shaped d = true ∧ SeqAt.shaped e = true then some (PyData.eqv d e) else none
def pEq (d e : D) : Option M := (pEqB d e).map fun b => .v (.bool b)
def pNe (d e : D) : Option M := (pEqB d e).map fun b => .v (.bool (!b))
def rEqU (K : PySem.W.Frag) : R2 := fun x y H Q => rEq x y H Q ∨ rEqD K x y H Q
def rNeU (K : PySem.W.Frag) : R2 := fun x y H Q => rNe x y H Q ∨ rNeD K x y H Q
theorem op_eqU (hu : X.A.units + 64 < cLine) : OpR X (compareOp .Eq) (rEqU X.K) := op_eq.or (op_eqD hu)
theorem op_neU (hu : X.A.units + 64 < cLine) : OpR X (compareOp .NotEq) (rNeU X.K) := op_ne.or (op_neD hu)
theorem dec_int (i j : Int) : decide (V.int i = V.int j) = decide (i = j) := by
  by_cases h : i = j
  · subst h; simp
  · rw [decide_eq_false h, decide_eq_false (fun q => h (V.int.inj q))]
theorem dec_str (i j : Str) : decide (V.str i = V.str j) = decide (i = j) := by
  by_cases h : i = j
  · subst h; simp
  · rw [decide_eq_false h, decide_eq_false (fun q => h (V.str.inj q))]
theorem prim_eq : Prim2 K (rEqU K) pEq := by
  intro F H x y d e m sub hx hy h Q q
  obtain ⟨b, hb, rfl⟩ := Option.map_eq_some_iff.mp h
  unfold pEqB at hb
  split at hb
  · cases hb; obtain rfl := hx.int; obtain rfl := hy.int
    refine .inl ⟨rfl, ?_⟩
    rw [dec_int]
    exact q F H _ _ (New.same sub (.bl _))
  · cases hb; obtain rfl := hx.str; obtain rfl := hy.str
    refine .inl ⟨rfl, ?_⟩
    rw [dec_str]
    exact q F H _ _ (New.same sub (.bl _))
  · obtain ⟨⟨s1, s2⟩, rfl⟩ := ite_some hb
    exact .inr ⟨d, e, hx.dp sub (SeqAt.canLay_of_shaped s1), hy.dp sub (SeqAt.canLay_of_shaped s2), s1, s2, q F H _ _ (New.same sub (.bl _))⟩
theorem prim_ne : Prim2 K (rNeU K) pNe := by
  intro F H x y d e m sub hx hy h Q q
  obtain ⟨b, hb, rfl⟩ := Option.map_eq_some_iff.mp h
  unfold pEqB at hb
  split at hb
  · cases hb; obtain rfl := hx.int; obtain rfl := hy.int
    refine .inl ⟨rfl, ?_⟩
    rw [dec_int]
    exact q F H _ _ (New.same sub (.bl _))
  · cases hb; obtain rfl := hx.str; obtain rfl := hy.str
    refine .inl ⟨rfl, ?_⟩
    rw [dec_str]
    exact q F H _ _ (New.same sub (.bl _))
  · obtain ⟨⟨s1, s2⟩, rfl⟩ := ite_some hb
    exact .inr ⟨d, e, hx.dp sub (SeqAt.canLay_of_shaped s1), hy.dp sub (SeqAt.canLay_of_shaped s2), s1, s2, q F H _ _ (New.same sub (.bl _))⟩

/-! ### dicts: keys -/
def kq1 : D → D → Bool
  | .int i, .int j => decide (i = j)
  | .str a, .str b => decide (a = b)
  | _, _ => false
def keyOf : D → Option Key
  | .int i => some (.inl i)
  | .str a => some (.inr a)
  | _ => none
theorem kD_of {d : D} {k : Key} (h : keyOf d = some k) : d = kD k := by
  cases d <;> cases h <;> rfl
theorem kq1_kD (a b : Key) : kq1 (kD a) (kD b) = decide (a = b) := by
  cases a with
  | inl i => cases b with
    | inl j => show decide (i = j) = _; simp
    | inr j => show false = _; simp
  | inr i => cases b with
    | inl j => show false = _; simp
    | inr j => show decide (i = j) = _; simp
def dget (kvs : List (D × D)) (k : D) : Option D := (kvs.find? fun p => kq1 p.1 k).map (·.2)
def dput (kvs : List (D × D)) (k v : D) : List (D × D) := if (kvs.any fun p => kq1 p.1 k) = true then kvs.map (fun p => if kq1 p.1 k = true then (p.1, v) else p) else kvs ++ [(k, v)]
theorem RepH.key {F H : Hp} {v : V} {d : D} {k : Key} (h : RepH F H v d) (e : keyOf d = some k) : v = kV k := by
  cases d <;> cases e
  · exact h.int
  · exact h.str
theorem FzK.find {F : Hp} {k : Key} : ∀ {kvs : List (Key × V)} {ds : List (D × D)}, FzK F kvs ds → (valV kvs k = none ∧ dget ds (kD k) = none) ∨ ∃ v d, valV kvs k = some v ∧ dget ds (kD k) = some d ∧ Fz F v d
  | _, _, .nil => .inl ⟨rfl, rfl⟩
  | _, _, @FzK.cons _ k' v vs d ds h r => by
    have e0 : dget ((kD k', d) :: ds) (kD k) = if k' = k then some d else dget ds (kD k) := by
      unfold dget
      rw [List.find?_cons]
      by_cases e : k' = k
      · rw [if_pos e]
        simp only [kq1_kD, decide_eq_true e, Option.map_some]
      · rw [if_neg e]
        simp only [kq1_kD, decide_eq_false e]
    by_cases e : k' = k
    · rw [if_pos e] at e0
      exact .inr ⟨v, d, valV_pos (p := (k', v)) e, e0, h⟩
    · rw [if_neg e] at e0
      rw [e0, valV_neg (p := (k', v)) e]
      exact FzK.find r
theorem FzK.isSome {F : Hp} {k : Key} {kvs : List (Key × V)} {ds : List (D × D)} (z1 : FzK F kvs ds) : (valV kvs k).isSome = (dget ds (kD k)).isSome := by
  rcases z1.find (k := k) with ⟨n1, n2⟩ | ⟨v, d', h2, h3, z⟩
  · rw [n1, n2]; rfl
  · rw [h2, h3]; rfl
theorem FzK.any {F : Hp} {k : Key} : ∀ {kvs : List (Key × V)} {ds : List (D × D)}, FzK F kvs ds → (kvs.any fun kv => decide (kv.1 = k)) = ds.any fun p => kq1 p.1 (kD k)
  | _, _, .nil => rfl
  | _, _, @FzK.cons _ k' v vs d ds h r => by rw [List.any_cons, List.any_cons, FzK.any r, kq1_kD]
theorem FzK.append {F : Hp} : ∀ {kvs kvs' : List (Key × V)} {ds ds' : List (D × D)}, FzK F kvs ds → FzK F kvs' ds' → FzK F (kvs ++ kvs') (ds ++ ds')
  | _, _, _, _, .nil, s => s
  | _, _, _, _, .cons h r, s => .cons h (FzK.append r s)
theorem FzK.mapPut {F : Hp} {k : Key} {v : V} {d : D} (h : Fz F v d) : ∀ {kvs : List (Key × V)} {ds : List (D × D)}, FzK F kvs ds → FzK F (kvs.map fun kv => if kv.1 = k then (kv.1, v) else kv) (ds.map fun p => if kq1 p.1 (kD k) = true then (p.1, d) else p)
  | _, _, .nil => .nil
  | _, _, @FzK.cons _ k' v' vs d' ds h' r => by
    rw [List.map_cons, List.map_cons]
    show FzK F ((if k' = k then (k', v) else (k', v')) :: _) ((if kq1 (kD k') (kD k) = true then (kD k', d) else (kD k', d')) :: _)
    rw [kq1_kD]
    by_cases e : k' = k
    · rw [if_pos e, decide_eq_true e, if_pos rfl]; exact .cons h (FzK.mapPut h r)
    · rw [if_neg e, decide_eq_false e, if_neg Bool.false_ne_true]; exact .cons h' (FzK.mapPut h r)
theorem FzK.put {F : Hp} {k : Key} {v : V} {d : D} {kvs : List (Key × V)} {ds : List (D × D)} (r : FzK F kvs ds) (h : Fz F v d) : FzK F (putK kvs k v) (dput ds (kD k) d) := by
  unfold putK dput
  rw [r.any]
  split
  · exact r.mapPut h
  · exact r.append (.cons h .nil)

/-! ### a[i], a[i:j], x in a, len -/
def rIxD : R2 := fun x y H Q => ∃ a v, x = .ref a ∧ DGet H a y (some v) ∧ Q v H
theorem ix_dict (hu : X.A.units + 1 < cLine) : IxR X rIxD := by
  intro value slice pins s σ H x y v u Q I rx ry h hs
  obtain ⟨a, z, rfl, g, q⟩ := h
  obtain rfl : v = Value.ref a := rx
  exact PyProof.Rows.tail_any (dict_typeIs I g) PySem.F.slot_dict_getitem.lookup (d_getItem hu I g ry fun w' s' I' rw' => ⟨z, H, I', rw', q⟩) hs
def rIxA (K : PySem.W.Frag) : R2 := fun x y H Q => rIx K x y H Q ∨ rIxD x y H Q
theorem ix_any (hu : X.A.units + 1 < cLine) : IxR X (rIxA X.K) := ix_seq.or (ix_dict hu)
def pIx : D → D → Option M
  | .list ds, .int i => (atI ds i).map .v
  | .tuple ds, .int i => (atI ds i).map .v
  | .str s, .int i => if s.length ≤ 1000000 then (atI s.cps.toList i).map fun c => .v (.str ⟨#[c]⟩) else none
  | .dict kvs, k => match keyOf k with
    | some _ => (dget kvs k).map .v
    | none => none
  | _, _ => none
theorem FzL.atI {F : Hp} {xs : List V} {ds : List D} {i : Int} {d : D} (r : FzL F xs ds) (h : L2.atI ds i = some d) : ∃ v, L2.atI xs i = some v ∧ Fz F v d := by
  unfold L2.atI at h ⊢
  rw [r.length]
  cases e : ixN ds.length i with
  | none => rw [e] at h; cases h
  | some j =>
    rw [e] at h
    exact r.get h
theorem prim_ix : Prim2 K (rIxA K) pIx := by
  intro F H x y d e m sub hx hy h Q q
  unfold pIx at h
  split at h
  · obtain ⟨d, hd, rfl⟩ := Option.map_eq_some_iff.mp h
    obtain ⟨a, xs, rfl, h1, z1⟩ := hx.list sub
    obtain rfl := hy.int
    obtain ⟨v, hv, z⟩ := z1.atI hd
    exact .inl (.inl ⟨a, xs, _, v, rfl, rfl, sqL_H h1, hv, q F H _ _ (New.same sub z)⟩)
  · obtain ⟨d, hd, rfl⟩ := Option.map_eq_some_iff.mp h
    obtain ⟨a, xs, rfl, f1, h1, z1⟩ := hx.tup sub
    obtain rfl := hy.int
    obtain ⟨v, hv, z⟩ := z1.atI hd
    exact .inl (.inr (.inl ⟨a, xs, _, v, rfl, rfl, sqT_H h1, hv, q F H _ _ (New.same sub z)⟩))
  · rename_i s i
    by_cases hz : s.length ≤ 1000000
    · rw [if_pos hz] at h
      obtain ⟨c, hc, rfl⟩ := Option.map_eq_some_iff.mp h
      obtain rfl := hx.str
      obtain rfl := hy.int
      exact .inl (.inr (.inr ⟨s, i, c, rfl, rfl, line_of hz, hc, q F H _ _ (New.same sub (.str _))⟩))
    · rw [if_neg hz] at h; cases h
  · split at h
    · rename_i k hk
      obtain ⟨d, hd, rfl⟩ := Option.map_eq_some_iff.mp h
      obtain ⟨a, kvs, rfl, h1, z1⟩ := hx.dict sub
      obtain rfl := hy.key hk
      rw [kD_of hk] at hd
      rcases z1.find (k := k) with ⟨_, n⟩ | ⟨v, d', h2, h3, z⟩
      · rw [n] at hd; cases hd
      · rw [h3] at hd; cases hd
        exact .inr ⟨a, v, rfl, .inl ⟨kvs, k, h1, rfl, h2.symm⟩, q F H _ _ (New.same sub z)⟩
    · cases h
  · cases h
def cutL {α : Type} (xs : List α) (lo hi : Option Int) : List α := (xs.drop (HT.sIx xs.length 0 lo)).take (HT.sIx xs.length xs.length hi - HT.sIx xs.length 0 lo)
abbrev RSl := V → Option Int → Option Int → Hp → VK → Prop
def PrimSl (K : PySem.W.Frag) (r : RSl) (p : D → Option Int → Option Int → Option M) : Prop := ∀ (F H : Hp) (x : V) (d : D) (lo hi : Option Int) (m : M), Sub F H → RepH F H x d → p d lo hi = some m → ∀ Q : VK, (∀ F' H' v B, New K F H F' H' v m B → Q v H') → r x lo hi H Q
def rSlU (K : PySem.W.Frag) : RSl := fun x lo hi H Q => rSlL K x lo hi H Q ∨ rSlA K x lo hi H Q ∨ rSlS x lo hi H Q
theorem sl_any : SlR X (rSlU X.K) := sl_list.or (sl_tupA.or sl_str)
def pSl : D → Option Int → Option Int → Option M
  | .list ds, lo, hi => some (.own (.list (cutL ds lo hi)))
  | .tuple ds, lo, hi => some (.v (.tuple (cutL ds lo hi)))
  | .str s, lo, hi => if s.length ≤ 1000000 then some (.v (.str ⟨(cutL s.cps.toList lo hi).toArray⟩)) else none
  | _, _, _ => none
theorem FzL.cut {F : Hp} {xs : List V} {ds : List D} (r : FzL F xs ds) (lo hi : Option Int) : FzL F (cutV xs lo hi) (cutL ds lo hi) := by
  unfold cutV cutL
  rw [r.length]
  exact (r.drop _).take _
theorem prim_sl : PrimSl K (rSlU K) pSl := by
  intro F H x d lo hi m sub hx h Q q
  unfold pSl at h
  split at h
  · cases h
    obtain ⟨a, xs, rfl, h1, z1⟩ := hx.list sub
    exact .inl ⟨a, xs, rfl, sqL_H h1, fun p hp => q _ _ _ _ (New.lst sub hp (z1.cut _ _))⟩
  · cases h
    obtain ⟨a, xs, rfl, f1, h1, z1⟩ := hx.tup sub
    refine .inr (.inl ⟨a, xs, rfl, sqT_H h1, fun e => ?_, fun _ p hp => q _ _ _ _ (New.tup sub hp (z1.cut _ _))⟩)
    refine q F H _ _ (New.same sub (.tup f1 ?_))
    have c := z1.cut lo hi
    have e2 : cutV xs lo hi = xs := by
      unfold cutV
      rw [e.1, e.2, List.drop_zero, Nat.sub_zero, List.take_length]
    rw [e2] at c
    exact c
  · obtain ⟨hz, rfl⟩ := ite_some h
    obtain rfl := hx.str
    refine .inr (.inr ⟨_, rfl, line_of hz, ?_⟩)
    have e : ∀ s : Str, cutS s lo hi = ⟨(cutL s.cps.toList lo hi).toArray⟩ := fun s => by
      unfold cutS cutL
      have hl : s.cps.toList.length = s.length := by simp [Str.length]
      rw [hl]
    rw [e]
    exact q F H _ _ (New.same sub (.str _))
  · cases h
abbrev AO := Env → (Option Int → Env → Prop) → Prop
def SndO (K : PySem.W.Frag) (to : TO) (ao : AO) : Prop := ∀ (F H : Hp) (σ : L2.St) (env : Env) (A : List Addr), Ste K F H σ env A → ∀ Qa : Option Int → Env → Prop, ao env Qa → ∀ Q : Option Int → Hp → Prop,
  (∀ F' H' env' A' b, Qa b env' → Ste K F' H' σ env' A' → Stp F H A F' H' A' → Q b H') → to σ H Q
def aNoPart : AO := fun env Q => Q none env
def aPart (a : AE) : AO := fun env Q => a env fun x e1 => ∃ i, x = .val (.v (.int i)) ∧ Q (some i) e1
theorem sndo_none : SndO K tNoPart aNoPart := fun F H σ env A S Qa h Q k => k F H env A none h S Stp.refl
theorem sndo_some {ta : TE} {a : AE} (ha : Snd K ta a) : SndO K (tPart ta) (aPart a) := by
  intro F H σ env A S Qa h Q k
  refine ha F H σ env A S _ h _ fun F1 H1 e1 A1 v x B q t => ?_
  obtain ⟨i, rfl, q⟩ := q
  have r := t.rep.int
  subst r
  exact ⟨i, rfl, k F1 H1 e1 A1 _ q t.ste t.lost⟩
def aSl (p : D → Option Int → Option Int → Option M) (a : AE) (lo hi : AO) : AE := fun env Q => a env fun x e1 => lo e1 fun l e2 => hi e2 fun h e3 => ∃ d m, rd e3 x = some d ∧ p d l h = some m ∧ Q (.val m) e3
theorem snd_sl {r : RSl} {p : D → Option Int → Option Int → Option M} {ta : TE} {a : AE} {tl th : TO} {al ah : AO} (hr : PrimSl K r p) (ha : Snd K ta a) (hl : SndO K tl al) (hh : SndO K th ah) : Snd K (tSl r ta tl th) (aSl p a al ah) := by
  intro F H σ env A S Qa h Q k
  refine ha F H σ env A S _ h _ fun F1 H1 e1 A1 v x B q t => ?_
  refine hl F1 H1 σ e1 A1 t.ste _ q _ fun F2 H2 e2 A2 l q2 S2 s2 => ?_
  refine hh F2 H2 σ e2 A2 S2 _ q2 _ fun F3 H3 e3 A3 u q3 S3 s3 => ?_
  obtain ⟨d, m, ed, ep, q⟩ := q3
  have s13 := s2.trans s3
  have rx := t.rep.keep s13 t.nd
  exact hr F3 H3 v d l u m S3.sub (S3.repH rx ed) ep Q fun F' H' v' C n => k F' H' e3 A3 v' _ C q (Aft.new (E := B) S3 (t.stp.trans s13.side) n)

/-- x in a -/
def flatD : D → Bool
  | .none => true
  | .bool _ => true
  | .int _ => true
  | .str _ => true
  | _ => false
theorem flat_V {F H : Hp} {v : V} {d : D} (h : RepH F H v d) (f : flatD d = true) : flatV v = true := by
  cases d <;> first | (cases f; done) | skip
  · obtain rfl := h.non; rfl
  · obtain rfl := h.bool; rfl
  · obtain rfl := h.int; rfl
  · obtain rfl := h.str; rfl
def eqF : D → D → Bool
  | .none, .none => true
  | .bool a, .bool b => a == b
  | .bool a, .int b => (if a then 1 else 0) == b
  | .int a, .bool b => a == (if b then 1 else 0)
  | .int a, .int b => a == b
  | .str a, .str b => a == b
  | _, _ => false
theorem eqF_V {F H : Hp} {v u : V} {d e : D} (h : RepH F H v d) (h2 : RepH F H u e) (f : flatD d = true) (f2 : flatD e = true) : eqV v u = eqF d e := by
  cases d <;> first | (cases f; done) | skip
  all_goals cases e <;> first | (cases f2; done) | skip
  all_goals first | obtain rfl := h.non | obtain rfl := h.bool | obtain rfl := h.int | obtain rfl := h.str
  all_goals first | obtain rfl := h2.non | obtain rfl := h2.bool | obtain rfl := h2.int | obtain rfl := h2.str
  all_goals rfl
theorem FzL.flat {F H : Hp} : ∀ {xs : List V} {ds : List D}, FzL F xs ds → ds.all flatD = true → xs.all flatV = true
  | _, _, .nil, _ => rfl
  | _, _, .cons h r, f => by
    rw [List.all_cons, Bool.and_eq_true] at f ⊢
    exact ⟨flat_V (H := H) (.fz h) f.1, FzL.flat (H := H) r f.2⟩
theorem FzL.inV {F H : Hp} {x : V} {d : D} (hx : RepH F H x d) (fx : flatD d = true) : ∀ {xs : List V} {ds : List D}, FzL F xs ds → ds.all flatD = true → L2.inV x xs = ds.any fun e => eqF e d
  | _, _, .nil, _ => rfl
  | _, _, .cons h r, f => by
    rw [List.all_cons, Bool.and_eq_true] at f
    have ih := FzL.inV hx fx r f.2
    unfold L2.inV at ih ⊢
    rw [List.any_cons, List.any_cons, ih, eqF_V (.fz h) hx f.1 fx]
def pInB : D → D → Option Bool
  | d, .list ds => if flatD d = true ∧ ds.all flatD = true then some (ds.any fun e => eqF e d) else none
  | d, .tuple ds => if flatD d = true ∧ ds.all flatD = true then some (ds.any fun e => eqF e d) else none
  | k, .dict kvs => match keyOf k with
    | some _ => some (dget kvs k).isSome
    | none => none
  | .str a, .str b => some (!(Builtin.Str.occurrences b a 0 b.length 1).isEmpty)
  | _, _ => none
def pIn (neg : Bool) (d e : D) : Option M := (pInB d e).map fun b => .v (.bool (if neg then !b else b))
def rInDk (neg : Bool) : R2 := fun y x H Q => ∃ a o, x = .ref a ∧ DGet H a y o ∧ Q (.bl (if neg then !o.isSome else o.isSome)) H
def rInS (neg : Bool) : R2 := fun x y H Q => ∃ i j, x = .str i ∧ y = .str j ∧ Q (.bl (if neg then !(!(Builtin.Str.occurrences j i 0 j.length 1).isEmpty) else !(Builtin.Str.occurrences j i 0 j.length 1).isEmpty)) H
def rInU (K : PySem.W.Frag) (neg : Bool) : R2 := fun x y H Q => rIn K neg x y H Q ∨ rInDk neg x y H Q ∨ rInS neg x y H Q
theorem op_in_dk (hu : X.A.units + 1 < cLine) : OpR X (compareOp .In) (rInDk false) := by
  intro pins s σ H x y v u Q I rx ry h
  obtain ⟨a, o, rfl, g, q⟩ := h
  obtain rfl : u = Value.ref a := ry
  exact d_in hu I g rx fun s3 I3 => ⟨.bl o.isSome, H, I3, rfl, q⟩
theorem op_notIn_dk (hu : X.A.units + 1 < cLine) : OpR X (compareOp .NotIn) (rInDk true) := by
  intro pins s σ H x y v u Q I rx ry h
  obtain ⟨a, o, rfl, g, q⟩ := h
  obtain rfl : u = Value.ref a := ry
  exact d_notIn hu I g rx fun s3 I3 => ⟨.bl (!o.isSome), H, I3, rfl, q⟩
theorem op_inU (hu : X.A.units + 1 < cLine) : OpR X (compareOp .In) (rInU X.K false) := op_in_seq.or ((op_in_dk hu).or op_in_str)
theorem op_notInU (hu : X.A.units + 1 < cLine) : OpR X (compareOp .NotIn) (rInU X.K true) := op_notIn_seq.or ((op_notIn_dk hu).or op_notIn_str)
theorem prim_in {neg : Bool} : Prim2 K (rInU K neg) (pIn neg) := by
  intro F H x y d e m sub hx hy h Q q
  obtain ⟨b, hb, rfl⟩ := Option.map_eq_some_iff.mp h
  unfold pInB at hb
  split at hb
  · obtain ⟨⟨f1, f2⟩, rfl⟩ := ite_some hb
    obtain ⟨a, xs, rfl, h1, z1⟩ := hy.list sub
    refine .inl ⟨a, xs, rfl, .inl (sqL_H h1), flat_V hx f1, z1.flat (H := H) f2, ?_⟩
    rw [z1.inV hx f1 f2]
    exact q F H _ _ (New.same sub (.bl _))
  · obtain ⟨⟨f1, f2⟩, rfl⟩ := ite_some hb
    obtain ⟨a, xs, rfl, _, h1, z1⟩ := hy.tup sub
    refine .inl ⟨a, xs, rfl, .inr (sqT_H h1), flat_V hx f1, z1.flat (H := H) f2, ?_⟩
    rw [z1.inV hx f1 f2]
    exact q F H _ _ (New.same sub (.bl _))
  · split at hb
    · rename_i k hk
      cases hb
      obtain ⟨a, kvs, rfl, h1, z1⟩ := hy.dict sub
      obtain rfl := hx.key hk
      have e := z1.isSome (k := k)
      refine .inr (.inl ⟨a, valV kvs k, rfl, .inl ⟨kvs, k, h1, rfl, rfl⟩, ?_⟩)
      rw [e, ← kD_of hk]
      exact q F H _ _ (New.same sub (.bl _))
    · cases hb
  · cases hb
    obtain rfl := hx.str
    obtain rfl := hy.str
    exact .inr (.inr ⟨_, _, rfl, rfl, q F H _ _ (New.same sub (.bl _))⟩)
  · cases hb
/-- len -/
def rLenU (K : PySem.W.Frag) : List V → Hp → VK → Prop := fun xs H Q => (∃ x n, xs = [x] ∧ LenV K x H n ∧ Q (.int n) H) ∨ ∃ a kvs, xs = [V.ref a] ∧ Rd H a (.dK kvs) ∧ Q (.int kvs.length) H
theorem call_lenDk : CallR X (.builtin "len") (fun xs H Q => ∃ a kvs, xs = [V.ref a] ∧ Rd H a (.dK kvs) ∧ Q (.int kvs.length) H) := by
  intro pins s σ H xs us Q I r h
  obtain ⟨a, kvs, rfl, ha, q⟩ := h
  obtain ⟨u, rfl, ru⟩ := vals1 r
  cases ru
  exact d_len I ha fun t s' I' => ⟨.int kvs.length, H, I', ⟨t, rfl⟩, q⟩
theorem call_lenU : CallR X (.builtin "len") (rLenU X.K) := call_len.or call_lenDk
def pLen : List D → Option M
  | [.list ds] => some (.v (.int ds.length))
  | [.tuple ds] => some (.v (.int ds.length))
  | [.dict ds] => some (.v (.int ds.length))
  | [.str s] => if s.length ≤ 1000000 then some (.v (.int s.length)) else none
  | _ => none
theorem prim_len : PrimN K (rLenU K) pLen := by
  intro F H xs ds m sub hx h Q q
  unfold pLen at h
  split at h
  · cases h
    obtain ⟨v, rfl, hv⟩ := hx.one
    obtain ⟨a, xs, rfl, h1, z1⟩ := hv.list sub
    refine .inl ⟨_, xs.length, rfl, .inl ⟨xs, sqL_H h1, rfl⟩, ?_⟩
    rw [z1.length]
    exact q F H _ _ (New.same sub (.int _))
  · cases h
    obtain ⟨v, rfl, hv⟩ := hx.one
    obtain ⟨a, xs, rfl, _, h1, z1⟩ := hv.tup sub
    refine .inl ⟨_, xs.length, rfl, .inr ⟨xs, sqT_H h1, rfl⟩, ?_⟩
    rw [z1.length]
    exact q F H _ _ (New.same sub (.int _))
  · cases h
    obtain ⟨v, rfl, hv⟩ := hx.one
    obtain ⟨a, kvs, rfl, h1, z1⟩ := hv.dict sub
    refine .inr ⟨a, kvs, rfl, h1, ?_⟩
    rw [z1.length]
    exact q F H _ _ (New.same sub (.int _))
  · obtain ⟨hz, rfl⟩ := ite_some h
    obtain ⟨v, rfl, hv⟩ := hx.one
    obtain rfl := hv.str
    exact .inl ⟨_, _, rfl, ⟨line_of hz, rfl⟩, q F H _ _ (New.same sub (.int _))⟩
  · cases h
end
end ML
/-! ML7: built-in functions on data; what is changed in a slot. -/
namespace ML
open PySem L2

/-! ### lists of one kind -/
def toInts : List D → Option (List Int)
  | [] => some []
  | .int i :: ds => (toInts ds).map fun r => i :: r
  | _ => none
def toStrs : List D → Option (List Str)
  | [] => some []
  | .str i :: ds => (toStrs ds).map fun r => i :: r
  | _ => none
def toBools : List D → Option (List Bool)
  | [] => some []
  | .bool i :: ds => (toBools ds).map fun r => i :: r
  | _ => none
theorem toInts_eq : ∀ {ds : List D} {ns : List Int}, toInts ds = some ns → ds = ns.map PyData.int
  | [], ns, h => by cases h; rfl
  | .int i :: ds, ns, h => by
    obtain ⟨r, hr, rfl⟩ := Option.map_eq_some_iff.mp h
    rw [toInts_eq hr]; rfl
theorem toStrs_eq : ∀ {ds : List D} {ns : List Str}, toStrs ds = some ns → ds = ns.map PyData.str
  | [], ns, h => by cases h; rfl
  | .str i :: ds, ns, h => by
    obtain ⟨r, hr, rfl⟩ := Option.map_eq_some_iff.mp h
    rw [toStrs_eq hr]; rfl
theorem toBools_eq : ∀ {ds : List D} {ns : List Bool}, toBools ds = some ns → ds = ns.map PyData.bool
  | [], ns, h => by cases h; rfl
  | .bool i :: ds, ns, h => by
    obtain ⟨r, hr, rfl⟩ := Option.map_eq_some_iff.mp h
    rw [toBools_eq hr]; rfl
@[simp] theorem toInts_map {α : Type} (f : α → Int) : ∀ xs : List α, toInts (xs.map fun x => PyData.int (f x)) = some (xs.map f)
  | [] => rfl
  | x :: xs => by
    show (toInts (xs.map fun x => PyData.int (f x))).map _ = _
    rw [toInts_map f xs]; rfl
@[simp] theorem toStrs_map {α : Type} (f : α → Str) : ∀ xs : List α, toStrs (xs.map fun x => PyData.str (f x)) = some (xs.map f)
  | [] => rfl
  | x :: xs => by
    show (toStrs (xs.map fun x => PyData.str (f x))).map _ = _
    rw [toStrs_map f xs]; rfl
@[simp] theorem toBools_map {α : Type} (f : α → Bool) : ∀ xs : List α, toBools (xs.map fun x => PyData.bool (f x)) = some (xs.map f)
  | [] => rfl
  | x :: xs => by
    show (toBools (xs.map fun x => PyData.bool (f x))).map _ = _
    rw [toBools_map f xs]; rfl

/-! ### sorting -/
def sortBy {α : Type} (le : α → α → Bool) (xs : List α) : List α := xs.mergeSort le
theorem sorted_unique {α : Type} {le : α → α → Bool} (anti : ∀ a b, le a b = true → le b a = true → a = b) : ∀ {xs ys : List α}, xs.Perm ys → xs.Pairwise (fun a b => le a b = true) → ys.Pairwise (fun a b => le a b = true) → xs = ys
  | [], ys, p, _, _ => (List.Perm.nil_eq p)
  | x :: xs, [], p, _, _ => absurd p.length_eq (by simp)
  | x :: xs, y :: ys, p, h1, h2 => by
    obtain ⟨a1, b1⟩ := List.pairwise_cons.mp h1
    obtain ⟨a2, b2⟩ := List.pairwise_cons.mp h2
    have e : x = y := by
      have hx : x ∈ y :: ys := p.mem_iff.mp List.mem_cons_self
      have hy : y ∈ x :: xs := p.mem_iff.mpr List.mem_cons_self
      rcases List.mem_cons.mp hx with e | hx
      · exact e
      · rcases List.mem_cons.mp hy with e | hy
        · exact e.symm
        · exact anti x y (a1 y hy) (a2 x hx)
    subst e
    rw [sorted_unique anti ((List.perm_cons x).mp p) b1 b2]
def leI (a b : Int) : Bool := decide (a ≤ b)
def leS (a b : Str) : Bool := !decide (b.cps.toList < a.cps.toList)
abbrev sortI (xs : List Int) : List Int := sortBy leI xs
abbrev sortS (xs : List Str) : List Str := sortBy leS xs
theorem sortBy_perm {α : Type} (le : α → α → Bool) (xs : List α) : (sortBy le xs).Perm xs := List.mergeSort_perm _ _
theorem sortBy_sorted {α : Type} {le : α → α → Bool} (tr : ∀ a b c, le a b = true → le b c = true → le a c = true) (tot : ∀ a b, (le a b || le b a) = true) (xs : List α) : (sortBy le xs).Pairwise fun a b => le a b = true := List.pairwise_mergeSort tr tot xs
theorem leI_anti (a b : Int) (h1 : leI a b = true) (h2 : leI b a = true) : a = b := by
  have h1 := of_decide_eq_true h1
  have h2 := of_decide_eq_true h2
  omega
theorem leI_trans (a b c : Int) (h1 : leI a b = true) (h2 : leI b c = true) : leI a c = true := by
  have h1 := of_decide_eq_true h1
  have h2 := of_decide_eq_true h2
  exact decide_eq_true (by omega)
theorem leI_total (a b : Int) : (leI a b || leI b a) = true := by
  unfold leI
  by_cases h : a ≤ b
  · simp [h]
  · have h2 : b ≤ a := by omega
    simp [h2]
theorem sortI_sorted (xs : List Int) : (sortI xs).Pairwise (· ≤ ·) := (sortBy_sorted leI_trans leI_total xs).imp fun h => of_decide_eq_true h
theorem sortI_uniq {xs ys : List Int} (p : ys.Perm xs) (h : ys.Pairwise (· ≤ ·)) : ys = sortI xs :=
  sorted_unique leI_anti (p.trans (sortBy_perm leI xs).symm) (h.imp fun h => decide_eq_true h) (sortBy_sorted leI_trans leI_total xs)
theorem ltN_irr : ∀ a : List Nat, ¬ a < a := fun a => List.lt_irrefl a
theorem ltN_conn {a b : List Nat} (h1 : ¬ a < b) (h2 : ¬ b < a) : a = b := List.le_antisymm (as := a) (bs := b) (by exact h2) (by exact h1)
theorem leS_anti (a b : Str) (h1 : leS a b = true) (h2 : leS b a = true) : a = b := by
  unfold leS at h1 h2
  simp only [Bool.not_eq_true', decide_eq_false_iff_not] at h1 h2
  have e := ltN_conn h2 h1
  cases a with
  | mk a => cases b with
    | mk b => exact congrArg Str.mk (Array.toList_inj.mp e)
theorem leS_trans (a b c : Str) (h1 : leS a b = true) (h2 : leS b c = true) : leS a c = true := by
  unfold leS at h1 h2 ⊢
  simp only [Bool.not_eq_true', decide_eq_false_iff_not] at h1 h2 ⊢
  exact List.le_trans (l₁ := a.cps.toList) (l₂ := b.cps.toList) (l₃ := c.cps.toList) h1 h2
theorem leS_total (a b : Str) : (leS a b || leS b a) = true := by
  unfold leS
  by_cases h : b.cps.toList < a.cps.toList
  · have h2 : ¬ a.cps.toList < b.cps.toList := List.lt_asymm h
    simp [h2]
  · simp [h]

theorem ltCps_iff : ∀ a b : List Nat, PySem.Spec.ltCps a b = decide (a < b)
  | [], [] => by rw [decide_eq_false (ltN_irr [])]; rfl
  | [], b :: r => by rw [decide_eq_true (List.nil_lt_cons b r)]; rfl
  | a :: r, [] => by rw [decide_eq_false (List.not_lt_nil _)]; rfl
  | a :: r, b :: t => by
    show (decide (a < b) || (a == b && PySem.Spec.ltCps r t)) = _
    rw [ltCps_iff r t]
    have e := List.cons_lt_cons_iff (a := a) (b := b) (l₁ := r) (l₂ := t)
    by_cases h : a < b
    · rw [decide_eq_true h, decide_eq_true (e.mpr (.inl h))]; rfl
    · rw [decide_eq_false h]
      by_cases h2 : a = b
      · subst h2
        by_cases h3 : r < t
        · rw [decide_eq_true h3, decide_eq_true (e.mpr (.inr ⟨rfl, h3⟩))]; simp
        · rw [decide_eq_false h3, decide_eq_false (fun q => (e.mp q).elim h fun q => h3 q.2)]; simp
      · rw [decide_eq_false (fun q => (e.mp q).elim h fun q => h2 q.1)]
        simp [h2]
theorem risingS_pair : ∀ (r : List Str) (p : Str), PyProof.Rows.risingS p r = true → (p :: r).Pairwise fun a b => leS a b = true
  | [], p, _ => by simp
  | x :: r, p, h => by
    have h' : (!PySem.Spec.ltCps x.cps.toList p.cps.toList && PyProof.Rows.risingS x r) = true := h
    rw [Bool.and_eq_true] at h'
    have ih := risingS_pair r x h'.2
    have hx : leS p x = true := by
      have q := h'.1
      rw [ltCps_iff] at q
      exact q
    refine List.pairwise_cons.mpr ⟨fun y hy => ?_, ih⟩
    rcases List.mem_cons.mp hy with rfl | hy
    · exact hx
    · exact leS_trans p x y hx ((List.pairwise_cons.mp ih).1 y hy)
theorem sortedS_pair : ∀ (l : List Str), PyProof.Rows.sortedS l = true → l.Pairwise fun a b => leS a b = true
  | [], _ => by simp
  | x :: r, h => risingS_pair r x h
theorem sortS_uniq {xs ys : List Str} (p : ys.Perm xs) (h : PyProof.Rows.sortedS ys = true) : ys = sortS xs :=
  sorted_unique leS_anti (p.trans (sortBy_perm leS xs).symm) (sortedS_pair ys h) (sortBy_sorted leS_trans leS_total xs)
theorem sortS_sorted (xs : List Str) : (sortS xs).Pairwise (fun a b => leS a b = true) := sortBy_sorted leS_trans leS_total xs

section
variable {X : Cx} {K : PySem.W.Frag}
def rSortedDk : List V → Hp → VK → Prop := fun xs H Q => ∃ (a : Addr) (kvs : List (Key × V)) (ks : List Str), xs = [.ref a] ∧ Rd H a (.dK kvs) ∧ kvs.map (·.1) = ks.map Sum.inr ∧ ks.length < 64 ∧ ∀ ys p, ys.Perm ks → PyProof.Rows.sortedS ys = true → H p = none → Q (.ref p) (upd H p (.lst (ys.map V.str)))
def rSortedU (K : PySem.W.Frag) : List V → Hp → VK → Prop := fun xs H Q => rSortedI K xs H Q ∨ rSortedS K xs H Q ∨ rSortedDk xs H Q
theorem call_sortedU (hc : X.calm = true) : CallR X (.builtin "sorted") (rSortedU X.K) := cr_sortedI.or (cr_sortedS.or (call_sortedD hc))
def pSorted : List D → Option M
  | [.list ds] => match toInts ds with
    | some ns => some (.own (.list ((sortI ns).map PyData.int)))
    | none => match toStrs ds with
      | some ss => if ss.length < 64 then some (.own (.list ((sortS ss).map PyData.str))) else none
      | none => none
  | [.dict kvs] => match toStrs (kvs.map (·.1)) with
      | some ss => if ss.length < 64 then some (.own (.list ((sortS ss).map PyData.str))) else none
      | none => none
  | _ => none
theorem FzK.strKeys {F : Hp} : ∀ {kvs : List (Key × V)} {ds : List (D × D)} {ks : List Str}, FzK F kvs ds → ds.map (·.1) = ks.map PyData.str → kvs.map (·.1) = ks.map Sum.inr
  | _, _, [], .nil, _ => rfl
  | _, _, _ :: _, .nil, h => by cases h
  | _, _, [], .cons _ _, h => by cases h
  | _, _, k :: ks, @FzK.cons _ k' v vs d ds h r, e => by
    rw [List.map_cons, List.map_cons] at e
    injection e with e1 e2
    have ih := FzK.strKeys r e2
    rw [List.map_cons, List.map_cons, ih]
    cases k' with
    | inl i => cases e1
    | inr s => cases e1; rfl
theorem prim_sorted : PrimN K (rSortedU K) pSorted := by
  intro F H xs ds m sub hx h Q q
  unfold pSorted at h
  split at h
  · obtain ⟨v, rfl, hv⟩ := hx.one
    obtain ⟨a, xs, rfl, h1, z1⟩ := hv.list sub
    split at h
    · rename_i ns hn
      cases h
      have e := toInts_eq hn
      subst e
      cases z1.ints_inv
      refine .inl ⟨a, ns, rfl, sqL_H h1, fun ns' p pm ps hp => ?_⟩
      rw [sortI_uniq pm ps]
      exact q _ _ _ _ (New.lst sub hp (FzL.ints _))
    · split at h
      · rename_i ss hs
        obtain ⟨hz, rfl⟩ := ite_some h
        have e := toStrs_eq hs
        subst e
        cases z1.strs_inv
        refine .inr (.inl ⟨a, ss, rfl, sqL_H h1, hz, fun ys p pm ps hp => ?_⟩)
        rw [sortS_uniq pm ps]
        exact q _ _ _ _ (New.lst sub hp (FzL.strs _))
      · cases h
  · obtain ⟨v, rfl, hv⟩ := hx.one
    obtain ⟨a, kvs, rfl, h1, z1⟩ := hv.dict sub
    split at h
    · rename_i ss hs
      obtain ⟨hz, rfl⟩ := ite_some h
      have e := toStrs_eq hs
      refine .inr (.inr ⟨a, kvs, ss, rfl, h1, z1.strKeys e, hz, fun ys p pm ps hp => ?_⟩)
      rw [sortS_uniq pm ps]
      exact q _ _ _ _ (New.lst sub hp (FzL.strs _))
    · cases h
  · cases h
/-! ### max, min, sum, any, all -/
def maxI : List Int → Option Int
  | [] => none
  | x :: xs => some (xs.foldl max x)
def minI : List Int → Option Int
  | [] => none
  | x :: xs => some (xs.foldl min x)
theorem foldl_max : ∀ (xs : List Int) (x : Int), (xs.foldl max x = x ∨ xs.foldl max x ∈ xs) ∧ x ≤ xs.foldl max x ∧ ∀ y ∈ xs, y ≤ xs.foldl max x
  | [], x => ⟨.inl rfl, Int.le_refl _, fun y h => by simp at h⟩
  | a :: xs, x => by
    obtain ⟨h1, h2, h3⟩ := foldl_max xs (max x a)
    rw [List.foldl_cons]
    refine ⟨?_, by omega, fun y hy => ?_⟩
    · rcases h1 with h1 | h1
      · rcases Int.le_total x a with q | q
        · right; rw [h1, Int.max_eq_right q]; exact List.mem_cons_self
        · left; rw [h1, Int.max_eq_left q]
      · exact .inr (List.mem_cons_of_mem _ h1)
    · rcases List.mem_cons.mp hy with rfl | hy
      · omega
      · exact h3 y hy
theorem foldl_min : ∀ (xs : List Int) (x : Int), (xs.foldl min x = x ∨ xs.foldl min x ∈ xs) ∧ xs.foldl min x ≤ x ∧ ∀ y ∈ xs, xs.foldl min x ≤ y
  | [], x => ⟨.inl rfl, Int.le_refl _, fun y h => by simp at h⟩
  | a :: xs, x => by
    obtain ⟨h1, h2, h3⟩ := foldl_min xs (min x a)
    rw [List.foldl_cons]
    refine ⟨?_, by omega, fun y hy => ?_⟩
    · rcases h1 with h1 | h1
      · rcases Int.le_total x a with q | q
        · left; rw [h1, Int.min_eq_left q]
        · right; rw [h1, Int.min_eq_right q]; exact List.mem_cons_self
      · exact .inr (List.mem_cons_of_mem _ h1)
    · rcases List.mem_cons.mp hy with rfl | hy
      · omega
      · exact h3 y hy
theorem maxI_spec {ns : List Int} {m : Int} (h : maxI ns = some m) : m ∈ ns ∧ ∀ y ∈ ns, y ≤ m := by
  cases ns with
  | nil => cases h
  | cons x xs =>
    cases h
    obtain ⟨h1, h2, h3⟩ := foldl_max xs x
    refine ⟨?_, fun y hy => (List.mem_cons.mp hy).elim (fun e => e ▸ h2) (h3 y)⟩
    rcases h1 with h1 | h1
    · rw [h1]; exact List.mem_cons_self
    · exact List.mem_cons_of_mem _ h1
theorem minI_spec {ns : List Int} {m : Int} (h : minI ns = some m) : m ∈ ns ∧ ∀ y ∈ ns, m ≤ y := by
  cases ns with
  | nil => cases h
  | cons x xs =>
    cases h
    obtain ⟨h1, h2, h3⟩ := foldl_min xs x
    refine ⟨?_, fun y hy => (List.mem_cons.mp hy).elim (fun e => e ▸ h2) (h3 y)⟩
    rcases h1 with h1 | h1
    · rw [h1]; exact List.mem_cons_self
    · exact List.mem_cons_of_mem _ h1
def rMaxU (K : PySem.W.Frag) : List V → Hp → VK → Prop := fun xs H Q => rMax K xs H Q ∨ ∃ i j, xs = [.int i, .int j] ∧ Q (.int (if j > i then j else i)) H
def rMinU (K : PySem.W.Frag) : List V → Hp → VK → Prop := fun xs H Q => rMin K xs H Q ∨ ∃ i j, xs = [.int i, .int j] ∧ Q (.int (if j < i then j else i)) H
theorem call_maxU (hc : X.calm = true) : CallR X (.builtin "max") (rMaxU X.K) := (cr_max hc).or (call_max2 hc)
theorem call_minU (hc : X.calm = true) : CallR X (.builtin "min") (rMinU X.K) := (cr_min hc).or (call_min2 hc)
def pMax : List D → Option M
  | [.list ds] => (toInts ds).bind fun ns => (maxI ns).map fun m => .v (.int m)
  | [.int i, .int j] => some (.v (.int (max i j)))
  | _ => none
def pMin : List D → Option M
  | [.list ds] => (toInts ds).bind fun ns => (minI ns).map fun m => .v (.int m)
  | [.int i, .int j] => some (.v (.int (min i j)))
  | _ => none
theorem prim_max : PrimN K (rMaxU K) pMax := by
  intro F H xs ds m sub hx h Q q
  unfold pMax at h
  split at h
  · obtain ⟨v, rfl, hv⟩ := hx.one
    obtain ⟨a, xs, rfl, h1, z1⟩ := hv.list sub
    obtain ⟨ns, hn, h⟩ := Option.bind_eq_some_iff.mp h
    obtain ⟨k, hk, rfl⟩ := Option.map_eq_some_iff.mp h
    have e := toInts_eq hn
    subst e
    cases z1.ints_inv
    obtain ⟨k1, k2⟩ := maxI_spec hk
    refine .inl ⟨a, ns, rfl, sqL_H h1, List.length_pos_of_mem k1, fun m hm hle => ?_⟩
    have em : m = k := Int.le_antisymm (k2 m hm) (hle k k1)
    subst em
    exact q F H _ _ (New.same sub (.int _))
  · cases h
    obtain ⟨v, u, rfl, hv, hu⟩ := hx.two
    obtain rfl := hv.int
    obtain rfl := hu.int
    rename_i i j
    refine .inr ⟨i, j, rfl, ?_⟩
    have e : (if j > i then j else i) = max i j := by split <;> omega
    rw [e]
    exact q F H _ _ (New.same sub (.int _))
  · cases h
theorem prim_min : PrimN K (rMinU K) pMin := by
  intro F H xs ds m sub hx h Q q
  unfold pMin at h
  split at h
  · obtain ⟨v, rfl, hv⟩ := hx.one
    obtain ⟨a, xs, rfl, h1, z1⟩ := hv.list sub
    obtain ⟨ns, hn, h⟩ := Option.bind_eq_some_iff.mp h
    obtain ⟨k, hk, rfl⟩ := Option.map_eq_some_iff.mp h
    have e := toInts_eq hn
    subst e
    cases z1.ints_inv
    obtain ⟨k1, k2⟩ := minI_spec hk
    refine .inl ⟨a, ns, rfl, sqL_H h1, List.length_pos_of_mem k1, fun m hm hle => ?_⟩
    have em : m = k := Int.le_antisymm (hle k k1) (k2 m hm)
    subst em
    exact q F H _ _ (New.same sub (.int _))
  · cases h
    obtain ⟨v, u, rfl, hv, hu⟩ := hx.two
    obtain rfl := hv.int
    obtain rfl := hu.int
    rename_i i j
    refine .inr ⟨i, j, rfl, ?_⟩
    have e : (if j < i then j else i) = min i j := by split <;> omega
    rw [e]
    exact q F H _ _ (New.same sub (.int _))
  · cases h
def pSum : List D → Option M
  | [.list ds] => (toInts ds).map fun ns => .v (.int ns.sum)
  | _ => none
theorem prim_sum : PrimN K (rSum K) pSum := by
  intro F H xs ds m sub hx h Q q
  unfold pSum at h
  split at h
  · obtain ⟨v, rfl, hv⟩ := hx.one
    obtain ⟨a, xs, rfl, h1, z1⟩ := hv.list sub
    obtain ⟨ns, hn, rfl⟩ := Option.map_eq_some_iff.mp h
    have e := toInts_eq hn
    subst e
    cases z1.ints_inv
    exact ⟨a, ns, rfl, sqL_H h1, q F H _ _ (New.same sub (.int _))⟩
  · cases h
def pAny : List D → Option M
  | [.list ds] => (toBools ds).map fun ns => .v (.bool (ns.any id))
  | _ => none
def pAll : List D → Option M
  | [.list ds] => (toBools ds).map fun ns => .v (.bool (ns.all id))
  | _ => none
theorem prim_any : PrimN K (rAny K) pAny := by
  intro F H xs ds m sub hx h Q q
  unfold pAny at h
  split at h
  · obtain ⟨v, rfl, hv⟩ := hx.one
    obtain ⟨a, xs, rfl, h1, z1⟩ := hv.list sub
    obtain ⟨ns, hn, rfl⟩ := Option.map_eq_some_iff.mp h
    have e := toBools_eq hn
    subst e
    cases z1.bools_inv
    exact ⟨a, ns, rfl, sqL_H h1, q F H _ _ (New.same sub (.bl _))⟩
  · cases h
theorem prim_all : PrimN K (rAll K) pAll := by
  intro F H xs ds m sub hx h Q q
  unfold pAll at h
  split at h
  · obtain ⟨v, rfl, hv⟩ := hx.one
    obtain ⟨a, xs, rfl, h1, z1⟩ := hv.list sub
    obtain ⟨ns, hn, rfl⟩ := Option.map_eq_some_iff.mp h
    have e := toBools_eq hn
    subst e
    cases z1.bools_inv
    exact ⟨a, ns, rfl, sqL_H h1, q F H _ _ (New.same sub (.bl _))⟩
  · cases h
/-! ### abs, int, str, tuple, list, dict -/
def pAbs : List D → Option M
  | [.int i] => some (.v (.int i.natAbs))
  | _ => none
def rAbs : List V → Hp → VK → Prop := fun xs H Q => ∃ i, xs = [.int i] ∧ Q (.int (if i < 0 then -i else i)) H
theorem prim_abs : PrimN K rAbs pAbs := by
  intro F H xs ds m sub hx h Q q
  unfold pAbs at h
  split at h
  · cases h
    obtain ⟨v, rfl, hv⟩ := hx.one
    obtain rfl := hv.int
    rename_i i
    refine ⟨i, rfl, ?_⟩
    have e : (if i < 0 then -i else i) = (i.natAbs : Int) := by split <;> omega
    rw [e]
    exact q F H _ _ (New.same sub (.int _))
  · cases h
def rIntU : List V → Hp → VK → Prop := fun xs H Q => ((∃ i, xs = [.int i] ∧ Q (.int i) H) ∨ ∃ k, xs = [.bl k] ∧ Q (.int (if k then 1 else 0)) H) ∨ ∃ a n, xs = [.str a] ∧ PySem.intText? a = some n ∧ a.length ≤ 640 ∧ Q (.int n) H
theorem call_intU : CallR X (.type "int") rIntU := call_int1.or call_int_str
def pInt : List D → Option M
  | [.int i] => some (.v (.int i))
  | [.bool b] => some (.v (.int (if b then 1 else 0)))
  | [.str a] => if a.length ≤ 640 then (PySem.intText? a).map fun n => .v (.int n) else none
  | _ => none
theorem prim_int : PrimN K rIntU pInt := by
  intro F H xs ds m sub hx h Q q
  unfold pInt at h
  split at h
  · cases h
    obtain ⟨v, rfl, hv⟩ := hx.one
    obtain rfl := hv.int
    exact .inl (.inl ⟨_, rfl, q F H _ _ (New.same sub (.int _))⟩)
  · cases h
    obtain ⟨v, rfl, hv⟩ := hx.one
    obtain rfl := hv.bool
    exact .inl (.inr ⟨_, rfl, q F H _ _ (New.same sub (.int _))⟩)
  · rename_i a
    by_cases hz : a.length ≤ 640
    · rw [if_pos hz] at h
      obtain ⟨n, hn, rfl⟩ := Option.map_eq_some_iff.mp h
      obtain ⟨v, rfl, hv⟩ := hx.one
      obtain rfl := hv.str
      exact .inr ⟨a, n, rfl, hn, hz, q F H _ _ (New.same sub (.int _))⟩
    · rw [if_neg hz] at h; cases h
  · cases h
def rStrI : List V → Hp → VK → Prop := fun xs H Q => ∃ i : Int, xs = [.int i] ∧ i.natAbs.log2 < 1920 ∧ Q (.str (toString i)) H
def pStr : List D → Option M
  | [.int i] => if i.natAbs.log2 < 1920 then some (.v (.str (toString i))) else none
  | _ => none
theorem prim_str : PrimN K rStrI pStr := by
  intro F H xs ds m sub hx h Q q
  unfold pStr at h
  split at h
  · obtain ⟨hz, rfl⟩ := ite_some h
    obtain ⟨v, rfl, hv⟩ := hx.one
    obtain rfl := hv.int
    exact ⟨_, rfl, hz, q F H _ _ (New.same sub (.str _))⟩
  · cases h
def rTupleU (K : PySem.W.Frag) : List V → Hp → VK → Prop := fun xs H Q => ∃ p ys, xs = [.ref p] ∧ ((SqL K H p ys ∧ ∀ l, H l = none → Q (.ref l) (upd H l (.tup ys))) ∨ (SqT K H p ys ∧ Q (.ref p) H))
theorem call_tupleU : CallR X (.type "tuple") (rTupleU X.K) := call_tuple_of
def pTuple : List D → Option M
  | [.list ds] => some (.v (.tuple ds))
  | [.tuple ds] => some (.v (.tuple ds))
  | _ => none
theorem prim_tuple : PrimN K (rTupleU K) pTuple := by
  intro F H xs ds m sub hx h Q q
  unfold pTuple at h
  split at h
  · cases h
    obtain ⟨v, rfl, hv⟩ := hx.one
    obtain ⟨a, xs, rfl, h1, z1⟩ := hv.list sub
    exact ⟨a, xs, rfl, .inl ⟨sqL_H h1, fun l hl => q _ _ _ _ (New.tup sub hl z1)⟩⟩
  · cases h
    obtain ⟨v, rfl, hv⟩ := hx.one
    obtain ⟨a, xs, rfl, f1, h1, z1⟩ := hv.tup sub
    exact ⟨a, xs, rfl, .inr ⟨sqT_H h1, q F H _ _ (New.same sub (.tup f1 z1))⟩⟩
  · cases h
def rListU (K : PySem.W.Frag) : List V → Hp → VK → Prop := fun xs H Q => (∃ p ys, xs = [.ref p] ∧ (SqL K H p ys ∨ SqT K H p ys) ∧ ∀ l, H l = none → Q (.ref l) (upd H l (.lst ys))) ∨
  ∃ (a : Addr) (kvs : List (Key × V)), xs = [.ref a] ∧ Rd H a (.dK kvs) ∧ ∀ p, H p = none → Q (.ref p) (upd H p (.lst (kvs.map fun kv => kV kv.1)))
theorem call_listU (hc : X.calm = true) : CallR X (.type "list") (rListU X.K) := call_list_of.or (call_listD hc)
def pList : List D → Option M
  | [.list ds] => some (.own (.list ds))
  | [.tuple ds] => some (.own (.list ds))
  | [.dict kvs] => some (.own (.list (kvs.map (·.1))))
  | _ => none
theorem FzK.keys {F : Hp} : ∀ {kvs : List (Key × V)} {ds : List (D × D)}, FzK F kvs ds → FzL F (kvs.map fun kv => kV kv.1) (ds.map (·.1))
  | _, _, .nil => .nil
  | _, _, @FzK.cons _ k v vs d ds h r => by
    refine .cons ?_ (FzK.keys r)
    cases k with
    | inl i => exact .int i
    | inr s => exact .str s
theorem prim_list : PrimN K (rListU K) pList := by
  intro F H xs ds m sub hx h Q q
  unfold pList at h
  split at h
  · cases h
    obtain ⟨v, rfl, hv⟩ := hx.one
    obtain ⟨a, xs, rfl, h1, z1⟩ := hv.list sub
    exact .inl ⟨a, xs, rfl, .inl (sqL_H h1), fun l hl => q _ _ _ _ (New.lst sub hl z1)⟩
  · cases h
    obtain ⟨v, rfl, hv⟩ := hx.one
    obtain ⟨a, xs, rfl, f1, h1, z1⟩ := hv.tup sub
    exact .inl ⟨a, xs, rfl, .inr (sqT_H h1), fun l hl => q _ _ _ _ (New.lst sub hl z1)⟩
  · cases h
    obtain ⟨v, rfl, hv⟩ := hx.one
    obtain ⟨a, kvs, rfl, h1, z1⟩ := hv.dict sub
    exact .inr ⟨a, kvs, rfl, h1, fun l hl => q _ _ _ _ (New.lst sub hl z1.keys)⟩
  · cases h
def rDictU (K : PySem.W.Frag) : List V → Hp → VK → Prop := fun xs H Q => (∃ (a : Addr) (kvs : List (Key × V)), xs = [.ref a] ∧ Rd H a (.dK kvs) ∧ ∀ p, H p = none → Q (.ref p) (upd H p (.dK kvs))) ∨
  ∃ (a : Addr) (ps : List Addr) (kvs : List (Key × V)), xs = [.ref a] ∧ SqL K H a (ps.map V.ref) ∧ PySem.Paired (fun p (kv : Key × V) => SqT K H p [kV kv.1, kv.2]) ps kvs ∧ ∀ p, H p = none → Q (.ref p) (upd H p (.dK (mergeK [] kvs)))
theorem call_dictU (hc : X.calm = true) : CallR X (.type "dict") (rDictU X.K) := call_dictD.or (call_dictP hc)
def toPairs : List D → Option (List (D × D))
  | [] => some []
  | .tuple [k, v] :: ds => match keyOf k with
    | some _ => (toPairs ds).map fun r => (k, v) :: r
    | none => none
  | _ => none
def dmerge (kvs more : List (D × D)) : List (D × D) := more.foldl (fun acc kv => dput acc kv.1 kv.2) kvs
def pDict : List D → Option M
  | [.dict kvs] => some (.own (.dict kvs))
  | [.list ds] => (toPairs ds).map fun ps => .own (.dict (dmerge [] ps))
  | _ => none
theorem FzK.merge {F : Hp} : ∀ {more : List (Key × V)} {ds : List (D × D)} {kvs : List (Key × V)} {es : List (D × D)}, FzK F more ds → FzK F kvs es → FzK F (mergeK kvs more) (dmerge es ds)
  | _, _, _, _, .nil, h => h
  | _, _, kvs, es, @FzK.cons _ k v vs d ds h r, h2 => show FzK F (mergeK (putK kvs k v) vs) (dmerge (dput es (kD k) d) ds) from FzK.merge r (h2.put h)
theorem pairs_ok {F H : Hp} (sub : Sub F H) : ∀ {ds : List D} {ps : List (D × D)} {xs : List V}, toPairs ds = some ps → FzL F xs ds → ∃ (as : List Addr) (kvs : List (Key × V)), xs = as.map V.ref ∧ PySem.Paired (fun p (kv : Key × V) => SqT K H p [kV kv.1, kv.2]) as kvs ∧ FzK F kvs ps
  | [], ps, xs, h, z => by
    cases h
    cases z
    exact ⟨[], [], rfl, .nil, .nil⟩
  | d :: ds, ps, xs, h, z => by
    cases z with
    | cons z zs =>
      unfold toPairs at h
      split at h
      · rename_i e; cases e
      · rename_i k v ds' e
        injection e with e1 e2
        subst e1 e2
        split at h
        · rename_i key hk
          obtain ⟨r, hr, rfl⟩ := Option.map_eq_some_iff.mp h
          obtain ⟨as, kvs, rfl, p1, z1⟩ := pairs_ok sub hr zs
          cases z with
          | @tup a ys _ f zz =>
            cases zz with
            | cons zk zz => cases zz with
              | cons zv zz =>
                cases zz
                have ek := RepH.key (H := H) (.fz zk) hk
                subst ek
                refine ⟨a :: as, (key, _) :: kvs, rfl, .cons (sqT_H (sub.tup f)) p1, ?_⟩
                rw [kD_of hk]
                exact .cons zv z1
        · cases h
      · cases h
theorem prim_dict : PrimN K (rDictU K) pDict := by
  intro F H xs ds m sub hx h Q q
  unfold pDict at h
  split at h
  · cases h
    obtain ⟨v, rfl, hv⟩ := hx.one
    obtain ⟨a, kvs, rfl, h1, z1⟩ := hv.dict sub
    exact .inl ⟨a, kvs, rfl, h1, fun l hl => q _ _ _ _ (New.dK sub hl z1)⟩
  · obtain ⟨ps, hp, rfl⟩ := Option.map_eq_some_iff.mp h
    obtain ⟨v, rfl, hv⟩ := hx.one
    obtain ⟨a, xs, rfl, h1, z1⟩ := hv.list sub
    obtain ⟨as, kvs, rfl, p1, z2⟩ := pairs_ok (K := K) sub hp z1
    exact .inr ⟨a, as, kvs, rfl, sqL_H h1, p1, fun l hl => q _ _ _ _ (New.dK sub hl (z2.merge .nil))⟩
  · cases h
/-! ### isinstance -/
def tyD : D → String
  | .none => "NoneType"
  | .bool _ => "bool"
  | .int _ => "int"
  | .str _ => "str"
  | .list _ => "list"
  | .tuple _ => "tuple"
  | .dict _ => "dict"
def isTy (T t : String) : Bool := t == T || (T == "int" && t == "bool")
def isT (T : String) (d : D) : Bool := isTy T (tyD d)
theorem RepH.ty {F H : Hp} {v : V} {d : D} (sub : Sub F H) (h : RepH F H v d) : TyX K H v (.type (tyD d)) := by
  cases d with
  | none => obtain rfl := h.non; exact .base .non
  | bool b => obtain rfl := h.bool; exact .base (.bl b)
  | int b => obtain rfl := h.int; exact .base (.int b)
  | str b => obtain rfl := h.str; exact .base (.str b)
  | list ds => obtain ⟨a, xs, rfl, h1, _⟩ := h.list sub; exact .base (.lst h1)
  | tuple ds => obtain ⟨a, xs, rfl, _, h1, _⟩ := h.tup sub; exact .base (.tup h1)
  | dict ds =>
    obtain ⟨a, kvs, rfl, h1, _⟩ := h.dict sub
    rcases h1 with h1 | ⟨o, h1⟩
    · exact .base (.dK h1)
    · exact .fDict h1
def aIsI (T : String) (a : AE) : AE := fun env Q => a env fun x e1 => ∃ d, rd e1 x = some d ∧ Q (.val (.v (.bool (isT T d)))) e1
def TyOk (K : PySem.W.Frag) (T : String) : Prop := ∀ d : D, PySem.W.kitOne K (.type (tyD d)) (.type T) = some (isT T d)
theorem snd_isi {T : String} {ta : TE} {a : AE} (hT : TyOk K T) (ha : Snd K ta a) : Snd K (tCB (rIsi K) (tCons ta (tCons (tC (.ty T)) tNil))) (aIsI T a) := by
  intro F H σ env A S Qa h Q k
  refine ha F H σ env A S _ h _ fun F1 H1 e1 A1 v x B q t => ?_
  obtain ⟨d, ed, q⟩ := q
  have rx := t.ste.repH t.rep ed
  refine ⟨v, .ty T, .type (tyD d), .type T, isT T d, rfl, ?_, rx.ty t.ste.sub, hT d, k F1 H1 e1 A1 _ _ [] q (aft_v t.ste t.lost (.bl _))⟩
  first
    | exact .ty T
    | exact .ty
    | exact rfl
    | constructor
end
end ML
/-! ML8: what is changed in a slot; displays of dicts; join; locked dicts; the script. -/
namespace ML
open PySem L2

section
variable {Y : Cx} {K : PySem.W.Frag} {P : List Nat} {te ta tb : TE} {a b : AE} {t : TA} {aa : AA}
/-- the thing at slot i changes: its one object -/
theorem Ste.mut {F H : Hp} {σ : L2.St} {env : Env} {A : List Addr} {i : Nat} {m m' : M} {p : Addr} {o : HO} (S : Ste K F H σ env A) (hs : σ[i]? = some (some (.ref p))) (e : env[i]? = some (some m))
    (h1 : ∀ B, Own K F H (.ref p) m B → B = [p]) (hF : F p = none) (h2 : Own K F (upd H p o) (.ref p) m' [p]) : ∃ A', Ste K F (upd H p o) σ (env.set i (some m')) A' ∧ Stp F H A F (upd H p o) A' := by
  obtain ⟨u, B, R, g1, g2, g3, g4⟩ := S.sl.get e
  rw [hs] at g1; cases g1
  have eB := h1 B g2
  subst eB
  have nd : ([p] ++ R).Nodup := (g4.nodup_iff).mp S.nd
  have nR : p ∉ R := fun z => (List.nodup_append.mp nd).2.2 p (by simp) p z rfl
  have g3' : Slots K F (upd H p o) σ (env.set i none) R := g3.frame (Ext.refl F) fun a ha => ⟨upd_ne fun q => nR (q ▸ ha), rfl⟩
  have hi : i < σ.length := (List.getElem?_eq_some_iff.mp hs).1
  obtain ⟨R', p1, p2, p3⟩ := g3'.put hi h2
  rw [set_same hs, List.set_set] at p1
  have pA : p ∈ A := g4.mem_iff.mpr (by simp)
  refine ⟨R', ⟨fun a u q => ?_, p1, p3 (List.perm_append_comm.nodup_iff.mp nd)⟩, ⟨Ext.refl F, fun a u q n => ?_, fun _ _ _ _ => rfl, fun a z => .inl ?_⟩⟩
  · rw [upd_ne (fun z => by rw [z, hF] at q; cases q)]
    exact S.sub a u q
  · rw [upd_ne (fun z => n (by rw [z]; exact pA))]
    exact q
  · rcases p2 a z with z | z
    · exact g4.mem_iff.mpr (List.mem_append_right _ z)
    · exact g4.mem_iff.mpr (List.mem_append_left _ z)
abbrev OpL := List D → List D → Option (List D × D)
def PrimL (r : V → List V → Hp → VK → Prop) (op : OpL) : Prop := ∀ (F H : Hp) (p : Addr) (xs : List V) (ds : List D) (vs : List V) (es : List D) (ds' : List D) (d : D), Sub F H → H p = some (.lst xs) → FzL F xs ds → FzL F vs es → op ds es = some (ds', d) →
  ∀ Q : VK, (∀ xs' v, FzL F xs' ds' → Fz F v d → Q v (upd H p (.lst xs'))) → r (.ref p) vs H Q
/-- a method that changes the list at slot i -/
def aMutL (i : Nat) (aa : AA) (op : OpL) : AE := fun env Q => (∃ ds, env[i]? = some (some (.own (.list ds)))) ∧ aa env fun xs e1 => useL xs e1 fun es e2 => ∃ ds ds' d, e2[i]? = some (some (.own (.list ds))) ∧ op ds es = some (ds', d) ∧ Q (.val (.v d)) (e2.set i (some (.own (.list ds'))))
theorem own_lst {F H : Hp} {p : Addr} {ds : List D} {B : List Addr} (h : Own K F H (.ref p) (.own (.list ds)) B) : B = [p] ∧ F p = none ∧ ∃ xs, H p = some (.lst xs) ∧ FzL F xs ds := by
  cases h with
  | lst h n r => exact ⟨rfl, n, _, h, r⟩
theorem own_dK {F H : Hp} {p : Addr} {ds : List (D × D)} {B : List Addr} (h : Own K F H (.ref p) (.own (.dict ds)) B) : B = [p] ∧ F p = none ∧ ∃ xs, H p = some (.dK xs) ∧ FzK F xs ds := by
  cases h with
  | dK h n r => exact ⟨rfl, n, _, h, r⟩
theorem own_ref {F H : Hp} {v : V} {d : D} {B : List Addr} (h : Own K F H v (.own d) B) : ∃ p, v = .ref p := by cases h <;> exact ⟨_, rfl⟩
theorem mutL_core {r : V → List V → Hp → VK → Prop} {op : OpL} {i : Nat} (hr : PrimL r op) {F H F1 H1 : Hp} {σ : L2.St} {e1 : Env} {A A1 B1 : List Addr} {vs : List V} {xs : List X} {v0 : V} {Qa : X → Env → Prop} {Q : VK}
    (h1 : σ[i]? = some (some v0)) (tt : AftL K F H A σ F1 H1 e1 A1 vs xs B1) (q1 : useL xs e1 fun es e2 => ∃ ds ds' d, e2[i]? = some (some (.own (.list ds))) ∧ op ds es = some (ds', d) ∧ Qa (.val (.v d)) (e2.set i (some (.own (.list ds')))))
    (k : ∀ F' H' env' A' v x B, Qa x env' → Aft K F H A σ F' H' env' A' v x B → Q v H') : r v0 vs H1 Q := by
  obtain ⟨es, e2, F2, A2, ⟨ds, ds', d, em, eo, q2⟩, S2, z2, s2⟩ := useL_ok tt.ste tt.rep tt.nd q1
  obtain ⟨B3, o3⟩ := S2.slot h1 em
  obtain ⟨p, rfl⟩ := own_ref o3
  obtain ⟨_, hF, ys, hp, zy⟩ := own_lst o3
  refine hr F2 H1 p ys ds vs es ds' d S2.sub hp zy z2 eo Q fun xs' v zx zv => ?_
  obtain ⟨A', S', s'⟩ := S2.mut (o := .lst xs') h1 em (fun B o => (own_lst o).1) hF (.lst upd_same hF zx)
  exact k F2 _ _ A' v _ [] q2 (aft_v S' ((tt.stp.trans s2).trans s') zv)
theorem ty_list {F H : Hp} {σ : L2.St} {env : Env} {A : List Addr} {i : Nat} {ds : List D} {v : V} (S : Ste K F H σ env A) (hs : σ[i]? = some (some v)) (e : env[i]? = some (some (.own (.list ds)))) : tyV K "list" v H := by
  obtain ⟨B, o⟩ := S.slot hs e
  obtain ⟨p, rfl⟩ := own_ref o
  obtain ⟨_, _, ys, hp, _⟩ := own_lst o
  exact .inl ⟨rfl, ys, sqL_H hp⟩
theorem snd_mutL {r : V → List V → Hp → VK → Prop} {op : OpL} {i : Nat} (hr : PrimL r op) (ha : SndA K t aa) : Snd K (tBM K "list" r (tVar i) t) (aMutL i aa op) := by
  intro F H σ env A S Qa h Q k
  obtain ⟨⟨ds0, e0⟩, h⟩ := h
  obtain ⟨v0, B, R, h1, h2, _⟩ := S.sl.get e0
  exact ⟨v0, h1, ty_list S h1 e0, ha F H σ env A S _ h _ fun F1 H1 e1 A1 vs xs B1 q1 tt => mutL_core hr h1 tt q1 k⟩
theorem snd_mutL0 {r : V → List V → Hp → VK → Prop} {op : OpL} {i : Nat} (hr : PrimL r op) : Snd K (tBM0 K "list" r (tVar i)) (aMutL i aNil op) := by
  intro F H σ env A S Qa h Q k
  obtain ⟨⟨ds0, e0⟩, h⟩ := h
  obtain ⟨v0, B, R, h1, h2, _⟩ := S.sl.get e0
  refine ⟨v0, h1, ty_list S h1 e0, mutL_core hr h1 (B1 := []) ⟨S, .nil, by rw [List.append_nil]; exact S.nd, by rw [List.append_nil]; exact Stp.refl⟩ h k⟩
def oAppend : OpL := fun ds es => match es with
  | [d] => if ds.length < 1000000 then some (ds ++ [d], .none) else none
  | _ => none
theorem priml_append : PrimL rAppend oAppend := by
  intro F H p xs ds vs es ds' d sub hp z zv h Q q
  unfold oAppend at h
  split at h
  · obtain ⟨hz, e⟩ := ite_some h
    cases e
    cases zv with
    | cons z1 z2 =>
      cases z2
      exact ⟨p, xs, _, rfl, rfl, hp, by rw [z.length]; exact line_lt hz, q _ _ (z.append (.one z1)) .non⟩
  · cases h
def oPop : OpL := fun ds es => match es, ds.getLast? with
  | [], some d => some (ds.dropLast, d)
  | _, _ => none
theorem FzL.dropLast {F : Hp} {xs : List V} {ds : List D} (h : FzL F xs ds) : FzL F xs.dropLast ds.dropLast := by
  rw [List.dropLast_eq_take, List.dropLast_eq_take, h.length]
  exact h.take _
theorem priml_pop : PrimL rPop oPop := by
  intro F H p xs ds vs es ds' d sub hp z zv h Q q
  unfold oPop at h
  split at h
  · rename_i d' e
    cases h
    cases zv
    rw [List.getLast?_eq_getElem?] at e
    obtain ⟨v, hv, zz⟩ := z.get e
    rw [← z.length] at hv
    exact ⟨p, xs, v, rfl, rfl, hp, hv, q _ _ z.dropLast zz⟩
  · cases h
def oPopAt : OpL := fun ds es => match es with
  | [.int i] => if -1000000 ≤ i ∧ i < 1000000 then match ixN ds.length i with
    | some k => match ds[k]? with
      | some d => some (ds.eraseIdx k, d)
      | none => none
    | none => none
    else none
  | _ => none
theorem FzL.eraseIdx {F : Hp} : ∀ {xs : List V} {ds : List D} (k : Nat), FzL F xs ds → FzL F (xs.eraseIdx k) (ds.eraseIdx k)
  | _, _, _, .nil => .nil
  | _, _, 0, .cons h r => r
  | _, _, k + 1, .cons h r => .cons h (FzL.eraseIdx k r)
theorem priml_popAt : PrimL rPopAt oPopAt := by
  intro F H p xs ds vs es ds' d sub hp z zv h Q q
  unfold oPopAt at h
  split at h
  · rename_i i
    by_cases hb : -1000000 ≤ i ∧ i < 1000000
    · rw [if_pos hb] at h
      split at h
      · rename_i k hk
        split at h
        · rename_i d' e
          cases h
          cases zv with
          | cons z1 z2 =>
            cases z2
            cases z1
            obtain ⟨v, hv, zz⟩ := z.get e
            rw [← z.length] at hk
            obtain ⟨g1, g2, g3, g4⟩ := ixN_seq hk
            exact ⟨p, xs, i, k, v, rfl, rfl, hp, by omega, by omega, g1, hv, q _ _ (z.eraseIdx k) zz⟩
        · cases h
      · cases h
    · rw [if_neg hb] at h; cases h
  · cases h
def oExtend : OpL := fun ds es => match es with
  | [.list ys] => if ds.length + ys.length ≤ 1000000 then some (ds ++ ys, .none) else none
  | _ => none
theorem priml_extend : PrimL rExtend oExtend := by
  intro F H p xs ds vs es ds' d sub hp z zv h Q q
  unfold oExtend at h
  split at h
  · obtain ⟨hz, e⟩ := ite_some h
    cases e
    cases zv with
    | cons z1 z2 =>
      cases z2
      cases z1 with
      | @lst b ys _ hb zb => exact ⟨p, b, xs, ys, rfl, rfl, hp, sub.lst hb, by rw [z.length, zb.length]; exact line_of hz, q _ _ (z.append zb) .non⟩
  · cases h
def rInsert : V → List V → Hp → VK → Prop := fun x vs H Q => ∃ (l : Addr) (xs : List V) (i : Int) (y : V), x = .ref l ∧ vs = [.int i, y] ∧ H l = some (.lst xs) ∧ xs.length < sizeLine ∧ 0 ≤ i ∧ i < 2 ^ 63 ∧
    Q .non (upd H l (.lst (xs.take i.toNat ++ [y] ++ xs.drop i.toNat)))
theorem mt_insertU : MtR Y "list.insert" rInsert := mt_insert
def oInsert : OpL := fun ds es => match es with
  | [.int i, d] => if ds.length < 1000000 ∧ 0 ≤ i ∧ i < 1000000 then some (ds.take i.toNat ++ [d] ++ ds.drop i.toNat, .none) else none
  | _ => none
theorem priml_insert : PrimL rInsert oInsert := by
  intro F H p xs ds vs es ds' d sub hp z zv h Q q
  unfold oInsert at h
  split at h
  · obtain ⟨⟨hz, h0, h1⟩, e⟩ := ite_some h
    cases e
    cases zv with
    | cons z1 z2 =>
      cases z2 with
      | cons z2 z3 =>
        cases z3
        cases z1
        exact ⟨p, xs, _, _, rfl, rfl, hp, by rw [z.length]; exact line_lt hz, h0, by omega, q _ _ (((z.take _).append (.one z2)).append (z.drop _)) .non⟩
  · cases h

/-! ### a[i] = v -/
def rSetU : TSet := fun o i v H Q => rSetL o i v H Q ∨ rSetD o i v H Q
theorem set_any (hu : Y.A.units + 1 < cLine) : PSet Y rSetU := by
  intro pins s σ H o i v ov iv u Q I ro ri rv h
  rcases h with h | h
  · exact set_list pins s σ H o i v ov iv u Q I ro ri rv h
  · exact set_dict hu pins s σ H o i v ov iv u Q I ro ri rv h
def keysOf : List D → Option (List Key)
  | [] => some []
  | d :: ds => match keyOf d, keysOf ds with
    | some k, some ks => some (k :: ks)
    | _, _ => none
def kqL : List D → List D → Bool
  | [], [] => true
  | a :: as, b :: bs => kq1 a b && kqL as bs
  | _, _ => false
def kqT : D → D → Bool
  | .tuple as, .tuple bs => kqL as bs
  | _, _ => false
def dgetT (kvs : List (D × D)) (k : D) : Option D := (kvs.find? fun p => kqT p.1 k).map (·.2)
def dputT (kvs : List (D × D)) (k v : D) : List (D × D) := if (kvs.any fun p => kqT p.1 k) = true then kvs.map (fun p => if kqT p.1 k = true then (p.1, v) else p) else kvs ++ [(k, v)]
theorem keysOf_eq : ∀ {ds : List D} {ks : List Key}, keysOf ds = some ks → ds = ks.map kD
  | [], ks, h => by cases h; rfl
  | d :: ds, ks, h => by
    unfold keysOf at h
    split at h
    · rename_i k ks' h1 h2
      cases h
      rw [kD_of h1, keysOf_eq h2]; rfl
    · cases h
theorem kqL_kD : ∀ (as bs : List Key), kqL (as.map kD) (bs.map kD) = decide (as = bs)
  | [], [] => rfl
  | [], b :: bs => rfl
  | a :: as, [] => rfl
  | a :: as, b :: bs => by
    show (kq1 (kD a) (kD b) && kqL (as.map kD) (bs.map kD)) = _
    rw [kq1_kD, kqL_kD as bs]
    by_cases e : a = b
    · subst e
      by_cases e2 : as = bs
      · subst e2; simp
      · rw [decide_eq_false e2, decide_eq_false (fun q => e2 (List.cons.inj q).2)]; simp
    · rw [decide_eq_false e, decide_eq_false (fun q => e (List.cons.inj q).1)]; simp
theorem keys_V {F H : Hp} : ∀ {vs : List V} {ds : List D} {ks : List Key}, FzL F vs ds → keysOf ds = some ks → vs = ks.map kV
  | _, [], ks, .nil, h => by cases h; rfl
  | _, d :: ds, ks, .cons z zs, h => by
    unfold keysOf at h
    split at h
    · rename_i k ks' h1 h2
      cases h
      rw [RepH.key (H := F) (.fz z) h1, keys_V (H := H) zs h2]; rfl
    · cases h
theorem FzT.any {F : Hp} {k : List Key} : ∀ {kvs : List (List Key × V)} {ds : List (D × D)}, FzT F kvs ds → (kvs.any fun kv => decide (kv.1 = k)) = ds.any fun p => kqT p.1 (.tuple (k.map kD))
  | _, _, .nil => rfl
  | _, _, @FzT.cons _ k' v vs d ds h r => by
    rw [List.any_cons, List.any_cons, FzT.any r]
    show _ = (kqL (k'.map kD) (k.map kD) || _)
    rw [kqL_kD]
theorem FzT.append {F : Hp} : ∀ {kvs kvs' : List (List Key × V)} {ds ds' : List (D × D)}, FzT F kvs ds → FzT F kvs' ds' → FzT F (kvs ++ kvs') (ds ++ ds')
  | _, _, _, _, .nil, s => s
  | _, _, _, _, .cons h r, s => .cons h (FzT.append r s)
theorem FzT.mapPut {F : Hp} {k : List Key} {v : V} {d : D} (h : Fz F v d) : ∀ {kvs : List (List Key × V)} {ds : List (D × D)}, FzT F kvs ds → FzT F (kvs.map fun kv => if kv.1 = k then (kv.1, v) else kv) (ds.map fun p => if kqT p.1 (.tuple (k.map kD)) = true then (p.1, d) else p)
  | _, _, .nil => .nil
  | _, _, @FzT.cons _ k' v' vs d' ds h' r => by
    rw [List.map_cons, List.map_cons]
    show FzT F ((if k' = k then (k', v) else (k', v')) :: _) ((if kqL (k'.map kD) (k.map kD) = true then (_, d) else (_, d')) :: _)
    rw [kqL_kD]
    by_cases e : k' = k
    · rw [if_pos e, decide_eq_true e, if_pos rfl]; exact .cons h (FzT.mapPut h r)
    · rw [if_neg e, decide_eq_false e, if_neg Bool.false_ne_true]; exact .cons h' (FzT.mapPut h r)
theorem FzT.put {F : Hp} {k : List Key} {v : V} {d : D} {kvs : List (List Key × V)} {ds : List (D × D)} (r : FzT F kvs ds) (h : Fz F v d) : FzT F (putK kvs k v) (dputT ds (.tuple (k.map kD)) d) := by
  unfold putK dputT
  rw [r.any]
  split
  · exact r.mapPut h
  · exact r.append (.cons h .nil)
def pSet (m : M) (k v : D) : Option M := match m, k with
  | .own (.list ds), .int i => (ixN ds.length i).map fun j => .own (.list (ds.set j v))
  | .own (.dict kvs), k => match keyOf k with
    | some _ => if kvs.length < 1000000 then some (.own (.dict (dput kvs k v))) else none
    | none => none
  | .ownT (.dict kvs), .tuple ks => match keysOf ks with
    | some _ => if kvs.length < 1000000 then some (.ownT (.dict (dputT kvs (.tuple ks) v))) else none
    | none => none
  | _, _ => none
/-- the store, by what stands in the slot -/
theorem set_core {F H : Hp} {σ : L2.St} {env : Env} {A : List Addr} {i : Nat} {m m' : M} {o y x : V} {k d : D} (S : Ste K F H σ env A) (hs : σ[i]? = some (some o)) (e : env[i]? = some (some m)) (hy : RepH F H y k) (zx : Fz F x d) (hp : pSet m k d = some m') :
    ∀ Q : Hp → Prop, (∀ H' A', Ste K F H' σ (env.set i (some m')) A' → Stp F H A F H' A' → Q H') → rSetU o y x H Q := by
  intro Q q
  obtain ⟨B, ow⟩ := S.slot hs e
  unfold pSet at hp
  split at hp
  · obtain ⟨j, hj, rfl⟩ := Option.map_eq_some_iff.mp hp
    obtain ⟨p, rfl⟩ := own_ref ow
    obtain ⟨_, hF, xs, hx, z⟩ := own_lst ow
    obtain rfl := hy.int
    rw [← z.length] at hj
    obtain ⟨A', S', s'⟩ := S.mut (o := .lst (xs.set j x)) hs e (fun B o => (own_lst o).1) hF (.lst upd_same hF (z.set zx j))
    exact .inl ⟨p, xs, _, j, rfl, rfl, hx, hj, q _ A' S' s'⟩
  · split at hp
    · rename_i key hk
      obtain ⟨hz, rfl⟩ := ite_some hp
      obtain ⟨p, rfl⟩ := own_ref ow
      obtain ⟨_, hF, xs, hx, z⟩ := own_dK ow
      obtain rfl := hy.key hk
      rw [kD_of hk] at *
      obtain ⟨A', S', s'⟩ := S.mut (o := .dK (putK xs key x)) hs e (fun B o => (own_dK o).1) hF (.dK upd_same hF (z.put zx))
      exact .inr ⟨p, _, rfl, .inl ⟨xs, key, hx, rfl, by rw [z.length]; exact line_lt hz, rfl⟩, q _ A' S' s'⟩
    · cases hp
  · split at hp
    · rename_i ks hk
      obtain ⟨hz, rfl⟩ := ite_some hp
      cases ow with
      | @dT p xs _ hx hF z =>
        obtain ⟨b, vs, rfl, _, hb, zb⟩ := hy.tup S.sub
        rw [keys_V (H := H) zb hk] at hb
        rw [keysOf_eq hk] at *
        obtain ⟨A', S', s'⟩ := S.mut (o := .dT (putK xs ks x)) hs e (fun B o => by cases o; rfl) hF (.dT upd_same hF (z.put zx))
        exact .inr ⟨p, _, rfl, .inr ⟨xs, ks, b, hx, rfl, hb, by rw [z.length]; exact line_lt hz, rfl⟩, q _ A' S' s'⟩
    · cases hp
  · cases hp
/-- slot[i] = e -/
def aSetI (i : Nat) (a b : AE) : AS := fun D env => a env fun x e1 => (∃ m, e1[i]? = some (some m)) ∧ b e1 fun y e2 => use x e2 fun d e3 => ∃ m k m', e3[i]? = some (some m) ∧ rd e3 y = some k ∧ pSet m k d = some m' ∧ D.nx (e3.set i (some m'))
theorem snds_setI {i : Nat} (ha : Snd K ta a) (hb : Snd K tb b) : SndS K P (tAsg ta (gSub (tVar i) tb rSetU)) (aSetI i a b) := by
  intro F H σ env A S DA q D k
  refine ha F H σ env A S _ q _ fun F1 H1 e1 A1 x xx B1 q1 t1 => ?_
  obtain ⟨⟨m0, hm0⟩, q1⟩ := q1
  obtain ⟨o, _, _, ho, _⟩ := t1.ste.sl.get hm0
  refine ⟨o, ho, hb F1 H1 σ e1 A1 t1.ste _ q1 _ fun F2 H2 e2 A2 y yy B2 q2 t2 => ?_⟩
  obtain ⟨rx, st, nd⟩ := t1.two t2
  rw [← List.append_assoc] at nd st
  have n1 : (A2 ++ B1).Nodup := by
    rw [List.nodup_append] at nd ⊢
    exact ⟨t2.ste.nd, nd.2.1, fun a ha b hb e => nd.2.2 a (List.mem_append_left _ ha) b hb e⟩
  have n12 : ((A2 ++ B1) ++ B2).Nodup := by
    have p : List.Perm (A2 ++ B2 ++ B1) (A2 ++ B1 ++ B2) := by
      rw [List.append_assoc, List.append_assoc]
      exact List.Perm.append_left A2 List.perm_append_comm
    exact p.nodup_iff.mp nd
  obtain ⟨d, e3, F3, A3, ⟨m, kk, m', em, ek, ep, q3⟩, S3, z3, s3, _⟩ := use_ok t2.ste rx n1 q2
  have ry := t2.rep.keep s3 n12
  refine set_core S3 ho em (S3.repH ry ek) z3 ep _ fun H' A' S' s' => ?_
  have big : Stp F H A F3 H2 A3 := (st.trans ((s3.side (B := B2)).weak (fun a z => (List.mem_append.mp z).elim (fun z => (List.mem_append.mp z).elim (fun z => List.mem_append_left _ (List.mem_append_left _ z)) fun z => List.mem_append_right _ z) fun z => List.mem_append_left _ (List.mem_append_right _ z)) fun a z => List.mem_append_left _ z))
  exact k.nx F3 H' σ _ A' q3 S' (big.trans s') Pin.refl
/-- slot[k] op= e, slot a dict -/
def aDAug (i : Nat) (b : AE) (p : D → D → Option M) (a : AE) : AS := fun D env => (∃ m, env[i]? = some (some m)) ∧ b env fun y e1 => ∃ kvs k old, rd e1 (.slot i) = some (.dict kvs) ∧ rd e1 y = some k ∧ (keyOf k).isSome = true ∧ y = .val (.v k) ∧ dget kvs k = some old ∧
  a e1 fun x e2 => ∃ e d kvs2, rd e2 x = some e ∧ p old e = some (.v d) ∧ e2[i]? = some (some (.own (.dict kvs2))) ∧ kvs2.length < 1000000 ∧ D.nx (e2.set i (some (.own (.dict (dput kvs2 k d)))))
theorem snds_daug {i : Nat} {r : R2} {p : D → D → Option M} (hr : Prim2 K r p) (hb : Snd K tb b) (ha : Snd K ta a) : SndS K P (sDAug (tVar i) tb ta r) (aDAug i b p a) := by
  intro F H σ env A S DA q D k
  obtain ⟨⟨m0, hm0⟩, q⟩ := q
  obtain ⟨o, _, _, ho, _⟩ := S.sl.get hm0
  refine ⟨o, ho, hb F H σ env A S _ q _ fun F1 H1 e1 A1 y yy B1 q1 t1 => ?_⟩
  obtain ⟨kvs, kk, old, ed, ek, hk, rfl, eo, q1⟩ := q1
  have rdict : RepH F1 H1 o (.dict kvs) := t1.ste.repH (B := []) (.slot ho) ed
  obtain ⟨pa, kv, rfl, hkv, zkv⟩ := rdict.dict t1.ste.sub
  have ry := t1.ste.repH t1.rep ek
  obtain ⟨key, hkey⟩ := Option.isSome_iff_exists.mp hk
  have zy : Fz F1 y kk := by
    cases t1.rep with
    | val o => cases o with | v z => exact z
  have nb := t1.nil
  subst nb
  have st1 := t1.stp
  rw [List.append_nil] at st1
  have ey := ry.key hkey
  have ekk := kD_of hkey
  rw [ekk] at eo
  rcases zkv.find (k := key) with ⟨_, n⟩ | ⟨v, d', h2, h3, zold⟩
  · rw [n] at eo; cases eo
  · rw [h3] at eo; cases eo
    refine ⟨pa, v, rfl, .inl ⟨kv, key, hkv, ey, h2.symm⟩, ha F1 H1 σ e1 A1 t1.ste _ q1 _ fun F2 H2 e2 A2 x xx B2 q2 t2 => ?_⟩
    obtain ⟨e, d, kvs2, ee, ep, em, hz, q2⟩ := q2
    refine hr F2 H2 v x _ e _ t2.ste.sub (.fz (zold.mono t2.stp.fz)) (t2.ste.repH t2.rep ee) ep _ fun F3 H3 z C n => ?_
    have t3 := Aft.new t2.ste t2.stp n
    have nc := t3.nil
    subst nc
    cases t3.rep with
    | val ow => cases ow with
      | v zd =>
        have st3 := t3.stp
        rw [List.append_nil] at st3
        obtain ⟨B, ow2⟩ := t3.ste.slot ho em
        obtain ⟨_, hF, xs, hx, zx⟩ := own_dK ow2
        obtain ⟨A', S', s'⟩ := t3.ste.mut (o := .dK (putK xs key z)) ho em (fun B o => (own_dK o).1) hF (.dK upd_same hF (zx.put zd))
        rw [← ekk] at S'
        exact ⟨_, .inl ⟨xs, key, hx, ey, by rw [zx.length]; exact line_lt hz, rfl⟩, k.nx F3 _ σ _ A' q2 S' ((st1.trans st3).trans s') Pin.refl⟩

/-! ### {} and {k: v, ..} -/
def aNewK : AE := fun env Q => Q (.val (.own (.dict []))) env
theorem snd_newK : Snd K tDNewK aNewK := by
  intro F H σ env A S Qa q Q k p hp
  exact k _ _ env A _ _ [p] q (Aft.new (E := []) S (by rw [List.append_nil]; exact Stp.refl) (New.dK S.sub hp .nil))
def aNewT : AE := fun env Q => Q (.val (.ownT (.dict []))) env
theorem snd_newT : Snd K tDNewT aNewT := by
  intro F H σ env A S Qa q Q k p hp
  exact k _ _ env A _ _ [p] q (Aft.new (E := []) S (by rw [List.append_nil]; exact Stp.refl) (New.dT S.sub hp .nil))
/-- the pairs of a display: written keys, values -/
inductive SndP (K : PySem.W.Frag) : List (TE × TE) → List (D × AE) → Prop
  | nil : SndP K [] []
  | cons {k : Key} {tv : TE} {av : AE} {ts : List (TE × TE)} {as : List (D × AE)} : Snd K tv av → SndP K ts as → SndP K ((tC (kV k), tv) :: ts) ((kD k, av) :: as)
def aPairs : List (D × AE) → AA
  | [] => aNil
  | (_, a) :: r => aCons a (aPairs r)
def aDisp (as : List (D × AE)) : AE := fun env Q => aPairs as env fun xs e1 => useL xs e1 fun ds e2 => as.length ≤ 15 ∧ Q (.val (.own (.dict (dmerge [] ((as.map (·.1)).zip ds))))) e2
theorem disp_ok {p : Addr} {F H0 : Hp} : ∀ {ts : List (TE × TE)} {as : List (D × AE)}, SndP K ts as → ∀ (F H : Hp) (σ : L2.St) (env : Env) (A : List Addr), Ste K F H σ env A → ∀ Qa, aPairs as env Qa → ∀ Q : List (V × V) → Hp → Prop,
    (∀ F' H' env' A' vs xs B (ks : List Key), Qa xs env' → AftL K F H A σ F' H' env' A' vs xs B → as.map (·.1) = ks.map kD → vs.length = ks.length → Q ((ks.zip vs).map fun kv => (kV kv.1, kv.2)) H') → tPairs ts σ H Q := by
  intro ts as sp
  induction sp with
  | nil =>
    intro F H σ env A S Qa h Q k
    exact k F H env A [] [] [] [] h ⟨S, .nil, by rw [List.append_nil]; exact S.nd, by rw [List.append_nil]; exact Stp.refl⟩ rfl rfl
  | @cons key tv av ts as ha _ ih =>
    intro F H σ env A S Qa h Q k
    refine ha F H σ env A S _ h _ fun F1 H1 e1 A1 v x B1 q1 t1 => ?_
    refine ih F1 H1 σ e1 A1 t1.ste _ q1 _ fun F2 H2 e2 A2 us ys B2 ks q2 t2 ek el => ?_
    refine k F2 H2 e2 A2 (v :: us) (x :: ys) (B1 ++ B2) (key :: ks) q2 ⟨t2.ste, .cons (t1.rep.keep t2.stp t1.nd) t2.rep, ?_, ?_⟩ (by rw [List.map_cons, List.map_cons, ek]) (by rw [List.length_cons, List.length_cons, el])
    · have q := t2.stp.nd t1.nd t2.nd fun b hb => t1.rep.dom b hb
      rw [List.append_assoc] at q
      exact (List.Perm.append_left A2 List.perm_append_comm).nodup_iff.mp q
    · refine (t1.stp.trans t2.stp.side).less fun a z => ?_
      rcases List.mem_append.mp z with z | z
      · exact List.mem_append_left _ (List.mem_append_left _ z)
      · rcases List.mem_append.mp z with z | z
        · exact List.mem_append_right _ z
        · exact List.mem_append_left _ (List.mem_append_right _ z)
theorem zip_K {F : Hp} : ∀ {ks : List Key} {vs : List V} {ds : List D}, FzL F vs ds → vs.length = ks.length → FzK F (ks.zip vs) ((ks.map kD).zip ds)
  | [], _, _, .nil, _ => .nil
  | [], _, _, .cons _ _, h => by simp at h
  | _ :: _, _, _, .nil, h => by simp at h
  | k :: ks, _, _, .cons z zs, h => .cons z (zip_K zs (by simpa using h))
theorem snd_disp {ts : List (TE × TE)} {as : List (D × AE)} (sp : SndP K ts as) : Snd K (tDisp ts) (aDisp as) := by
  intro F H σ env A S Qa h Q k p hp
  have S1 : Ste K F (upd H p (.dK [])) σ env A := S.after (stp_new hp) (sub_new S.sub hp)
  have hF := S.sub.none hp
  have pA : p ∉ A := fun z => by
    obtain ⟨o, e⟩ := S.sl.dom p z
    rw [hp] at e; cases e
  refine disp_ok (p := p) (F := F) (H0 := H) sp F (upd H p (.dK [])) σ env A S1 _ h _ fun F1 H1 e1 A1 vs xs B1 ks q1 tt ek el => ?_
  obtain ⟨ds, e2, F2, A2, ⟨hz, q2⟩, S2, z2, s2⟩ := useL_ok tt.ste tt.rep tt.nd q1
  have st := tt.stp.trans s2
  have hp2 : H1 p = some (.dK []) := st.keep p _ upd_same pA
  have hF2 : F2 p = none := by rw [st.keepF p _ upd_same pA]; exact hF
  have nA : p ∉ A2 := fun z => (st.new p z).elim pA fun q => by rw [upd_same] at q; cases q
  have hl : (ks.zip vs).length ≤ 15 := by
    have q := congrArg List.length ek
    rw [List.length_map, List.length_map] at q
    rw [List.length_zip, el]
    omega
  refine ⟨hp2, ks.zip vs, rfl, hl, ?_⟩
  rw [ek] at q2
  have zm := (zip_K z2 el).merge (.nil : FzK F2 [] [])
  refine k F2 _ e2 A2 (.ref p) _ [p] q2 ⟨⟨fun a o q => ?_, S2.sl.frame (Ext.refl _) fun a ha => ⟨upd_ne fun e => nA (e ▸ ha), rfl⟩, S2.nd⟩, .val (.dK upd_same hF2 zm), ?_, ⟨st.fz, fun a o e n => ?_, fun a o e n => ?_, fun a z => ?_⟩⟩
  · rw [upd_ne (fun z => by rw [z, hF2] at q; cases q)]
    exact S2.sub a o q
  · rw [List.nodup_append]
    exact ⟨S2.nd, by simp, fun a ha b hb e => by simp at hb; subst hb; exact nA (e ▸ ha)⟩
  · have ne : a ≠ p := fun z => by rw [z, hp] at e; cases e
    rw [upd_ne ne]
    exact st.keep a o (by rw [upd_ne ne]; exact e) n
  · have ne : a ≠ p := fun z => by rw [z, hp] at e; cases e
    exact st.keepF a o (by rw [upd_ne ne]; exact e) n
  · rcases List.mem_append.mp z with z | z
    · rcases st.new a z with q | q
      · exact .inl q
      · refine .inr ?_
        by_cases ne : a = p
        · rw [ne]; exact hp
        · rw [upd_ne ne] at q; exact q
    · simp at z; rw [z]; exact .inr hp

/-! ### methods of texts -/
def aM1 (p : D → List D → Option M) (a b : AE) : AE := fun env Q => a env fun x e1 => ∃ s, x = .val (.v (.str s)) ∧ b e1 fun y e2 => ∃ d m, rd e2 y = some d ∧ p (.str s) [d] = some m ∧ Q (.val m) e2
theorem snd_m1 {r : V → List V → Hp → VK → Prop} {p : D → List D → Option M} (hr : PrimM K "str" r p) (ha : Snd K ta a) (hb : Snd K tb b) : Snd K (tM1 r ta tb) (aM1 p a b) := by
  intro F H σ env A S Qa h Q k
  refine ha F H σ env A S _ h _ fun F1 H1 e1 A1 v x B1 q1 t1 => ?_
  obtain ⟨s, rfl, q1⟩ := q1
  have nb := t1.nil
  subst nb
  have st := t1.stp
  rw [List.append_nil] at st
  cases t1.rep with
  | val o => cases o with
    | v z => cases z with
      | str s =>
        refine ⟨⟨s, rfl⟩, hb F1 H1 σ e1 A1 t1.ste _ q1 _ fun F2 H2 e2 A2 u y B2 q2 t2 => ?_⟩
        obtain ⟨d, m, ed, ep, q⟩ := q2
        exact hr F2 H2 _ _ (.str s) [d] m t2.ste.sub (.fz (.str s)) (.cons (t2.ste.repH t2.rep ed) .nil) ep Q fun F' H' v' C n => k F' H' e2 A2 v' _ C q (Aft.new t2.ste (st.trans t2.stp) n)
def rJoin (K : PySem.W.Frag) : V → List V → Hp → VK → Prop := fun x xs H Q => ∃ a p, ∃ ys : List Str, x = .str a ∧ xs = [.ref p] ∧ (SqL K H p (ys.map V.str) ∨ SqT K H p (ys.map V.str)) ∧ (ys.map (·.length)).sum + ys.length * a.length ≤ 16777216 ∧ Q (.str (Txt.join a ys)) H
def pJoin : D → List D → Option M
  | .str a, [.list ds] => (toStrs ds).bind fun ys => if (ys.map (·.length)).sum + ys.length * a.length ≤ 16777216 then some (.v (.str (Txt.join a ys))) else none
  | .str a, [.tuple ds] => (toStrs ds).bind fun ys => if (ys.map (·.length)).sum + ys.length * a.length ≤ 16777216 then some (.v (.str (Txt.join a ys))) else none
  | _, _ => none
theorem prim_join : PrimM K "str" (rJoin K) pJoin := by
  intro F H x xs d ds m sub hx hxs h Q q
  unfold pJoin at h
  split at h
  · obtain ⟨ys, hy, h⟩ := Option.bind_eq_some_iff.mp h
    obtain ⟨hz, rfl⟩ := ite_some h
    obtain rfl := hx.str
    obtain ⟨v, rfl, hv⟩ := hxs.one
    obtain ⟨a, xs, rfl, h1, z1⟩ := hv.list sub
    have e := toStrs_eq hy
    subst e
    cases z1.strs_inv
    exact ⟨_, a, ys, rfl, rfl, .inl (sqL_H h1), hz, q F H _ _ (New.same sub (.str _))⟩
  · obtain ⟨ys, hy, h⟩ := Option.bind_eq_some_iff.mp h
    obtain ⟨hz, rfl⟩ := ite_some h
    obtain rfl := hx.str
    obtain ⟨v, rfl, hv⟩ := hxs.one
    obtain ⟨a, xs, rfl, _, h1, z1⟩ := hv.tup sub
    have e := toStrs_eq hy
    subst e
    cases z1.strs_inv
    exact ⟨_, a, ys, rfl, rfl, .inr (sqT_H h1), hz, q F H _ _ (New.same sub (.str _))⟩
  · cases h

/-! ### the script -/
theorem scr_get {F H : Hp} {σ : L2.St} {env : Env} {A : List Addr} {j : Nat} {ns : List Int} (S : Ste K F H σ env A) (e : env[j]? = some (some (.scr ns))) : ∃ p, σ[j]? = some (some (.ref p)) ∧ SqL K H p (ns.map V.int) := by
  obtain ⟨v, B, R', h1, h2, _⟩ := S.sl.get e
  cases h2 with
  | @scr a0 _ hq =>
    refine ⟨a0, h1, ?_⟩
    rcases hq with (hq | ⟨o, hq⟩) | hq
    · exact .inl (.inl (S.sub.lst hq))
    · rcases S.sub _ _ hq with z | ⟨z, _⟩
      · exact .inl (.inr ⟨o, z⟩)
      · exact z.elim
    · exact .inr hq
def aScrLen (j : Nat) : AE := fun env Q => ∃ ns, env[j]? = some (some (.scr ns)) ∧ Q (.val (.v (.int ns.length))) env
theorem snd_scrLen {j : Nat} : Snd K (tCB (rLenU K) (tCons (tVar j) tNil)) (aScrLen j) := by
  intro F H σ env A S Qa h Q k
  obtain ⟨ns, e, q⟩ := h
  obtain ⟨p, h1, h2⟩ := scr_get S e
  refine ⟨_, h1, .inl ⟨_, ns.length, rfl, .inl ⟨_, h2, by rw [List.length_map]⟩, ?_⟩⟩
  exact k F H env A _ _ [] q (aft_v S Stp.refl (.int _))
def aScrIx (j : Nat) (b : AE) : AE := fun env Q => (∃ ns, env[j]? = some (some (.scr ns))) ∧ b env fun y e1 => ∃ ns i n, e1[j]? = some (some (.scr ns)) ∧ y = .val (.v (.int i)) ∧ atI ns i = some n ∧ Q (.val (.v (.int n))) e1
theorem atI_map {α β : Type} (f : α → β) (xs : List α) (i : Int) : atI (xs.map f) i = (atI xs i).map f := by
  unfold L2.atI
  rw [List.length_map]
  cases ixN xs.length i with
  | none => rfl
  | some j => show (xs.map f)[j]? = (xs[j]?).map f; rw [List.getElem?_map]
theorem snd_scrIx {j : Nat} (hb : Snd K tb b) : Snd K (tOp (rIxA K) (tVar j) tb) (aScrIx j b) := by
  intro F H σ env A S Qa h Q k
  obtain ⟨⟨ns0, e0⟩, h⟩ := h
  obtain ⟨p, h1, _⟩ := scr_get S e0
  refine ⟨_, h1, hb F H σ env A S _ h _ fun F1 H1 e1 A1 y yy B q t => ?_⟩
  obtain ⟨ns, i, n, e1', rfl, hn, q⟩ := q
  obtain ⟨p', h1', h2⟩ := scr_get t.ste e1'
  rw [h1] at h1'; cases h1'
  cases t.rep.int
  exact .inl (.inl ⟨p, _, i, .int n, rfl, rfl, h2, by rw [atI_map, hn]; rfl, k F1 H1 e1 A1 _ _ [] q (aft_v t.ste t.lost (.int _))⟩)
end
end ML
/-! ML9: locked dicts, what is walked of any kind, isinstance's facts, short words for the generator. -/
namespace ML
open PySem L2

section
variable {Y : Cx} {K : PySem.W.Frag} {P : List Nat} {te ta tb : TE} {a b : AE} {t : TA} {aa : AA}
/-- the slot's own dict is locked while it is walked -/
def aLockO (j : Nat) (ae : AE) : AE := fun env Q => ∃ ds, env[j]? = some (some (.own (.dict ds))) ∧ ∀ o, ae (env.set j (some (.lk o (.dict ds)))) fun x e' => e'[j]? = some (some (.lk o (.dict ds))) ∧ Q x (e'.set j (some (.own (.dict ds))))
theorem snd_lockO {j : Nat} (ha : Snd K te a) : Snd K (tLockE te) (aLockO j a) := by
  intro F H σ env A S Qa h Q k
  obtain ⟨ds, e, h⟩ := h
  obtain ⟨v, B, R, g1, g2, g3, g4⟩ := S.sl.get e
  obtain ⟨d, rfl⟩ := own_ref g2
  obtain ⟨rfl, hF, kvs, hd, z⟩ := own_dK g2
  refine ⟨d, .dK kvs, hd, trivial, fun od => ?_⟩
  obtain ⟨A1, S1, s1⟩ := S.mut (o := .frz od (.dK kvs)) (m' := .lk (.frz od (.dK kvs)) (.dict ds)) g1 e (fun B o => (own_dK o).1) hF (.lk upd_same hF z)
  refine ha F _ σ _ A1 S1 _ (h (.frz od (.dK kvs))) _ fun F2 H2 e2 A2 v x B2 q t2 => ?_
  obtain ⟨em, q⟩ := q
  obtain ⟨u, C, R2, p1, p2, p3, p4⟩ := t2.ste.sl.get em
  rw [g1] at p1; cases p1
  cases p2 with
  | lk h2 hF2 z2 =>
    refine ⟨h2, ?_⟩
    have nd := (p4.nodup_iff).mp t2.ste.nd
    obtain ⟨A3, S3, s3⟩ := t2.ste.mut (o := .dK kvs) (m' := .own (.dict ds)) g1 em (fun B o => by cases o; rfl) hF2 (.dK upd_same hF2 z2)
    have dB : d ∉ B2 := fun y => (List.nodup_append.mp t2.nd).2.2 d (p4.mem_iff.mpr (by simp)) d y rfl
    refine k F2 _ _ A3 v x B2 q ⟨S3, ?_, ?_, (s1.trans t2.stp).trans ?_⟩
    · exact t2.rep.keep s3 t2.nd
    · exact s3.nd t2.nd S3.nd fun b hb => t2.rep.dom b hb
    · exact s3.side
def iK (j : Nat) : AI := fun env Q => ∃ o ds, env[j]? = some (some (.lk o (.dict ds))) ∧ Q (ds.map (·.1)) (some (j, .lk o (.dict ds))) env
theorem FzK.key {F : Hp} : ∀ {kvs : List (Key × V)} {ds : List (D × D)} {i : Nat} {k : Key} {v : V}, FzK F kvs ds → kvs[i]? = some (k, v) → (ds.map (·.1))[i]? = some (kD k)
  | _, _, _, _, _, .nil, e => by simp at e
  | _, _, 0, _, _, .cons h r, e => by simp at e; obtain ⟨rfl, rfl⟩ := e; rfl
  | _, _, i + 1, _, _, .cons h r, e => by
    have q := FzK.key (i := i) r (by simpa using e)
    simpa using q
theorem kD_fz {F : Hp} (k : Key) : Fz F (kV k) (kD k) := by
  cases k with
  | inl i => exact .int i
  | inr s => exact .str s
theorem sndi_K {j : Nat} : SndI K (iKeys (tVar j)) (iK j) := by
  intro F H σ env A S Qa q R k
  obtain ⟨o, ds, e, q⟩ := q
  obtain ⟨v, B, R', h1, h2, _⟩ := S.sl.get e
  cases h2 with
  | @lk d od kvs _ hd hF z =>
    refine ⟨.ref d, h1, d, od, rfl, .inl ⟨kvs, hd, k F H env A _ _ _ q S Stp.refl ?_⟩⟩
    intro i F3 H3 σ3 e3 A3 S3 ex _ so sj
    have hs3 : σ3[j]? = some (some (.ref d)) := (sj j _ rfl).trans h1
    obtain ⟨C, o3⟩ := S3.slot hs3 so
    cases o3 with
    | lk h3 hF3 z3 =>
      refine ⟨fun hl => ⟨h3, by rw [List.length_map] at hl; rw [z3.length]; exact hl⟩, fun x hx => ?_⟩
      have hi : i < kvs.length := by
        have q := (List.getElem?_eq_some_iff.mp hx).1
        rw [List.length_map] at q
        rw [z3.length]; exact q
      refine ⟨⟨h3, hi⟩, fun y H2 yy => ?_⟩
      obtain ⟨rfl, key, v, hk, rfl⟩ := yy
      have q := z3.key hk
      rw [hx] at q; cases q
      exact ⟨F3, S3.sub, Stp.refl, kD_fz key⟩

/-! ### what is walked: a list, a tuple, a text -/
def iAny (K : PySem.W.Frag) (te : TE) : TI := fun σ H R => te σ H fun x H1 => (∃ a, x = .ref a ∧ (∃ xs, SqL K H1 a xs) ∧ R (Itl K a) H1) ∨ (∃ a, x = .ref a ∧ (∃ xs, SqT K H1 a xs) ∧ R (Itt K a) H1) ∨ ∃ z, x = .str z ∧ R (Its z) H1
theorem pi_any {tg e : Expr} (he : PE Y e te) : PI Y tg e (iAny Y.K te) := by
  refine ⟨fun pins s σ H R I h => ?_⟩
  refine thn (he.run pins s σ H _ I h) fun v s1 ⟨x, H1, I1, r1, q1⟩ => ?_
  rcases q1 with ⟨a, rfl, ⟨xs, hq⟩, q⟩ | ⟨a, rfl, ⟨xs, hq⟩, q⟩ | ⟨z, rfl, q⟩
  · cases r1
    obtain ⟨its, rv, p, hz⟩ := I1.list hq
    refine wpAny_pyIter_list p.isList ?_
    refine ⟨s1.heap.objs.size, [s1.heap.objs.size], _, _, H1, rfl, I1.kept (t' := s1.toks) fun b o e => Heap.get?_push_of_some _ e, turn_list a _, ⟨_, Heap.get?_push_size _ rfl, rfl, rfl⟩, fun b hb => ?_, q⟩
    have e : b = s1.heap.objs.size := by simpa using hb
    subst e
    exact I1.fpOk (Nat.le_refl _) (I1.hok.fresh (Nat.le_refl _))
  · cases r1
    obtain ⟨its, rv, p, hz⟩ := I1.tuple hq
    refine wpAny_pyIter_tuple (show s1.heap.IsTuple a its.toArray from p) ?_
    refine ⟨s1.heap.objs.size, [s1.heap.objs.size], _, _, H1, rfl, I1.kept (t' := s1.toks) fun b o e => Heap.get?_push_of_some _ e, turn_tuple a _, ⟨_, Heap.get?_push_size _ rfl, rfl, rfl⟩, fun b hb => ?_, q⟩
    have e : b = s1.heap.objs.size := by simpa using hb
    subst e
    exact I1.fpOk (Nat.le_refl _) (I1.hok.fresh (Nat.le_refl _))
  · obtain ⟨t, rfl⟩ := r1
    cases ha : z.cps.all (· < 128)
    · exact wpAny_pyIter_wide ha (pi_one (tk := s1.toks) I1 _ (turn_str _ z t "str_iterator" (.inr rfl)) ⟨_, Heap.get?_push_size _ rfl, rfl, rfl⟩ q)
    · exact wpAny_pyIter_ascii ha (pi_one (tk := s1.toks) I1 _ (turn_str _ z t "str_ascii_iterator" (.inl rfl)) ⟨_, Heap.get?_push_size _ rfl, rfl, rfl⟩ q)
def itemsD : D → Option (List D)
  | .list ds => some ds
  | .tuple ds => some ds
  | .str s => some (strD s)
  | _ => none
def iAX : X → Env → (List D → Src → Env → Prop) → Prop
  | .val m, e1, Q => ∃ d ds, frzM m = some d ∧ itemsD d = some ds ∧ Q ds none e1
  | .slot j, e1, Q => ∃ ds, e1[j]? = some (some (.own (.list ds))) ∧ Q ds (some (j, .own (.list ds))) e1
def iA (a : AE) : AI := fun env Q => a env fun x e1 => iAX x e1 Q
def iAF (a : AE) : AI := fun env Q => a env fun x e1 => use x e1 fun d e2 => ∃ ds, itemsD d = some ds ∧ Q ds none e2
theorem any_fz {F H : Hp} {v : V} {d : D} {ds : List D} {σ : L2.St} {env : Env} {A : List Addr} {R : It → Hp → Prop} (S : Ste K F H σ env A) (z : Fz F v d) (e : itemsD d = some ds) (k : ∀ J, ItOk K J ds none F H A σ → R J H) :
    (∃ a, v = .ref a ∧ (∃ xs, SqL K H a xs) ∧ R (Itl K a) H) ∨ (∃ a, v = .ref a ∧ (∃ xs, SqT K H a xs) ∧ R (Itt K a) H) ∨ ∃ z, v = .str z ∧ R (Its z) H := by
  cases z with
  | @lst a0 xs _ f zs =>
    cases e
    exact .inl ⟨a0, rfl, ⟨xs, sqL_H (S.sub.lst f)⟩, k _ (itl_fz f zs)⟩
  | @tup a0 xs _ f zs =>
    cases e
    refine .inr (.inl ⟨a0, rfl, ⟨xs, sqT_H (S.sub.tup f)⟩, k _ ?_⟩)
    intro i F3 H3 σ3 e3 A3 S3 ex _ _ _
    have h1 : SqT K H3 a0 xs := sqT_H (S3.sub.tup (ex _ _ f))
    refine ⟨fun hl => ⟨xs, h1, by rw [zs.length]; exact hl⟩, fun d hd => ?_⟩
    obtain ⟨v, hv, zv⟩ := zs.get hd
    refine ⟨⟨xs, v, h1, hv⟩, fun x H2 y => ?_⟩
    obtain ⟨rfl, y⟩ := y
    have q := y xs h1
    rw [hv] at q; cases q
    exact ⟨F3, S3.sub, Stp.refl, zv.mono ex⟩
  | str s =>
    cases e
    refine .inr (.inr ⟨s, rfl, k _ ?_⟩)
    intro i F3 H3 σ3 e3 A3 S3 ex _ _ _
    refine ⟨fun hl => ?_, fun d hd => ?_⟩
    · unfold strD at hl
      rw [List.length_map, Array.length_toList] at hl
      exact hl
    · unfold strD at hd
      rw [List.getElem?_map] at hd
      obtain ⟨c, hc, rfl⟩ := Option.map_eq_some_iff.mp hd
      rw [Array.getElem?_toList] at hc
      refine ⟨(Array.getElem?_eq_some_iff.mp hc).1, fun x H2 y => ?_⟩
      obtain ⟨rfl, c', hc', rfl⟩ := y
      rw [hc] at hc'; cases hc'
      exact ⟨F3, S3.sub, Stp.refl, .str _⟩
  | _ => cases e
theorem sndi_AF (h : Snd K ta a) : SndI K (iAny K ta) (iAF a) := by
  intro F H σ env A S Qa q R k
  refine h F H σ env A S _ q _ fun F1 H1 e1 A1 v x B q1 t => ?_
  obtain ⟨d, e2, F2, A2, ⟨ds, ed, q2⟩, S2, z, s2, _⟩ := use_ok t.ste t.rep t.nd q1
  exact any_fz S2 z ed fun J ok => k F2 H1 e2 A2 J ds none q2 S2 (t.stp.trans s2) ok
theorem sndi_A (h : Snd K ta a) : SndI K (iAny K ta) (iA a) := by
  intro F H σ env A S Qa q R k
  refine h F H σ env A S _ q _ fun F1 H1 e1 A1 v x B q1 t => ?_
  cases hr : t.rep with
  | @val m _ o =>
    obtain ⟨d, ds, em, ed, q1⟩ := q1
    obtain ⟨F2, S2, z, s2, _⟩ := t.ste.frz o t.nd em
    exact any_fz S2 z ed fun J ok => k F2 H1 e1 A1 J ds none q1 S2 (t.stp.trans s2) ok
  | @slot j hs =>
    obtain ⟨ds, em, q1⟩ := q1
    obtain ⟨B, o⟩ := t.ste.slot hs em
    cases o with
    | @lst a0 xs _ e n zs =>
      have st := t.stp
      rw [List.append_nil] at st
      refine .inl ⟨a0, rfl, ⟨xs, sqL_H e⟩, k F1 H1 e1 A1 _ ds _ q1 t.ste st ?_⟩
      intro i F3 H3 σ3 e3 A3 S3 ex _ so sj
      have hs3 : σ3[j]? = some (some (.ref a0)) := (sj j _ rfl).trans hs
      obtain ⟨C, o3⟩ := S3.slot hs3 so
      cases o3 with
      | @lst _ ys _ e3' n3 zs3 =>
        have h1 : SqL K H3 a0 ys := sqL_H e3'
        refine ⟨fun hl => ⟨ys, h1, by rw [zs3.length]; exact hl⟩, fun d hd => ?_⟩
        obtain ⟨v, hv, zv⟩ := zs3.get hd
        refine ⟨⟨ys, v, h1, hv⟩, fun x H2 y => ?_⟩
        obtain ⟨rfl, y⟩ := y
        have q := y ys h1
        rw [hv] at q; cases q
        exact ⟨F3, S3.sub, Stp.refl, zv⟩
/-- the script, walked by the common rule -/
theorem sndi_scrA {j : Nat} : SndI K (iAny K (tVar j)) (iScr j) := by
  intro F H σ env A S Qa q R k
  have h := sndi_scr (K := K) (j := j) F H σ env A S Qa q R k
  obtain ⟨v, h1, a, rfl, h2, h3⟩ := h
  exact ⟨_, h1, .inl ⟨a, rfl, h2, h3⟩⟩
end

/-! ### isinstance -/
theorem ty_of {K : PySem.W.Frag} {T : String} (h : (["NoneType", "bool", "int", "str", "list", "tuple", "dict"].all fun t => kitB t T == some (isTy T t)) = true) : TyOk K T := fun d => by
  have q := List.all_eq_true.mp h (tyD d) (by cases d <;> simp [tyD])
  exact kit_ty (eq_of_beq q)
theorem ty_int {K : PySem.W.Frag} : TyOk K "int" := ty_of (by decide +kernel)
theorem ty_str {K : PySem.W.Frag} : TyOk K "str" := ty_of (by decide +kernel)
theorem ty_bool {K : PySem.W.Frag} : TyOk K "bool" := ty_of (by decide +kernel)
theorem ty_tuple {K : PySem.W.Frag} : TyOk K "tuple" := ty_of (by decide +kernel)
theorem ty_lst {K : PySem.W.Frag} : TyOk K "list" := ty_of (by decide +kernel)
theorem ty_dict {K : PySem.W.Frag} : TyOk K "dict" := ty_of (by decide +kernel)

/-! ### a def of the text, a def that is called -/
structure Dfn (K : PySem.W.Frag) (mg : Str → Option Value) (x : Str) (st : Stmt) (ps : List Str) : Prop where
  ex : ∃ f fd, Fun K x x st f fd ∧ mg x = some (.ref f) ∧ Binds K fd ps []
structure Cal (Pr : Program) (w : World) (K : PySem.W.Frag) (mg : Str → Option Value) (base : Heap) (k : Nat) (x : Str) (ps : List Str) (md : List Bool) (asp : ASp) : Prop where
  ex : ∃ f fd, FnOk Pr w K mg base CX0 k f fd ps (lift K md asp) ∧ mg x = some (.ref f) ∧ PySem.W.keepIn K (.ref f) = true ∧ Binds K fd ps []
theorem Cal.mono {Pr : Program} {w : World} {K : PySem.W.Frag} {mg : Str → Option Value} {base : Heap} {j k : Nat} {x : Str} {ps : List Str} {md : List Bool} {asp : ASp} (h : Cal Pr w K mg base j x ps md asp) (l : j ≤ k) : Cal Pr w K mg base k x ps md asp := by
  obtain ⟨f, fd, F, a, b, c⟩ := h.ex
  exact ⟨f, fd, F.mono l, a, b, c⟩
theorem Cal.imp {Pr : Program} {w : World} {K : PySem.W.Frag} {mg : Str → Option Value} {base : Heap} {k : Nat} {x : Str} {ps : List Str} {md : List Bool} {asp asp' : ASp} (h : Cal Pr w K mg base k x ps md asp) (i : ∀ ms Q, asp' ms Q → asp ms Q) : Cal Pr w K mg base k x ps md asp' := by
  obtain ⟨f, fd, F, a, b, c⟩ := h.ex
  refine ⟨f, fd, F.imp fun vs H Q E h => ?_, a, b, c⟩
  obtain ⟨F0, A, ms, Qa, sub, o, nd, m, ap, q⟩ := h
  exact ⟨F0, A, ms, Qa, sub, o, nd, m, i ms Qa ap, q⟩
theorem cal_mk {Pr : Program} {w : World} {K : PySem.W.Frag} {mg : Str → Option Value} {base : Heap} {k : Nat} {x : Str} {st : Stmt} {N ps : List Str} {md : List Bool} {asp : ASp} (d : Dfn K mg x st ps) (Sc : FnScope N ps (defScope st)) (hl : md.length = ps.length)
    (hbody : ∀ (f : Addr) (cdv : Value) (A : Around) (outer : List PySem.Env) (s : Shared) (H : Hp) (E : XK), Room k (A.deeper (PyProof.Rows.envOfC x (defScope st) s.heap.objs.size f cdv)) →
      ∃ t as, PSs (cxOf CX0 Pr w K mg base N x (defScope st) f cdv A outer s H E).nox (defBody st) t ∧ SndS K (pinsOf 0 md) t as ∧ ∀ ms Qa, Mds md ms → asp ms Qa → as (endsD md ms Qa) (startE N.length ms)) :
    Cal Pr w K mg base (k + 1) x ps md asp := by
  obtain ⟨f, fd, Fn, hm, hb⟩ := d.ex
  exact ⟨f, fd, fn_ok Fn Sc md hl fun cdv A outer s H E hr => hbody f cdv A outer s H E hr, hm, Fn.kp, hb⟩
end ML
/-! ML10: short words for the generator. -/
namespace ML
open PySem L2
section
variable {X : Cx} {K : PySem.W.Frag} {P : List Nat} {te ta tb : TE} {a b : AE}
theorem k_set (i : Nat) {x : Str} {e : Expr} {pos pos' : Pos} (hN : X.N.Nodup) (he : PE X e te) (hi : X.N[i]? = some x := by rfl) (hx : Loc X.env.scope x := by first | exact .inl rfl | exact .inr rfl) (hs : swapsWith e (some (.Name x pos')) pos.line X.env = pure false := by rfl)
    (hf : X.fn x = true ∨ X.env.scope.names.lookup x = some .local := by first | exact .inl rfl | exact .inr rfl) : PS X (.Assign [.Name x pos'] e pos) (tAsg te (gName i)) := ps_set hN hi hx he hs hf
theorem k_name (i : Nat) {x : Str} {pos : Pos} (hN : X.N.Nodup) (hi : X.N[i]? = some x := by rfl) (hx : Loc X.env.scope x := by first | exact .inl rfl | exact .inr rfl) (hf : X.fn x = true ∨ X.env.scope.names.lookup x = some .local := by first | exact .inl rfl | exact .inr rfl) : PG X (.Name x pos) (gName i) := pg_name hN hi hx hf
theorem k_aug (i : Nat) {x : Str} {e : Expr} {op : Operator} {ti : TIp} {pos pos' : Pos} (hN : X.N.Nodup) (he : PE X e te) (ho : PIp X op ti) (hi : X.N[i]? = some x := by rfl) (hx : Loc X.env.scope x := by first | exact .inl rfl | exact .inr rfl) (hf : X.fn x = true ∨ X.env.scope.names.lookup x = some .local := by first | exact .inl rfl | exact .inr rfl) :
    PS X (.AugAssign (.Name x pos') op e pos) (tAug i te ti) := ps_aug hN hi hx he ho hf
theorem k_lc {elt tg iter : Expr} {ifs : List Expr} {scope : Scope} (own : List (Str × Nat)) {pos : Pos} {wi : TI} {g : TG} {tt : TT} (hc : X.calm = true) (hN : X.N.Nodup) (hi : PI X tg iter wi)
    (hg : ∀ (s : Shared) (H : Hp) (C : Addr) (cl : List (Str × Addr)) (fp : List Addr), PG (X.blk s H scope (compEnvC scope cl C X.env) fp) tg g) (ht : ∀ (s : Shared) (H : Hp) (C : Addr) (cl : List (Str × Addr)) (fp : List Addr), PTs (X.blk s H scope (compEnvC scope cl C X.env) fp) ifs tt)
    (he : ∀ (s : Shared) (H : Hp) (C : Addr) (cl : List (Str × Addr)) (fp : List Addr), PE (X.blk s H scope (compEnvC scope cl C X.env) fp) elt te) (ok : blkC X.N X.env.scope scope own = true) (hs : ∀ x, foldedSetIterable iter X.env x = pure x := by intro _; rfl) :
    PE X (.ListComp elt [⟨tg, iter, ifs, 0⟩] scope pos) (tLc wi g tt te (own.map (·.2))) := pe_lc hc hN hi (blkOk_by ok) hg ht he hs
theorem k_setLc (i : Nat) {y : Str} {py : Pos} {elt tg iter : Expr} {ifs : List Expr} {scope : Scope} (own : List (Str × Nat)) {pos spos : Pos} {wi : TI} {g : TG} {tt : TT} (hc : X.calm = true) (hN : X.N.Nodup) (hi : PI X tg iter wi)
    (hg : ∀ (s : Shared) (H : Hp) (C : Addr) (cl : List (Str × Addr)) (fp : List Addr), PG (X.blk s H scope (compEnvC scope cl C X.env) fp) tg g) (ht : ∀ (s : Shared) (H : Hp) (C : Addr) (cl : List (Str × Addr)) (fp : List Addr), PTs (X.blk s H scope (compEnvC scope cl C X.env) fp) ifs tt)
    (he : ∀ (s : Shared) (H : Hp) (C : Addr) (cl : List (Str × Addr)) (fp : List Addr), PE (X.blk s H scope (compEnvC scope cl C X.env) fp) elt te) (ok : blkC X.N X.env.scope scope own = true) (hsw : swapsWith (.ListComp elt [⟨tg, iter, ifs, 0⟩] scope pos) (some (.Name y py)) spos.line X.env = pure true)
    (hy : X.N[i]? = some y := by rfl) (hyl : X.env.scope.names.lookup y = some .local := by rfl) (hs : ∀ x, foldedSetIterable iter X.env x = pure x := by intro _; rfl) :
    PS X (.Assign [.Name y py] (.ListComp elt [⟨tg, iter, ifs, 0⟩] scope pos) spos) (tAsg (tLc wi g tt te (own.map (·.2))) (gName i)) := ps_setLc hc hN hy hyl hsw hi (blkOk_by ok) hg ht he hs
theorem snds_lockAsg {i : Nat} {as : AS} (h : SndS K P (tAsg (tLockE te) (gName i)) as) : SndS K P (tLock (tAsg te (gName i))) as := h
/-- whole numbers in place -/
def pIp (f : Int → Int → Int) : D → D → Option M
  | .int i, .int j => some (.v (.int (f i j)))
  | _, _ => none
theorem prim_ip {f : Int → Int → Int} : Prim2 K (ipI f) (pIp f) := by
  intro F H x y d e m sub hx hy h Q q
  unfold pIp at h
  split at h
  · cases h; obtain rfl := hx.int; obtain rfl := hy.int
    exact ⟨_, _, rfl, rfl, q F H _ _ (New.same sub (.int _))⟩
  · cases h
end
end ML
namespace ML
open PySem L2
/-- what law(script) promises over data -/
def aspLaw : ASp := fun ms Q => ∃ ns : List Int, ms = [.scr ns] ∧ ns.length ≤ 63 ∧ Q (.v (.bool true)) [.scr ns]
theorem law_sp {K : PySem.W.Frag} {H : Hp} {a : Addr} {ns : List Int} {E : XK} (hl : ns.length ≤ 63) (hS : SqL K H a (ns.map V.int)) : lift K [true] aspLaw [.ref a] H (fun v _ => v = .bl true) E := by
  refine ⟨H, [], [.scr ns], fun m _ => m = .v (.bool true), Sub.refl H, .cons (.scr hS) .nil, List.nodup_nil, .lent .nil, ⟨ns, rfl, hl, rfl⟩, ?_⟩
  intro F' H' v m ms' A' B hm _ _ ho _ _
  subst hm
  cases ho with
  | v z => cases z; rfl
theorem fnok_mk {Pr : Program} {w : World} {K : PySem.W.Frag} {mg : Str → Option Value} {base : Heap} {k : Nat} {x : Str} {st : Stmt} {N ps : List Str} {md : List Bool} {asp : ASp} {f : Addr} {fd : FuncData} (Fn : Fun K x x st f fd) (Sc : FnScope N ps (defScope st)) (hl : md.length = ps.length)
    (hbody : ∀ (cdv : Value) (A : Around) (outer : List PySem.Env) (s : Shared) (H : Hp) (E : XK), Room k (A.deeper (PyProof.Rows.envOfC x (defScope st) s.heap.objs.size f cdv)) →
      ∃ t as, PSs (cxOf CX0 Pr w K mg base N x (defScope st) f cdv A outer s H E).nox (defBody st) t ∧ SndS K (pinsOf 0 md) t as ∧ ∀ ms Qa, Mds md ms → asp ms Qa → as (endsD md ms Qa) (startE N.length ms)) :
    FnOk Pr w K mg base CX0 (k + 1) f fd ps (lift K md asp) := fn_ok Fn Sc md hl hbody
end ML
/-! ML11: reading bodies: loops and comprehensions by words. -/
namespace ML
open PySem L2

theorem rng_get {lo : Int} {n i : Nat} {d : D} (h : (rngD lo n)[i]? = some d) : i < n ∧ d = .int (lo + (i : Int)) := by
  unfold rngD at h
  rw [List.getElem?_map] at h
  obtain ⟨j, hj, rfl⟩ := Option.map_eq_some_iff.mp h
  obtain ⟨hi, e⟩ := List.getElem?_eq_some_iff.mp hj
  rw [List.getElem_range] at e
  subst e
  rw [List.length_range] at hi
  exact ⟨hi, rfl⟩
theorem rng_len (lo : Int) (n : Nat) : (rngD lo n).length = n := by unfold rngD; rw [List.length_map, List.length_range]
/-- a for over a range -/
theorem for_rng {g : AG} {b : AS} {E : AEnds} {lo : Int} {n : Nat} {e : Env} (Pv : Nat → Env → Prop) (h0 : Pv 0 e)
    (hs : ∀ (i : Nat) e (N : Env → Prop), i < n → Pv i e → (∀ e', Pv (i + 1) e' → N e') → g (.int (lo + (i : Int))) e fun e1 => b { E with nx := N, ct := N, bk := E.nx } e1)
    (hd : ∀ e, Pv n e → E.nx e) : forGo g b E (rngD lo n) e := by
  refine forGo_all Pv h0 (fun i d e N hi p k => ?_) (fun e p => hd e (by rw [rng_len] at p; exact p))
  obtain ⟨hi', rfl⟩ := rng_get hi
  exact hs i e N hi' p k
/-- a for over data told by a list -/
theorem for_map {α : Type} {g : AG} {b : AS} {E : AEnds} {xs : List α} {f : α → D} {e : Env} (Pv : List α → Env → Prop) (h0 : Pv [] e)
    (hs : ∀ (pre : List α) (x : α) (post : List α) e (N : Env → Prop), xs = pre ++ x :: post → Pv pre e → (∀ e', Pv (pre ++ [x]) e' → N e') → g (f x) e fun e1 => b { E with nx := N, ct := N, bk := E.nx } e1)
    (hd : ∀ e, Pv xs e → E.nx e) : forGo g b E (xs.map f) e := by
  refine forGo_all (fun i e => Pv (xs.take i) e) (by simpa using h0) (fun i d e N hi p k => ?_) (fun e p => hd e (by rw [List.length_map, List.take_length] at p; exact p))
  rw [List.getElem?_map] at hi
  obtain ⟨x, hx, rfl⟩ := Option.map_eq_some_iff.mp hi
  have hlt : i < xs.length := (List.getElem?_eq_some_iff.mp hx).1
  have hxx : xs[i] = x := (List.getElem?_eq_some_iff.mp hx).2
  refine hs (xs.take i) x (xs.drop (i + 1)) e N ?_ p fun e' p' => k e' ?_
  · have q := List.drop_eq_getElem_cons hlt
    rw [hxx] at q
    rw [← q, List.take_append_drop]
  · rw [List.take_succ, hx]
    exact p'
/-- a comprehension that changes nothing: told by filter and map -/
theorem comp_fm {α : Type} {src : Src} {vs : List Nat} {g : AG} {tt : AT} {te : AE} (enc : α → D) (p : α → Bool) (f : α → D) {env : Env} (hsrc : srcOk src env) {Q : List D → Env → Prop} : ∀ (xs : List α) (acc : List D), acc.length + xs.length ≤ 1000000 →
    (∀ x ∈ xs, ∀ (C1 : D → Env → Prop) (C2 : Env → Prop), (p x = true → ∀ e4, wipeE e4 vs = env → C1 (f x) e4) → (p x = false → ∀ e2, wipeE e2 vs = env → C2 e2) → g (enc x) env fun e1 => tt e1 fun b e2 => if b = true then te e2 fun X e3 => use X e3 C1 else C2 e2) →
    Q (acc ++ (xs.filter p).map f) env → compGo src vs g tt te (xs.map enc) acc env Q
  | [], acc, _, _, q => by
    rw [List.filter_nil, List.map_nil, List.append_nil] at q
    exact ⟨hsrc, q⟩
  | x :: xs, acc, hl, hs, q => by
    rw [List.length_cons] at hl
    refine ⟨hsrc, hs x List.mem_cons_self _ _ (fun hp e4 he => ⟨by omega, ?_⟩) (fun hp e2 he => ?_)⟩
    · rw [he]
      refine comp_fm enc p f hsrc xs _ (by rw [List.length_append, List.length_singleton]; omega) (fun y hy => hs y (List.mem_cons_of_mem _ hy)) ?_
      rw [List.filter_cons, if_pos hp, List.map_cons] at q
      rw [List.append_assoc]
      exact q
    · rw [he]
      refine comp_fm enc p f hsrc xs _ (by omega) (fun y hy => hs y (List.mem_cons_of_mem _ hy)) ?_
      rw [List.filter_cons, if_neg (by rw [hp]; exact Bool.false_ne_true)] at q
      exact q
/-- .. from nothing on -/
theorem comp_fm0 {α : Type} {src : Src} {vs : List Nat} {g : AG} {tt : AT} {te : AE} (enc : α → D) (p : α → Bool) (f : α → D) {env : Env} {Q : List D → Env → Prop} (xs : List α) (hsrc : srcOk src env) (hl : xs.length ≤ 1000000)
    (hs : ∀ x ∈ xs, ∀ (C1 : D → Env → Prop) (C2 : Env → Prop), (p x = true → ∀ e4, wipeE e4 vs = env → C1 (f x) e4) → (p x = false → ∀ e2, wipeE e2 vs = env → C2 e2) → g (enc x) env fun e1 => tt e1 fun b e2 => if b = true then te e2 fun X e3 => use X e3 C1 else C2 e2)
    (q : Q ((xs.filter p).map f) env) : compGo src vs g tt te (xs.map enc) [] env Q := comp_fm enc p f hsrc xs [] (by simpa using hl) hs q
/-- .. no test -/
theorem comp_m0 {α : Type} {src : Src} {vs : List Nat} {g : AG} {te : AE} (enc : α → D) (f : α → D) {env : Env} {Q : List D → Env → Prop} (xs : List α) (hsrc : srcOk src env) (hl : xs.length ≤ 1000000)
    (hs : ∀ x ∈ xs, ∀ (C1 : D → Env → Prop), (∀ e4, wipeE e4 vs = env → C1 (f x) e4) → g (enc x) env fun e1 => te e1 fun X e3 => use X e3 C1)
    (q : Q (xs.map f) env) : compGo src vs g aYes te (xs.map enc) [] env Q := by
  refine comp_fm0 enc (fun _ => true) f xs hsrc hl (fun x hx C1 C2 h1 _ => ?_) (by rw [List.filter_eq_self.mpr (fun _ _ => rfl)]; exact q)
  have h := hs x hx C1 (fun e4 he => h1 rfl e4 he)
  exact h
/-- a comprehension by a word -/
theorem comp_inv {src : Src} {vs : List Nat} {g : AG} {tt : AT} {te : AE} {items : List D} {Q : List D → Env → Prop} (Pv : Nat → List D → Env → Prop) (hp : ∀ i acc e, Pv i acc e → srcOk src e ∧ acc.length < 1000000)
    (hs : ∀ i d acc e, items[i]? = some d → Pv i acc e → ∀ (C1 : D → Env → Prop) (C2 : Env → Prop), (∀ y e4, Pv (i + 1) (acc ++ [y]) (wipeE e4 vs) → C1 y e4) → (∀ e2, Pv (i + 1) acc (wipeE e2 vs) → C2 e2) → g d e fun e1 => tt e1 fun b e2 => if b = true then te e2 fun X e3 => use X e3 C1 else C2 e2)
    (hd : ∀ acc e, Pv items.length acc e → Q acc e) {env : Env} (h0 : Pv 0 [] env) : compGo src vs g tt te items [] env Q := by
  have all : ∀ n i acc e, items.length - i = n → i ≤ items.length → Pv i acc e → compGo src vs g tt te (items.drop i) acc e Q := by
    intro n
    induction n with
    | zero =>
      intro i acc e hn hi p
      have q : i = items.length := by omega
      subst q
      rw [List.drop_length]
      exact ⟨(hp _ _ _ p).1, hd acc e p⟩
    | succ n ih =>
      intro i acc e hn hi p
      obtain ⟨d, hd', hdr⟩ := drop_cons (l := items) (i := i) (by omega)
      rw [hdr]
      exact ⟨(hp _ _ _ p).1, hs i d acc e hd' p _ _ (fun y e4 p' => ⟨(hp _ _ _ p).2, ih (i + 1) _ _ (by omega) (by omega) p'⟩) (fun e2 p' => ih (i + 1) _ _ (by omega) (by omega) p')⟩
  exact all _ 0 [] env rfl (Nat.zero_le _) h0
theorem atI_ok {α : Type} {xs : List α} {i : Int} (h0 : 0 ≤ i) (h1 : i < (xs.length : Int)) : ∃ x, atI xs i = some x ∧ xs[i.toNat]? = some x := by
  have hlt : i.toNat < xs.length := by omega
  have e0 : i = ((i.toNat : Nat) : Int) := by omega
  refine ⟨xs[i.toNat], ?_, List.getElem?_eq_getElem hlt⟩
  have q := atI_nat (List.getElem?_eq_getElem hlt)
  rw [← e0] at q
  exact q
theorem fmod_lt {a b : Int} (h : 0 < b) : 0 ≤ a.fmod b ∧ a.fmod b < b := by
  rw [Int.fmod_eq_emod_of_nonneg a (Int.le_of_lt h)]
  exact ⟨Int.emod_nonneg _ (by omega), Int.emod_lt_of_pos _ h⟩
theorem ex_ite {α : Type} {c : Prop} [Decidable c] {a : α} {P : α → Prop} : (∃ m, (if c then some a else none) = some m ∧ P m) = (c ∧ P a) := propext (by
  by_cases h : c
  · simp [h]
  · simp [h])
theorem ex_map {α β : Type} {o : Option α} {f : α → β} {P : β → Prop} : (∃ m, o.map f = some m ∧ P m) = ∃ x, o = some x ∧ P (f x) := propext (by
  cases o with
  | none => simp
  | some x => simp)
theorem ex_bind {α β : Type} {o : Option α} {f : α → Option β} {P : β → Prop} : (∃ m, o.bind f = some m ∧ P m) = ∃ x, o = some x ∧ ∃ m, f x = some m ∧ P m := propext (by
  cases o with
  | none => simp
  | some x => simp)
theorem ex_ite2 {α β : Type} {c : Prop} [Decidable c] {a : α} {b : β} {P : α → β → Prop} : (∃ m n, (if c then some (a, b) else none) = some (m, n) ∧ P m n) = (c ∧ P a b) := propext (by
  by_cases h : c
  · rw [if_pos h]
    exact ⟨fun ⟨m, n, e, p⟩ => (by cases e; exact ⟨h, p⟩), fun ⟨_, p⟩ => ⟨a, b, rfl, p⟩⟩
  · rw [if_neg h]
    exact ⟨fun ⟨m, n, e, p⟩ => (nomatch e), fun ⟨q, _⟩ => absurd q h⟩)
/-- a list of so many ints -/
def IntsN (n : Nat) (L : List D) : Prop := ∃ ds : List Int, L = ds.map PyData.int ∧ ds.length ≤ n
theorem IntsN.snoc {n : Nat} {L : List D} (h : IntsN n L) (i : Int) : IntsN (n + 1) (L ++ [.int i]) := by
  obtain ⟨ds, rfl, h⟩ := h
  exact ⟨ds ++ [i], by simp, by simp; omega⟩
theorem IntsN.mono {m n : Nat} {L : List D} (h : IntsN m L) (l : m ≤ n) : IntsN n L := by
  obtain ⟨ds, rfl, h⟩ := h
  exact ⟨ds, rfl, by omega⟩
theorem IntsN.len {n : Nat} {L : List D} (h : IntsN n L) : L.length ≤ n := by
  obtain ⟨ds, rfl, h⟩ := h
  rw [List.length_map]; exact h
theorem ite_dec {c : Prop} [Decidable c] {a b : Prop} (h1 : c → a) (h2 : ¬ c → b) : if decide c = true then a else b := by
  by_cases h : c
  · rw [decide_eq_true h, if_pos rfl]; exact h1 h
  · rw [decide_eq_false h, if_neg Bool.false_ne_true]; exact h2 h
theorem pEqB_ii {i j : Int} : pEqB (.int i) (.int j) = some (decide (i = j)) := rfl
theorem pEqB_ss {a b : Str} : pEqB (.str a) (.str b) = some (decide (a = b)) := rfl
theorem ite_b {b : Bool} {p q : Prop} (h1 : b = true → p) (h2 : b = false → q) : if b = true then p else q := by
  cases b with
  | true => rw [if_pos rfl]; exact h1 rfl
  | false => rw [if_neg Bool.false_ne_true]; exact h2 rfl
theorem ifX_b {b : Bool} {t u : AS} {E : AEnds} {e : Env} (h1 : b = true → t E e) (h2 : b = false → u E e) : ifX b t u E e := by
  cases b with
  | true => exact h1 rfl
  | false => exact h2 rfl
theorem ifX_d {c : Prop} [Decidable c] {t u : AS} {E : AEnds} {e : Env} (h1 : c → t E e) (h2 : ¬ c → u E e) : ifX (decide c) t u E e := ifX_b (fun h => h1 (of_decide_eq_true h)) (fun h => h2 (of_decide_eq_false h))
theorem ifVX_b {b : Bool} {t u : AE} {e : Env} {Q : X → Env → Prop} (h1 : b = true → t e Q) (h2 : b = false → u e Q) : ifVX b t u e Q := by
  cases b with
  | true => exact h1 rfl
  | false => exact h2 rfl
theorem ifVX_d {c : Prop} [Decidable c] {t u : AE} {e : Env} {Q : X → Env → Prop} (h1 : c → t e Q) (h2 : ¬ c → u e Q) : ifVX (decide c) t u e Q := ifVX_b (fun h => h1 (of_decide_eq_true h)) (fun h => h2 (of_decide_eq_false h))
theorem andX_b {b : Bool} {t : AT} {e : Env} {Q : Bool → Env → Prop} (h1 : b = true → t e Q) (h2 : b = false → Q false e) : andX b t e Q := by
  cases b with
  | true => exact h1 rfl
  | false => exact h2 rfl
theorem orX_b {b : Bool} {t : AT} {e : Env} {Q : Bool → Env → Prop} (h1 : b = true → Q true e) (h2 : b = false → t e Q) : orX b t e Q := by
  cases b with
  | true => exact h1 rfl
  | false => exact h2 rfl
theorem andVX_b {b : Bool} {t : AE} {e : Env} {Q : X → Env → Prop} (h1 : b = true → t e Q) (h2 : b = false → Q (.val (.v (.bool false))) e) : andVX b t e Q := by
  cases b with
  | true => exact h1 rfl
  | false => exact h2 rfl
theorem orVX_b {b : Bool} {t : AE} {e : Env} {Q : X → Env → Prop} (h1 : b = true → Q (.val (.v (.bool true))) e) (h2 : b = false → t e Q) : orVX b t e Q := by
  cases b with
  | true => exact h1 rfl
  | false => exact h2 rfl
theorem ex_two {α β : Type} {x : α} {y : β} {P : α → β → Prop} : (∃ a b, (x = a ∧ y = b) ∧ P a b) = P x y := propext ⟨fun ⟨_, _, ⟨rfl, rfl⟩, p⟩ => p, fun p => ⟨x, y, ⟨rfl, rfl⟩, p⟩⟩
theorem ex_two' {α β : Type} {x : α} {y : β} {P : α → β → Prop} : (∃ a b, (a = x ∧ b = y) ∧ P a b) = P x y := propext ⟨fun ⟨_, _, ⟨rfl, rfl⟩, p⟩ => p, fun p => ⟨x, y, ⟨rfl, rfl⟩, p⟩⟩
theorem slX_1 {d : D} {i : Nat} {e : Env} {Q : X → Env → Prop} : slX (.v d) i e Q = Q (.val (.v d)) e := rfl
theorem slX_2 {d} {i : Nat} {e : Env} {Q : X → Env → Prop} : slX (.own d) i e Q = Q (.slot i) e := rfl
theorem slX_3 {d} {i : Nat} {e : Env} {Q : X → Env → Prop} : slX (.ownT d) i e Q = Q (.slot i) e := rfl
theorem slX_4 {o d} {i : Nat} {e : Env} {Q : X → Env → Prop} : slX (.lk o d) i e Q = Q (.slot i) e := rfl
theorem slX_5 {o d} {i : Nat} {e : Env} {Q : X → Env → Prop} : slX (.lkF o d) i e Q = Q (.slot i) e := rfl
theorem slX_6 {d} {i : Nat} {e : Env} {Q : X → Env → Prop} : slX (.scr d) i e Q = Q (.slot i) e := rfl
theorem asgX_1 {m : M} {i : Nat} {e : Env} {N : Env → Prop} : asgX (.val m) i e N = N (e.set i (some m)) := rfl
theorem asgX_2 {j i : Nat} {e : Env} {N : Env → Prop} : asgX (.slot j) i e N = use (.slot j) e fun d e2 => N (e2.set i (some (.v d))) := rfl
theorem retX_1 {m : M} {e : Env} {R : M → Env → Prop} : retX (.val m) e R = R m e := rfl
theorem retX_2 {i : Nat} {e : Env} {R : M → Env → Prop} : retX (.slot i) e R = ∃ m, e[i]? = some (some m) ∧ R m (e.set i none) := rfl
theorem andX_1 {b : AT} {e : Env} {Q : Bool → Env → Prop} : andX true b e Q = b e Q := rfl
theorem andX_2 {b : AT} {e : Env} {Q : Bool → Env → Prop} : andX false b e Q = Q false e := rfl
theorem orX_1 {b : AT} {e : Env} {Q : Bool → Env → Prop} : orX true b e Q = Q true e := rfl
theorem orX_2 {b : AT} {e : Env} {Q : Bool → Env → Prop} : orX false b e Q = b e Q := rfl
theorem andVX_1 {b : AE} {e : Env} {Q : X → Env → Prop} : andVX true b e Q = b e Q := rfl
theorem andVX_2 {b : AE} {e : Env} {Q : X → Env → Prop} : andVX false b e Q = Q (.val (.v (.bool false))) e := rfl
theorem orVX_1 {b : AE} {e : Env} {Q : X → Env → Prop} : orVX true b e Q = Q (.val (.v (.bool true))) e := rfl
theorem orVX_2 {b : AE} {e : Env} {Q : X → Env → Prop} : orVX false b e Q = b e Q := rfl
theorem ifVX_1 {a b : AE} {e : Env} {Q : X → Env → Prop} : ifVX true a b e Q = a e Q := rfl
theorem ifVX_2 {a b : AE} {e : Env} {Q : X → Env → Prop} : ifVX false a b e Q = b e Q := rfl
theorem ifX_1 {a b : AS} {E : AEnds} {e : Env} : ifX true a b E e = a E e := rfl
theorem ifX_2 {a b : AS} {E : AEnds} {e : Env} : ifX false a b E e = b E e := rfl
theorem parX_1 {m n : M} {i j : Nat} {e : Env} {N : Env → Prop} : parX (.val m) (.val n) i j e N = N ((e.set i (some m)).set j (some n)) := rfl
theorem parX_2 {m : M} {y i j : Nat} {e : Env} {N : Env → Prop} : parX (.val m) (.slot y) i j e N = use (.val m) e fun d e2 => use (.slot y) e2 fun f e3 => N ((e3.set i (some (.v d))).set j (some (.v f))) := rfl
theorem parX_3 {x : Nat} {y : X} {i j : Nat} {e : Env} {N : Env → Prop} : parX (.slot x) y i j e N = use (.slot x) e fun d e2 => use y e2 fun f e3 => N ((e3.set i (some (.v d))).set j (some (.v f))) := by cases y <;> rfl
theorem iAX_1 {m : M} {e : Env} {Q : List D → Src → Env → Prop} : iAX (.val m) e Q = ∃ d ds, frzM m = some d ∧ itemsD d = some ds ∧ Q ds none e := rfl
theorem iAX_2 {j : Nat} {e : Env} {Q : List D → Src → Env → Prop} : iAX (.slot j) e Q = ∃ ds, e[j]? = some (some (.own (.list ds))) ∧ Q ds (some (j, .own (.list ds))) e := rfl
theorem use_1 {m : M} {e : Env} {Q : D → Env → Prop} : use (.val m) e Q = ∃ d, frzM m = some d ∧ Q d e := rfl
theorem use_2 {i : Nat} {e : Env} {Q : D → Env → Prop} : use (.slot i) e Q = ∃ m d, e[i]? = some (some m) ∧ frzM m = some d ∧ Q d (e.set i (some (.v d))) := rfl
theorem useL_1 {e : Env} {Q : List D → Env → Prop} : useL [] e Q = Q [] e := rfl
theorem useL_2 {x : X} {xs : List X} {e : Env} {Q : List D → Env → Prop} : useL (x :: xs) e Q = use x e fun d e1 => useL xs e1 fun ds e2 => Q (d :: ds) e2 := rfl
theorem srcFree_1 {vs : List Nat} : srcFree none vs = True := rfl
theorem srcFree_2 {j : Nat} {m : M} {vs : List Nat} : srcFree (some (j, m)) vs = (j ∉ vs) := rfl
theorem srcOk_1 {e : Env} : srcOk none e = True := rfl
theorem srcOk_2 {j : Nat} {m : M} {e : Env} : srcOk (some (j, m)) e = (e[j]? = some (some m)) := rfl
/-- a def that is never called on here -/
theorem cal_no {Pr : Program} {w : World} {K : PySem.W.Frag} {mg : Str → Option Value} {base : Heap} {k : Nat} {x : Str} {st : Stmt} {ps : List Str} {md : List Bool} (d : Dfn K mg x st ps) : Cal Pr w K mg base k x ps md fun _ _ => False := by
  obtain ⟨f, fd, Fn, hm, hb⟩ := d.ex
  refine ⟨f, fd, ⟨fun vs H Q E h => ?_, fun A outer s H args us vs Q E _ _ _ _ h => ?_⟩, hm, Fn.kp, hb⟩
  · obtain ⟨_, _, _, _, _, _, _, _, ap, _⟩ := h
    exact ap.elim
  · obtain ⟨_, _, _, _, _, _, _, _, ap, _⟩ := h
    exact ap.elim
theorem cut_seq {t u : AS} {E : AEnds} {e : Env} (h : aSeq t u E e) : aCut t u E e := ⟨_, h, fun _ q => q⟩
theorem cut_by {t u : AS} {E : AEnds} {e : Env} (P : Env → Prop) (h : t { E with nx := P } e) (k : ∀ e, P e → u E e) : aCut t u E e := ⟨P, h, k⟩
theorem cut_at (C : Prop) {t u : AS} {E : AEnds} {e : Env} (h : t { E with nx := fun e' => e' = e ∧ C } e) (k : C → u E e) : aCut t u E e := ⟨_, h, fun _ ⟨q, c⟩ => q ▸ k c⟩
theorem andVX_join {b : Bool} (c : Bool) {t : AE} {e : Env} {Q : X → Env → Prop} (h1 : b = true → ∀ Q' : X → Env → Prop, Q' (.val (.v (.bool c))) e → t e Q') (h : Q (.val (.v (.bool (b && c)))) e) : andVX b t e Q := by
  cases b with
  | true => exact h1 rfl Q h
  | false => exact h
theorem orVX_join {b : Bool} (c : Bool) {t : AE} {e : Env} {Q : X → Env → Prop} (h1 : b = false → ∀ Q' : X → Env → Prop, Q' (.val (.v (.bool c))) e → t e Q') (h : Q (.val (.v (.bool (b || c)))) e) : orVX b t e Q := by
  cases b with
  | true => exact h
  | false => exact h1 rfl Q h
theorem andX_join {b : Bool} (c : Bool) {t : AT} {e : Env} {Q : Bool → Env → Prop} (h1 : b = true → ∀ Q' : Bool → Env → Prop, Q' c e → t e Q') (h : Q (b && c) e) : andX b t e Q := by
  cases b with
  | true => exact h1 rfl Q h
  | false => exact h
theorem orX_join {b : Bool} (c : Bool) {t : AT} {e : Env} {Q : Bool → Env → Prop} (h1 : b = false → ∀ Q' : Bool → Env → Prop, Q' c e → t e Q') (h : Q (b || c) e) : orX b t e Q := by
  cases b with
  | true => exact h
  | false => exact h1 rfl Q h
theorem maxI_ex {xs : List Int} (h : xs ≠ []) : ∃ m, maxI xs = some m := by
  cases xs with
  | nil => exact absurd rfl h
  | cons x xs => exact ⟨_, rfl⟩
theorem minI_ex {xs : List Int} (h : xs ≠ []) : ∃ m, minI xs = some m := by
  cases xs with
  | nil => exact absurd rfl h
  | cons x xs => exact ⟨_, rfl⟩
theorem isT_tuple_none : isT "tuple" .none = false := by show isTy "tuple" "NoneType" = _; decide +kernel
theorem isT_tuple_bool {b : Bool} : isT "tuple" (.bool b) = false := by show isTy "tuple" "bool" = _; decide +kernel
theorem isT_tuple_int {i : Int} : isT "tuple" (.int i) = false := by show isTy "tuple" "int" = _; decide +kernel
theorem isT_tuple_str {s : Str} : isT "tuple" (.str s) = false := by show isTy "tuple" "str" = _; decide +kernel
theorem isT_tuple_tuple {ds : List D} : isT "tuple" (.tuple ds) = true := by show isTy "tuple" "tuple" = _; decide +kernel
theorem isT_tuple_list {ds : List D} : isT "tuple" (.list ds) = false := by show isTy "tuple" "list" = _; decide +kernel
theorem isT_tuple_dict {ds : List (D × D)} : isT "tuple" (.dict ds) = false := by show isTy "tuple" "dict" = _; decide +kernel
theorem isT_str_none : isT "str" .none = false := by show isTy "str" "NoneType" = _; decide +kernel
theorem isT_str_bool {b : Bool} : isT "str" (.bool b) = false := by show isTy "str" "bool" = _; decide +kernel
theorem isT_str_int {i : Int} : isT "str" (.int i) = false := by show isTy "str" "int" = _; decide +kernel
theorem isT_str_str {s : Str} : isT "str" (.str s) = true := by show isTy "str" "str" = _; decide +kernel
theorem isT_str_tuple {ds : List D} : isT "str" (.tuple ds) = false := by show isTy "str" "tuple" = _; decide +kernel
theorem isT_str_list {ds : List D} : isT "str" (.list ds) = false := by show isTy "str" "list" = _; decide +kernel
theorem isT_str_dict {ds : List (D × D)} : isT "str" (.dict ds) = false := by show isTy "str" "dict" = _; decide +kernel
theorem isT_int_none : isT "int" .none = false := by show isTy "int" "NoneType" = _; decide +kernel
theorem isT_int_bool {b : Bool} : isT "int" (.bool b) = true := by show isTy "int" "bool" = _; decide +kernel
theorem isT_int_int {i : Int} : isT "int" (.int i) = true := by show isTy "int" "int" = _; decide +kernel
theorem isT_int_str {s : Str} : isT "int" (.str s) = false := by show isTy "int" "str" = _; decide +kernel
theorem isT_int_tuple {ds : List D} : isT "int" (.tuple ds) = false := by show isTy "int" "tuple" = _; decide +kernel
theorem isT_int_list {ds : List D} : isT "int" (.list ds) = false := by show isTy "int" "list" = _; decide +kernel
theorem isT_int_dict {ds : List (D × D)} : isT "int" (.dict ds) = false := by show isTy "int" "dict" = _; decide +kernel
theorem isT_bool_none : isT "bool" .none = false := by show isTy "bool" "NoneType" = _; decide +kernel
theorem isT_bool_bool {b : Bool} : isT "bool" (.bool b) = true := by show isTy "bool" "bool" = _; decide +kernel
theorem isT_bool_int {i : Int} : isT "bool" (.int i) = false := by show isTy "bool" "int" = _; decide +kernel
theorem isT_bool_str {s : Str} : isT "bool" (.str s) = false := by show isTy "bool" "str" = _; decide +kernel
theorem isT_bool_tuple {ds : List D} : isT "bool" (.tuple ds) = false := by show isTy "bool" "tuple" = _; decide +kernel
theorem isT_bool_list {ds : List D} : isT "bool" (.list ds) = false := by show isTy "bool" "list" = _; decide +kernel
theorem isT_bool_dict {ds : List (D × D)} : isT "bool" (.dict ds) = false := by show isTy "bool" "dict" = _; decide +kernel
theorem isT_list_none : isT "list" .none = false := by show isTy "list" "NoneType" = _; decide +kernel
theorem isT_list_bool {b : Bool} : isT "list" (.bool b) = false := by show isTy "list" "bool" = _; decide +kernel
theorem isT_list_int {i : Int} : isT "list" (.int i) = false := by show isTy "list" "int" = _; decide +kernel
theorem isT_list_str {s : Str} : isT "list" (.str s) = false := by show isTy "list" "str" = _; decide +kernel
theorem isT_list_tuple {ds : List D} : isT "list" (.tuple ds) = false := by show isTy "list" "tuple" = _; decide +kernel
theorem isT_list_list {ds : List D} : isT "list" (.list ds) = true := by show isTy "list" "list" = _; decide +kernel
theorem isT_list_dict {ds : List (D × D)} : isT "list" (.dict ds) = false := by show isTy "list" "dict" = _; decide +kernel
theorem isT_dict_none : isT "dict" .none = false := by show isTy "dict" "NoneType" = _; decide +kernel
theorem isT_dict_bool {b : Bool} : isT "dict" (.bool b) = false := by show isTy "dict" "bool" = _; decide +kernel
theorem isT_dict_int {i : Int} : isT "dict" (.int i) = false := by show isTy "dict" "int" = _; decide +kernel
theorem isT_dict_str {s : Str} : isT "dict" (.str s) = false := by show isTy "dict" "str" = _; decide +kernel
theorem isT_dict_tuple {ds : List D} : isT "dict" (.tuple ds) = false := by show isTy "dict" "tuple" = _; decide +kernel
theorem isT_dict_list {ds : List D} : isT "dict" (.list ds) = false := by show isTy "dict" "list" = _; decide +kernel
theorem isT_dict_dict {ds : List (D × D)} : isT "dict" (.dict ds) = true := by show isTy "dict" "dict" = _; decide +kernel
end ML
/-! the bodies over data, printed by gen.py -/
namespace K22
open PySem L2 ML
def B_two_to : AS :=
  (aSeq (aAsg 1 (aC (.int 1)))
    (aSeq (aFor (iR1 (aCons (aV 0) aNil)) (gN 2)
    (aAsg 1 (a2 pMul (aV 1) (aC (.int 2)))))
    (aRet (aV 1))))
def B_digits_of : AS :=
  (aSeq (aAsg 2 (aC (.str "")))
    (aSeq (aFor (iR1 (aCons (aV 1) aNil)) (gN 3)
    (aSeq (aAsg 2 (a2 pAdd (aN pStr (aCons (a2 pMod (aV 0) (aC (.int 2))) aNil)) (aV 2)))
    (aAsg 0 (a2 pFdiv (aV 0) (aC (.int 2))))))
    (aRet (aV 2))))
def B_value_by : AS :=
  (aSeq (aFor (iR3 (aCons (aN pLen (aCons (aV 1) aNil)) (aCons (a1 pNeg (aC (.int 1))) (aCons (a1 pNeg (aC (.int 1))) aNil)))) (gN 2)
    (aIfS (aB (a2 (pIn false) (aSl pSl (aV 1) aNoPart (aPart (aV 2))) (aV 0))) (aRet (a2 pIx (aV 0) (aSl pSl (aV 1) aNoPart (aPart (aV 2))))) aNext))
    (aRet (aC .none)))
def B_same_fronts (S_two_to : ASp) (S_digits_of : ASp) (S_value_by : ASp) : AS :=
  (aSeq (aFor (iR1 (aCons (aCall [false] S_two_to (aCons (aV 2) aNil)) aNil)) (gN 3)
    (aSeq (aAsg 4 (aCall [false, false] S_digits_of (aCons (aV 3) (aCons (aV 2) aNil))))
    (aIfS (aB (a2 pNe (aCall [false, false] S_value_by (aCons (aV 0) (aCons (aV 4) aNil))) (aCall [false, false] S_value_by (aCons (aV 1) (aCons (aV 4) aNil))))) (aRet (aV 4)) aNext)))
    (aRet (aC .none)))
def B_range_below (S_two_to : ASp) (S_range_below : ASp) : AS :=
  (aSeq (aAsg 4 (aC (.int 0)))
    (aSeq (aFor (iAF (aV 2)) (gN 5)
    (aAsg 4 (a2 pAdd (a2 pMul (aC (.int 2)) (aV 4)) (aN pInt (aCons (aV 5) aNil)))))
    (aSeq (aAsg 6 (aCall [false] S_two_to (aCons (a2 pSub (aV 3) (aN pLen (aCons (aV 2) aNil))) aNil)))
    (aSeq (aAsg 4 (a2 pMul (aV 4) (aV 6)))
    (aCut (aIfS (aAnd (aB (a2 pLe (aV 0) (aV 4))) (aB (a2 pLe (a2 pSub (a2 pAdd (aV 4) (aV 6)) (aC (.int 1))) (aV 1)))) (aRet (aLst (aCons (aV 2) aNil))) aNext)
    (aCut (aIfS (aOr (aB (a2 pGt (aV 4) (aV 1))) (aB (a2 pLt (a2 pSub (a2 pAdd (aV 4) (aV 6)) (aC (.int 1))) (aV 0)))) (aRet (aLst aNil)) aNext)
    (aRet (a2 pAdd (aCall [false, false, false, false] S_range_below (aCons (aV 0) (aCons (aV 1) (aCons (a2 pAdd (aV 2) (aC (.str "0"))) (aCons (aV 3) aNil))))) (aCall [false, false, false, false] S_range_below (aCons (aV 0) (aCons (aV 1) (aCons (a2 pAdd (aV 2) (aC (.str "1"))) (aCons (aV 3) aNil)))))))))))))
def B_fronts_of_range (S_range_below : ASp) : AS :=
  (aRet (aN pTuple (aCons (aN pSorted (aCons (aCall [false, false, false, false] S_range_below (aCons (aV 0) (aCons (aV 1) (aCons (aC (.str "")) (aCons (aV 2) aNil))))) aNil)) aNil)))
def B__law_draws : AS :=
  (aSeq (aAsg 2 (aLst aNil))
    (aSeq (aAsg 3 (aC (.int 7)))
    (aSeq (aFor (iR1 (aCons (aScrLen 0) aNil)) (gN 4)
    (aSeq (aAsg 5 (aN pAbs (aCons (aN pInt (aCons (aScrIx 0 (aV 4)) aNil)) aNil)))
    (aSeq (aAsg 3 (a2 pMod (aN pInt (aCons (a2 pAdd (a2 pAdd (a2 pMul (aV 3) (aC (.int 48271))) (a2 pMod (aV 5) (aC (.int 1000003)))) (aV 4)) aNil)) (aC (.int 65537))))
    (aSeq (aAsg 6 (aC (.int 0)))
    (aCut (aIfS (aB (a2 pGe (aV 5) (a2 (pPow fun i j => i ^ j.toNat) (aC (.int 10)) (aC (.int 18))))) (aAsg 6 (aV 5)) (aSeq (aDrop (aMutL 2 (aCons (a2 pMod (aN pInt (aCons (aV 5) aNil)) (aC (.int 997))) aNil) oAppend))
    (aDrop (aMutL 2 (aCons (a2 pMod (a2 pMod (aN pInt (aCons (a2 pAdd (a2 pMul (aV 3) (aC (.int 69621))) (aC (.int 5))) aNil)) (aC (.int 65521))) (aC (.int 997))) aNil) oAppend))))
    (aFor (iR1 (aCons (aC (.int 60)) aNil)) (gN 7)
    (aIfS (aB (a2 pGt (aV 6) (aC (.int 0)))) (aSeq (aDrop (aMutL 2 (aCons (a2 pMod (aN pInt (aCons (aV 6) aNil)) (aC (.int 997))) aNil) oAppend))
    (aAsg 6 (a2 pFdiv (aV 6) (aC (.int 997))))) aNext)))))))
    (aSeq (aFor (iR1 (aCons (aV 1) aNil)) (gN 4)
    (aSeq (aAsg 3 (a2 pMod (aN pInt (aCons (a2 pAdd (a2 pAdd (a2 pMul (aV 3) (aC (.int 16807))) (aV 4)) (aC (.int 1))) aNil)) (aC (.int 65537))))
    (aDrop (aMutL 2 (aCons (a2 pMod (aN pInt (aCons (aV 3) aNil)) (aC (.int 997))) aNil) oAppend))))
    (aRet (aSl pSl (aV 2) aNoPart (aPart (aV 1))))))))
def B__law_next : AS :=
  (aSeq (aDAug 0 (aC (.str "at")) (pIp fun i j => i + j) (aC (.int 1)))
    (aCut (aIfS (aB (a2 pGt (a2 pIx (aV 0) (aC (.str "at"))) (aN pLen (aCons (a2 pIx (aV 0) (aC (.str "draws"))) aNil)))) (aRet (aC (.int 0))) aNext)
    (aRet (a2 pMod (aN pInt (aCons (a2 pIx (a2 pIx (aV 0) (aC (.str "draws"))) (a2 pSub (a2 pIx (aV 0) (aC (.str "at"))) (aC (.int 1)))) aNil)) (aV 1)))))
def B__law_pick (S__law_next : ASp) : AS :=
  (aRet (a2 pIx (aV 1) (aCall [true, false] S__law_next (aCons (aV 0) (aCons (aN pLen (aCons (aV 1) aNil)) aNil)))))
def B__law_says : AS :=
  (aRet (aAndV (aIsI "bool" (aV 0)) (a2 pEq (aV 0) (aV 1))))
def B__law_same (S__law_same : ASp) : AS :=
  (aCut (aIfS (aB (aIsI "tuple" (aV 1))) (aCut (aIfS (aOr (aNot (aB (aIsI "tuple" (aV 0)))) (aB (a2 pNe (aN pLen (aCons (aV 0) aNil)) (aN pLen (aCons (aV 1) aNil))))) (aRet (aC (.bool false))) aNext)
    (aRet (a2 pEq (aLc (iR1 (aCons (aN pLen (aCons (aV 1) aNil)) aNil)) (gN 2) (aNot (aB (aCall [false, false] S__law_same (aCons (a2 pIx (aV 0) (aV 2)) (aCons (a2 pIx (aV 1) (aV 2)) aNil))))) (aV 2) [2]) (aLst aNil)))) aNext)
    (aCut (aIfS (aB (aIsN false (aV 1))) (aRet (aIsN false (aV 0))) aNext)
    (aCut (aIfS (aB (aIsI "str" (aV 1))) (aRet (aAndV (aIsI "str" (aV 0)) (a2 pEq (aV 0) (aV 1)))) aNext)
    (aRet (aAndV (aIsI "int" (aV 0)) (aAndV (a2 pEq (aIsI "bool" (aV 0)) (aIsI "bool" (aV 1))) (a2 pEq (aV 0) (aV 1))))))))
def B__law_wide_bits : AS :=
  (aSeq (aAsg 1 (aLst (aCons (aC (.str "")) aNil)))
    (aSeq (aFor (iR1 (aCons (aV 0) aNil)) (gN 2)
    (aAsg 1 (a2 pAdd (aLc (iA (aV 1)) (gN 3) aYes (a2 pAdd (aV 3) (aC (.str "0"))) [3]) (aLc (iA (aV 1)) (gN 3) aYes (a2 pAdd (aV 3) (aC (.str "1"))) [3]))))
    (aRet (aN pSorted (aCons (aV 1) aNil)))))
def B__law_value : AS :=
  (aSeq (aAsg 2 (aLockO 0 (aLc (iK 0) (gN 3) (aB (a2 pEq (aSl pSl (aV 1) aNoPart (aPart (aN pLen (aCons (aV 3) aNil)))) (aV 3))) (aV 3) [3])))
    (aSeq (aAsg 4 (aLc (iA (aV 2)) (gN 3) (aB (a2 pEq (aN pLen (aCons (aV 3) aNil)) (aN pMax (aCons (aLc (iA (aV 2)) (gN 5) aYes (aN pLen (aCons (aV 5) aNil)) [5]) aNil)))) (aV 3) [3]))
    (aRet (aIf (aB (a2 pNe (aV 2) (aLst aNil))) (a2 pIx (aV 0) (a2 pIx (aV 4) (aC (.int 0)))) (aC .none)))))
def B__law_fronts (S__law_next : ASp) (S__law_pick : ASp) : AS :=
  (aSeq (aAsg 2 aNewK)
    (aSeq (aFor (iR1 (aCons (aCall [true, false] S__law_next (aCons (aV 0) (aCons (aC (.int 7)) aNil))) aNil)) (gN 3)
    (aSeq (aAsg 4 (aM1 pJoin (aC (.str "")) (aLc (iR1 (aCons (aCall [true, false] S__law_next (aCons (aV 0) (aCons (a2 pAdd (aV 1) (aC (.int 1))) aNil))) aNil)) (gN 5) aYes (aCall [true, false] S__law_pick (aCons (aV 0) (aCons (aLst (aCons (aC (.str "0")) (aCons (aC (.str "1")) aNil))) aNil))) [5])))
    (aSetI 2 (aCall [true, false] S__law_pick (aCons (aV 0) (aCons (aLst (aCons (aC (.str "x")) (aCons (aC (.str "y")) (aCons (aC (.str "zz")) (aCons (aC (.str "x")) (aCons (aC .none) aNil)))))) aNil))) (aV 4))))
    (aRet (aV 2))))
def B__law_number : AS :=
  (aSeq (aAsg 1 (aC (.int 0)))
    (aSeq (aFor (iAF (aV 0)) (gN 2)
    (aAsg 1 (a2 pAdd (a2 pMul (aC (.int 2)) (aV 1)) (aN pInt (aCons (a2 pEq (aV 2) (aC (.str "1"))) aNil)))))
    (aRet (aV 1))))
def B__law_is_cover (S__law_wide_bits : ASp) (S__law_number : ASp) : AS :=
  (aSeq (aFor (iAF (aCall [false] S__law_wide_bits (aCons (aV 3) aNil))) (gN 4)
    (aSeq (aAsg 5 (aN pLen (aCons (aLc (iA (aV 0)) (gN 6) (aB (a2 pEq (aSl pSl (aV 4) aNoPart (aPart (aN pLen (aCons (aV 6) aNil)))) (aV 6))) (aV 6) [6]) aNil)))
    (aIfS (aB (a2 pNe (aV 5) (aN pInt (aCons (aChain pLe pLe (aV 1) (aCall [false] S__law_number (aCons (aV 4) aNil)) (aV 2)) aNil)))) (aRet (aC (.bool false))) aNext)))
    (aRet (aC (.bool true))))
def B__law_fewest (S__law_wide_bits : ASp) (S__law_number : ASp) : AS :=
  (aSeq (aAsg 3 (aLst aNil))
    (aSeq (aFor (iR1 (aCons (a2 pAdd (aV 2) (aC (.int 1))) aNil)) (gN 4)
    (aFor (iAF (aCall [false] S__law_wide_bits (aCons (aV 4) aNil))) (gN 5)
    (aSeq (aAsg 6 (aLc (iA (aCall [false] S__law_wide_bits (aCons (aV 2) aNil))) (gN 7) (aB (a2 pEq (aSl pSl (aV 7) aNoPart (aPart (aV 4))) (aV 5))) (aCall [false] S__law_number (aCons (aV 7) aNil)) [7]))
    (aSeq (aAsg 8 (aAndV (a2 pGe (aN pMin (aCons (aV 6) aNil)) (aV 0)) (a2 pLe (aN pMax (aCons (aV 6) aNil)) (aV 1))))
    (aIfS (aAnd (aB (aV 8)) (aB (a2 pEq (aLc (iA (aV 3)) (gN 9) (aB (a2 pEq (aSl pSl (aV 5) aNoPart (aPart (aN pLen (aCons (aV 9) aNil)))) (aV 9))) (aV 9) [9]) (aLst aNil)))) (aDrop (aMutL 3 (aCons (aV 5) aNil) oAppend)) aNext)))))
    (aRet (aN pTuple (aCons (aN pSorted (aCons (aV 3) aNil)) aNil)))))
def B_law (S__law_draws : ASp) (S__law_next : ASp) (S__law_fronts : ASp) (S__law_pick : ASp) (S__law_wide_bits : ASp) (S__law_same : ASp) (S_value_by : ASp) (S__law_value : ASp) (S_same_fronts : ASp) (S_fronts_of_range : ASp) (S__law_fewest : ASp) (S__law_is_cover : ASp) : AS :=
  (aSeq (aAsg 1 (aDisp [(.str "draws", (aCall [true, false] S__law_draws (aCons (aV 0) (aCons (aC (.int 400)) aNil)))), (.str "at", (aC (.int 0)))]))
    (aSeq (aFor (iR1 (aCons (aC (.int 4)) aNil)) (gN 2)
    (aSeq (aAsg 3 (a2 pAdd (aC (.int 1)) (aCall [true, false] S__law_next (aCons (aV 1) (aCons (aC (.int 4)) aNil)))))
    (aSeq (aPar 4 5 (aCons (aCall [true, false] S__law_fronts (aCons (aV 1) (aCons (aV 3) aNil))) (aCons (aCall [true, false] S__law_fronts (aCons (aV 1) (aCons (aV 3) aNil))) aNil)))
    (aCut (aIfS (aB (a2 pEq (aCall [true, false] S__law_next (aCons (aV 1) (aCons (aC (.int 2)) aNil))) (aC (.int 0)))) (aSeq (aAsg 5 (aN pDict (aCons (aV 4) aNil)))
    (aSetI 5 (aCall [true, false] S__law_pick (aCons (aV 1) (aCons (aLst (aCons (aC (.str "x")) (aCons (aC .none) aNil))) aNil))) (aCall [true, false] S__law_pick (aCons (aV 1) (aCons (aCall [false] S__law_wide_bits (aCons (aCall [true, false] S__law_next (aCons (aV 1) (aCons (a2 pAdd (aV 3) (aC (.int 1))) aNil))) aNil)) aNil))))) aNext)
    (aSeq (aAsg 6 (aLst aNil))
    (aSeq (aFor (iAF (aCall [false] S__law_wide_bits (aCons (aV 3) aNil))) (gN 7)
    (aCut (aIfS (aNot (aB (aCall [false, false] S__law_same (aCons (aCall [false, false] S_value_by (aCons (aN pDict (aCons (aV 4) aNil)) (aCons (aV 7) aNil))) (aCons (aCall [true, false] S__law_value (aCons (aV 4) (aCons (aV 7) aNil))) aNil))))) (aRet (aC (.bool false))) aNext)
    (aAsg 6 (a2 pAdd (aV 6) (aIf (aB (a2 pNe (aCall [true, false] S__law_value (aCons (aV 4) (aCons (aV 7) aNil))) (aCall [true, false] S__law_value (aCons (aV 5) (aCons (aV 7) aNil))))) (aLst (aCons (aV 7) aNil)) (aLst aNil))))))
    (aCut (aIfS (aNot (aB (aCall [false, false] S__law_same (aCons (aCall [false, false, false] S_same_fronts (aCons (aN pDict (aCons (aV 4) aNil)) (aCons (aN pDict (aCons (aV 5) aNil)) (aCons (aV 3) aNil)))) (aCons (aIf (aB (a2 pNe (aV 6) (aLst aNil))) (a2 pIx (aV 6) (aC (.int 0))) (aC .none)) aNil))))) (aRet (aC (.bool false))) aNext)
    (aSeq (aAsg 7 (aM1 pJoin (aC (.str "")) (aLc (iR1 (aCons (aCall [true, false] S__law_next (aCons (aV 1) (aCons (aC (.int 7)) aNil))) aNil)) (gN 8) aYes (aCall [true, false] S__law_pick (aCons (aV 1) (aCons (aLst (aCons (aC (.str "0")) (aCons (aC (.str "1")) aNil))) aNil))) [8])))
    (aCut (aIfS (aNot (aB (aCall [false, false] S__law_same (aCons (aCall [false, false] S_value_by (aCons (aN pDict (aCons (aV 4) aNil)) (aCons (aV 7) aNil))) (aCons (aCall [true, false] S__law_value (aCons (aV 4) (aCons (aV 7) aNil))) aNil))))) (aRet (aC (.bool false))) aNext)
    (aSeq (aAsg 9 (aN pLen (aCons (aCall [false] S__law_wide_bits (aCons (aV 3) aNil)) aNil)))
    (aSeq (aAsg 10 (aCall [true, false] S__law_next (aCons (aV 1) (aCons (aV 9) aNil))))
    (aSeq (aAsg 11 (a2 pAdd (aV 10) (aCall [true, false] S__law_next (aCons (aV 1) (aCons (a2 pSub (aV 9) (aV 10)) aNil)))))
    (aSeq (aAsg 12 (aCall [false, false, false] S_fronts_of_range (aCons (aV 10) (aCons (aV 11) (aCons (aV 3) aNil)))))
    (aIfS (aOr (aNot (aB (aCall [false, false] S__law_same (aCons (aV 12) (aCons (aCall [false, false, false] S__law_fewest (aCons (aV 10) (aCons (aV 11) (aCons (aV 3) aNil)))) aNil))))) (aNot (aB (aCall [false, false, false, false] S__law_is_cover (aCons (aV 12) (aCons (aV 10) (aCons (aV 11) (aCons (aV 3) aNil)))))))) (aRet (aC (.bool false))) aNext))))))))))))))
    (aRet (aC (.bool true)))))
end K22
namespace K22
open PySem L2 ML
local macro_rules | `(tactic| walk_at "st") => `(tactic| simp only [aSeq, aAsg, asgX_1, asgX_2, aRet, retX_1, retX_2, aRetF, aRetN, aNext, aDrop, aFor, aV, aVx, slX_1, slX_2, slX_3, slX_4, slX_5, slX_6, aC, a1, a2, aN, aCons, aNil, aB, aAnd, andX_1, andX_2, aOr, orX_1, orX_2, aNot, aAndV, andVX_1, andVX_2, aOrV, orVX_1, orVX_2, aNotV, aIf, ifVX_1, ifVX_2, aTup, aLst, aIfS, ifX_1, ifX_2, aSl, aPart, aNoPart, aPar, parX_1, parX_2, parX_3, aAug, aDAug, aSetI, aMutL, aM1, aIsI, aIsN, aChain, aLc, aYes, aLockO, aDisp, aPairs, aNewK, aNewT, aScrLen, aScrIx, aCall, passL, backL, iR1, iR2, iR3, iAF, iA, iAX_1, iAX_2, iK, iScr, gN, gTupA, gConsA, gNilA, aAsgG, aBreak, aCont, use_1, use_2, useL_1, useL_2, rd, rdM, rdL, frzM, itemsD, startE, endsD, finL, srcFree_1, srcFree_2, srcOk_1, srcOk_2, wipeE, restE,
  pAdd, pSub, pMul, pMod, pFdiv, pNeg, pPow, pShr, pLen, pIx, pSl, pAbs, pInt, pStr, pTuple, pList, pDict, pSorted, pMax, pMin, pSum, pAny, pAll, pIp, pCmp, pEq, pNe, pEqB_ii, pEqB_ss, pIn, pInB, pJoin, pSet, oAppend, oPop, oPopAt, oInsert, oExtend, keyOf,
  List.length_cons, List.length_nil, List.getElem?_cons_zero, List.getElem?_cons_succ, List.set_cons_zero, List.set_cons_succ, List.map_cons, List.map_nil, List.cons_append, List.nil_append, List.replicate, Nat.reduceAdd, Nat.reduceSub, Nat.sub_self, Nat.zero_add, List.zip_cons_cons, List.zip_nil_left, List.zip_nil_right, List.mem_cons, List.not_mem_nil, or_false,
  Option.some.injEq, Option.map_some, Option.map_none, Option.bind_some, Option.isSome_some, exists_eq_left', exists_eq_left, exists_eq_right, exists_eq', exists_eq, true_and, and_true, X.val.injEq, M.v.injEq, M.own.injEq, M.scr.injEq, M.lk.injEq, M.lkF.injEq, M.ownT.injEq, PyData.int.injEq, PyData.bool.injEq, PyData.str.injEq, PyData.tuple.injEq, PyData.list.injEq, PyData.dict.injEq, List.cons.injEq, exists_and_left, reduceCtorEq, Bool.false_eq_true, if_false, if_true, ite_true, ite_false, not_false_eq_true, not_true_eq_false, ne_eq, Int.reduceNeg, Int.reduceAbs, Int.reduceToNat, Int.reduceMul, Nat.reduceEqDiff, Nat.zero_le, Nat.reduceLeDiff, Nat.reduceLT, Int.reduceEq, Int.reduceLT, Int.reduceLE, ex_ite, ex_ite2, ex_map, ex_bind, ex_two, ex_two', isT_tuple_none, isT_tuple_bool, isT_tuple_int, isT_tuple_str, isT_tuple_tuple, isT_tuple_list, isT_tuple_dict, isT_str_none, isT_str_bool, isT_str_int, isT_str_str, isT_str_tuple, isT_str_list, isT_str_dict, isT_int_none, isT_int_bool, isT_int_int, isT_int_str, isT_int_tuple, isT_int_list, isT_int_dict, isT_bool_none, isT_bool_bool, isT_bool_int, isT_bool_str, isT_bool_tuple, isT_bool_list, isT_bool_dict, isT_list_none, isT_list_bool, isT_list_int, isT_list_str, isT_list_tuple, isT_list_list, isT_list_dict, isT_dict_none, isT_dict_bool, isT_dict_int, isT_dict_str, isT_dict_tuple, isT_dict_list, isT_dict_dict, or_true, true_or, or_self, and_self, Bool.not_true, Bool.not_false, Bool.true_eq_false])
/-! ### the law's helpers: draws, next, pick, same (printed from pre_a.txt) -/
/-- the draws' state -/
def Wm (ds : List Int) (i : Int) : M := .own (.dict [(.str "draws", .list (ds.map PyData.int)), (.str "at", .int i)])
theorem kq_at : kq1 (.str "draws") (.str "at") = false := by decide +kernel
theorem kq_da : kq1 (.str "at") (.str "draws") = false := by decide +kernel
theorem kq_aa : kq1 (.str "at") (.str "at") = true := by decide +kernel
theorem kq_dd : kq1 (.str "draws") (.str "draws") = true := by decide +kernel
theorem w_at (a b : D) : dget [(.str "draws", a), (.str "at", b)] (.str "at") = some b := by simp only [dget, List.find?_cons, kq_at, kq_aa, Option.map_some]
theorem w_draws (a b : D) : dget [(.str "draws", a), (.str "at", b)] (.str "draws") = some a := by simp only [dget, List.find?_cons, kq_dd, Option.map_some]
theorem w_put (a b c : D) : dput [(.str "draws", a), (.str "at", b)] (.str "at") c = [(.str "draws", a), (.str "at", c)] := by
  simp only [dput, List.any_cons, kq_at, kq_aa, Bool.false_or, Bool.true_or, if_true, List.map_cons, List.map_nil, Bool.false_eq_true, if_false]
def S__law_next : ASp := fun ms Q => ∃ (ds : List Int) (i many : Int), ms = [Wm ds i, .v (.int many)] ∧ 0 ≤ i ∧ 0 < many ∧ ∀ r : Int, 0 ≤ r → r < many → Q (.v (.int r)) [Wm ds (i + 1), .v (.int many)]
local macro_rules | `(tactic| walk_at "sw") => `(tactic| (walk_at "st"; repeat (simp only [w_at, w_draws, w_put]; walk_at "st")))
theorem ok__law_next (ms : List M) (Qa : M → List M → Prop) (h : S__law_next ms Qa) : B__law_next (endsD [true, false] ms Qa) (startE 2 ms) := by
  obtain ⟨ds, i, many, rfl, hi, hm, q⟩ := h
  unfold B__law_next Wm
  walk_at "sw"
  simp only [aCut]
  refine ⟨fun e => e = [some (.own (.dict [(.str "draws", .list (ds.map PyData.int)), (.str "at", .int (i + 1))])), some (.v (.int many))] ∧ i + 1 ≤ ds.length, ?_, ?_⟩
  · walk_at "sw"
    by_cases c : i + 1 > (ds.length : Int)
    · simp only [List.length_map, c, decide_true]
      walk_at "st"
      exact q 0 (Int.le_refl 0) hm
    · simp only [List.length_map, c, decide_false]
      walk_at "st"
      omega
  · rintro e ⟨rfl, hle⟩
    walk_at "sw"
    obtain ⟨x, e1, _⟩ := atI_ok (xs := ds) (i := i + 1 - 1) (by omega) (by omega)
    simp only [atI_map, e1, Option.map_some]
    walk_at "st"
    exact ⟨by omega, q _ (fmod_lt hm).1 (fmod_lt hm).2⟩
def S__law_pick : ASp := fun ms Q => ∃ (ds : List Int) (i : Int) (xs : List D), ms = [Wm ds i, .v (.list xs)] ∧ 0 ≤ i ∧ xs ≠ [] ∧ ∀ x ∈ xs, Q (.v x) [Wm ds (i + 1), .v (.list xs)]
theorem ok__law_pick (ms : List M) (Qa : M → List M → Prop) (h : S__law_pick ms Qa) : B__law_pick S__law_next (endsD [true, false] ms Qa) (startE 2 ms) := by
  obtain ⟨ds, i, xs, rfl, hi, hx, q⟩ := h
  unfold B__law_pick
  have hl : 0 < xs.length := List.length_pos_iff.mpr hx
  simp only [startE, List.map_cons, List.map_nil, List.cons_append, List.nil_append, List.length_cons, List.length_nil, List.replicate, Nat.reduceAdd, Nat.reduceSub, Wm]
  walk_at "sw"
  refine ⟨ds, i, xs.length, rfl, hi, by omega, fun r h0 h1 => ?_⟩
  obtain ⟨x, e1, e2⟩ := atI_ok (xs := xs) h0 h1
  unfold Wm
  walk_at "st"
  simp only [e1]
  walk_at "st"
  exact q x (List.mem_of_getElem? e2)
/-- the draws -/
def S__law_draws : ASp := fun ms Q => ∃ (ns : List Int) (many : Nat), ms = [.scr ns, .v (.int many)] ∧ ns.length ≤ 63 ∧ many ≤ 1000 ∧ ∀ ds : List Int, Q (.own (.list (ds.map PyData.int))) [.scr ns, .v (.int many)]
theorem ok__law_draws (ms : List M) (Qa : M → List M → Prop) (h : S__law_draws ms Qa) : B__law_draws (endsD [true, false] ms Qa) (startE 8 ms) := by
  obtain ⟨ns, many, rfl, hn, hm, q⟩ := h
  unfold B__law_draws
  walk_at "st"
  refine ⟨by omega, ?_⟩
  -- what holds between the turns: the draws so far, few; the mixed number small
  refine for_rng (lo := 0) (fun i e => ∃ (L : List D) (mx : Int) (o4 o5 o6 o7 : Option M), e = [some (.scr ns), some (.v (.int many)), some (.own (.list L)), some (.v (.int mx)), o4, o5, o6, o7] ∧ 0 ≤ mx ∧ mx < 65537 ∧ IntsN (100 * i) L)
    ⟨[], 7, _, _, _, _, rfl, by decide, by decide, [], rfl, Nat.le_refl _⟩ ?_ ?_
  · rintro i e N hi ⟨L, mx, o4, o5, o6, o7, rfl, h0, h1, h2⟩ k
    obtain ⟨c, e1, _⟩ := atI_ok (xs := ns) (i := 0 + (i : Int)) (by omega) (by omega)
    have hi63 : i < 63 := by omega
    walk_at "st"
    simp only [e1]
    walk_at "st"
    simp only [aCut]
    have hmx : 0 ≤ (mx * 48271 + (c.natAbs : Int).fmod 1000003 + (0 + (i : Int))).fmod 65537 ∧ (mx * 48271 + (c.natAbs : Int).fmod 1000003 + (0 + (i : Int))).fmod 65537 < 65537 := fmod_lt (by decide)
    generalize (mx * 48271 + (c.natAbs : Int).fmod 1000003 + (0 + (i : Int))).fmod 65537 = my at hmx ⊢
    generalize (c.natAbs : Int) = cell
    have hl := h2.len
    refine ⟨fun e => ∃ (L : List D) (rest : Int), e = [some (.scr ns), some (.v (.int many)), some (.own (.list L)), some (.v (.int my)), some (.v (.int (0 + (i : Int)))), some (.v (.int cell)), some (.v (.int rest)), o7] ∧ IntsN (100 * i + 2) L, ?_, ?_⟩
    · walk_at "st"
      refine ifX_d (fun _ => ?_) fun _ => ?_
      · walk_at "st"
        exact h2.mono (by omega)
      · walk_at "st"
        exact ⟨by omega, by simp; omega, (h2.snoc _).snoc _⟩
    · rintro e ⟨L, rest, rfl, h3⟩
      walk_at "st"
      refine for_rng (lo := 0) (fun j e => ∃ (L : List D) (rest : Int) (o7 : Option M), e = [some (.scr ns), some (.v (.int many)), some (.own (.list L)), some (.v (.int my)), some (.v (.int (0 + (i : Int)))), some (.v (.int cell)), some (.v (.int rest)), o7] ∧ IntsN (100 * i + 2 + j) L)
        ⟨L, rest, _, rfl, h3⟩ ?_ ?_
      · rintro j e N' hj ⟨L, rest, o7, rfl, h4⟩ k'
        have hl := h4.len
        have hj : j < 60 := by simpa using hj
        walk_at "st"
        refine ifX_d (fun _ => ?_) fun _ => ?_
        · walk_at "st"
          exact ⟨by omega, k' _ ⟨_, _, _, rfl, h4.snoc _⟩⟩
        · walk_at "st"
          exact k' _ ⟨_, _, _, rfl, h4.mono (by omega)⟩
      · rintro e ⟨L, rest, o7, rfl, h4⟩
        refine k _ ⟨L, my, _, _, _, _, rfl, hmx.1, hmx.2, h4.mono ?_⟩
        have : (60 : Int).toNat = 60 := rfl
        omega
  · rintro e ⟨L, mx, o4, o5, o6, o7, rfl, h0, h1, h2⟩
    walk_at "st"
    refine ⟨by omega, ?_⟩
    refine for_rng (lo := 0) (fun i e => ∃ (L : List D) (mx : Int) (o4 : Option M), e = [some (.scr ns), some (.v (.int many)), some (.own (.list L)), some (.v (.int mx)), o4, o5, o6, o7] ∧ 0 ≤ mx ∧ mx < 65537 ∧ IntsN (6300 + i) L)
      ⟨L, mx, _, rfl, h0, h1, h2.mono (by omega)⟩ ?_ ?_
    · rintro i e N hi ⟨L, mx, o4, rfl, h0, h1, h2⟩ k
      have hl := h2.len
      have hi : i < many := by simpa using hi
      have hmx : 0 ≤ (mx * 16807 + (0 + (i : Int)) + 1).fmod 65537 ∧ (mx * 16807 + (0 + (i : Int)) + 1).fmod 65537 < 65537 := fmod_lt (by decide)
      walk_at "st"
      exact ⟨by omega, k _ ⟨_, _, _, rfl, hmx.1, hmx.2, h2.snoc _⟩⟩
    · rintro e ⟨L, mx, o4, rfl, h0, h1, ds, rfl, h2⟩
      walk_at "st"
      have e2 : cutL (ds.map PyData.int) none (some (many : Int)) = (cutL ds none (some (many : Int))).map PyData.int := by
        unfold cutL
        rw [List.length_map, List.map_take, List.map_drop]
      rw [e2]
      exact q _
end K22
namespace K22
open PySem L2 ML
local macro_rules | `(tactic| walk_at "st") => `(tactic| simp only [aSeq, aAsg, asgX_1, asgX_2, aRet, retX_1, retX_2, aRetF, aRetN, aNext, aDrop, aFor, aV, aVx, slX_1, slX_2, slX_3, slX_4, slX_5, slX_6, aC, a1, a2, aN, aCons, aNil, aB, aAnd, andX_1, andX_2, aOr, orX_1, orX_2, aNot, aAndV, andVX_1, andVX_2, aOrV, orVX_1, orVX_2, aNotV, aIf, ifVX_1, ifVX_2, aTup, aLst, aIfS, ifX_1, ifX_2, aSl, aPart, aNoPart, aPar, parX_1, parX_2, parX_3, aAug, aDAug, aSetI, aMutL, aM1, aIsI, aIsN, aChain, aLc, aYes, aLockO, aDisp, aPairs, aNewK, aNewT, aScrLen, aScrIx, aCall, passL, backL, iR1, iR2, iR3, iAF, iA, iAX_1, iAX_2, iK, iScr, gN, gTupA, gConsA, gNilA, aAsgG, aBreak, aCont, use_1, use_2, useL_1, useL_2, rd, rdM, rdL, frzM, itemsD, startE, endsD, finL, srcFree_1, srcFree_2, srcOk_1, srcOk_2, wipeE, restE,
  pAdd, pSub, pMul, pMod, pFdiv, pNeg, pPow, pShr, pLen, pIx, pSl, pAbs, pInt, pStr, pTuple, pList, pDict, pSorted, pMax, pMin, pSum, pAny, pAll, pIp, pCmp, pEq, pNe, pEqB_ii, pEqB_ss, pIn, pInB, pJoin, pSet, oAppend, oPop, oPopAt, oInsert, oExtend, keyOf,
  List.length_cons, List.length_nil, List.getElem?_cons_zero, List.getElem?_cons_succ, List.set_cons_zero, List.set_cons_succ, List.map_cons, List.map_nil, List.cons_append, List.nil_append, List.replicate, Nat.reduceAdd, Nat.reduceSub, Nat.sub_self, Nat.zero_add, List.zip_cons_cons, List.zip_nil_left, List.zip_nil_right, List.mem_cons, List.not_mem_nil, or_false,
  Option.some.injEq, Option.map_some, Option.map_none, Option.bind_some, Option.isSome_some, exists_eq_left', exists_eq_left, exists_eq_right, exists_eq', exists_eq, true_and, and_true, X.val.injEq, M.v.injEq, M.own.injEq, M.scr.injEq, M.lk.injEq, M.lkF.injEq, M.ownT.injEq, PyData.int.injEq, PyData.bool.injEq, PyData.str.injEq, PyData.tuple.injEq, PyData.list.injEq, PyData.dict.injEq, List.cons.injEq, exists_and_left, reduceCtorEq, Bool.false_eq_true, if_false, if_true, ite_true, ite_false, not_false_eq_true, not_true_eq_false, ne_eq, Int.reduceNeg, Int.reduceAbs, Int.reduceToNat, Int.reduceMul, Nat.reduceEqDiff, Nat.zero_le, Nat.reduceLeDiff, Nat.reduceLT, Int.reduceEq, Int.reduceLT, Int.reduceLE, ex_ite, ex_ite2, ex_map, ex_bind, ex_two, ex_two', isT_tuple_none, isT_tuple_bool, isT_tuple_int, isT_tuple_str, isT_tuple_tuple, isT_tuple_list, isT_tuple_dict, isT_str_none, isT_str_bool, isT_str_int, isT_str_str, isT_str_tuple, isT_str_list, isT_str_dict, isT_int_none, isT_int_bool, isT_int_int, isT_int_str, isT_int_tuple, isT_int_list, isT_int_dict, isT_bool_none, isT_bool_bool, isT_bool_int, isT_bool_str, isT_bool_tuple, isT_bool_list, isT_bool_dict, isT_list_none, isT_list_bool, isT_list_int, isT_list_str, isT_list_tuple, isT_list_list, isT_list_dict, isT_dict_none, isT_dict_bool, isT_dict_int, isT_dict_str, isT_dict_tuple, isT_dict_list, isT_dict_dict, or_true, true_or, or_self, and_self, Bool.not_true, Bool.not_false, Bool.true_eq_false])
/-! ### bits as texts -/
abbrev Bits := List Bool
def bC (b : Bool) : Nat := if b then 49 else 48
def bS (l : Bits) : Str := ⟨(l.map bC).toArray⟩
def dB (l : Bits) : D := .str (bS l)
theorem bS_len (l : Bits) : (bS l).length = l.length := by simp [bS, Str.length]
theorem bC_inj {a b : Bool} (h : bC a = bC b) : a = b := by cases a <;> cases b <;> simp [bC] at h <;> rfl
theorem map_bC_inj : ∀ {a b : Bits}, a.map bC = b.map bC → a = b
  | [], [], _ => rfl
  | [], _ :: _, h => by simp at h
  | _ :: _, [], h => by simp at h
  | a :: as, b :: bs, h => by
    rw [List.map_cons, List.map_cons] at h
    injection h with h1 h2
    rw [bC_inj h1, map_bC_inj h2]
theorem bS_inj {a b : Bits} (h : bS a = bS b) : a = b := by
  have q := congrArg (fun s => s.cps.toList) h
  simp only [bS] at q
  exact map_bC_inj q
theorem bS_eq (a b : Bits) : (bS a = bS b) = (a = b) := propext ⟨bS_inj, fun h => by rw [h]⟩
theorem bS_app (a b : Bits) : bS a ++ bS b = bS (a ++ b) := by
  show Str.mk ((bS a).cps ++ (bS b).cps) = _
  simp [bS]
theorem bS_nil : ("" : Str) = bS [] := by decide +kernel
theorem bS_0 : ("0" : Str) = bS [false] := by decide +kernel
theorem bS_1 : ("1" : Str) = bS [true] := by decide +kernel
theorem bS_cut (l : Bits) (k : Nat) : (⟨(cutL (bS l).cps.toList none (some (k : Int))).toArray⟩ : Str) = bS (l.take k) := by
  unfold bS cutL
  simp only [List.length_map, HT.sIx_none, HT.sIx_nat, List.drop_zero, Nat.sub_zero]
  rw [← List.map_take]
  congr 3
  rw [List.take_eq_take_iff]
  omega
theorem bS_ok (l : Bits) : PySem.PyData.strOk (bS l) = true := by
  simp only [PySem.PyData.strOk, bS, List.all_toArray, List.all_map, List.all_eq_true]
  intro b _
  cases b <;> decide
theorem dB_shaped (l : Bits) : SeqAt.shaped (dB l) = true := by
  unfold SeqAt.shaped dB
  simp only [PyData.canLay0, bS_ok, PyData.depth, Bool.true_and]
  rfl
theorem canLay_dBs : ∀ xs : List Bits, PyData.canLayAll0 (xs.map dB) = true
  | [] => by simp [PyData.canLayAll0]
  | x :: xs => by
    rw [List.map_cons]
    simp only [PyData.canLayAll0, canLay_dBs xs, Bool.and_true]
    simp only [dB, PyData.canLay0, bS_ok]
theorem depth_dBs : ∀ xs : List Bits, PyData.depthAll (xs.map dB) = 0
  | [] => by simp [PyData.depthAll]
  | x :: xs => by
    rw [List.map_cons]
    simp only [PyData.depthAll, depth_dBs xs, dB, PyData.depth]
    rfl
theorem dBs_shaped (xs : List Bits) : SeqAt.shaped (.list (xs.map dB)) = true := by
  unfold SeqAt.shaped
  simp only [PyData.canLay0, canLay_dBs, PyData.depth, depth_dBs, Bool.true_and]
  rfl
theorem nil_shaped : SeqAt.shaped (.list []) = true := dBs_shaped []
theorem eq_nil (xs : List Bits) : pEqB (.list (xs.map dB)) (.list []) = some xs.isEmpty := by
  unfold pEqB
  simp only [dBs_shaped, nil_shaped, and_self, if_true]
  cases xs <;> simp [PyData.eqv, PyData.eqvAll]
theorem eq_dB (a b : Bits) : pEqB (dB a) (dB b) = some (decide (a = b)) := by
  show some (decide (bS a = bS b)) = _
  simp only [bS_eq]
/-! ### two_to, digits_of -/
def S_two_to : ASp := fun ms Q => ∃ n : Nat, n ≤ 60 ∧ ms = [.v (.int n)] ∧ Q (.v (.int (2 ^ n))) ms
theorem ok_two_to (ms : List M) (Qa : M → List M → Prop) (h : S_two_to ms Qa) : B_two_to (endsD [false] ms Qa) (startE 3 ms) := by
  obtain ⟨n, hn, rfl, q⟩ := h
  unfold B_two_to
  walk_at "st"
  refine ⟨by omega, for_rng (lo := 0) (fun i e => ∃ o, e = [some (.v (.int n)), some (.v (.int (2 ^ i))), o]) ⟨_, rfl⟩ ?_ ?_⟩
  · rintro i e N hi ⟨o, rfl⟩ k
    walk_at "st"
    refine k _ ⟨some (.v (.int (0 + (i : Int)))), ?_⟩
    rw [Int.pow_succ]
  · rintro e ⟨o, rfl⟩
    walk_at "st"
    have e1 : ((n : Int)).toNat = n := Int.toNat_natCast n
    rw [e1]
    exact q
/-- the i lowest digits -/
def low : Nat → Nat → Bits
  | 0, _ => []
  | i + 1, n => (n / 2 ^ i % 2 == 1) :: low i n
theorem low_len : ∀ i n, (low i n).length = i
  | 0, _ => rfl
  | i + 1, n => by show (low i n).length + 1 = i + 1; rw [low_len i n]
theorem str_bit (n : Nat) : (toString ((n : Int).fmod 2) : Str) = bS [n % 2 == 1] := by
  rw [Int.fmod_eq_emod_of_nonneg _ (by decide)]
  have h : n % 2 = 0 ∨ n % 2 = 1 := by omega
  rcases h with h | h
  · have e : (n : Int) % 2 = 0 := by omega
    rw [e, h]
    decide +kernel
  · have e : (n : Int) % 2 = 1 := by omega
    rw [e, h]
    decide +kernel
def S_digits_of : ASp := fun ms Q => ∃ n m : Nat, m ≤ 60 ∧ ms = [.v (.int n), .v (.int m)] ∧ Q (.v (dB (low m n))) ms
theorem ok_digits_of (ms : List M) (Qa : M → List M → Prop) (h : S_digits_of ms Qa) : B_digits_of (endsD [false, false] ms Qa) (startE 4 ms) := by
  obtain ⟨n, m, hm, rfl, q⟩ := h
  unfold B_digits_of
  walk_at "st"
  refine ⟨by omega, for_rng (lo := 0) (fun i e => ∃ o, e = [some (.v (.int ((n / 2 ^ i : Nat) : Int))), some (.v (.int m)), some (.v (dB (low i n))), o]) ⟨none, by rw [bS_nil]; simp [low, dB]⟩ ?_ ?_⟩
  · rintro i e N hi ⟨o, rfl⟩ k
    have hi : i < m := by simpa using hi
    unfold dB
    walk_at "st"
    rw [str_bit]
    have hl := low_len i n
    refine ⟨?_, ?_, k _ ⟨some (.v (.int (0 + (i : Int)))), ?_⟩⟩
    · rw [Int.fmod_eq_emod_of_nonneg _ (by decide)]
      have h : (((n / 2 ^ i : Nat) : Int) % 2).natAbs = 0 ∨ (((n / 2 ^ i : Nat) : Int) % 2).natAbs = 1 := by omega
      rcases h with h | h <;> (rw [h]; decide)
    · simp only [bS_len, List.length_cons, List.length_nil]; omega
    · rw [bS_app]
      have e2 : (((n / 2 ^ i : Nat) : Int)).fdiv 2 = ((n / 2 ^ (i + 1) : Nat) : Int) := by
        rw [Int.fdiv_eq_ediv_of_nonneg _ (by decide), Nat.pow_succ, ← Nat.div_div_eq_div_mul]
        omega
      rw [e2]
      rfl
  · rintro e ⟨o, rfl⟩
    walk_at "st"
    have e1 : ((m : Int)).toNat = m := Int.toNat_natCast m
    rw [e1]
    exact q

/-! ### value_by -/
def vbyAt (kvs : List (D × D)) (l : Bits) : Nat → D
  | 0 => (dget kvs (dB (l.take 0))).getD .none
  | k + 1 => match dget kvs (dB (l.take (k + 1))) with
    | some v => v
    | none => vbyAt kvs l k
def vby (kvs : List (D × D)) (l : Bits) : D := vbyAt kvs l l.length
theorem vbyAt_hit {kvs : List (D × D)} {l : Bits} {k : Nat} {v : D} (h : dget kvs (dB (l.take k)) = some v) : vbyAt kvs l k = v := by
  cases k with
  | zero => unfold vbyAt; rw [h]; rfl
  | succ k => unfold vbyAt; rw [h]
def S_value_by : ASp := fun ms Q => ∃ (kvs : List (D × D)) (l : Bits), ms = [.v (.dict kvs), .v (dB l)] ∧ l.length ≤ 100 ∧ Q (.v (vby kvs l)) ms
theorem ok_value_by (ms : List M) (Qa : M → List M → Prop) (h : S_value_by ms Qa) : B_value_by (endsD [false, false] ms Qa) (startE 3 ms) := by
  obtain ⟨kvs, l, rfl, hl, q⟩ := h
  unfold B_value_by dB
  walk_at "st"
  simp only [bS_len]
  refine ⟨by omega, _, _, _, ⟨rfl, rfl, rfl⟩, _, RgC.neg (by omega) (by omega) (by decide) (by decide), ?_⟩
  refine forGo_all (fun i e => (∃ o, e = [some (.v (.dict kvs)), some (.v (.str (bS l))), o]) ∧ vby kvs l = (if i ≤ l.length then vbyAt kvs l (l.length - i) else .none)) ⟨⟨_, rfl⟩, by simp [vby]⟩ ?_ ?_
  · rintro i d e N hi ⟨⟨o, rfl⟩, hv⟩ k
    rw [List.getElem?_map] at hi
    obtain ⟨j, hj, rfl⟩ := Option.map_eq_some_iff.mp hi
    obtain ⟨hlt, ej⟩ := List.getElem?_eq_some_iff.mp hj
    rw [List.getElem_range] at ej
    subst ej
    rw [List.length_range] at hlt
    have hle : i ≤ l.length := by omega
    rw [if_pos hle] at hv
    have ec : (l.length : Int) + (i : Int) * -1 = ((l.length - i : Nat) : Int) := by omega
    walk_at "st"
    rw [ec]
    simp only [bS_cut]
    refine ⟨by rw [bS_len]; omega, ?_⟩
    cases hd : dget kvs (.str (bS (l.take (l.length - i)))) with
    | some v =>
      simp only [Option.isSome_some]
      walk_at "st"
      simp only [bS_cut, hd]
      walk_at "st"
      rw [vbyAt_hit hd] at hv
      rw [hv] at q
      exact ⟨by rw [bS_len]; omega, q⟩
    | none =>
      simp only [Option.isSome_none]
      walk_at "st"
      refine k _ ⟨⟨_, rfl⟩, ?_⟩
      rw [hv]
      by_cases h0 : i = l.length
      · have e0 : l.length - i = 0 := by omega
        rw [e0] at hd ⊢
        rw [if_neg (by omega)]
        unfold vbyAt
        unfold dB
        rw [hd]; rfl
      · rw [if_pos (by omega)]
        have e0 : l.length - i = (l.length - (i + 1)) + 1 := by omega
        rw [e0] at hd ⊢
        unfold vbyAt
        unfold dB
        rw [hd]
        cases hq : l.length - (i + 1) <;> rfl
  · rintro e ⟨⟨o, rfl⟩, hv⟩
    rw [List.length_map, List.length_range, if_neg (by omega)] at hv
    walk_at "st"
    rw [hv] at q
    exact q
end K22
namespace K22
open PySem L2 ML
local macro_rules | `(tactic| walk_at "st") => `(tactic| simp only [aSeq, aAsg, asgX_1, asgX_2, aRet, retX_1, retX_2, aRetF, aRetN, aNext, aDrop, aFor, aV, aVx, slX_1, slX_2, slX_3, slX_4, slX_5, slX_6, aC, a1, a2, aN, aCons, aNil, aB, aAnd, andX_1, andX_2, aOr, orX_1, orX_2, aNot, aAndV, andVX_1, andVX_2, aOrV, orVX_1, orVX_2, aNotV, aIf, ifVX_1, ifVX_2, aTup, aLst, aIfS, ifX_1, ifX_2, aSl, aPart, aNoPart, aPar, parX_1, parX_2, parX_3, aAug, aDAug, aSetI, aMutL, aM1, aIsI, aIsN, aChain, aLc, aYes, aLockO, aDisp, aPairs, aNewK, aNewT, aScrLen, aScrIx, aCall, passL, backL, iR1, iR2, iR3, iAF, iA, iAX_1, iAX_2, iK, iScr, gN, gTupA, gConsA, gNilA, aAsgG, aBreak, aCont, use_1, use_2, useL_1, useL_2, rd, rdM, rdL, frzM, itemsD, startE, endsD, finL, srcFree_1, srcFree_2, srcOk_1, srcOk_2, wipeE, restE,
  pAdd, pSub, pMul, pMod, pFdiv, pNeg, pPow, pShr, pLen, pIx, pSl, pAbs, pInt, pStr, pTuple, pList, pDict, pSorted, pMax, pMin, pSum, pAny, pAll, pIp, pCmp, pEq, pNe, pEqB_ii, pEqB_ss, pIn, pInB, pJoin, pSet, oAppend, oPop, oPopAt, oInsert, oExtend, keyOf,
  List.length_cons, List.length_nil, List.getElem?_cons_zero, List.getElem?_cons_succ, List.set_cons_zero, List.set_cons_succ, List.map_cons, List.map_nil, List.cons_append, List.nil_append, List.replicate, Nat.reduceAdd, Nat.reduceSub, Nat.sub_self, Nat.zero_add, List.zip_cons_cons, List.zip_nil_left, List.zip_nil_right, List.mem_cons, List.not_mem_nil, or_false,
  Option.some.injEq, Option.map_some, Option.map_none, Option.bind_some, Option.isSome_some, exists_eq_left', exists_eq_left, exists_eq_right, exists_eq', exists_eq, true_and, and_true, X.val.injEq, M.v.injEq, M.own.injEq, M.scr.injEq, M.lk.injEq, M.lkF.injEq, M.ownT.injEq, PyData.int.injEq, PyData.bool.injEq, PyData.str.injEq, PyData.tuple.injEq, PyData.list.injEq, PyData.dict.injEq, List.cons.injEq, exists_and_left, reduceCtorEq, Bool.false_eq_true, if_false, if_true, ite_true, ite_false, not_false_eq_true, not_true_eq_false, ne_eq, Int.reduceNeg, Int.reduceAbs, Int.reduceToNat, Int.reduceMul, Nat.reduceEqDiff, Nat.zero_le, Nat.reduceLeDiff, Nat.reduceLT, Int.reduceEq, Int.reduceLT, Int.reduceLE, ex_ite, ex_ite2, ex_map, ex_bind, ex_two, ex_two', isT_tuple_none, isT_tuple_bool, isT_tuple_int, isT_tuple_str, isT_tuple_tuple, isT_tuple_list, isT_tuple_dict, isT_str_none, isT_str_bool, isT_str_int, isT_str_str, isT_str_tuple, isT_str_list, isT_str_dict, isT_int_none, isT_int_bool, isT_int_int, isT_int_str, isT_int_tuple, isT_int_list, isT_int_dict, isT_bool_none, isT_bool_bool, isT_bool_int, isT_bool_str, isT_bool_tuple, isT_bool_list, isT_bool_dict, isT_list_none, isT_list_bool, isT_list_int, isT_list_str, isT_list_tuple, isT_list_list, isT_list_dict, isT_dict_none, isT_dict_bool, isT_dict_int, isT_dict_str, isT_dict_tuple, isT_dict_list, isT_dict_dict, or_true, true_or, or_self, and_self, Bool.not_true, Bool.not_false, Bool.true_eq_false])
/-! ### the values -/
def ValD (d : D) : Prop := d = .none ∨ d = .str "x" ∨ d = .str "y" ∨ d = .str "zz"
/-- equal values -/
def eqD : D → D → Bool
  | .none, .none => true
  | .str a, .str b => decide (a = b)
  | _, _ => false
theorem ne_xy : ¬ (("x" : Str) = "y") := by decide +kernel
theorem eq_vals {d e : D} (h1 : ValD d) (h2 : ValD e) : pEqB d e = some (eqD d e) := by
  rcases h1 with rfl | rfl | rfl | rfl <;> rcases h2 with rfl | rfl | rfl | rfl <;> first
    | rfl
    | (show (if SeqAt.shaped _ = true ∧ SeqAt.shaped _ = true then some (PyData.eqv _ _) else none) = _; rw [if_pos (by decide +kernel)]; simp only [PyData.eqv, eqD])
theorem eqD_eq {d e : D} (h1 : ValD d) (h2 : ValD e) (h : eqD d e = true) : d = e := by
  rcases h1 with rfl | rfl | rfl | rfl <;> rcases h2 with rfl | rfl | rfl | rfl <;> first
    | rfl
    | (exfalso; revert h; decide +kernel)
theorem vbyAt_val {kvs : List (D × D)} (hv : ∀ p ∈ kvs, ValD p.2) (l : Bits) : ∀ k, ValD (vbyAt kvs l k)
  | 0 => by
    unfold vbyAt
    cases e : dget kvs (dB (l.take 0)) with
    | none => exact .inl rfl
    | some v =>
      obtain ⟨p, hp, rfl⟩ := Option.map_eq_some_iff.mp e
      exact hv p (List.mem_of_find?_eq_some hp)
  | k + 1 => by
    unfold vbyAt
    cases e : dget kvs (dB (l.take (k + 1))) with
    | none => exact vbyAt_val hv l k
    | some v =>
      obtain ⟨p, hp, rfl⟩ := Option.map_eq_some_iff.mp e
      exact hv p (List.mem_of_find?_eq_some hp)
theorem vby_val {kvs : List (D × D)} (hv : ∀ p ∈ kvs, ValD p.2) (l : Bits) : ValD (vby kvs l) := vbyAt_val hv l _
/-! ### all bits -/
def wbits : Nat → List Bits
  | 0 => [[]]
  | w + 1 => (wbits w).map (false :: ·) ++ (wbits w).map (true :: ·)
theorem wbits_len : ∀ w l, l ∈ wbits w → l.length = w
  | 0, l, h => by simp [wbits] at h; subst h; rfl
  | w + 1, l, h => by
    simp only [wbits, List.mem_append, List.mem_map] at h
    rcases h with ⟨m, hm, rfl⟩ | ⟨m, hm, rfl⟩ <;> (rw [List.length_cons, wbits_len w m hm])
theorem low_wbits {w : Nat} (h : w ≤ 4) : (List.range (2 ^ w)).map (low w) = wbits w := by
  have q : ∀ w : Fin 5, (List.range (2 ^ w.1)).map (low w.1) = wbits w.1 := by decide +kernel
  exact q ⟨w, by omega⟩
/-! ### same_fronts -/
def sameF (a b : List (D × D)) (w : Nat) : D := match (wbits w).find? fun l => !eqD (vby a l) (vby b l) with
  | some l => dB l
  | none => .none
def S_same_fronts : ASp := fun ms Q => ∃ (a b : List (D × D)) (w : Nat), ms = [.v (.dict a), .v (.dict b), .v (.int w)] ∧ w ≤ 4 ∧ (∀ p ∈ a, ValD p.2) ∧ (∀ p ∈ b, ValD p.2) ∧ Q (.v (sameF a b w)) ms
theorem find_pre {α : Type} {p : α → Bool} {pre post : List α} {x : α} (h : ∀ y ∈ pre, p y = false) (hx : p x = true) : (pre ++ x :: post).find? p = some x := by
  rw [List.find?_append, List.find?_eq_none.mpr (fun y hy => by rw [h y hy]; exact Bool.false_ne_true), List.find?_cons, hx]
  rfl
theorem ok_same_fronts (ms : List M) (Qa : M → List M → Prop) (h : S_same_fronts ms Qa) : B_same_fronts S_two_to S_digits_of S_value_by (endsD [false, false, false] ms Qa) (startE 5 ms) := by
  obtain ⟨a, b, w, rfl, hw, ha, hb, q⟩ := h
  unfold B_same_fronts
  walk_at "st"
  refine ⟨w, by omega, rfl, ?_⟩
  have hp : (2 : Nat) ^ w ≤ 16 := by
    have := Nat.pow_le_pow_right (by decide : 0 < 2) hw
    exact this
  have ep : ((2 : Int) ^ w).toNat = 2 ^ w := by
    have : (2 : Int) ^ w = ((2 ^ w : Nat) : Int) := by simp
    rw [this, Int.toNat_natCast]
  have hp2 : (2 : Int) ^ w ≤ 16 ∧ 0 ≤ (2 : Int) ^ w := by
    have : (2 : Int) ^ w = ((2 ^ w : Nat) : Int) := by simp
    omega
  refine ⟨_, rfl, by omega, ?_⟩
  rw [ep]
  refine for_rng (lo := 0) (fun i e => (∃ o3 o4, e = [some (.v (.dict a)), some (.v (.dict b)), some (.v (.int w)), o3, o4]) ∧ ∀ j < i, eqD (vby a (low w j)) (vby b (low w j)) = true) ⟨⟨_, _, rfl⟩, by simp⟩ ?_ ?_
  · rintro i e N hi ⟨⟨o3, o4, rfl⟩, hs⟩ k
    walk_at "st"
    refine ⟨i, w, by omega, by simp, ?_⟩
    have hl := low_len w i
    walk_at "st"
    refine ⟨a, low w i, rfl, by omega, ?_⟩
    walk_at "st"
    refine ⟨b, low w i, rfl, by omega, ?_⟩
    walk_at "st"
    rw [eq_vals (vby_val ha _) (vby_val hb _)]
    walk_at "st"
    cases he : eqD (vby a (low w i)) (vby b (low w i)) with
    | true =>
      walk_at "st"
      refine k _ ⟨⟨_, _, rfl⟩, fun j hj => ?_⟩
      rcases Nat.lt_succ_iff_lt_or_eq.mp hj with h | rfl
      · exact hs j h
      · exact he
    | false =>
      walk_at "st"
      have : sameF a b w = dB (low w i) := by
        unfold sameF
        rw [← low_wbits hw]
        have er : List.range (2 ^ w) = List.range i ++ i :: (List.range (2 ^ w)).drop (i + 1) := by
          have h1 : (List.range (2 ^ w)).take i = List.range i := by rw [List.take_range]; congr 1; omega
          have h2 : i < (List.range (2 ^ w)).length := by rw [List.length_range]; exact hi
          have h3 := List.drop_eq_getElem_cons h2
          rw [List.getElem_range] at h3
          rw [← h1, ← h3, List.take_append_drop]
        rw [er, List.map_append, List.map_cons, find_pre (x := low w i) (fun y hy => ?_) (by rw [he]; rfl)]
        obtain ⟨j, hj, rfl⟩ := List.mem_map.mp hy
        rw [hs j (List.mem_range.mp hj)]; rfl
      rw [this] at q
      exact q
  · rintro e ⟨⟨o3, o4, rfl⟩, hs⟩
    walk_at "st"
    have : sameF a b w = .none := by
      unfold sameF
      rw [← low_wbits hw, List.find?_eq_none.mpr fun y hy => ?_]
      obtain ⟨j, hj, rfl⟩ := List.mem_map.mp hy
      rw [hs j (List.mem_range.mp hj)]
      exact Bool.false_ne_true
    rw [this] at q
    exact q
/-! ### _law_wide_bits -/
def wb : Nat → List Bits
  | 0 => [[]]
  | w + 1 => (wb w).map (· ++ [false]) ++ (wb w).map (· ++ [true])
def bLe (a b : Bits) : Bool := !decide (b.map bC < a.map bC)
theorem leS_bS (a b : Bits) : leS (bS a) (bS b) = bLe a b := rfl
theorem sort_asc {xs ys : List Bits} (p : xs.Perm ys) (h : xs.Pairwise fun a b => bLe a b = true) : sortS (ys.map bS) = xs.map bS := by
  refine (sorted_unique leS_anti ?_ ?_ (sortS_sorted _)).symm
  · exact (p.map bS).trans (sortBy_perm leS _).symm
  · rw [List.pairwise_map]
    exact h
theorem wb_ok {w : Nat} (h : w ≤ 4) : (wbits w).Perm (wb w) ∧ (wbits w).Pairwise (fun a b => bLe a b = true) ∧ (wb w).length ≤ 16 := by
  have q : ∀ w : Fin 5, ((wbits w.1).isPerm (wb w.1) && decide ((wbits w.1).Pairwise fun a b => bLe a b = true) && decide ((wb w.1).length ≤ 16)) = true := by decide +kernel
  have q := q ⟨w, by omega⟩
  simp only [Bool.and_eq_true, decide_eq_true_eq] at q
  exact ⟨List.isPerm_iff.mp q.1.1, q.1.2, q.2⟩
def S__law_wide_bits : ASp := fun ms Q => ∃ w : Nat, ms = [.v (.int w)] ∧ w ≤ 4 ∧ Q (.own (.list ((wbits w).map dB))) ms
theorem wb_len_le : ∀ {i w : Nat}, i ≤ w → w ≤ 4 → (wb i).length ≤ 16 := fun h1 h2 => (wb_ok (by omega)).2.2
theorem wb_len : ∀ i l, l ∈ wb i → l.length = i
  | 0, l, h => by simp [wb] at h; subst h; rfl
  | i + 1, l, h => by
    simp only [wb, List.mem_append, List.mem_map] at h
    rcases h with ⟨m, hm, rfl⟩ | ⟨m, hm, rfl⟩ <;> (rw [List.length_append, wb_len i m hm]; rfl)
theorem toStrs_dB (xs : List Bits) : toStrs (xs.map dB) = some (xs.map bS) := toStrs_map bS xs
theorem toInts_dB {xs : List Bits} (h : xs ≠ []) : toInts (xs.map dB) = none := by
  cases xs with
  | nil => exact absurd rfl h
  | cons x xs => rfl
theorem ok__law_wide_bits (ms : List M) (Qa : M → List M → Prop) (h : S__law_wide_bits ms Qa) : B__law_wide_bits (endsD [false] ms Qa) (startE 4 ms) := by
  obtain ⟨w, rfl, hw, q⟩ := h
  unfold B__law_wide_bits
  walk_at "st"
  refine ⟨by omega, for_rng (lo := 0) (fun i e => i ≤ w ∧ ∃ o, e = [some (.v (.int w)), some (.own (.list ((wb i).map dB))), o, none]) ⟨Nat.zero_le _, none, by rw [bS_nil]; rfl⟩ ?_ ?_⟩
  · rintro i e N hi ⟨hle, o, rfl⟩ k
    have hi : i < w := by simpa using hi
    have hwb := wb_len_le hle hw
    walk_at "st"
    refine comp_m0 dB (fun l => dB (l ++ [false])) (wb i) rfl (by omega) (fun x hx C1 h1 => ?_) ?_
    · have hx := wb_len i x hx
      unfold dB
      walk_at "st"
      rw [bS_0, bS_app]
      exact ⟨by rw [bS_len, bS_len]; simp; omega, h1 _ rfl⟩
    walk_at "st"
    refine comp_m0 dB (fun l => dB (l ++ [true])) (wb i) rfl (by omega) (fun x hx C1 h1 => ?_) ?_
    · have hx := wb_len i x hx
      unfold dB
      walk_at "st"
      rw [bS_1, bS_app]
      exact ⟨by rw [bS_len, bS_len]; simp; omega, h1 _ rfl⟩
    walk_at "st"
    refine ⟨by simp; omega, k _ ⟨hi, some (.v (.int (0 + (i : Int)))), ?_⟩⟩
    rw [show wb (i + 1) = (wb i).map (· ++ [false]) ++ (wb i).map (· ++ [true]) from rfl, List.map_append, List.map_map, List.map_map]
    rfl
  · rintro e ⟨_, o, rfl⟩
    have e1 : ((w : Int)).toNat = w := Int.toNat_natCast w
    rw [e1]
    obtain ⟨p1, p2, p3⟩ := wb_ok hw
    have hne : wb w ≠ [] := by
      intro h
      rw [h] at p1
      have := p1.length_eq
      have h2 : (wbits w).length ≠ 0 := by
        have q : ∀ w : Fin 5, (wbits w.1).length ≠ 0 := by decide +kernel
        exact q ⟨w, by omega⟩
      exact h2 this
    walk_at "st"
    rw [toInts_dB hne, toStrs_dB]
    walk_at "st"
    refine ⟨by rw [List.length_map]; omega, ?_⟩
    rw [sort_asc p1 p2, List.map_map]
    exact q
end K22
namespace K22
open PySem L2 ML
local macro_rules | `(tactic| walk_at "st") => `(tactic| simp only [aSeq, aAsg, asgX_1, asgX_2, aRet, retX_1, retX_2, aRetF, aRetN, aNext, aDrop, aFor, aV, aVx, slX_1, slX_2, slX_3, slX_4, slX_5, slX_6, aC, a1, a2, aN, aCons, aNil, aB, aAnd, andX_1, andX_2, aOr, orX_1, orX_2, aNot, aAndV, andVX_1, andVX_2, aOrV, orVX_1, orVX_2, aNotV, aIf, ifVX_1, ifVX_2, aTup, aLst, aIfS, ifX_1, ifX_2, aSl, aPart, aNoPart, aPar, parX_1, parX_2, parX_3, aAug, aDAug, aSetI, aMutL, aM1, aIsI, aIsN, aChain, aLc, aYes, aLockO, aDisp, aPairs, aNewK, aNewT, aScrLen, aScrIx, aCall, passL, backL, iR1, iR2, iR3, iAF, iA, iAX_1, iAX_2, iK, iScr, gN, gTupA, gConsA, gNilA, aAsgG, aBreak, aCont, use_1, use_2, useL_1, useL_2, rd, rdM, rdL, frzM, itemsD, startE, endsD, finL, srcFree_1, srcFree_2, srcOk_1, srcOk_2, wipeE, restE,
  pAdd, pSub, pMul, pMod, pFdiv, pNeg, pPow, pShr, pLen, pIx, pSl, pAbs, pInt, pStr, pTuple, pList, pDict, pSorted, pMax, pMin, pSum, pAny, pAll, pIp, pCmp, pEq, pNe, pEqB_ii, pEqB_ss, pIn, pInB, pJoin, pSet, oAppend, oPop, oPopAt, oInsert, oExtend, keyOf,
  List.length_cons, List.length_nil, List.getElem?_cons_zero, List.getElem?_cons_succ, List.set_cons_zero, List.set_cons_succ, List.map_cons, List.map_nil, List.cons_append, List.nil_append, List.replicate, Nat.reduceAdd, Nat.reduceSub, Nat.sub_self, Nat.zero_add, List.zip_cons_cons, List.zip_nil_left, List.zip_nil_right, List.mem_cons, List.not_mem_nil, or_false,
  Option.some.injEq, Option.map_some, Option.map_none, Option.bind_some, Option.isSome_some, exists_eq_left', exists_eq_left, exists_eq_right, exists_eq', exists_eq, true_and, and_true, X.val.injEq, M.v.injEq, M.own.injEq, M.scr.injEq, M.lk.injEq, M.lkF.injEq, M.ownT.injEq, PyData.int.injEq, PyData.bool.injEq, PyData.str.injEq, PyData.tuple.injEq, PyData.list.injEq, PyData.dict.injEq, List.cons.injEq, exists_and_left, reduceCtorEq, Bool.false_eq_true, if_false, if_true, ite_true, ite_false, not_false_eq_true, not_true_eq_false, ne_eq, Int.reduceNeg, Int.reduceAbs, Int.reduceToNat, Int.reduceMul, Nat.reduceEqDiff, Nat.zero_le, Nat.reduceLeDiff, Nat.reduceLT, Int.reduceEq, Int.reduceLT, Int.reduceLE, ex_ite, ex_ite2, ex_map, ex_bind, ex_two, ex_two', isT_tuple_none, isT_tuple_bool, isT_tuple_int, isT_tuple_str, isT_tuple_tuple, isT_tuple_list, isT_tuple_dict, isT_str_none, isT_str_bool, isT_str_int, isT_str_str, isT_str_tuple, isT_str_list, isT_str_dict, isT_int_none, isT_int_bool, isT_int_int, isT_int_str, isT_int_tuple, isT_int_list, isT_int_dict, isT_bool_none, isT_bool_bool, isT_bool_int, isT_bool_str, isT_bool_tuple, isT_bool_list, isT_bool_dict, isT_list_none, isT_list_bool, isT_list_int, isT_list_str, isT_list_tuple, isT_list_list, isT_list_dict, isT_dict_none, isT_dict_bool, isT_dict_int, isT_dict_str, isT_dict_tuple, isT_dict_list, isT_dict_dict, or_true, true_or, or_self, and_self, Bool.not_true, Bool.not_false, Bool.true_eq_false])
/-! ### the fronts of the law: a dict from bits to values -/
def psD (ps : List (Bits × D)) : List (D × D) := ps.map fun p => (dB p.1, p.2)
theorem kq_dB (a b : Bits) : kq1 (dB a) (dB b) = decide (a = b) := by
  show decide (bS a = bS b) = _
  simp only [bS_eq]
theorem dget_psD (ps : List (Bits × D)) (l : Bits) : dget (psD ps) (dB l) = (ps.find? fun p => decide (p.1 = l)).map (·.2) := by
  unfold dget psD
  rw [List.find?_map, Option.map_map]
  have e : ((fun p : D × D => kq1 p.1 (dB l)) ∘ fun p : Bits × D => (dB p.1, p.2)) = fun p : Bits × D => decide (p.1 = l) := funext fun p => kq_dB p.1 l
  rw [e]
  cases ps.find? (fun p => decide (p.1 = l)) <;> rfl
/-- the keys that the bits begin with -/
def ableL (ps : List (Bits × D)) (l : Bits) : List Bits := (ps.filter fun p => decide (l.take p.1.length = p.1)).map (·.1)
theorem mem_able {ps : List (Bits × D)} {l f : Bits} : f ∈ ableL ps l ↔ (∃ v, (f, v) ∈ ps) ∧ l.take f.length = f := by
  unfold ableL
  simp only [List.mem_map, List.mem_filter, decide_eq_true_eq]
  constructor
  · rintro ⟨p, ⟨h1, h2⟩, rfl⟩
    exact ⟨⟨p.2, h1⟩, h2⟩
  · rintro ⟨⟨v, h1⟩, h2⟩
    exact ⟨(f, v), ⟨h1, h2⟩, rfl⟩
theorem dget_some {ps : List (Bits × D)} {l : Bits} : (dget (psD ps) (dB l)).isSome = true ↔ ∃ v, (l, v) ∈ ps := by
  rw [dget_psD, Option.isSome_map]
  constructor
  · intro h
    obtain ⟨p, hp⟩ := Option.isSome_iff_exists.mp h
    have h1 := List.find?_some hp
    have h2 := List.mem_of_find?_eq_some hp
    have h1 : p.1 = l := of_decide_eq_true h1
    exact ⟨p.2, h1 ▸ h2⟩
  · rintro ⟨v, h⟩
    rw [List.find?_isSome]
    exact ⟨(l, v), h, decide_eq_true rfl⟩
/-- value_by is the value of the longest of them -/
theorem vby_able {ps : List (Bits × D)} {l f : Bits} (hf : f ∈ ableL ps l) (hm : ∀ g ∈ ableL ps l, g.length ≤ f.length) : dget (psD ps) (dB f) = some (vby (psD ps) l) := by
  obtain ⟨⟨v, hv⟩, ht⟩ := mem_able.mp hf
  have hs := dget_some.mpr ⟨v, hv⟩
  obtain ⟨u, hu⟩ := Option.isSome_iff_exists.mp hs
  have hfl : f.length ≤ l.length := by
    have := congrArg List.length ht
    rw [List.length_take] at this
    omega
  -- from above nothing is found ahead of f's length
  have go : ∀ k, f.length ≤ k → k ≤ l.length → vbyAt (psD ps) l k = u := by
    intro k
    induction k with
    | zero =>
      intro h _
      have e0 : f.length = 0 := by omega
      refine vbyAt_hit ?_
      rw [← e0, ht]; exact hu
    | succ k ih =>
      intro h h2
      by_cases e : f.length = k + 1
      · refine vbyAt_hit ?_
        rw [← e, ht]; exact hu
      · have hn : dget (psD ps) (dB (l.take (k + 1))) = none := by
          cases q : dget (psD ps) (dB (l.take (k + 1))) with
          | none => rfl
          | some w =>
            exfalso
            have q' : (dget (psD ps) (dB (l.take (k + 1)))).isSome = true := by rw [q]; rfl
            have hlen : (l.take (k + 1)).length = k + 1 := by rw [List.length_take]; omega
            have := hm (l.take (k + 1)) (mem_able.mpr ⟨dget_some.mp q', by rw [hlen]⟩)
            omega
        unfold vbyAt
        rw [hn]
        exact ih (by omega) (by omega)
  unfold vby
  rw [go l.length hfl (Nat.le_refl _)]
  exact hu
theorem vby_none {ps : List (Bits × D)} {l : Bits} (h : ableL ps l = []) : vby (psD ps) l = .none := by
  have go : ∀ k, k ≤ l.length → vbyAt (psD ps) l k = .none := by
    intro k
    have hn : ∀ k, k ≤ l.length → dget (psD ps) (dB (l.take k)) = none := fun k hk => by
      cases q : dget (psD ps) (dB (l.take k)) with
      | none => rfl
      | some w =>
        exfalso
        have q' : (dget (psD ps) (dB (l.take k))).isSome = true := by rw [q]; rfl
        have hlen : (l.take k).length = k := by rw [List.length_take]; omega
        have := mem_able.mpr ⟨dget_some.mp q', by rw [hlen]⟩
        rw [h] at this
        simp at this
    induction k with
    | zero => intro h; unfold vbyAt; rw [hn 0 h]; rfl
    | succ k ih => intro h; unfold vbyAt; rw [hn _ h]; exact ih (by omega)
  exact go _ (Nat.le_refl _)
structure PsOk (n : Nat) (ps : List (Bits × D)) : Prop where
  len : ps.length ≤ n
  keys : ∀ p ∈ ps, p.1.length ≤ 10
  vals : ∀ p ∈ ps, ValD p.2
def S__law_value : ASp := fun ms Q => ∃ (ps : List (Bits × D)) (l : Bits), ms = [.own (.dict (psD ps)), .v (dB l)] ∧ PsOk 20 ps ∧ l.length ≤ 100 ∧ Q (.v (vby (psD ps) l)) ms
theorem keys_psD (ps : List (Bits × D)) : (psD ps).map (·.1) = ps.map fun p => dB p.1 := by unfold psD; rw [List.map_map]; rfl
theorem ok__law_value (ms : List M) (Qa : M → List M → Prop) (h : S__law_value ms Qa) : B__law_value (endsD [true, false] ms Qa) (startE 6 ms) := by
  obtain ⟨ps, l, rfl, hp, hl, q⟩ := h
  unfold B__law_value dB
  walk_at "st"
  intro o
  rw [keys_psD]
  refine comp_fm0 (fun p : Bits × D => dB p.1) (fun p => decide (l.take p.1.length = p.1)) (fun p => dB p.1) ps rfl (by have := hp.len; omega) (fun p hpp C1 C2 h1 h2 => ?_) ?_
  · unfold dB
    walk_at "st"
    simp only [bS_len, bS_cut, bS_eq]
    have := hp.keys p hpp
    refine ⟨by omega, by omega, ite_dec (fun c => h1 (decide_eq_true c) _ rfl) (fun c => h2 (decide_eq_false c) _ rfl)⟩
  walk_at "st"
  have eA : (ps.filter fun p => decide (l.take p.1.length = p.1)).map (fun p => dB p.1) = (ableL ps l).map dB := by unfold ableL; rw [List.map_map]; rfl
  rw [eA]
  have lA : (ableL ps l).length ≤ 20 := by
    unfold ableL
    rw [List.length_map]
    exact Nat.le_trans (List.length_filter_le _ _) hp.len
  have kA : ∀ f ∈ ableL ps l, f.length ≤ 10 := fun f hf => by
    obtain ⟨⟨v, hv⟩, _⟩ := mem_able.mp hf
    exact hp.keys _ hv
  by_cases hne : ableL ps l = []
  · have ev := vby_none hne
    rw [hne]
    refine ⟨rfl, ?_⟩
    walk_at "st"
    have e0 : pEqB (.list []) (.list []) = some true := eq_nil []
    rw [e0]
    walk_at "st"
    rw [ev] at q
    exact q
  · generalize hA : ableL ps l = A at lA kA hne
    obtain ⟨mx, hmx⟩ : ∃ mx, maxI (A.map fun f => (f.length : Int)) = some mx := by
      cases A with
      | nil => exact absurd rfl hne
      | cons a A => exact ⟨_, rfl⟩
    refine comp_fm0 dB (fun f => decide ((f.length : Int) = mx)) dB A rfl (by omega) (fun f hf C1 C2 h1 h2 => ?_) ?_
    · unfold dB
      walk_at "st"
      refine ⟨by rw [bS_len]; have := kA f hf; omega, comp_m0 dB (fun g => .int g.length) A rfl (by omega) (fun g hg C1 k1 => ?_) ?_⟩
      · unfold dB
        walk_at "st"
        rw [bS_len]
        exact ⟨by have := kA g hg; omega, k1 _ rfl⟩
      · refine ⟨A.map fun f => (f.length : Int), ?_, mx, hmx, ?_⟩
        · exact toInts_map (fun g : Bits => (g.length : Int)) A
        · rw [bS_len]
          walk_at "st"
          exact ite_dec (fun c => h1 (decide_eq_true c) _ rfl) (fun c => h2 (decide_eq_false c) _ rfl)
    · obtain ⟨mem, top⟩ := maxI_spec hmx
      obtain ⟨f0, hf0, e0⟩ := List.mem_map.mp mem
      have hm0 : f0 ∈ A.filter fun f => decide ((f.length : Int) = mx) := List.mem_filter.mpr ⟨hf0, decide_eq_true e0⟩
      cases hF : A.filter fun f => decide ((f.length : Int) = mx) with
      | nil => rw [hF] at hm0; exact absurd hm0 List.not_mem_nil
      | cons f1 fs =>
        have hm1 : f1 ∈ A.filter fun f => decide ((f.length : Int) = mx) := by rw [hF]; exact List.mem_cons_self
        obtain ⟨hf1, e1⟩ := List.mem_filter.mp hm1
        have e1 := of_decide_eq_true e1
        have hg : dget (psD ps) (dB f1) = some (vby (psD ps) l) := by
          subst hA
          refine vby_able hf1 fun g hg => ?_
          have := top _ (List.mem_map.mpr ⟨g, hg, rfl⟩)
          omega
        walk_at "st"
        rw [eq_nil]
        have ee : A.isEmpty = false := by cases A with
          | nil => exact absurd rfl hne
          | cons => rfl
        rw [ee]
        walk_at "st"
        refine ⟨dB f1, by exact atI_nat (j := 0) rfl, .v (vby (psD ps) l), ?_, q⟩
        show Option.map M.v (dget (psD ps) (dB f1)) = _
        rw [hg]; rfl
end K22
namespace K22
open PySem L2 ML
local macro_rules | `(tactic| walk_at "st") => `(tactic| simp only [aSeq, aAsg, asgX_1, asgX_2, aRet, retX_1, retX_2, aRetF, aRetN, aNext, aDrop, aFor, aV, aVx, slX_1, slX_2, slX_3, slX_4, slX_5, slX_6, aC, a1, a2, aN, aCons, aNil, aB, aAnd, andX_1, andX_2, aOr, orX_1, orX_2, aNot, aAndV, andVX_1, andVX_2, aOrV, orVX_1, orVX_2, aNotV, aIf, ifVX_1, ifVX_2, aTup, aLst, aIfS, ifX_1, ifX_2, aSl, aPart, aNoPart, aPar, parX_1, parX_2, parX_3, aAug, aDAug, aSetI, aMutL, aM1, aIsI, aIsN, aChain, aLc, aYes, aLockO, aDisp, aPairs, aNewK, aNewT, aScrLen, aScrIx, aCall, passL, backL, iR1, iR2, iR3, iAF, iA, iAX_1, iAX_2, iK, iScr, gN, gTupA, gConsA, gNilA, aAsgG, aBreak, aCont, use_1, use_2, useL_1, useL_2, rd, rdM, rdL, frzM, itemsD, startE, endsD, finL, srcFree_1, srcFree_2, srcOk_1, srcOk_2, wipeE, restE,
  pAdd, pSub, pMul, pMod, pFdiv, pNeg, pPow, pShr, pLen, pIx, pSl, pAbs, pInt, pStr, pTuple, pList, pDict, pSorted, pMax, pMin, pSum, pAny, pAll, pIp, pCmp, pEq, pNe, pEqB_ii, pEqB_ss, pIn, pInB, pJoin, pSet, oAppend, oPop, oPopAt, oInsert, oExtend, keyOf,
  List.length_cons, List.length_nil, List.getElem?_cons_zero, List.getElem?_cons_succ, List.set_cons_zero, List.set_cons_succ, List.map_cons, List.map_nil, List.cons_append, List.nil_append, List.replicate, Nat.reduceAdd, Nat.reduceSub, Nat.sub_self, Nat.zero_add, List.zip_cons_cons, List.zip_nil_left, List.zip_nil_right, List.mem_cons, List.not_mem_nil, or_false,
  Option.some.injEq, Option.map_some, Option.map_none, Option.bind_some, Option.isSome_some, exists_eq_left', exists_eq_left, exists_eq_right, exists_eq', exists_eq, true_and, and_true, X.val.injEq, M.v.injEq, M.own.injEq, M.scr.injEq, M.lk.injEq, M.lkF.injEq, M.ownT.injEq, PyData.int.injEq, PyData.bool.injEq, PyData.str.injEq, PyData.tuple.injEq, PyData.list.injEq, PyData.dict.injEq, List.cons.injEq, exists_and_left, reduceCtorEq, Bool.false_eq_true, if_false, if_true, ite_true, ite_false, not_false_eq_true, not_true_eq_false, ne_eq, Int.reduceNeg, Int.reduceAbs, Int.reduceToNat, Int.reduceMul, Nat.reduceEqDiff, Nat.zero_le, Nat.reduceLeDiff, Nat.reduceLT, Int.reduceEq, Int.reduceLT, Int.reduceLE, ex_ite, ex_ite2, ex_map, ex_bind, ex_two, ex_two', isT_tuple_none, isT_tuple_bool, isT_tuple_int, isT_tuple_str, isT_tuple_tuple, isT_tuple_list, isT_tuple_dict, isT_str_none, isT_str_bool, isT_str_int, isT_str_str, isT_str_tuple, isT_str_list, isT_str_dict, isT_int_none, isT_int_bool, isT_int_int, isT_int_str, isT_int_tuple, isT_int_list, isT_int_dict, isT_bool_none, isT_bool_bool, isT_bool_int, isT_bool_str, isT_bool_tuple, isT_bool_list, isT_bool_dict, isT_list_none, isT_list_bool, isT_list_int, isT_list_str, isT_list_tuple, isT_list_list, isT_list_dict, isT_dict_none, isT_dict_bool, isT_dict_int, isT_dict_str, isT_dict_tuple, isT_dict_list, isT_dict_dict, or_true, true_or, or_self, and_self, Bool.not_true, Bool.not_false, Bool.true_eq_false])
/-! ### numbers of bits -/
theorem strD_bS (l : Bits) : strD (bS l) = l.map fun b => dB [b] := by
  unfold strD bS
  rw [List.map_map]
  refine List.map_congr_left fun b _ => ?_
  rfl
def bI (b : Bool) : Int := if b then 1 else 0
def numF (l : Bits) : Int := l.foldl (fun a b => 2 * a + bI b) 0
theorem numF_snoc (l : Bits) (b : Bool) : numF (l ++ [b]) = 2 * numF l + bI b := by unfold numF; rw [List.foldl_append]; rfl
def S__law_number : ASp := fun ms Q => ∃ l : Bits, ms = [.v (dB l)] ∧ l.length ≤ 1000 ∧ Q (.v (.int (numF l))) ms
theorem ok__law_number (ms : List M) (Qa : M → List M → Prop) (h : S__law_number ms Qa) : B__law_number (endsD [false] ms Qa) (startE 3 ms) := by
  obtain ⟨l, rfl, hl, q⟩ := h
  unfold B__law_number dB
  walk_at "st"
  rw [strD_bS]
  refine for_map (fun pre e => ∃ o, e = [some (.v (.str (bS l))), some (.v (.int (numF pre))), o]) ⟨_, rfl⟩ (fun pre x post e N hx p k => ?_) (fun e p => ?_)
  · obtain ⟨o, rfl⟩ := p
    unfold dB
    walk_at "st"
    refine k _ ⟨some (.v (.str (bS [x]))), ?_⟩
    rw [numF_snoc, bS_1]
    simp only [bS_eq]
    cases x <;> rfl
  · obtain ⟨o, rfl⟩ := p
    walk_at "st"
    exact q
/-! ### range_below -/
def rbl (lo hi : Int) : Nat → Bits → List Bits
  | 0, f => if lo ≤ numF f ∧ numF f ≤ hi then [f] else []
  | n + 1, f => if lo ≤ numF f * 2 ^ (n + 1) ∧ numF f * 2 ^ (n + 1) + 2 ^ (n + 1) - 1 ≤ hi then [f] else if numF f * 2 ^ (n + 1) > hi ∨ numF f * 2 ^ (n + 1) + 2 ^ (n + 1) - 1 < lo then [] else
    rbl lo hi n (f ++ [false]) ++ rbl lo hi n (f ++ [true])
theorem rbl_len (lo hi : Int) : ∀ n f, (rbl lo hi n f).length ≤ 2 ^ n
  | 0, f => by unfold rbl; split <;> simp
  | n + 1, f => by
    have h1 := rbl_len lo hi n (f ++ [false])
    have h2 := rbl_len lo hi n (f ++ [true])
    have h3 : 0 < 2 ^ n := Nat.pow_pos (by decide)
    unfold rbl
    rw [Nat.pow_succ]
    split
    · simp; omega
    · split
      · simp
      · rw [List.length_append]; omega
def rbT (lo hi : Int) : Nat → Bits → List Bits
  | 0, _ => []
  | m + 1, f => rbl lo hi m (f ++ [false]) ++ rbl lo hi m (f ++ [true])
theorem rbl_eq (lo hi : Int) (n : Nat) (f : Bits) : rbl lo hi n f = if lo ≤ numF f * 2 ^ n ∧ numF f * 2 ^ n + 2 ^ n - 1 ≤ hi then [f] else if numF f * 2 ^ n > hi ∨ numF f * 2 ^ n + 2 ^ n - 1 < lo then [] else rbT lo hi n f := by
  cases n with
  | zero =>
    show (if lo ≤ numF f ∧ numF f ≤ hi then [f] else []) = _
    have e : numF f * 2 ^ 0 = numF f := by rw [Int.pow_zero, Int.mul_one]
    rw [e]
    by_cases c : lo ≤ numF f ∧ numF f ≤ hi
    · rw [if_pos c, if_pos (by simp; omega)]
    · rw [if_neg c, if_neg (by simp; omega), if_pos (by simp; omega)]
  | succ m => rfl
theorem int_bit (x : Bool) : (if (bS [x]).length ≤ 640 then Option.map (fun n => M.v (PyData.int n)) (PySem.intText? (bS [x])) else none) = some (.v (.int (bI x))) := by
  have e : PySem.intText? (bS [x]) = some (bI x) := by cases x <;> decide +kernel
  rw [if_pos (by rw [bS_len]; simp), e]; rfl
def S_rb (n : Nat) : ASp := fun ms Q => ∃ (lo hi : Int) (f : Bits), ms = [.v (.int lo), .v (.int hi), .v (dB f), .v (.int ((f.length + n : Nat) : Int))] ∧ f.length + n ≤ 4 ∧ Q (.own (.list ((rbl lo hi n f).map dB))) ms
theorem ok_rb (n : Nat) (S : ASp) (hS : ∀ m, n = m + 1 → ∀ ms Q, S_rb m ms Q → S ms Q) (ms : List M) (Qa : M → List M → Prop) (h : S_rb n ms Qa) : B_range_below S_two_to S (endsD [false, false, false, false] ms Qa) (startE 7 ms) := by
  obtain ⟨lo, hi, f, rfl, hn, q⟩ := h
  unfold B_range_below dB
  walk_at "st"
  rw [strD_bS]
  refine for_map (fun pre e => ∃ o, e = [some (.v (.int lo)), some (.v (.int hi)), some (.v (.str (bS f))), some (.v (.int ((f.length + n : Nat) : Int))), some (.v (.int (numF pre))), o, none]) ⟨_, rfl⟩ (fun pre x post e N hx p k => ?_) (fun e p => ?_)
  · obtain ⟨o, rfl⟩ := p
    unfold dB
    walk_at "st"
    rw [int_bit]
    walk_at "st"
    refine k _ ⟨some (.v (.str (bS [x]))), ?_⟩
    rw [numF_snoc]
  · obtain ⟨o, rfl⟩ := p
    walk_at "st"
    simp only [bS_len]
    refine ⟨by omega, n, by omega, by congr 3; omega, ?_⟩
    walk_at "st"
    have hp : (1 : Int) ≤ 2 ^ n ∧ (2 : Int) ^ n ≤ 16 := by
      have q : ∀ n : Fin 5, (1 : Int) ≤ 2 ^ n.1 ∧ (2 : Int) ^ n.1 ≤ 16 := by decide +kernel
      exact q ⟨n, by omega⟩
    have e0 : n = 0 → (2 : Int) ^ n = 1 := fun h => by rw [h]; rfl
    have hr := rbl_eq lo hi n f
    generalize (2 : Int) ^ n = p at hp e0 hr ⊢
    generalize numF f * p = a at hr ⊢
    refine ⟨by omega, cut_at (¬ (lo ≤ a ∧ a + p - 1 ≤ hi)) ?_ fun c => ?_⟩
    · walk_at "st"
      by_cases c1 : lo ≤ a
      · rw [decide_eq_true c1]
        walk_at "st"
        refine ifX_d (fun c2 => ?_) (fun c2 => ?_)
        · walk_at "st"
          rw [if_pos ⟨c1, c2⟩] at hr
          rw [hr] at q
          exact q
        · walk_at "st"
          omega
      · rw [decide_eq_false c1]
        walk_at "st"
        omega
    · rw [if_neg c] at hr
      refine cut_at (¬ (a > hi ∨ a + p - 1 < lo)) ?_ fun c' => ?_
      · walk_at "st"
        have fin : (a > hi ∨ a + p - 1 < lo) → Qa (.own (.list [])) [.v (.int lo), .v (.int hi), .v (.str (bS f)), .v (.int ((f.length + n : Nat) : Int))] := fun h => by
          rw [if_pos h] at hr
          rw [hr] at q
          exact q
        by_cases c1 : a > hi
        · rw [decide_eq_true c1]
          walk_at "st"
          exact fin (.inl c1)
        · rw [decide_eq_false c1]
          walk_at "st"
          refine ifX_d (fun c2 => ?_) (fun c2 => ?_)
          · walk_at "st"
            exact fin (.inr c2)
          · walk_at "st"
            omega
      · rw [if_neg c'] at hr
        cases n with
        | zero => have := e0 rfl; omega
        | succ m =>
          have hr : rbl lo hi (m + 1) f = rbl lo hi m (f ++ [false]) ++ rbl lo hi m (f ++ [true]) := hr
          have l1 := rbl_len lo hi m (f ++ [false])
          have l2 := rbl_len lo hi m (f ++ [true])
          have l3 : 2 ^ m ≤ 8 := by
            have q : ∀ n : Fin 4, 2 ^ n.1 ≤ 8 := by decide +kernel
            exact q ⟨m, by omega⟩
          walk_at "st"
          rw [bS_0, bS_app]
          refine ⟨by simp only [bS_len, List.length_singleton]; omega, hS m rfl _ _ ⟨lo, hi, f ++ [false], ?_, by rw [List.length_append, List.length_singleton]; omega, ?_⟩⟩
          · unfold dB
            rw [List.length_append, List.length_singleton]
            congr 6
            omega
          · walk_at "st"
            rw [bS_1, bS_app]
            refine ⟨by simp only [bS_len, List.length_singleton]; omega, hS m rfl _ _ ⟨lo, hi, f ++ [true], ?_, by rw [List.length_append, List.length_singleton]; omega, ?_⟩⟩
            · unfold dB
              rw [List.length_append, List.length_singleton]
              congr 6
              omega
            · walk_at "st"
              rw [hr, List.map_append] at q
              refine ⟨by rw [List.length_map, List.length_map]; omega, q⟩
end K22
namespace K22
open PySem L2 ML
local macro_rules | `(tactic| walk_at "st") => `(tactic| simp only [aSeq, aAsg, asgX_1, asgX_2, aRet, retX_1, retX_2, aRetF, aRetN, aNext, aDrop, aFor, aV, aVx, slX_1, slX_2, slX_3, slX_4, slX_5, slX_6, aC, a1, a2, aN, aCons, aNil, aB, aAnd, andX_1, andX_2, aOr, orX_1, orX_2, aNot, aAndV, andVX_1, andVX_2, aOrV, orVX_1, orVX_2, aNotV, aIf, ifVX_1, ifVX_2, aTup, aLst, aIfS, ifX_1, ifX_2, aSl, aPart, aNoPart, aPar, parX_1, parX_2, parX_3, aAug, aDAug, aSetI, aMutL, aM1, aIsI, aIsN, aChain, aLc, aYes, aLockO, aDisp, aPairs, aNewK, aNewT, aScrLen, aScrIx, aCall, passL, backL, iR1, iR2, iR3, iAF, iA, iAX_1, iAX_2, iK, iScr, gN, gTupA, gConsA, gNilA, aAsgG, aBreak, aCont, use_1, use_2, useL_1, useL_2, rd, rdM, rdL, frzM, itemsD, startE, endsD, finL, srcFree_1, srcFree_2, srcOk_1, srcOk_2, wipeE, restE,
  pAdd, pSub, pMul, pMod, pFdiv, pNeg, pPow, pShr, pLen, pIx, pSl, pAbs, pInt, pStr, pTuple, pList, pDict, pSorted, pMax, pMin, pSum, pAny, pAll, pIp, pCmp, pEq, pNe, pEqB_ii, pEqB_ss, pIn, pInB, pJoin, pSet, oAppend, oPop, oPopAt, oInsert, oExtend, keyOf,
  List.length_cons, List.length_nil, List.getElem?_cons_zero, List.getElem?_cons_succ, List.set_cons_zero, List.set_cons_succ, List.map_cons, List.map_nil, List.cons_append, List.nil_append, List.replicate, Nat.reduceAdd, Nat.reduceSub, Nat.sub_self, Nat.zero_add, List.zip_cons_cons, List.zip_nil_left, List.zip_nil_right, List.mem_cons, List.not_mem_nil, or_false,
  Option.some.injEq, Option.map_some, Option.map_none, Option.bind_some, Option.isSome_some, exists_eq_left', exists_eq_left, exists_eq_right, exists_eq', exists_eq, true_and, and_true, X.val.injEq, M.v.injEq, M.own.injEq, M.scr.injEq, M.lk.injEq, M.lkF.injEq, M.ownT.injEq, PyData.int.injEq, PyData.bool.injEq, PyData.str.injEq, PyData.tuple.injEq, PyData.list.injEq, PyData.dict.injEq, List.cons.injEq, exists_and_left, reduceCtorEq, Bool.false_eq_true, if_false, if_true, ite_true, ite_false, not_false_eq_true, not_true_eq_false, ne_eq, Int.reduceNeg, Int.reduceAbs, Int.reduceToNat, Int.reduceMul, Nat.reduceEqDiff, Nat.zero_le, Nat.reduceLeDiff, Nat.reduceLT, Int.reduceEq, Int.reduceLT, Int.reduceLE, ex_ite, ex_ite2, ex_map, ex_bind, ex_two, ex_two', isT_tuple_none, isT_tuple_bool, isT_tuple_int, isT_tuple_str, isT_tuple_tuple, isT_tuple_list, isT_tuple_dict, isT_str_none, isT_str_bool, isT_str_int, isT_str_str, isT_str_tuple, isT_str_list, isT_str_dict, isT_int_none, isT_int_bool, isT_int_int, isT_int_str, isT_int_tuple, isT_int_list, isT_int_dict, isT_bool_none, isT_bool_bool, isT_bool_int, isT_bool_str, isT_bool_tuple, isT_bool_list, isT_bool_dict, isT_list_none, isT_list_bool, isT_list_int, isT_list_str, isT_list_tuple, isT_list_list, isT_list_dict, isT_dict_none, isT_dict_bool, isT_dict_int, isT_dict_str, isT_dict_tuple, isT_dict_list, isT_dict_dict, or_true, true_or, or_self, and_self, Bool.not_true, Bool.not_false, Bool.true_eq_false])
/-! ### the law's fewest fronts -/
def ins (f : Bits) : List Bits → List Bits
  | [] => [f]
  | g :: r => if bLe f g then f :: g :: r else g :: ins f r
def bSort : List Bits → List Bits
  | [] => []
  | f :: r => ins f (bSort r)
theorem ins_perm (f : Bits) : ∀ r, (ins f r).Perm (f :: r)
  | [] => List.Perm.refl _
  | g :: r => by
    unfold ins
    split
    · exact List.Perm.refl _
    · exact ((ins_perm f r).cons g).trans (List.Perm.swap f g r)
theorem bSort_perm : ∀ r, (bSort r).Perm r
  | [] => List.Perm.refl _
  | f :: r => (ins_perm f _).trans ((bSort_perm r).cons f)
def numsF (w size : Nat) (f : Bits) : List Bits := (wbits w).filter fun l => decide (l.take size = f)
def insideF (lo hi : Int) (w size : Nat) (f : Bits) : Bool := decide (((minI ((numsF w size f).map numF)).getD 0) ≥ lo) && decide (((maxI ((numsF w size f).map numF)).getD 0) ≤ hi)
def aheadF (found : List Bits) (f : Bits) : List Bits := found.filter fun one => decide (f.take one.length = one)
def fwStep (lo hi : Int) (w size : Nat) (found : List Bits) (f : Bits) : List Bits := if insideF lo hi w size f = true ∧ aheadF found f = [] then found ++ [f] else found
def fwRow (lo hi : Int) (w : Nat) (found : List Bits) (size : Nat) : List Bits := (wbits size).foldl (fwStep lo hi w size) found
def fwL (lo hi : Int) (w : Nat) : List Bits := (List.range (w + 1)).foldl (fwRow lo hi w) []
theorem foldl_len {α : Type} {step : List Bits → α → List Bits} (h : ∀ a x, (step a x).length ≤ a.length + 1) : ∀ (xs : List α) a, (xs.foldl step a).length ≤ a.length + xs.length
  | [], a => Nat.le_refl _
  | x :: xs, a => by
    rw [List.foldl_cons, List.length_cons]
    have := foldl_len h xs (step a x)
    have := h a x
    omega
theorem fwStep_len (lo hi : Int) (w size : Nat) (a : List Bits) (f : Bits) : (fwStep lo hi w size a f).length ≤ a.length + 1 := by
  unfold fwStep
  split
  · simp
  · omega
def Short (xs : List Bits) : Prop := ∀ f ∈ xs, f.length ≤ 4
theorem fwStep_short {lo hi : Int} {w size : Nat} {a : List Bits} {f : Bits} (h : Short a) (hf : f.length ≤ 4) : Short (fwStep lo hi w size a f) := by
  unfold fwStep
  split
  · intro g hg
    rcases List.mem_append.mp hg with h' | h'
    · exact h g h'
    · rw [List.mem_singleton.mp h']; exact hf
  · exact h
theorem wbits_many {w : Nat} (h : w ≤ 4) : (wbits w).length = 2 ^ w ∧ (wbits w).length ≤ 16 := by
  have q : ∀ w : Fin 5, (wbits w.1).length = 2 ^ w.1 ∧ (wbits w.1).length ≤ 16 := by decide +kernel
  exact q ⟨w, by omega⟩
theorem numsF_ne {w size : Nat} (hw : w ≤ 4) (hs : size ≤ w) {f : Bits} (hf : f ∈ wbits size) : numsF w size f ≠ [] := by
  have q : ∀ w : Fin 5, ∀ s : Fin 5, s.1 ≤ w.1 → ((wbits s.1).all fun f => !(numsF w.1 s.1 f).isEmpty) = true := by decide +kernel
  have q := List.all_eq_true.mp (q ⟨w, by omega⟩ ⟨size, by omega⟩ hs) f hf
  intro e
  rw [e] at q
  exact absurd q (by decide)
/-- what the ranges' fronts are, all of them looked at -/
def rangeOk (w lo hi : Nat) : Bool :=
  let S := bSort (rbl lo hi w [])
  decide (rbl (lo : Int) (hi : Int) w [] ≠ []) && decide (S.Pairwise fun a b => bLe a b = true) && decide (bSort (fwL lo hi w) = S) && decide (S.length ≤ 16) && decide (fwL (lo : Int) (hi : Int) w ≠ []) && decide (∀ f ∈ S, f.length ≤ 4) &&
    (wbits w).all fun l => decide (((S.filter fun f => decide (l.take f.length = f)).length : Int) = if decide ((lo : Int) ≤ numF l) && decide (numF l ≤ (hi : Int)) then 1 else 0)
theorem range_ok {w lo hi : Nat} (h1 : w ≤ 4) (h2 : lo ≤ hi) (h3 : hi < 2 ^ w) : rangeOk w lo hi = true := by
  have q : ∀ w : Fin 5, ∀ hi : Fin 16, hi.1 < 2 ^ w.1 → ∀ lo : Fin 16, lo.1 ≤ hi.1 → rangeOk w.1 lo.1 hi.1 = true := by decide +kernel
  have h4 : 2 ^ w ≤ 16 := by
    have := wbits_many h1
    omega
  exact q ⟨w, by omega⟩ ⟨hi, by omega⟩ h3 ⟨lo, by omega⟩ h2
def frs (w lo hi : Nat) : List Bits := bSort (rbl lo hi w [])
structure RangeFacts (w lo hi : Nat) : Prop where
  ne : rbl (lo : Int) (hi : Int) w [] ≠ []
  asc : (frs w lo hi).Pairwise fun a b => bLe a b = true
  few : bSort (fwL lo hi w) = frs w lo hi
  len : (frs w lo hi).length ≤ 16
  fne : fwL (lo : Int) (hi : Int) w ≠ []
  short : ∀ f ∈ frs w lo hi, f.length ≤ 4
  cover : ∀ l ∈ wbits w, (((frs w lo hi).filter fun f => decide (l.take f.length = f)).length : Int) = if (decide ((lo : Int) ≤ numF l) && decide (numF l ≤ (hi : Int))) = true then 1 else 0
theorem range_facts {w lo hi : Nat} (h1 : w ≤ 4) (h2 : lo ≤ hi) (h3 : hi < 2 ^ w) : RangeFacts w lo hi := by
  have q := range_ok h1 h2 h3
  unfold rangeOk at q
  simp only [Bool.and_eq_true, decide_eq_true_eq, List.all_eq_true] at q
  obtain ⟨⟨⟨⟨⟨⟨q1, q2⟩, q3⟩, q4⟩, q5⟩, q6⟩, q7⟩ := q
  exact ⟨q1, q2, q3, q4, q5, q6, fun l hl => by
    have := q7 l hl
    simp only [Bool.and_eq_true, decide_eq_true_eq] at this ⊢
    exact this⟩
def S_range_below : ASp := fun ms Q => ∃ (lo hi : Int) (w : Nat), w ≤ 4 ∧ ms = [.v (.int lo), .v (.int hi), .v (dB []), .v (.int w)] ∧ Q (.own (.list ((rbl lo hi w []).map dB))) ms
def S_fronts_of_range : ASp := fun ms Q => ∃ (w lo hi : Nat), w ≤ 4 ∧ lo ≤ hi ∧ hi < 2 ^ w ∧ ms = [.v (.int lo), .v (.int hi), .v (.int w)] ∧ Q (.v (.tuple ((frs w lo hi).map dB))) ms
theorem ok_fronts_of_range (ms : List M) (Qa : M → List M → Prop) (h : S_fronts_of_range ms Qa) : B_fronts_of_range S_range_below (endsD [false, false, false] ms Qa) (startE 3 ms) := by
  obtain ⟨w, lo, hi, h1, h2, h3, rfl, q⟩ := h
  have R := range_facts h1 h2 h3
  unfold B_fronts_of_range
  walk_at "st"
  refine ⟨lo, hi, w, h1, by rw [bS_nil]; rfl, ?_⟩
  walk_at "st"
  rw [toInts_dB R.ne, toStrs_dB]
  walk_at "st"
  have hl := (bSort_perm (rbl lo hi w [])).length_eq
  have hl2 := R.len
  unfold frs at hl2
  refine ⟨by rw [List.length_map]; omega, ?_⟩
  rw [sort_asc (bSort_perm _) R.asc, List.map_map]
  exact q
def S__law_is_cover : ASp := fun ms Q => ∃ (w lo hi : Nat), w ≤ 4 ∧ lo ≤ hi ∧ hi < 2 ^ w ∧ ms = [.v (.tuple ((frs w lo hi).map dB)), .v (.int lo), .v (.int hi), .v (.int w)] ∧ Q (.v (.bool true)) ms
theorem ok__law_is_cover (ms : List M) (Qa : M → List M → Prop) (h : S__law_is_cover ms Qa) : B__law_is_cover S__law_wide_bits S__law_number (endsD [false, false, false, false] ms Qa) (startE 7 ms) := by
  obtain ⟨w, lo, hi, h1, h2, h3, rfl, q⟩ := h
  have R := range_facts h1 h2 h3
  unfold B__law_is_cover
  walk_at "st"
  refine ⟨w, rfl, h1, ?_⟩
  walk_at "st"
  refine for_map (fun pre e => ∃ o4 o5, e = [some (.v (.tuple ((frs w lo hi).map dB))), some (.v (.int lo)), some (.v (.int hi)), some (.v (.int w)), o4, o5, none]) ⟨_, _, rfl⟩ (fun pre x post e N hx p k => ?_) (fun e p => ?_)
  · obtain ⟨o4, o5, rfl⟩ := p
    have hx : x ∈ wbits w := by rw [hx]; simp
    have hxl := wbits_len w x hx
    have hc := R.cover x hx
    have hl := R.len
    generalize hF : frs w lo hi = F at hc hl ⊢
    walk_at "st"
    refine comp_fm0 dB (fun f => decide (x.take f.length = f)) dB F trivial (by omega) (fun f hf C1 C2 k1 k2 => ?_) ?_
    · unfold dB
      walk_at "st"
      simp only [bS_len, bS_cut, bS_eq]
      have hfl := R.short f (by rw [hF]; exact hf)
      exact ⟨by omega, by omega, ite_dec (fun c => k1 (decide_eq_true c) _ rfl) (fun c => k2 (decide_eq_false c) _ rfl)⟩
    · walk_at "st"
      refine ⟨x, rfl, by omega, ?_⟩
      walk_at "st"
      rw [List.length_map, hc]
      subst hF
      refine ite_dec (fun c1 => ?_) (fun c1 => ?_)
      · rw [decide_eq_true c1]
        simp only [Bool.true_and, decide_true, Bool.not_true]
        walk_at "st"
        exact k _ ⟨_, _, rfl⟩
      · rw [decide_eq_false c1]
        simp only [Bool.false_and, Bool.false_eq_true, if_false, decide_true, Bool.not_true]
        walk_at "st"
        exact k _ ⟨_, _, rfl⟩
  · obtain ⟨o4, o5, rfl⟩ := p
    walk_at "st"
    exact q
def S__law_fewest : ASp := fun ms Q => ∃ (w lo hi : Nat), w ≤ 4 ∧ lo ≤ hi ∧ hi < 2 ^ w ∧ ms = [.v (.int lo), .v (.int hi), .v (.int w)] ∧ Q (.v (.tuple ((frs w lo hi).map dB))) ms
theorem fwRow_len {w size : Nat} (h : w ≤ 4) (hs : size ≤ 4) (lo hi : Int) (a : List Bits) : (fwRow lo hi w a size).length ≤ a.length + 16 := by
  have h1 := foldl_len (fwStep_len lo hi w size) (wbits size) a
  have h2 := (wbits_many hs).2
  unfold fwRow
  omega
theorem ok__law_fewest (ms : List M) (Qa : M → List M → Prop) (h : S__law_fewest ms Qa) : B__law_fewest S__law_wide_bits S__law_number (endsD [false, false, false] ms Qa) (startE 10 ms) := by
  obtain ⟨w, lo, hi, h1, h2, h3, rfl, q⟩ := h
  have R := range_facts h1 h2 h3
  unfold B__law_fewest
  walk_at "st"
  refine ⟨by omega, ?_⟩
  refine for_rng (lo := 0) (fun i e => (((List.range i).foldl (fwRow lo hi w) []).length ≤ 16 * i ∧ Short ((List.range i).foldl (fwRow lo hi w) [])) ∧ ∃ o4 o5 o6 o8, e = [some (.v (.int lo)), some (.v (.int hi)), some (.v (.int w)), some (.own (.list (((List.range i).foldl (fwRow lo hi w) []).map dB))), o4, o5, o6, none, o8, none]) ⟨⟨by simp, fun _ h => absurd h List.not_mem_nil⟩, _, _, _, _, rfl⟩ ?_ ?_
  · rintro i e N hi' ⟨⟨hlen, hsh0⟩, o4, o5, o6, o8, rfl⟩ k
    have hi' : i ≤ w := by omega
    rw [List.range_succ, List.foldl_append, List.foldl_cons, List.foldl_nil] at k
    generalize (List.range i).foldl (fwRow lo hi w) [] = found at hlen hsh0 k ⊢
    walk_at "st"
    refine ⟨i, by simp, by omega, ?_⟩
    walk_at "st"
    have hm := (wbits_many (w := i) (by omega)).2
    refine for_map (fun pre e => Short (pre.foldl (fwStep lo hi w i) found) ∧ ∃ o5 o6 o8, e = [some (.v (.int lo)), some (.v (.int hi)), some (.v (.int w)), some (.own (.list ((pre.foldl (fwStep lo hi w i) found).map dB))), some (.v (.int (0 + (i : Int)))), o5, o6, none, o8, none]) ⟨hsh0, _, _, _, rfl⟩ (fun pre x post e N' hx p k' => ?_) (fun e p => ?_)
    · obtain ⟨hsh, o5, o6, o8, rfl⟩ := p
      have hxm : x ∈ wbits i := by rw [hx]; simp
      have hxl := wbits_len i x hxm
      have hpl : pre.length ≤ 16 := by
        rw [hx, List.length_append] at hm
        omega
      have hfl := foldl_len (fwStep_len lo hi w i) pre found
      rw [List.foldl_append, List.foldl_cons, List.foldl_nil] at k'
      generalize pre.foldl (fwStep lo hi w i) found = fnd at hfl hsh k' ⊢
      walk_at "st"
      refine ⟨w, rfl, h1, ?_⟩
      walk_at "st"
      refine comp_fm0 dB (fun l => decide (l.take i = x)) (fun l => .int (numF l)) (wbits w) trivial (by have := (wbits_many h1).2; omega) (fun l hl C1 C2 k1 k2 => ?_) ?_
      · have hll := wbits_len w l hl
        unfold dB
        walk_at "st"
        have ec : (some ((0 : Int) + (i : Int))) = some ((i : Nat) : Int) := by rw [Int.zero_add]
        rw [ec]
        simp only [bS_cut, bS_eq]
        refine ⟨by rw [bS_len]; omega, ite_dec (fun c => ?_) (fun c => k2 (decide_eq_false c) _ rfl)⟩
        refine ⟨l, rfl, by omega, ?_⟩
        walk_at "st"
        exact k1 (decide_eq_true c) _ rfl
      · walk_at "st"
        have hne := numsF_ne h1 hi' hxm
        unfold numsF at hne
        generalize hN : (wbits w).filter (fun l => decide (l.take i = x)) = Nn at hne ⊢
        have hne' : Nn.map numF ≠ [] := fun h => hne (List.map_eq_nil_iff.mp h)
        obtain ⟨mn, hmn⟩ := minI_ex hne'
        obtain ⟨mx, hmx⟩ := maxI_ex hne'
        have hin : insideF lo hi w i x = (decide (mn ≥ (lo : Int)) && decide (mx ≤ (hi : Int))) := by unfold insideF numsF; rw [hN, hmn, hmx]; rfl
        rw [toInts_map]
        refine ⟨_, rfl, mn, hmn, andVX_join (decide (mx ≤ (hi : Int))) (fun _ Q' hq => ?_) ?_⟩
        · walk_at "st"
          rw [toInts_map]
          exact ⟨_, rfl, mx, hmx, hq⟩
        rw [← hin]
        walk_at "st"
        by_cases c1 : insideF lo hi w i x = true
        · rw [c1]
          walk_at "st"
          refine comp_fm0 dB (fun one => decide (x.take one.length = one)) dB fnd rfl (by omega) (fun one hone C1 C2 k1 k2 => ?_) ?_
          · unfold dB
            walk_at "st"
            simp only [bS_len, bS_cut, bS_eq]
            have := hsh one hone
            exact ⟨by omega, by omega, ite_dec (fun c => k1 (decide_eq_true c) _ rfl) (fun c => k2 (decide_eq_false c) _ rfl)⟩
          · walk_at "st"
            have ea : pEqB (.list ((fnd.filter fun one => decide (x.take one.length = one)).map dB)) (.list []) = some (aheadF fnd x).isEmpty := eq_nil _
            rw [ea]
            walk_at "st"
            by_cases c2 : aheadF fnd x = []
            · have ee : (aheadF fnd x).isEmpty = true := by rw [c2]; rfl
              rw [ee]
              walk_at "st"
              have hs := fwStep_short (lo := lo) (hi := hi) (w := w) (size := i) hsh (f := x) (by omega)
              have ef : fwStep lo hi w i fnd x = fnd ++ [x] := by unfold fwStep; rw [if_pos ⟨c1, c2⟩]
              rw [ef] at hs k'
              rw [List.map_append] at k'
              exact ⟨by rw [List.length_map]; omega, k' _ ⟨hs, _, _, _, rfl⟩⟩
            · have ee : (aheadF fnd x).isEmpty = false := by
                cases h : aheadF fnd x with
                | nil => exact absurd h c2
                | cons => rfl
              rw [ee]
              walk_at "st"
              have ef : fwStep lo hi w i fnd x = fnd := by unfold fwStep; rw [if_neg (fun h => c2 h.2)]
              rw [ef] at k'
              exact k' _ ⟨hsh, _, _, _, rfl⟩
        · have c1' : insideF lo hi w i x = false := by simpa using c1
          rw [c1']
          walk_at "st"
          have ef : fwStep lo hi w i fnd x = fnd := by unfold fwStep; rw [if_neg (fun h => c1 h.1)]
          rw [ef] at k'
          exact k' _ ⟨hsh, _, _, _, rfl⟩
    · obtain ⟨hsh, o5, o6, o8, rfl⟩ := p
      refine k _ ⟨⟨?_, hsh⟩, _, _, _, _, rfl⟩
      have := fwRow_len (size := i) h1 (by omega) lo hi found
      omega
  · rintro e ⟨⟨hlen, hsh0⟩, o4, o5, o6, o8, rfl⟩
    have e0 : ((w : Int) + 1).toNat = w + 1 := by omega
    rw [e0] at hlen hsh0 ⊢
    walk_at "st"
    have e1 := toInts_dB R.fne
    unfold fwL at e1
    rw [e1, toStrs_dB]
    walk_at "st"
    have hS := R.few
    have hfl := (bSort_perm (fwL lo hi w)).length_eq
    have hf2 := R.len
    rw [← hS, hfl] at hf2
    unfold fwL at hf2
    refine ⟨by rw [List.length_map]; omega, ?_⟩
    have hasc := R.asc
    rw [← hS] at hasc q
    unfold fwL at hS hasc q
    rw [sort_asc (bSort_perm _) hasc, List.map_map]
    exact q
end K22
namespace K22
open PySem L2 ML
local macro_rules | `(tactic| walk_at "st") => `(tactic| simp only [aSeq, aAsg, asgX_1, asgX_2, aRet, retX_1, retX_2, aRetF, aRetN, aNext, aDrop, aFor, aV, aVx, slX_1, slX_2, slX_3, slX_4, slX_5, slX_6, aC, a1, a2, aN, aCons, aNil, aB, aAnd, andX_1, andX_2, aOr, orX_1, orX_2, aNot, aAndV, andVX_1, andVX_2, aOrV, orVX_1, orVX_2, aNotV, aIf, ifVX_1, ifVX_2, aTup, aLst, aIfS, ifX_1, ifX_2, aSl, aPart, aNoPart, aPar, parX_1, parX_2, parX_3, aAug, aDAug, aSetI, aMutL, aM1, aIsI, aIsN, aChain, aLc, aYes, aLockO, aDisp, aPairs, aNewK, aNewT, aScrLen, aScrIx, aCall, passL, backL, iR1, iR2, iR3, iAF, iA, iAX_1, iAX_2, iK, iScr, gN, gTupA, gConsA, gNilA, aAsgG, aBreak, aCont, use_1, use_2, useL_1, useL_2, rd, rdM, rdL, frzM, itemsD, startE, endsD, finL, srcFree_1, srcFree_2, srcOk_1, srcOk_2, wipeE, restE,
  pAdd, pSub, pMul, pMod, pFdiv, pNeg, pPow, pShr, pLen, pIx, pSl, pAbs, pInt, pStr, pTuple, pList, pDict, pSorted, pMax, pMin, pSum, pAny, pAll, pIp, pCmp, pEq, pNe, pEqB_ii, pEqB_ss, pIn, pInB, pJoin, pSet, oAppend, oPop, oPopAt, oInsert, oExtend, keyOf,
  List.length_cons, List.length_nil, List.getElem?_cons_zero, List.getElem?_cons_succ, List.set_cons_zero, List.set_cons_succ, List.map_cons, List.map_nil, List.cons_append, List.nil_append, List.replicate, Nat.reduceAdd, Nat.reduceSub, Nat.sub_self, Nat.zero_add, List.zip_cons_cons, List.zip_nil_left, List.zip_nil_right, List.mem_cons, List.not_mem_nil, or_false,
  Option.some.injEq, Option.map_some, Option.map_none, Option.bind_some, Option.isSome_some, exists_eq_left', exists_eq_left, exists_eq_right, exists_eq', exists_eq, true_and, and_true, X.val.injEq, M.v.injEq, M.own.injEq, M.scr.injEq, M.lk.injEq, M.lkF.injEq, M.ownT.injEq, PyData.int.injEq, PyData.bool.injEq, PyData.str.injEq, PyData.tuple.injEq, PyData.list.injEq, PyData.dict.injEq, List.cons.injEq, exists_and_left, reduceCtorEq, Bool.false_eq_true, if_false, if_true, ite_true, ite_false, not_false_eq_true, not_true_eq_false, ne_eq, Int.reduceNeg, Int.reduceAbs, Int.reduceToNat, Int.reduceMul, Nat.reduceEqDiff, Nat.zero_le, Nat.reduceLeDiff, Nat.reduceLT, Int.reduceEq, Int.reduceLT, Int.reduceLE, ex_ite, ex_ite2, ex_map, ex_bind, ex_two, ex_two', isT_tuple_none, isT_tuple_bool, isT_tuple_int, isT_tuple_str, isT_tuple_tuple, isT_tuple_list, isT_tuple_dict, isT_str_none, isT_str_bool, isT_str_int, isT_str_str, isT_str_tuple, isT_str_list, isT_str_dict, isT_int_none, isT_int_bool, isT_int_int, isT_int_str, isT_int_tuple, isT_int_list, isT_int_dict, isT_bool_none, isT_bool_bool, isT_bool_int, isT_bool_str, isT_bool_tuple, isT_bool_list, isT_bool_dict, isT_list_none, isT_list_bool, isT_list_int, isT_list_str, isT_list_tuple, isT_list_list, isT_list_dict, isT_dict_none, isT_dict_bool, isT_dict_int, isT_dict_str, isT_dict_tuple, isT_dict_list, isT_dict_dict, or_true, true_or, or_self, and_self, Bool.not_true, Bool.not_false, Bool.true_eq_false])
/-! ### the law's _law_same on equal data -/
theorem eq_nils : pEqB (.list []) (.list []) = some true := by decide +kernel
def SD : Nat → D → Prop
  | _, .none => True
  | _, .bool _ => True
  | _, .int _ => True
  | _, .str _ => True
  | n + 1, .tuple ds => ds.length ≤ 1000000 ∧ ∀ d ∈ ds, SD n d
  | _, _ => False
def S_same (n : Nat) : ASp := fun ms Q => ∃ d, ms = [.v d, .v d] ∧ SD n d ∧ Q (.v (.bool true)) ms
theorem ok_same (n : Nat) (S : ASp) (hS : ∀ m, n = m + 1 → S = S_same m) (ms : List M) (Qa : M → List M → Prop) (h : S_same n ms Qa) : B__law_same S (endsD [false, false] ms Qa) (startE 3 ms) := by
  obtain ⟨d, rfl, hd, q⟩ := h
  unfold B__law_same
  walk_at "st"
  cases d with
  | none =>
    refine cut_seq ?_
    walk_at "st"
    refine cut_seq ?_
    walk_at "st"
    exact q
  | str s =>
    refine cut_seq ?_
    walk_at "st"
    refine cut_seq ?_
    walk_at "st"
    refine cut_seq ?_
    walk_at "st"
    simp only [decide_true]
    exact q
  | int s =>
    refine cut_seq ?_
    walk_at "st"
    refine cut_seq ?_
    walk_at "st"
    refine cut_seq ?_
    walk_at "st"
    refine ⟨true, by decide +kernel, ?_⟩
    walk_at "st"
    simp only [decide_true]
    exact q
  | bool s =>
    refine cut_seq ?_
    walk_at "st"
    refine cut_seq ?_
    walk_at "st"
    refine cut_seq ?_
    walk_at "st"
    refine ⟨true, by decide +kernel, ?_⟩
    walk_at "st"
    exact ⟨true, by cases s <;> decide +kernel, q⟩
  | tuple ds =>
    refine cut_seq ?_
    walk_at "st"
    refine cut_seq ?_
    walk_at "st"
    simp only [decide_true, Bool.not_true]
    cases n with
    | zero => exact hd.elim
    | succ m =>
      cases hS m rfl
      have hl : ds.length ≤ 1000000 := hd.1
      walk_at "st"
      have e0 : ((ds.length : Int)).toNat = ds.length := Int.toNat_natCast _
      rw [e0]
      unfold rngD
      refine ⟨by omega, ?_⟩
      refine comp_fm0 (fun i : Nat => .int (0 + (i : Int))) (fun _ => false) (fun i => .int (0 + (i : Int))) (List.range ds.length) trivial (by rw [List.length_range]; exact hl) (fun i hi C1 C2 k1 k2 => ?_) ?_
      · have hi := List.mem_range.mp hi
        obtain ⟨x, e1, e2⟩ := atI_ok (xs := ds) (i := 0 + (i : Int)) (by omega) (by omega)
        walk_at "st"
        simp only [e1]
        walk_at "st"
        refine ⟨x, rfl, hd.2 x (List.mem_of_getElem? e2), ?_⟩
        walk_at "st"
        exact k2 rfl _ rfl
      · have e3 : (List.range ds.length).filter (fun _ => false) = [] := by simp
        rw [e3]
        walk_at "st"
        rw [eq_nils]
        walk_at "st"
        exact q
  | list _ => cases n <;> exact hd.elim
  | dict _ => cases n <;> exact hd.elim
end K22
namespace K22
open PySem L2 ML
local macro_rules | `(tactic| walk_at "st") => `(tactic| simp only [aSeq, aAsg, asgX_1, asgX_2, aRet, retX_1, retX_2, aRetF, aRetN, aNext, aDrop, aFor, aV, aVx, slX_1, slX_2, slX_3, slX_4, slX_5, slX_6, aC, a1, a2, aN, aCons, aNil, aB, aAnd, andX_1, andX_2, aOr, orX_1, orX_2, aNot, aAndV, andVX_1, andVX_2, aOrV, orVX_1, orVX_2, aNotV, aIf, ifVX_1, ifVX_2, aTup, aLst, aIfS, ifX_1, ifX_2, aSl, aPart, aNoPart, aPar, parX_1, parX_2, parX_3, aAug, aDAug, aSetI, aMutL, aM1, aIsI, aIsN, aChain, aLc, aYes, aLockO, aDisp, aPairs, aNewK, aNewT, aScrLen, aScrIx, aCall, passL, backL, iR1, iR2, iR3, iAF, iA, iAX_1, iAX_2, iK, iScr, gN, gTupA, gConsA, gNilA, aAsgG, aBreak, aCont, use_1, use_2, useL_1, useL_2, rd, rdM, rdL, frzM, itemsD, startE, endsD, finL, srcFree_1, srcFree_2, srcOk_1, srcOk_2, wipeE, restE,
  pAdd, pSub, pMul, pMod, pFdiv, pNeg, pPow, pShr, pLen, pIx, pSl, pAbs, pInt, pStr, pTuple, pList, pDict, pSorted, pMax, pMin, pSum, pAny, pAll, pIp, pCmp, pEq, pNe, pEqB_ii, pEqB_ss, pIn, pInB, pJoin, pSet, oAppend, oPop, oPopAt, oInsert, oExtend, keyOf,
  List.length_cons, List.length_nil, List.getElem?_cons_zero, List.getElem?_cons_succ, List.set_cons_zero, List.set_cons_succ, List.map_cons, List.map_nil, List.cons_append, List.nil_append, List.replicate, Nat.reduceAdd, Nat.reduceSub, Nat.sub_self, Nat.zero_add, List.zip_cons_cons, List.zip_nil_left, List.zip_nil_right, List.mem_cons, List.not_mem_nil, or_false,
  Option.some.injEq, Option.map_some, Option.map_none, Option.bind_some, Option.isSome_some, exists_eq_left', exists_eq_left, exists_eq_right, exists_eq', exists_eq, true_and, and_true, X.val.injEq, M.v.injEq, M.own.injEq, M.scr.injEq, M.lk.injEq, M.lkF.injEq, M.ownT.injEq, PyData.int.injEq, PyData.bool.injEq, PyData.str.injEq, PyData.tuple.injEq, PyData.list.injEq, PyData.dict.injEq, List.cons.injEq, exists_and_left, reduceCtorEq, Bool.false_eq_true, if_false, if_true, ite_true, ite_false, not_false_eq_true, not_true_eq_false, ne_eq, Int.reduceNeg, Int.reduceAbs, Int.reduceToNat, Int.reduceMul, Nat.reduceEqDiff, Nat.zero_le, Nat.reduceLeDiff, Nat.reduceLT, Int.reduceEq, Int.reduceLT, Int.reduceLE, ex_ite, ex_ite2, ex_map, ex_bind, ex_two, ex_two', isT_tuple_none, isT_tuple_bool, isT_tuple_int, isT_tuple_str, isT_tuple_tuple, isT_tuple_list, isT_tuple_dict, isT_str_none, isT_str_bool, isT_str_int, isT_str_str, isT_str_tuple, isT_str_list, isT_str_dict, isT_int_none, isT_int_bool, isT_int_int, isT_int_str, isT_int_tuple, isT_int_list, isT_int_dict, isT_bool_none, isT_bool_bool, isT_bool_int, isT_bool_str, isT_bool_tuple, isT_bool_list, isT_bool_dict, isT_list_none, isT_list_bool, isT_list_int, isT_list_str, isT_list_tuple, isT_list_list, isT_list_dict, isT_dict_none, isT_dict_bool, isT_dict_int, isT_dict_str, isT_dict_tuple, isT_dict_list, isT_dict_dict, or_true, true_or, or_self, and_self, Bool.not_true, Bool.not_false, Bool.true_eq_false])
/-! ### the law's fronts -/
def putP (ps : List (Bits × D)) (l : Bits) (v : D) : List (Bits × D) := if ps.any (fun p => decide (p.1 = l)) = true then ps.map (fun p => if decide (p.1 = l) = true then (p.1, v) else p) else ps ++ [(l, v)]
theorem dput_psD (ps : List (Bits × D)) (l : Bits) (v : D) : dput (psD ps) (dB l) v = psD (putP ps l v) := by
  have e1 : (psD ps).any (fun p => kq1 p.1 (dB l)) = ps.any (fun p => decide (p.1 = l)) := by
    unfold psD
    rw [List.any_map]
    congr 1
    funext p
    exact kq_dB p.1 l
  unfold dput putP
  rw [e1]
  by_cases c : ps.any (fun p => decide (p.1 = l)) = true
  · rw [if_pos c, if_pos c]
    unfold psD
    rw [List.map_map, List.map_map]
    refine List.map_congr_left fun p _ => ?_
    show (if kq1 (dB p.1) (dB l) = true then (dB p.1, v) else (dB p.1, p.2)) = _
    rw [kq_dB]
    by_cases c2 : decide (p.1 = l) = true
    · simp only [Function.comp, c2, if_true]
    · simp only [Function.comp, c2]; rfl
  · rw [if_neg c, if_neg c]
    unfold psD
    rw [List.map_append]
    rfl
theorem putP_ok {n : Nat} {ps : List (Bits × D)} (h : PsOk n ps) {l : Bits} {v : D} (hl : l.length ≤ 10) (hv : ValD v) : PsOk (n + 1) (putP ps l v) := by
  unfold putP
  split
  · refine ⟨by rw [List.length_map]; have := h.len; omega, fun p hp => ?_, fun p hp => ?_⟩
    · obtain ⟨q, hq, rfl⟩ := List.mem_map.mp hp
      have := h.keys q hq
      split <;> exact this
    · obtain ⟨q, hq, rfl⟩ := List.mem_map.mp hp
      have := h.vals q hq
      split
      · exact hv
      · exact this
  · refine ⟨by rw [List.length_append]; have := h.len; simp; omega, fun p hp => ?_, fun p hp => ?_⟩
    · rcases List.mem_append.mp hp with hp | hp
      · exact h.keys p hp
      · rw [List.mem_singleton.mp hp]; exact hl
    · rcases List.mem_append.mp hp with hp | hp
      · exact h.vals p hp
      · rw [List.mem_singleton.mp hp]; exact hv
theorem PsOk.mono {m n : Nat} {ps : List (Bits × D)} (h : PsOk m ps) (l : m ≤ n) : PsOk n ps := ⟨Nat.le_trans h.len l, h.keys, h.vals⟩
theorem slX_W {ds : List Int} {i : Int} {j : Nat} {e : ML.Env} {Q : X → ML.Env → Prop} : slX (Wm ds i) j e Q = Q (.slot j) e := rfl
local macro_rules | `(tactic| walk_at "sd") => `(tactic| (walk_at "st"; repeat (simp only [slX_W]; try walk_at "st")))
theorem bS_cps (a b : Bits) : (bS a).cps ++ (bS b).cps = (bS (a ++ b)).cps := congrArg Str.cps (bS_app a b)
theorem fold_bits : ∀ (l : Bits) (a : Bits), (l.map fun b => bS [b]).foldl (fun acc p => acc ++ (bS []).cps ++ p.cps) (bS a).cps = (bS (a ++ l)).cps
  | [], a => by rw [List.append_nil]; rfl
  | b :: l, a => by
    rw [List.map_cons, List.foldl_cons, bS_cps, bS_cps, List.append_nil, fold_bits l (a ++ [b]), List.append_assoc]
    rfl
theorem join_bits (l : Bits) : Txt.join (bS []) (l.map fun b => bS [b]) = bS l := by
  show (⟨((l.map fun b => bS [b]).drop 1).foldl (fun acc p => acc ++ (bS []).cps ++ p.cps) ((l.map fun b => bS [b]).headD Str.empty).cps⟩ : Str) = bS l
  cases l with
  | nil => rfl
  | cons b l =>
    rw [List.map_cons, List.drop_one, List.tail_cons, List.headD_cons, fold_bits]
    rfl
theorem sum_bits : ∀ l : Bits, ((l.map fun b => bS [b]).map (·.length)).sum = l.length
  | [] => rfl
  | b :: l => by
    rw [List.map_cons, List.map_cons, List.sum_cons, sum_bits l, bS_len, List.length_cons, List.length_cons, List.length_nil]; omega
def S__law_fronts : ASp := fun ms Q => ∃ (ds : List Int) (i : Int) (w : Nat), ms = [Wm ds i, .v (.int w)] ∧ 0 ≤ i ∧ w ≤ 4 ∧ ∀ (ps : List (Bits × D)) (i' : Int), PsOk 6 ps → 0 ≤ i' → Q (.own (.dict (psD ps))) [Wm ds i', .v (.int w)]
theorem ok__law_fronts (ms : List M) (Qa : M → List M → Prop) (h : S__law_fronts ms Qa) : B__law_fronts S__law_next S__law_pick (endsD [true, false] ms Qa) (startE 6 ms) := by
  obtain ⟨ds, i, w, rfl, hi, hw, q⟩ := h
  unfold B__law_fronts
  walk_at "sd"
  refine ⟨ds, i, 7, rfl, hi, by decide, fun r h0 h1 => ?_⟩
  walk_at "sd"
  refine ⟨by omega, for_rng (lo := 0) (fun k e => ∃ ps i' o3 o4, PsOk k ps ∧ 0 ≤ i' ∧ e = [some (Wm ds i'), some (.v (.int w)), some (.own (.dict (psD ps))), o3, o4, none]) ⟨[], i + 1, _, _, ⟨Nat.le_refl _, fun _ h => absurd h List.not_mem_nil, fun _ h => absurd h List.not_mem_nil⟩, by omega, rfl⟩ ?_ ?_⟩
  · rintro k e N hk ⟨ps, i', o3, o4, hps, hi', rfl⟩ kk
    have hk : k < 6 := by omega
    walk_at "sd"
    refine ⟨ds, i', _, rfl, hi', by omega, fun r2 g0 g1 => ?_⟩
    walk_at "sd"
    refine ⟨by omega, comp_inv (fun j acc e => ∃ (l : Bits) (i2 : Int), l.length = j ∧ acc = l.map (fun b => dB [b]) ∧ j ≤ 4 ∧ 0 ≤ i2 ∧ e = [some (Wm ds i2), some (.v (.int w)), some (.own (.dict (psD ps))), some (.v (.int (0 + (k : Int)))), o4, none]) (fun j acc e p => ?_) (fun j d acc e hj p C1 C2 k1 k2 => ?_) (fun acc e p => ?_) ⟨[], i' + 1, rfl, rfl, by omega, by omega, rfl⟩⟩
    · obtain ⟨l, i2, e1, e2, e3, e4, rfl⟩ := p
      exact ⟨trivial, by rw [e2, List.length_map]; omega⟩
    · obtain ⟨l, i2, e1, e2, e3, e4, rfl⟩ := p
      obtain ⟨hj2, rfl⟩ := rng_get hj
      walk_at "sd"
      refine ⟨ds, i2, [.str "0", .str "1"], rfl, e4, by simp, fun x hx => ?_⟩
      walk_at "sd"
      have hb : ∃ b : Bool, x = dB [b] := by
        simp only [List.mem_cons, List.not_mem_nil, or_false] at hx
        rcases hx with rfl | rfl
        · exact ⟨false, by unfold dB; rw [← bS_0]⟩
        · exact ⟨true, by unfold dB; rw [← bS_1]⟩
      obtain ⟨b, rfl⟩ := hb
      exact k1 _ _ ⟨l ++ [b], i2 + 1, by simp; omega, by rw [e2, List.map_append]; rfl, by omega, by omega, rfl⟩
    · obtain ⟨l, i2, e1, e2, e3, e4, rfl⟩ := p
      walk_at "sd"
      have ej : Txt.join (Str.ofString "") (l.map fun b => bS [b]) = bS l := by show Txt.join ("" : Str) _ = _; rw [bS_nil]; exact join_bits l
      have el : (Str.ofString "").length = 0 := by decide +kernel
      subst e2
      refine ⟨l.map fun b => bS [b], toStrs_map (fun b => bS [b]) l, ?_, ?_⟩
      · rw [sum_bits, el, Nat.mul_zero]; omega
      rw [ej]
      refine ⟨ds, i2, _, rfl, e4, by simp, fun x hx => ?_⟩
      walk_at "sd"
      have hx : ValD x := by
        simp only [List.mem_cons, List.not_mem_nil, or_false] at hx
        rcases hx with rfl | rfl | rfl | rfl | rfl
        · exact .inr (.inl rfl)
        · exact .inr (.inr (.inl rfl))
        · exact .inr (.inr (.inr rfl))
        · exact .inr (.inl rfl)
        · exact .inl rfl
      have hp := putP_ok (l := l) (v := x) hps (by omega) hx
      have ep := dput_psD ps l x
      unfold dB at ep
      rw [ep]
      have e9 : (psD ps).length = ps.length := List.length_map _
      have := hps.len
      exact ⟨by omega, kk _ ⟨_, _, _, _, hp, by omega, rfl⟩⟩
  · rintro e ⟨ps, i', o3, o4, hps, hi', rfl⟩
    walk_at "sd"
    exact q ps i' (hps.mono (by omega)) hi'
end K22
namespace K22
open PySem L2 ML
local macro_rules | `(tactic| walk_at "st") => `(tactic| simp only [aSeq, aAsg, asgX_1, asgX_2, aRet, retX_1, retX_2, aRetF, aRetN, aNext, aDrop, aFor, aV, aVx, slX_1, slX_2, slX_3, slX_4, slX_5, slX_6, aC, a1, a2, aN, aCons, aNil, aB, aAnd, andX_1, andX_2, aOr, orX_1, orX_2, aNot, aAndV, andVX_1, andVX_2, aOrV, orVX_1, orVX_2, aNotV, aIf, ifVX_1, ifVX_2, aTup, aLst, aIfS, ifX_1, ifX_2, aSl, aPart, aNoPart, aPar, parX_1, parX_2, parX_3, aAug, aDAug, aSetI, aMutL, aM1, aIsI, aIsN, aChain, aLc, aYes, aLockO, aDisp, aPairs, aNewK, aNewT, aScrLen, aScrIx, aCall, passL, backL, iR1, iR2, iR3, iAF, iA, iAX_1, iAX_2, iK, iScr, gN, gTupA, gConsA, gNilA, aAsgG, aBreak, aCont, use_1, use_2, useL_1, useL_2, rd, rdM, rdL, frzM, itemsD, startE, endsD, finL, srcFree_1, srcFree_2, srcOk_1, srcOk_2, wipeE, restE,
  pAdd, pSub, pMul, pMod, pFdiv, pNeg, pPow, pShr, pLen, pIx, pSl, pAbs, pInt, pStr, pTuple, pList, pDict, pSorted, pMax, pMin, pSum, pAny, pAll, pIp, pCmp, pEq, pNe, pEqB_ii, pEqB_ss, pIn, pInB, pJoin, pSet, oAppend, oPop, oPopAt, oInsert, oExtend, keyOf,
  List.length_cons, List.length_nil, List.getElem?_cons_zero, List.getElem?_cons_succ, List.set_cons_zero, List.set_cons_succ, List.map_cons, List.map_nil, List.cons_append, List.nil_append, List.replicate, Nat.reduceAdd, Nat.reduceSub, Nat.sub_self, Nat.zero_add, List.zip_cons_cons, List.zip_nil_left, List.zip_nil_right, List.mem_cons, List.not_mem_nil, or_false,
  Option.some.injEq, Option.map_some, Option.map_none, Option.bind_some, Option.isSome_some, exists_eq_left', exists_eq_left, exists_eq_right, exists_eq', exists_eq, true_and, and_true, X.val.injEq, M.v.injEq, M.own.injEq, M.scr.injEq, M.lk.injEq, M.lkF.injEq, M.ownT.injEq, PyData.int.injEq, PyData.bool.injEq, PyData.str.injEq, PyData.tuple.injEq, PyData.list.injEq, PyData.dict.injEq, List.cons.injEq, exists_and_left, reduceCtorEq, Bool.false_eq_true, if_false, if_true, ite_true, ite_false, not_false_eq_true, not_true_eq_false, ne_eq, Int.reduceNeg, Int.reduceAbs, Int.reduceToNat, Int.reduceMul, Nat.reduceEqDiff, Nat.zero_le, Nat.reduceLeDiff, Nat.reduceLT, Int.reduceEq, Int.reduceLT, Int.reduceLE, ex_ite, ex_ite2, ex_map, ex_bind, ex_two, ex_two', isT_tuple_none, isT_tuple_bool, isT_tuple_int, isT_tuple_str, isT_tuple_tuple, isT_tuple_list, isT_tuple_dict, isT_str_none, isT_str_bool, isT_str_int, isT_str_str, isT_str_tuple, isT_str_list, isT_str_dict, isT_int_none, isT_int_bool, isT_int_int, isT_int_str, isT_int_tuple, isT_int_list, isT_int_dict, isT_bool_none, isT_bool_bool, isT_bool_int, isT_bool_str, isT_bool_tuple, isT_bool_list, isT_bool_dict, isT_list_none, isT_list_bool, isT_list_int, isT_list_str, isT_list_tuple, isT_list_list, isT_list_dict, isT_dict_none, isT_dict_bool, isT_dict_int, isT_dict_str, isT_dict_tuple, isT_dict_list, isT_dict_dict, or_true, true_or, or_self, and_self, Bool.not_true, Bool.not_false, Bool.true_eq_false])
/-! ### the law -/
local macro_rules | `(tactic| walk_at "sd") => `(tactic| (walk_at "st"; repeat (simp only [slX_W]; try walk_at "st")))
theorem PsOk.all {n : Nat} {ps : List (Bits × D)} (h : PsOk n ps) : ∀ p ∈ psD ps, ValD p.2 := fun p hp => by
  obtain ⟨q, hq, rfl⟩ := List.mem_map.mp hp
  exact h.vals q hq
theorem ValD.sd {d : D} (h : ValD d) : SD 1 d := by
  rcases h with rfl | rfl | rfl | rfl <;> exact trivial
theorem wbits_ne {w : Nat} (h : w ≤ 4) : (wbits w).map dB ≠ [] := fun e => by
  have h1 := (wbits_many h).1
  have h2 := congrArg List.length e
  have h3 : 0 < 2 ^ w := Nat.pow_pos (by decide)
  rw [List.length_map, h1] at h2
  simp only [List.length_nil] at h2
  omega
theorem ok_law (ms : List M) (Qa : M → List M → Prop) (h : aspLaw ms Qa) : B_law S__law_draws S__law_next S__law_fronts S__law_pick S__law_wide_bits (S_same 1) S_value_by S__law_value S_same_fronts S_fronts_of_range S__law_fewest S__law_is_cover (endsD [true] ms Qa) (startE 13 ms) := by
  obtain ⟨ns, rfl, hn, q⟩ := h
  unfold B_law
  walk_at "st"
  refine ⟨ns, 400, rfl, hn, by decide, fun ds => ?_⟩
  walk_at "st"
  refine for_rng (lo := 0) (fun k e => ∃ (i : Int) (o2 o3 o4 o5 o6 o7 o9 o10 o11 o12 : Option M), 0 ≤ i ∧ e = [some (.scr ns), some (Wm ds i), o2, o3, o4, o5, o6, o7, none, o9, o10, o11, o12]) ⟨0, _, _, _, _, _, _, _, _, _, _, by decide, rfl⟩ ?_ ?_
  · rintro k e N hk ⟨i, o2, o3, o4, o5, o6, o7, o9, o10, o11, o12, hi, rfl⟩ kk
    walk_at "sd"
    refine ⟨ds, i, 4, rfl, hi, by decide, fun r h0 h1 => ?_⟩
    walk_at "sd"
    obtain ⟨w, hw⟩ : ∃ w : Nat, (1 : Int) + r = w := ⟨(1 + r).toNat, by omega⟩
    have hw1 : 1 ≤ w ∧ w ≤ 4 := by omega
    rw [hw]
    refine ⟨ds, i + 1, w, rfl, by omega, hw1.2, fun p1 i1 hp1 hi1 => ?_⟩
    walk_at "sd"
    refine ⟨ds, i1, w, rfl, by omega, hw1.2, fun p2 i2 hp2 hi2 => ?_⟩
    walk_at "sd"
    refine cut_by (fun e => ∃ (p2 : List (Bits × D)) (i2 : Int), PsOk 7 p2 ∧ 0 ≤ i2 ∧ e = [some (.scr ns), some (Wm ds i2), some (.v (.int (0 + (k : Int)))), some (.v (.int w)), some (.own (.dict (psD p1))), some (.own (.dict (psD p2))), o6, o7, none, o9, o10, o11, o12]) ?_ ?_
    · walk_at "sd"
      refine ⟨ds, i2, 2, rfl, hi2, by decide, fun r g0 g1 => ?_⟩
      walk_at "sd"
      refine ifX_d (fun c => ?_) (fun c => ?_)
      · walk_at "sd"
        refine ⟨ds, i2 + 1, _, rfl, by omega, by simp, fun x hx => ?_⟩
        walk_at "sd"
        have hx : ValD x := by
          simp only [List.mem_cons, List.not_mem_nil, or_false] at hx
          rcases hx with rfl | rfl
          · exact .inr (.inl rfl)
          · exact .inl rfl
        refine ⟨ds, i2 + 1 + 1, _, rfl, by omega, by omega, fun r g0 g1 => ?_⟩
        walk_at "sd"
        refine ⟨r.toNat, by congr 3; omega, by omega, ?_⟩
        walk_at "sd"
        refine ⟨ds, i2 + 1 + 1 + 1, _, rfl, by omega, wbits_ne (by omega), fun y hy => ?_⟩
        walk_at "sd"
        obtain ⟨l, hl, rfl⟩ := List.mem_map.mp hy
        have hll := wbits_len _ l hl
        have hp := putP_ok (l := l) (v := x) hp1 (by omega) hx
        have ep := dput_psD p1 l x
        have e9 : (psD p1).length = p1.length := List.length_map _
        have := hp1.len
        unfold dB at ep ⊢
        walk_at "sd"
        rw [ep]
        exact ⟨by omega, _, hp, _, by omega, rfl, rfl⟩
      · walk_at "sd"
        exact ⟨p2, hp2.mono (by decide), _, by omega, rfl, rfl⟩
    · clear hp2 hi2 i2 p2
      rintro e ⟨p2, i2, hp2, hi2, rfl⟩
      have vp1 := hp1.all
      have vp2 := hp2.all
      walk_at "sd"
      refine ⟨w, rfl, hw1.2, ?_⟩
      walk_at "sd"
      refine for_map (fun pre e => ∃ (o7 : Option M), e = [some (.scr ns), some (Wm ds i2), some (.v (.int (0 + (k : Int)))), some (.v (.int w)), some (.own (.dict (psD p1))), some (.own (.dict (psD p2))), some (.own (.list ((pre.filter fun l => !eqD (vby (psD p1) l) (vby (psD p2) l)).map dB))), o7, none, o9, o10, o11, o12]) ⟨_, rfl⟩ (fun pre x post e N' hx p k' => ?_) (fun e p => ?_)
      · obtain ⟨o7, rfl⟩ := p
        have hxm : x ∈ wbits w := by rw [hx]; simp
        have hxl := wbits_len w x hxm
        have hm := (wbits_many hw1.2).2
        have hal : (pre.filter fun l => !eqD (vby (psD p1) l) (vby (psD p2) l)).length ≤ 16 := by
          refine Nat.le_trans (List.length_filter_le _ _) ?_
          rw [hx, List.length_append] at hm
          omega
        rw [List.filter_append, List.map_append] at k'
        generalize (pre.filter fun l => !eqD (vby (psD p1) l) (vby (psD p2) l)) = able at hal k' ⊢
        refine cut_seq ?_
        walk_at "sd"
        refine ⟨_, x, rfl, by omega, ?_⟩
        walk_at "sd"
        refine ⟨p1, x, rfl, hp1.mono (by decide), by omega, ?_⟩
        walk_at "sd"
        refine ⟨_, rfl, (vby_val vp1 x).sd, ?_⟩
        walk_at "sd"
        refine ⟨p1, x, rfl, hp1.mono (by decide), by omega, ?_⟩
        walk_at "sd"
        refine ⟨p2, x, rfl, hp2.mono (by decide), by omega, ?_⟩
        walk_at "sd"
        rw [eq_vals (vby_val vp1 x) (vby_val vp2 x)]
        walk_at "sd"
        cases he : eqD (vby (psD p1) x) (vby (psD p2) x) with
        | true =>
          have ef : [x].filter (fun l => !eqD (vby (psD p1) l) (vby (psD p2) l)) = [] := by rw [List.filter_cons, he]; rfl
          rw [ef] at k'
          walk_at "sd"
          exact ⟨by rw [List.length_map]; omega, k' _ ⟨_, rfl⟩⟩
        | false =>
          have ef : [x].filter (fun l => !eqD (vby (psD p1) l) (vby (psD p2) l)) = [x] := by rw [List.filter_cons, he]; rfl
          rw [ef] at k'
          walk_at "sd"
          exact ⟨by rw [List.length_map]; omega, k' _ ⟨_, rfl⟩⟩
      · obtain ⟨o7, rfl⟩ := p
        have hS : sameF (psD p1) (psD p2) w = match ((wbits w).filter fun l => !eqD (vby (psD p1) l) (vby (psD p2) l)).head? with
          | some l => dB l
          | none => .none := by unfold sameF; rw [List.head?_filter]; try (cases (wbits w).find? (fun l => !eqD (vby (psD p1) l) (vby (psD p2) l)) <;> rfl)
        have hls : ∀ l ∈ (wbits w).filter fun l => !eqD (vby (psD p1) l) (vby (psD p2) l), l.length = w := fun l hl => wbits_len w l (List.mem_filter.mp hl |>.1)
        generalize (wbits w).filter (fun l => !eqD (vby (psD p1) l) (vby (psD p2) l)) = A at hS hls ⊢
        refine cut_at True ?_ fun _ => ?_
        · walk_at "sd"
          refine ⟨_, _, w, rfl, hw1.2, vp1, vp2, ?_⟩
          walk_at "sd"
          rw [eq_nil]
          cases A with
          | nil =>
            walk_at "sd"
            simp only [List.isEmpty_nil, Bool.not_true]
            walk_at "sd"
            refine ⟨.none, by rw [hS]; rfl, trivial, ?_⟩
            walk_at "sd"
          | cons f fs =>
            walk_at "sd"
            simp only [List.isEmpty_cons, Bool.not_false]
            walk_at "sd"
            refine ⟨dB f, by exact atI_nat (j := 0) rfl, ?_⟩
            refine ⟨dB f, by rw [hS]; rfl, trivial, ?_⟩
            walk_at "sd"
        walk_at "sd"
        refine ⟨ds, i2, 7, rfl, hi2, by decide, fun r2 g0 g1 => ?_⟩
        walk_at "sd"
        refine ⟨by omega, comp_inv (fun j acc e => ∃ (l : Bits) (i2 : Int), l.length = j ∧ acc = l.map (fun b => dB [b]) ∧ j ≤ 6 ∧ 0 ≤ i2 ∧ e = [some (.scr ns), some (Wm ds i2), some (.v (.int (0 + (k : Int)))), some (.v (.int w)), some (.own (.dict (psD p1))), some (.own (.dict (psD p2))), some (.own (.list (A.map dB))), o7, none, o9, o10, o11, o12]) (fun j acc e p => ?_) (fun j d acc e hj p C1 C2 k1 k2 => ?_) (fun acc e p => ?_) ⟨[], i2 + 1, rfl, rfl, by omega, by omega, rfl⟩⟩
        · obtain ⟨l, i2, e1, e2, e3, e4, rfl⟩ := p
          exact ⟨trivial, by rw [e2, List.length_map]; omega⟩
        · obtain ⟨l, i2, e1, e2, e3, e4, rfl⟩ := p
          obtain ⟨hj2, rfl⟩ := rng_get hj
          walk_at "sd"
          refine ⟨ds, i2, [.str "0", .str "1"], rfl, e4, by simp, fun x hx => ?_⟩
          walk_at "sd"
          have hb : ∃ b : Bool, x = dB [b] := by
            simp only [List.mem_cons, List.not_mem_nil, or_false] at hx
            rcases hx with rfl | rfl
            · exact ⟨false, by unfold dB; rw [← bS_0]⟩
            · exact ⟨true, by unfold dB; rw [← bS_1]⟩
          obtain ⟨b, rfl⟩ := hb
          exact k1 _ _ ⟨l ++ [b], i2 + 1, by simp; omega, by rw [e2, List.map_append]; rfl, by omega, by omega, rfl⟩
        clear hi2 i2
        obtain ⟨l, i2, e1, e2, e3, hi2, rfl⟩ := p
        walk_at "sd"
        have ej : Txt.join (Str.ofString "") (l.map fun b => bS [b]) = bS l := by show Txt.join ("" : Str) _ = _; rw [bS_nil]; exact join_bits l
        have el : (Str.ofString "").length = 0 := by decide +kernel
        subst e2
        refine ⟨l.map fun b => bS [b], toStrs_map (fun b => bS [b]) l, ?_, ?_⟩
        · rw [sum_bits, el, Nat.mul_zero]; omega
        rw [ej]
        refine cut_at True ?_ fun _ => ?_
        · walk_at "sd"
          refine ⟨_, l, rfl, by omega, ?_⟩
          walk_at "sd"
          refine ⟨p1, l, rfl, hp1.mono (by decide), by omega, ?_⟩
          walk_at "sd"
          refine ⟨_, rfl, (vby_val vp1 l).sd, ?_⟩
          walk_at "sd"
        walk_at "sd"
        refine ⟨w, rfl, hw1.2, ?_⟩
        walk_at "sd"
        have hm := wbits_many hw1.2
        rw [List.length_map, hm.1]
        refine ⟨ds, i2, _, rfl, hi2, by have := Nat.pow_pos (n := w) (show 0 < 2 by decide); omega, fun lo l0 l1 => ?_⟩
        walk_at "sd"
        refine ⟨ds, i2 + 1, _, rfl, by omega, by omega, fun dh d0 d1 => ?_⟩
        walk_at "sd"
        obtain ⟨a, rfl⟩ := Int.eq_ofNat_of_zero_le l0
        obtain ⟨b, rfl⟩ := Int.eq_ofNat_of_zero_le d0
        have hab : ((a : Int) + (b : Int)) = ((a + b : Nat) : Int) := by omega
        have hlt : a + b < 2 ^ w := by omega
        rw [hab]
        refine ⟨w, a, a + b, hw1.2, by omega, hlt, rfl, ?_⟩
        walk_at "sd"
        refine ⟨w, a, a + b, hw1.2, by omega, hlt, rfl, ?_⟩
        walk_at "sd"
        refine ⟨_, rfl, ?_, ?_⟩
        · have hl := (range_facts hw1.2 (Nat.le_add_right a b) hlt).len
          refine ⟨by rw [List.length_map]; omega, fun d hd => ?_⟩
          obtain ⟨f, hf, rfl⟩ := List.mem_map.mp hd
          exact trivial
        walk_at "sd"
        refine ⟨w, a, a + b, hw1.2, by omega, hlt, rfl, ?_⟩
        walk_at "sd"
        exact kk _ ⟨_, _, _, _, _, _, _, _, _, _, _, by omega, rfl⟩
  · rintro e ⟨i, o2, o3, o4, o5, o6, o7, o9, o10, o11, o12, hi, rfl⟩
    walk_at "st"
    exact q
end K22
/-! the walks, printed by gen.py -/
namespace K22
open PySem L2 ML
def top (i : Nat) : Stmt := PySem.Challenge.pw_shorthold_k22_fronts_and_their_ranges.main.body.getD i (.Pass ⟨0, 0, 0, 0⟩)
abbrev s_two_to : Stmt := top 1
theorem sc_two_to : FnScope ["n", "found", "_"] ["n"] (defScope s_two_to) := ⟨rfl, rfl, rfl, by decide +kernel, rfl, by decide +kernel, by decide +kernel⟩
theorem W_two_to {Pr : Program} {w : World} {K : PySem.W.Frag} {mg : Str → Option Value} {base : Heap} {k : Nat} {S : ASp} (d : Dfn K mg "two_to" s_two_to ["n"]) (z_range : mg "range" = none)
    (h : ∀ ms Qa, Mds [false] ms → S ms Qa → B_two_to  (endsD [false] ms Qa) (startE 3 ms)) : Cal Pr w K mg base (k + 1) "two_to" ["n"] [false] S := by
  have nd := sc_two_to.nd
  exact cal_mk d sc_two_to rfl fun f cdv A outer s H E hr => ⟨_, B_two_to ,
    (pss_cons (k_set 1 nd pe_int)
    (pss_cons (ps_for PassesOwn.never rfl (pi_range1 rfl z_range (pa_cons (pv 0) pa_nil)) (k_name 2 nd)
    (pss_one (k_set 1 nd (pe_op op_mulU (pv 1) pe_int))))
    (pss_one (ps_ret (pv 1))))),
    (snds_seq (snds_asg (by decide) snd_int)
    (snds_seq (snds_for (by decide) (sndi_R1 (snda_cons snd_v snda_nil)) sndg_name
    (snds_asg (by decide) (snd_2 prim_mul snd_v snd_int)))
    (snds_ret snd_v))), h⟩
abbrev s_digits_of : Stmt := top 2
theorem sc_digits_of : FnScope ["n", "many", "found", "_"] ["n", "many"] (defScope s_digits_of) := ⟨rfl, rfl, rfl, by decide +kernel, rfl, by decide +kernel, by decide +kernel⟩
theorem W_digits_of {Pr : Program} {w : World} {K : PySem.W.Frag} {mg : Str → Option Value} {base : Heap} {k : Nat} {S : ASp} (d : Dfn K mg "digits_of" s_digits_of ["n", "many"]) (z_range : mg "range" = none) (z_str : mg "str" = none)
    (h : ∀ ms Qa, Mds [false, false] ms → S ms Qa → B_digits_of  (endsD [false, false] ms Qa) (startE 4 ms)) : Cal Pr w K mg base (k + 1) "digits_of" ["n", "many"] [false, false] S := by
  have nd := sc_digits_of.nd
  exact cal_mk d sc_digits_of rfl fun f cdv A outer s H E hr => ⟨_, B_digits_of ,
    (pss_cons (k_set 2 nd pe_str)
    (pss_cons (ps_for PassesOwn.never rfl (pi_range1 rfl z_range (pa_cons (pv 1) pa_nil)) (k_name 3 nd)
    (pss_cons (k_set 2 nd (pe_op op_addU (pe_callTy call_str_int (by rfl) z_str (by decide +kernel) (pa_cons (pe_op op_modN (pv 0) pe_int) pa_nil)) (pv 2)))
    (pss_one (k_set 0 nd (pe_op op_fdivN (pv 0) pe_int)))))
    (pss_one (ps_ret (pv 2))))),
    (snds_seq (snds_asg (by decide) snd_str)
    (snds_seq (snds_for (by decide) (sndi_R1 (snda_cons snd_v snda_nil)) sndg_name
    (snds_seq (snds_asg (by decide) (snd_2 prim_add (snd_n prim_str (snda_cons (snd_2 prim_mod snd_v snd_int) snda_nil)) snd_v))
    (snds_asg (by decide) (snd_2 prim_fdiv snd_v snd_int))))
    (snds_ret snd_v))), h⟩
abbrev s_value_by : Stmt := top 4
theorem sc_value_by : FnScope ["fronts", "bits", "k"] ["fronts", "bits"] (defScope s_value_by) := ⟨rfl, rfl, rfl, by decide +kernel, rfl, by decide +kernel, by decide +kernel⟩
theorem W_value_by {Pr : Program} {w : World} {K : PySem.W.Frag} {mg : Str → Option Value} {base : Heap} {k : Nat} {S : ASp} (d : Dfn K mg "value_by" s_value_by ["fronts", "bits"]) (z_range : mg "range" = none) (z_len : mg "len" = none)
    (h : ∀ ms Qa, Mds [false, false] ms → S ms Qa → B_value_by  (endsD [false, false] ms Qa) (startE 3 ms)) : Cal Pr w K mg base (k + 1) "value_by" ["fronts", "bits"] [false, false] S := by
  have nd := sc_value_by.nd
  exact cal_mk d sc_value_by rfl fun f cdv A outer s H E hr => ⟨_, B_value_by ,
    (pss_cons (ps_for PassesOwn.never rfl (pi_range3 rfl z_range (pa_cons (pe_callB call_lenU (by rfl) z_len (by decide +kernel) (pa_cons (pv 1) pa_nil)) (pa_cons (pe_un un_neg pe_int) (pa_cons (pe_un un_neg pe_int) pa_nil)))) (k_name 2 nd)
    (pss_one (ps_if (pt_cmpR (op_inU (hu_of hr)) (pe_slice sl_any (pv 1) po_none (po_some (pv 2))) (pv 0) rfl) (pss_one (ps_ret (pe_ix (ix_any (hu_of hr)) (pv 0) (pe_slice sl_any (pv 1) po_none (po_some (pv 2))) (fun _ _ => rfl)))) pss_nil)))
    (pss_one (ps_ret pe_non))),
    (snds_seq (snds_for (by decide) (sndi_R3 (snda_cons (snd_n prim_len (snda_cons snd_v snda_nil)) (snda_cons (snd_1 prim_neg snd_int) (snda_cons (snd_1 prim_neg snd_int) snda_nil)))) sndg_name
    (snds_if (sndt_test (snd_2 (prim_in (neg := false)) (snd_sl prim_sl snd_v sndo_none (sndo_some snd_v)) snd_v)) (snds_ret (snd_2 prim_ix snd_v (snd_sl prim_sl snd_v sndo_none (sndo_some snd_v)))) snds_next))
    (snds_ret snd_non)), h⟩
abbrev s_same_fronts : Stmt := top 5
theorem sc_same_fronts : FnScope ["one", "other", "wide", "n", "bits"] ["one", "other", "wide"] (defScope s_same_fronts) := ⟨rfl, rfl, rfl, by decide +kernel, rfl, by decide +kernel, by decide +kernel⟩
theorem W_same_fronts {Pr : Program} {w : World} {K : PySem.W.Frag} {mg : Str → Option Value} {base : Heap} {k : Nat} {S : ASp} {S_two_to S_digits_of S_value_by : ASp} (d : Dfn K mg "same_fronts" s_same_fronts ["one", "other", "wide"]) (c_two_to : Cal Pr w K mg base k "two_to" ["n"] [false] S_two_to) (c_digits_of : Cal Pr w K mg base k "digits_of" ["n", "many"] [false, false] S_digits_of) (c_value_by : Cal Pr w K mg base k "value_by" ["fronts", "bits"] [false, false] S_value_by) (z_range : mg "range" = none)
    (h : ∀ ms Qa, Mds [false, false, false] ms → S ms Qa → B_same_fronts S_two_to S_digits_of S_value_by (endsD [false, false, false] ms Qa) (startE 5 ms)) : Cal Pr w K mg base (k + 1) "same_fronts" ["one", "other", "wide"] [false, false, false] S := by
  obtain ⟨a_two_to, d_two_to, F_two_to, m_two_to, p_two_to, b_two_to⟩ := c_two_to.ex
  obtain ⟨a_digits_of, d_digits_of, F_digits_of, m_digits_of, p_digits_of, b_digits_of⟩ := c_digits_of.ex
  obtain ⟨a_value_by, d_value_by, F_value_by, m_value_by, p_value_by, b_value_by⟩ := c_value_by.ex
  have nd := sc_same_fronts.nd
  exact cal_mk d sc_same_fronts rfl fun f cdv A outer s H E hr => ⟨_, B_same_fronts S_two_to S_digits_of S_value_by,
    (pss_cons (ps_for PassesOwn.never rfl (pi_range1 rfl z_range (pa_cons (pe_call F_two_to hr rfl m_two_to p_two_to b_two_to .nil pass0 (pa_cons (pv 2) pa_nil)) pa_nil)) (k_name 3 nd)
    (pss_cons (k_set 4 nd (pe_call F_digits_of hr rfl m_digits_of p_digits_of b_digits_of .nil pass0 (pa_cons (pv 3) (pa_cons (pv 2) pa_nil))))
    (pss_one (ps_if (pt_cmpR (op_neU hr.units) (pe_call F_value_by hr rfl m_value_by p_value_by b_value_by .nil pass0 (pa_cons (pv 0) (pa_cons (pv 4) pa_nil))) (pe_call F_value_by hr rfl m_value_by p_value_by b_value_by .nil pass0 (pa_cons (pv 1) (pa_cons (pv 4) pa_nil))) (nomark _)) (pss_one (ps_ret (pv 4))) pss_nil))))
    (pss_one (ps_ret pe_non))),
    (snds_seq (snds_for (by decide) (sndi_R1 (snda_cons (snd_call (snda_cons snd_v snda_nil)) snda_nil)) sndg_name
    (snds_seq (snds_asg (by decide) (snd_call (snda_cons snd_v (snda_cons snd_v snda_nil))))
    (snds_if (sndt_test (snd_2 prim_ne (snd_call (snda_cons snd_v (snda_cons snd_v snda_nil))) (snd_call (snda_cons snd_v (snda_cons snd_v snda_nil))))) (snds_ret snd_v) snds_next)))
    (snds_ret snd_non)), h⟩
abbrev s_range_below : Stmt := top 6
theorem sc_range_below : FnScope ["low", "high", "front", "wide", "first", "sign", "many"] ["low", "high", "front", "wide"] (defScope s_range_below) := ⟨rfl, rfl, rfl, by decide +kernel, rfl, by decide +kernel, by decide +kernel⟩
theorem W_range_below {Pr : Program} {w : World} {K : PySem.W.Frag} {mg : Str → Option Value} {base : Heap} {k : Nat} {S : ASp} {S_two_to S_range_below : ASp} (d : Dfn K mg "range_below" s_range_below ["low", "high", "front", "wide"]) (c_two_to : Cal Pr w K mg base k "two_to" ["n"] [false] S_two_to) (c_range_below : Cal Pr w K mg base k "range_below" ["low", "high", "front", "wide"] [false, false, false, false] S_range_below) (z_int : mg "int" = none) (z_len : mg "len" = none)
    (h : ∀ ms Qa, Mds [false, false, false, false] ms → S ms Qa → B_range_below S_two_to S_range_below (endsD [false, false, false, false] ms Qa) (startE 7 ms)) : Cal Pr w K mg base (k + 1) "range_below" ["low", "high", "front", "wide"] [false, false, false, false] S := by
  obtain ⟨a_two_to, d_two_to, F_two_to, m_two_to, p_two_to, b_two_to⟩ := c_two_to.ex
  obtain ⟨a_range_below, d_range_below, F_range_below, m_range_below, p_range_below, b_range_below⟩ := c_range_below.ex
  have nd := sc_range_below.nd
  exact cal_mk d sc_range_below rfl fun f cdv A outer s H E hr => ⟨_, B_range_below S_two_to S_range_below,
    (pss_cons (k_set 4 nd pe_int)
    (pss_cons (ps_for PassesOwn.never rfl (pi_any (pv 2)) (k_name 5 nd)
    (pss_one (k_set 4 nd (pe_op op_addU (pe_op op_mulU pe_int (pv 4)) (pe_callTy call_intU (by rfl) z_int (by decide +kernel) (pa_cons (pv 5) pa_nil))))))
    (pss_cons (k_set 6 nd (pe_call F_two_to hr rfl m_two_to p_two_to b_two_to .nil pass0 (pa_cons (pe_op op_sub (pv 3) (pe_callB call_lenU (by rfl) z_len (by decide +kernel) (pa_cons (pv 2) pa_nil))) pa_nil)))
    (pss_cons (k_set 4 nd (pe_op op_mulU (pv 4) (pv 6)))
    (pss_cons (ps_if (PW.pt (pw_and (pt_cmpR op_leU (pv 0) (pv 4) (nomark _)) (pw_and1 (pt_cmpR op_leU (pe_op op_sub (pe_op op_addU (pv 4) (pv 6)) pe_int) (pv 1) (nomark _))))) (pss_one (ps_ret (pe_lst (pa_cons (pv 2) pa_nil)))) pss_nil)
    (pss_cons (ps_if (PW.pt (pw_or (pt_cmpR op_gtU (pv 4) (pv 1) (nomark _)) (pw_or1 (pt_cmpR op_ltU (pe_op op_sub (pe_op op_addU (pv 4) (pv 6)) pe_int) (pv 0) (nomark _))))) (pss_one (ps_ret (pe_lst pa_nil))) pss_nil)
    (pss_one (ps_ret (pe_op op_addU (pe_call F_range_below hr rfl m_range_below p_range_below b_range_below .nil pass0 (pa_cons (pv 0) (pa_cons (pv 1) (pa_cons (pe_op op_addU (pv 2) pe_str) (pa_cons (pv 3) pa_nil))))) (pe_call F_range_below hr rfl m_range_below p_range_below b_range_below .nil pass0 (pa_cons (pv 0) (pa_cons (pv 1) (pa_cons (pe_op op_addU (pv 2) pe_str) (pa_cons (pv 3) pa_nil)))))))))))))),
    (snds_seq (snds_asg (by decide) snd_int)
    (snds_seq (snds_for (by decide) (sndi_AF snd_v) sndg_name
    (snds_asg (by decide) (snd_2 prim_add (snd_2 prim_mul snd_int snd_v) (snd_n prim_int (snda_cons snd_v snda_nil)))))
    (snds_seq (snds_asg (by decide) (snd_call (snda_cons (snd_2 prim_sub snd_v (snd_n prim_len (snda_cons snd_v snda_nil))) snda_nil)))
    (snds_seq (snds_asg (by decide) (snd_2 prim_mul snd_v snd_v))
    (snds_cut (snds_if (sndt_and (sndt_test (snd_2 prim_cmp snd_v snd_v)) (sndt_test (snd_2 prim_cmp (snd_2 prim_sub (snd_2 prim_add snd_v snd_v) snd_int) snd_v))) (snds_ret (snd_lst (snda_cons snd_v snda_nil))) snds_next)
    (snds_cut (snds_if (sndt_or (sndt_test (snd_2 prim_cmp snd_v snd_v)) (sndt_test (snd_2 prim_cmp (snd_2 prim_sub (snd_2 prim_add snd_v snd_v) snd_int) snd_v))) (snds_ret (snd_lst snda_nil)) snds_next)
    (snds_ret (snd_2 prim_add (snd_call (snda_cons snd_v (snda_cons snd_v (snda_cons (snd_2 prim_add snd_v snd_str) (snda_cons snd_v snda_nil))))) (snd_call (snda_cons snd_v (snda_cons snd_v (snda_cons (snd_2 prim_add snd_v snd_str) (snda_cons snd_v snda_nil))))))))))))), h⟩
abbrev s_fronts_of_range : Stmt := top 7
theorem sc_fronts_of_range : FnScope ["low", "high", "wide"] ["low", "high", "wide"] (defScope s_fronts_of_range) := ⟨rfl, rfl, rfl, by decide +kernel, rfl, by decide +kernel, by decide +kernel⟩
theorem W_fronts_of_range {Pr : Program} {w : World} {K : PySem.W.Frag} {mg : Str → Option Value} {base : Heap} {k : Nat} {S : ASp} {S_range_below : ASp} (d : Dfn K mg "fronts_of_range" s_fronts_of_range ["low", "high", "wide"]) (c_range_below : Cal Pr w K mg base k "range_below" ["low", "high", "front", "wide"] [false, false, false, false] S_range_below) (z_tuple : mg "tuple" = none) (z_sorted : mg "sorted" = none)
    (h : ∀ ms Qa, Mds [false, false, false] ms → S ms Qa → B_fronts_of_range S_range_below (endsD [false, false, false] ms Qa) (startE 3 ms)) : Cal Pr w K mg base (k + 1) "fronts_of_range" ["low", "high", "wide"] [false, false, false] S := by
  obtain ⟨a_range_below, d_range_below, F_range_below, m_range_below, p_range_below, b_range_below⟩ := c_range_below.ex
  have nd := sc_fronts_of_range.nd
  exact cal_mk d sc_fronts_of_range rfl fun f cdv A outer s H E hr => ⟨_, B_fronts_of_range S_range_below,
    (pss_one (ps_ret (pe_callTy call_tupleU (by rfl) z_tuple (by decide +kernel) (pa_cons (pe_callB (call_sortedU rfl) (by rfl) z_sorted (by decide +kernel) (pa_cons (pe_call F_range_below hr rfl m_range_below p_range_below b_range_below .nil pass0 (pa_cons (pv 0) (pa_cons (pv 1) (pa_cons pe_str (pa_cons (pv 2) pa_nil))))) pa_nil)) pa_nil)))),
    (snds_ret (snd_n prim_tuple (snda_cons (snd_n prim_sorted (snda_cons (snd_call (snda_cons snd_v (snda_cons snd_v (snda_cons snd_str (snda_cons snd_v snda_nil))))) snda_nil)) snda_nil))), h⟩
abbrev s__law_draws : Stmt := top 9
theorem sc__law_draws : FnScope ["script", "many", "draws", "mixed", "k", "cell", "rest", "turn"] ["script", "many"] (defScope s__law_draws) := ⟨rfl, rfl, rfl, by decide +kernel, rfl, by decide +kernel, by decide +kernel⟩
theorem W__law_draws {Pr : Program} {w : World} {K : PySem.W.Frag} {mg : Str → Option Value} {base : Heap} {k : Nat} {S : ASp} (d : Dfn K mg "_law_draws" s__law_draws ["script", "many"]) (z_range : mg "range" = none) (z_len : mg "len" = none) (z_abs : mg "abs" = none) (z_int : mg "int" = none)
    (h : ∀ ms Qa, Mds [true, false] ms → S ms Qa → B__law_draws  (endsD [true, false] ms Qa) (startE 8 ms)) : Cal Pr w K mg base (k + 1) "_law_draws" ["script", "many"] [true, false] S := by
  have nd := sc__law_draws.nd
  exact cal_mk d sc__law_draws rfl fun f cdv A outer s H E hr => ⟨_, B__law_draws ,
    (pss_cons (k_set 2 nd (pe_lst pa_nil))
    (pss_cons (k_set 3 nd pe_int)
    (pss_cons (ps_for PassesOwn.never rfl (pi_range1 rfl z_range (pa_cons (pe_callB call_lenU (by rfl) z_len (by decide +kernel) (pa_cons (pv 0) pa_nil)) pa_nil)) (k_name 4 nd)
    (pss_cons (k_set 5 nd (pe_callB call_abs (by rfl) z_abs (by decide +kernel) (pa_cons (pe_callTy call_intU (by rfl) z_int (by decide +kernel) (pa_cons (pe_ix (ix_any (hu_of hr)) (pv 0) (pv 4) (fun _ _ => rfl)) pa_nil)) pa_nil)))
    (pss_cons (k_set 3 nd (pe_op op_modN (pe_callTy call_intU (by rfl) z_int (by decide +kernel) (pa_cons (pe_op op_addU (pe_op op_addU (pe_op op_mulU (pv 3) pe_int) (pe_op op_modN (pv 5) pe_int)) (pv 4)) pa_nil)) pe_int))
    (pss_cons (k_set 6 nd pe_int)
    (pss_cons (ps_if (pt_cmpR op_geU (pv 5) (pe_op op_pow pe_int pe_int) (nomark _)) (pss_one (k_set 6 nd (pv 5))) (pss_cons (ps_expr (pe_bm PySem.F.plainAttrs_list PySem.F.slot_list_append PySem.F.type_list_append mt_append (pv 2) (pa_cons (pe_op op_modN (pe_callTy call_intU (by rfl) z_int (by decide +kernel) (pa_cons (pv 5) pa_nil)) pe_int) pa_nil)))
    (pss_one (ps_expr (pe_bm PySem.F.plainAttrs_list PySem.F.slot_list_append PySem.F.type_list_append mt_append (pv 2) (pa_cons (pe_op op_modN (pe_op op_modN (pe_callTy call_intU (by rfl) z_int (by decide +kernel) (pa_cons (pe_op op_addU (pe_op op_mulU (pv 3) pe_int) pe_int) pa_nil)) pe_int) pe_int) pa_nil))))))
    (pss_one (ps_for PassesOwn.never rfl (pi_range1 rfl z_range (pa_cons pe_int pa_nil)) (k_name 7 nd)
    (pss_one (ps_if (pt_cmpR op_gtU (pv 6) pe_int (nomark _)) (pss_cons (ps_expr (pe_bm PySem.F.plainAttrs_list PySem.F.slot_list_append PySem.F.type_list_append mt_append (pv 2) (pa_cons (pe_op op_modN (pe_callTy call_intU (by rfl) z_int (by decide +kernel) (pa_cons (pv 6) pa_nil)) pe_int) pa_nil)))
    (pss_one (k_set 6 nd (pe_op op_fdivN (pv 6) pe_int)))) pss_nil)))))))))
    (pss_cons (ps_for PassesOwn.never rfl (pi_range1 rfl z_range (pa_cons (pv 1) pa_nil)) (k_name 4 nd)
    (pss_cons (k_set 3 nd (pe_op op_modN (pe_callTy call_intU (by rfl) z_int (by decide +kernel) (pa_cons (pe_op op_addU (pe_op op_addU (pe_op op_mulU (pv 3) pe_int) (pv 4)) pe_int) pa_nil)) pe_int))
    (pss_one (ps_expr (pe_bm PySem.F.plainAttrs_list PySem.F.slot_list_append PySem.F.type_list_append mt_append (pv 2) (pa_cons (pe_op op_modN (pe_callTy call_intU (by rfl) z_int (by decide +kernel) (pa_cons (pv 3) pa_nil)) pe_int) pa_nil))))))
    (pss_one (ps_ret (pe_slice sl_any (pv 2) po_none (po_some (pv 1))))))))),
    (snds_seq (snds_asg (by decide) (snd_lst snda_nil))
    (snds_seq (snds_asg (by decide) snd_int)
    (snds_seq (snds_for (by decide) (sndi_R1 (snda_cons snd_scrLen snda_nil)) sndg_name
    (snds_seq (snds_asg (by decide) (snd_n prim_abs (snda_cons (snd_n prim_int (snda_cons (snd_scrIx snd_v) snda_nil)) snda_nil)))
    (snds_seq (snds_asg (by decide) (snd_2 prim_mod (snd_n prim_int (snda_cons (snd_2 prim_add (snd_2 prim_add (snd_2 prim_mul snd_v snd_int) (snd_2 prim_mod snd_v snd_int)) snd_v) snda_nil)) snd_int))
    (snds_seq (snds_asg (by decide) snd_int)
    (snds_cut (snds_if (sndt_test (snd_2 prim_cmp snd_v (snd_2 (prim_pow (g := fun i j => i ^ j.toNat)) snd_int snd_int))) (snds_asg (by decide) snd_v) (snds_seq (snds_drop (snd_mutL priml_append (snda_cons (snd_2 prim_mod (snd_n prim_int (snda_cons snd_v snda_nil)) snd_int) snda_nil)))
    (snds_drop (snd_mutL priml_append (snda_cons (snd_2 prim_mod (snd_2 prim_mod (snd_n prim_int (snda_cons (snd_2 prim_add (snd_2 prim_mul snd_v snd_int) snd_int) snda_nil)) snd_int) snd_int) snda_nil)))))
    (snds_for (by decide) (sndi_R1 (snda_cons snd_int snda_nil)) sndg_name
    (snds_if (sndt_test (snd_2 prim_cmp snd_v snd_int)) (snds_seq (snds_drop (snd_mutL priml_append (snda_cons (snd_2 prim_mod (snd_n prim_int (snda_cons snd_v snda_nil)) snd_int) snda_nil)))
    (snds_asg (by decide) (snd_2 prim_fdiv snd_v snd_int))) snds_next)))))))
    (snds_seq (snds_for (by decide) (sndi_R1 (snda_cons snd_v snda_nil)) sndg_name
    (snds_seq (snds_asg (by decide) (snd_2 prim_mod (snd_n prim_int (snda_cons (snd_2 prim_add (snd_2 prim_add (snd_2 prim_mul snd_v snd_int) snd_v) snd_int) snda_nil)) snd_int))
    (snds_drop (snd_mutL priml_append (snda_cons (snd_2 prim_mod (snd_n prim_int (snda_cons snd_v snda_nil)) snd_int) snda_nil)))))
    (snds_ret (snd_sl prim_sl snd_v sndo_none (sndo_some snd_v))))))), h⟩
abbrev s__law_next : Stmt := top 10
theorem sc__law_next : FnScope ["w", "many"] ["w", "many"] (defScope s__law_next) := ⟨rfl, rfl, rfl, by decide +kernel, rfl, by decide +kernel, by decide +kernel⟩
theorem W__law_next {Pr : Program} {w : World} {K : PySem.W.Frag} {mg : Str → Option Value} {base : Heap} {k : Nat} {S : ASp} (d : Dfn K mg "_law_next" s__law_next ["w", "many"]) (z_len : mg "len" = none) (z_int : mg "int" = none)
    (h : ∀ ms Qa, Mds [true, false] ms → S ms Qa → B__law_next  (endsD [true, false] ms Qa) (startE 2 ms)) : Cal Pr w K mg base (k + 1) "_law_next" ["w", "many"] [true, false] S := by
  have nd := sc__law_next.nd
  exact cal_mk d sc__law_next rfl fun f cdv A outer s H E hr => ⟨_, B__law_next ,
    (pss_cons (ps_daug (hu_of hr) (pv 0) pe_str pe_int in_add (fun _ _ _ => rfl))
    (pss_cons (ps_if (pt_cmpR op_gtU (pe_ix (ix_any (hu_of hr)) (pv 0) pe_str (fun _ _ => rfl)) (pe_callB call_lenU (by rfl) z_len (by decide +kernel) (pa_cons (pe_ix (ix_any (hu_of hr)) (pv 0) pe_str (fun _ _ => rfl)) pa_nil)) (nomark _)) (pss_one (ps_ret pe_int)) pss_nil)
    (pss_one (ps_ret (pe_op op_modN (pe_callTy call_intU (by rfl) z_int (by decide +kernel) (pa_cons (pe_ix (ix_any (hu_of hr)) (pe_ix (ix_any (hu_of hr)) (pv 0) pe_str (fun _ _ => rfl)) (pe_op op_sub (pe_ix (ix_any (hu_of hr)) (pv 0) pe_str (fun _ _ => rfl)) pe_int) (fun _ _ => rfl)) pa_nil)) (pv 1)))))),
    (snds_seq (snds_daug (prim_ip (f := fun i j => i + j)) snd_str snd_int)
    (snds_cut (snds_if (sndt_test (snd_2 prim_cmp (snd_2 prim_ix snd_v snd_str) (snd_n prim_len (snda_cons (snd_2 prim_ix snd_v snd_str) snda_nil)))) (snds_ret snd_int) snds_next)
    (snds_ret (snd_2 prim_mod (snd_n prim_int (snda_cons (snd_2 prim_ix (snd_2 prim_ix snd_v snd_str) (snd_2 prim_sub (snd_2 prim_ix snd_v snd_str) snd_int)) snda_nil)) snd_v)))), h⟩
abbrev s__law_pick : Stmt := top 11
theorem sc__law_pick : FnScope ["w", "rows"] ["w", "rows"] (defScope s__law_pick) := ⟨rfl, rfl, rfl, by decide +kernel, rfl, by decide +kernel, by decide +kernel⟩
theorem W__law_pick {Pr : Program} {w : World} {K : PySem.W.Frag} {mg : Str → Option Value} {base : Heap} {k : Nat} {S : ASp} {S__law_next : ASp} (d : Dfn K mg "_law_pick" s__law_pick ["w", "rows"]) (c__law_next : Cal Pr w K mg base k "_law_next" ["w", "many"] [true, false] S__law_next) (z_len : mg "len" = none)
    (h : ∀ ms Qa, Mds [true, false] ms → S ms Qa → B__law_pick S__law_next (endsD [true, false] ms Qa) (startE 2 ms)) : Cal Pr w K mg base (k + 1) "_law_pick" ["w", "rows"] [true, false] S := by
  obtain ⟨a__law_next, d__law_next, F__law_next, m__law_next, p__law_next, b__law_next⟩ := c__law_next.ex
  have nd := sc__law_pick.nd
  exact cal_mk d sc__law_pick rfl fun f cdv A outer s H E hr => ⟨_, B__law_pick S__law_next,
    (pss_one (ps_ret (pe_ix (ix_any (hu_of hr)) (pv 1) (pe_call F__law_next hr rfl m__law_next p__law_next b__law_next .nil pass0 (pa_cons (pv 0) (pa_cons (pe_callB call_lenU (by rfl) z_len (by decide +kernel) (pa_cons (pv 1) pa_nil)) pa_nil))) (fun _ _ => rfl)))),
    (snds_ret (snd_2 prim_ix snd_v (snd_call (snda_cons snd_v (snda_cons (snd_n prim_len (snda_cons snd_v snda_nil)) snda_nil))))), h⟩
abbrev s__law_says : Stmt := top 12
theorem sc__law_says : FnScope ["seen", "due"] ["seen", "due"] (defScope s__law_says) := ⟨rfl, rfl, rfl, by decide +kernel, rfl, by decide +kernel, by decide +kernel⟩
theorem W__law_says {Pr : Program} {w : World} {K : PySem.W.Frag} {mg : Str → Option Value} {base : Heap} {k : Nat} {S : ASp} (d : Dfn K mg "_law_says" s__law_says ["seen", "due"]) (z_isinstance : mg "isinstance" = none) (z_bool : mg "bool" = none)
    (h : ∀ ms Qa, Mds [false, false] ms → S ms Qa → B__law_says  (endsD [false, false] ms Qa) (startE 2 ms)) : Cal Pr w K mg base (k + 1) "_law_says" ["seen", "due"] [false, false] S := by
  have nd := sc__law_says.nd
  exact cal_mk d sc__law_says rfl fun f cdv A outer s H E hr => ⟨_, B__law_says ,
    (pss_one (ps_ret (pe_and (pe_callB call_isi (by rfl) z_isinstance (by decide +kernel) (pa_cons (pv 0) (pa_cons (pe_bltn (v := .ty "bool") (by rfl) z_bool (by decide +kernel) rfl) pa_nil))) (pe_one (pe_cmpR (op_eqU hr.units) (pv 0) (pv 1) (nomark _)))))),
    (snds_ret (snd_andV (snd_isi ty_bool snd_v) (snd_2 prim_eq snd_v snd_v))), h⟩
abbrev s__law_same : Stmt := top 13
theorem sc__law_same : FnScope ["seen", "due", "k"] ["seen", "due"] (defScope s__law_same) := ⟨rfl, rfl, rfl, by decide +kernel, rfl, by decide +kernel, by decide +kernel⟩
theorem W__law_same {Pr : Program} {w : World} {K : PySem.W.Frag} {mg : Str → Option Value} {base : Heap} {k : Nat} {S : ASp} {S__law_same : ASp} (d : Dfn K mg "_law_same" s__law_same ["seen", "due"]) (c__law_same : Cal Pr w K mg base k "_law_same" ["seen", "due"] [false, false] S__law_same) (z_isinstance : mg "isinstance" = none) (z_tuple : mg "tuple" = none) (z_len : mg "len" = none) (z_range : mg "range" = none) (z_str : mg "str" = none) (z_int : mg "int" = none) (z_bool : mg "bool" = none)
    (h : ∀ ms Qa, Mds [false, false] ms → S ms Qa → B__law_same S__law_same (endsD [false, false] ms Qa) (startE 3 ms)) : Cal Pr w K mg base (k + 1) "_law_same" ["seen", "due"] [false, false] S := by
  obtain ⟨a__law_same, d__law_same, F__law_same, m__law_same, p__law_same, b__law_same⟩ := c__law_same.ex
  have nd := sc__law_same.nd
  exact cal_mk d sc__law_same rfl fun f cdv A outer s H E hr => ⟨_, B__law_same S__law_same,
    (pss_cons (ps_if (pt_val (pe_callB call_isi (by rfl) z_isinstance (by decide +kernel) (pa_cons (pv 1) (pa_cons (pe_bltn (v := .ty "tuple") (by rfl) z_tuple (by decide +kernel) rfl) pa_nil)))) (pss_cons (ps_if (PW.pt (pw_or (pt_not (pt_val (pe_callB call_isi (by rfl) z_isinstance (by decide +kernel) (pa_cons (pv 0) (pa_cons (pe_bltn (v := .ty "tuple") (by rfl) z_tuple (by decide +kernel) rfl) pa_nil))))) (pw_or1 (pt_cmpR (op_neU hr.units) (pe_callB call_lenU (by rfl) z_len (by decide +kernel) (pa_cons (pv 0) pa_nil)) (pe_callB call_lenU (by rfl) z_len (by decide +kernel) (pa_cons (pv 1) pa_nil)) (nomark _))))) (pss_one (ps_ret pe_bl)) pss_nil)
    (pss_one (ps_ret (pe_cmpR (op_eqU hr.units) (k_lc [("k", 2)] rfl nd (pi_range1 rfl z_range (pa_cons (pe_callB call_lenU (by rfl) z_len (by decide +kernel) (pa_cons (pv 1) pa_nil)) pa_nil)) (fun _ _ _ _ _ => (k_name 2 nd)) (fun _ _ _ _ _ => (pts_one (pt_not (pt_val (pe_call F__law_same hr rfl m__law_same p__law_same b__law_same .nil pass0 (pa_cons (pe_ix (ix_any (hu_of hr)) (pv 0) (pv 2) (fun _ _ => rfl)) (pa_cons (pe_ix (ix_any (hu_of hr)) (pv 1) (pv 2) (fun _ _ => rfl)) pa_nil))))))) (fun _ _ _ _ _ => (pv 2)) (by kernel_rfl)) (pe_lst pa_nil) (nomark _))))) pss_nil)
    (pss_cons (ps_if (pt_cmp (pc_isN (pv 1))) (pss_one (ps_ret (pe_cmp (pc_isN (pv 0))))) pss_nil)
    (pss_cons (ps_if (pt_val (pe_callB call_isi (by rfl) z_isinstance (by decide +kernel) (pa_cons (pv 1) (pa_cons (pe_bltn (v := .ty "str") (by rfl) z_str (by decide +kernel) rfl) pa_nil)))) (pss_one (ps_ret (pe_and (pe_callB call_isi (by rfl) z_isinstance (by decide +kernel) (pa_cons (pv 0) (pa_cons (pe_bltn (v := .ty "str") (by rfl) z_str (by decide +kernel) rfl) pa_nil))) (pe_one (pe_cmpR (op_eqU hr.units) (pv 0) (pv 1) (nomark _)))))) pss_nil)
    (pss_one (ps_ret (pe_and (pe_callB call_isi (by rfl) z_isinstance (by decide +kernel) (pa_cons (pv 0) (pa_cons (pe_bltn (v := .ty "int") (by rfl) z_int (by decide +kernel) rfl) pa_nil))) (pe_and (pe_cmpR (op_eqU hr.units) (pe_callB call_isi (by rfl) z_isinstance (by decide +kernel) (pa_cons (pv 0) (pa_cons (pe_bltn (v := .ty "bool") (by rfl) z_bool (by decide +kernel) rfl) pa_nil))) (pe_callB call_isi (by rfl) z_isinstance (by decide +kernel) (pa_cons (pv 1) (pa_cons (pe_bltn (v := .ty "bool") (by rfl) z_bool (by decide +kernel) rfl) pa_nil))) (nomark _)) (pe_one (pe_cmpR (op_eqU hr.units) (pv 0) (pv 1) (nomark _)))))))))),
    (snds_cut (snds_if (sndt_B (snd_isi ty_tuple snd_v)) (snds_cut (snds_if (sndt_or (sndt_not (sndt_B (snd_isi ty_tuple snd_v))) (sndt_test (snd_2 prim_ne (snd_n prim_len (snda_cons snd_v snda_nil)) (snd_n prim_len (snda_cons snd_v snda_nil))))) (snds_ret snd_bl) snds_next)
    (snds_ret (snd_2 prim_eq (snd_lc (vs := [2]) (by decide) (sndi_R1 (snda_cons (snd_n prim_len (snda_cons snd_v snda_nil)) snda_nil)) sndg_name (sndt_not (sndt_B (snd_call (snda_cons (snd_2 prim_ix snd_v snd_v) (snda_cons (snd_2 prim_ix snd_v snd_v) snda_nil))))) snd_v) (snd_lst snda_nil)))) snds_next)
    (snds_cut (snds_if (sndt_B (snd_isN snd_v)) (snds_ret (snd_isN snd_v)) snds_next)
    (snds_cut (snds_if (sndt_B (snd_isi ty_str snd_v)) (snds_ret (snd_andV (snd_isi ty_str snd_v) (snd_2 prim_eq snd_v snd_v))) snds_next)
    (snds_ret (snd_andV (snd_isi ty_int snd_v) (snd_andV (snd_2 prim_eq (snd_isi ty_bool snd_v) (snd_isi ty_bool snd_v)) (snd_2 prim_eq snd_v snd_v))))))), h⟩
abbrev s__law_wide_bits : Stmt := top 14
theorem sc__law_wide_bits : FnScope ["wide", "found", "k", "bits"] ["wide"] (defScope s__law_wide_bits) := ⟨rfl, rfl, rfl, by decide +kernel, rfl, by decide +kernel, by decide +kernel⟩
theorem W__law_wide_bits {Pr : Program} {w : World} {K : PySem.W.Frag} {mg : Str → Option Value} {base : Heap} {k : Nat} {S : ASp} (d : Dfn K mg "_law_wide_bits" s__law_wide_bits ["wide"]) (z_range : mg "range" = none) (z_sorted : mg "sorted" = none)
    (h : ∀ ms Qa, Mds [false] ms → S ms Qa → B__law_wide_bits  (endsD [false] ms Qa) (startE 4 ms)) : Cal Pr w K mg base (k + 1) "_law_wide_bits" ["wide"] [false] S := by
  have nd := sc__law_wide_bits.nd
  exact cal_mk d sc__law_wide_bits rfl fun f cdv A outer s H E hr => ⟨_, B__law_wide_bits ,
    (pss_cons (k_set 1 nd (pe_lst (pa_cons pe_str pa_nil)))
    (pss_cons (ps_for PassesOwn.never rfl (pi_range1 rfl z_range (pa_cons (pv 0) pa_nil)) (k_name 2 nd)
    (pss_one (k_set 1 nd (pe_op op_addU (k_lc [("bits", 3)] rfl nd (pi_any (pv 1)) (fun _ _ _ _ _ => (k_name 3 nd)) (fun _ _ _ _ _ => pts_nil) (fun _ _ _ _ _ => (pe_op op_addU (pv 3) pe_str)) (by kernel_rfl)) (k_lc [("bits", 3)] rfl nd (pi_any (pv 1)) (fun _ _ _ _ _ => (k_name 3 nd)) (fun _ _ _ _ _ => pts_nil) (fun _ _ _ _ _ => (pe_op op_addU (pv 3) pe_str)) (by kernel_rfl))))))
    (pss_one (ps_ret (pe_callB (call_sortedU rfl) (by rfl) z_sorted (by decide +kernel) (pa_cons (pv 1) pa_nil)))))),
    (snds_seq (snds_asg (by decide) (snd_lst (snda_cons snd_str snda_nil)))
    (snds_seq (snds_for (by decide) (sndi_R1 (snda_cons snd_v snda_nil)) sndg_name
    (snds_asg (by decide) (snd_2 prim_add (snd_lc (vs := [3]) (by decide) (sndi_A snd_v) sndg_name sndt_yes (snd_2 prim_add snd_v snd_str)) (snd_lc (vs := [3]) (by decide) (sndi_A snd_v) sndg_name sndt_yes (snd_2 prim_add snd_v snd_str)))))
    (snds_ret (snd_n prim_sorted (snda_cons snd_v snda_nil))))), h⟩
abbrev s__law_value : Stmt := top 15
theorem sc__law_value : FnScope ["fronts", "bits", "able", "front", "longest", "one"] ["fronts", "bits"] (defScope s__law_value) := ⟨rfl, rfl, rfl, by decide +kernel, rfl, by decide +kernel, by decide +kernel⟩
theorem W__law_value {Pr : Program} {w : World} {K : PySem.W.Frag} {mg : Str → Option Value} {base : Heap} {k : Nat} {S : ASp} (d : Dfn K mg "_law_value" s__law_value ["fronts", "bits"]) (z_len : mg "len" = none) (z_max : mg "max" = none)
    (h : ∀ ms Qa, Mds [true, false] ms → S ms Qa → B__law_value  (endsD [true, false] ms Qa) (startE 6 ms)) : Cal Pr w K mg base (k + 1) "_law_value" ["fronts", "bits"] [true, false] S := by
  have nd := sc__law_value.nd
  exact cal_mk d sc__law_value rfl fun f cdv A outer s H E hr => ⟨_, B__law_value ,
    (pss_cons (k_set 2 nd (pe_lock (k_lc [("front", 3)] rfl nd (pi_keys (pv 0)) (fun _ _ _ _ _ => (k_name 3 nd)) (fun _ _ _ _ _ => (pts_one (pt_cmpR (op_eqU hr.units) (pe_slice sl_any (pv 1) po_none (po_some (pe_callB call_lenU (by rfl) z_len (by decide +kernel) (pa_cons (pv 3) pa_nil)))) (pv 3) (nomark _)))) (fun _ _ _ _ _ => (pv 3)) (by kernel_rfl))))
    (pss_cons (k_setLc 4 [("front", 3)] rfl nd (pi_any (pv 2)) (fun _ _ _ _ _ => (k_name 3 nd)) (fun _ _ _ _ _ => (pts_one (pt_cmpR (op_eqU hr.units) (pe_callB call_lenU (by rfl) z_len (by decide +kernel) (pa_cons (pv 3) pa_nil)) (pe_callB (call_maxU rfl) (by rfl) z_max (by decide +kernel) (pa_cons (k_lc [("one", 5)] rfl nd (pi_any (pv 2)) (fun _ _ _ _ _ => (k_name 5 nd)) (fun _ _ _ _ _ => pts_nil) (fun _ _ _ _ _ => (pe_callB call_lenU (by rfl) z_len (by decide +kernel) (pa_cons (pv 5) pa_nil))) (by kernel_rfl)) pa_nil)) (nomark _)))) (fun _ _ _ _ _ => (pv 3)) (by kernel_rfl) (sw_true rfl rfl rfl (by decide +kernel)))
    (pss_one (ps_ret (pe_ifExp (pt_cmpR (op_neU hr.units) (pv 2) (pe_lst pa_nil) (nomark _)) (pe_ix (ix_any (hu_of hr)) (pv 0) (pe_ix (ix_any (hu_of hr)) (pv 4) pe_int (fun _ _ => rfl)) (fun _ _ => rfl)) pe_non))))),
    (snds_seq (snds_asg (by decide) (snd_lockO (snd_lc (vs := [3]) (by decide) sndi_K sndg_name (sndt_test (snd_2 prim_eq (snd_sl prim_sl snd_v sndo_none (sndo_some (snd_n prim_len (snda_cons snd_v snda_nil)))) snd_v)) snd_v)))
    (snds_seq (snds_asg (by decide) (snd_lc (vs := [3]) (by decide) (sndi_A snd_v) sndg_name (sndt_test (snd_2 prim_eq (snd_n prim_len (snda_cons snd_v snda_nil)) (snd_n prim_max (snda_cons (snd_lc (vs := [5]) (by decide) (sndi_A snd_v) sndg_name sndt_yes (snd_n prim_len (snda_cons snd_v snda_nil))) snda_nil)))) snd_v))
    (snds_ret (snd_if (sndt_test (snd_2 prim_ne snd_v (snd_lst snda_nil))) (snd_2 prim_ix snd_v (snd_2 prim_ix snd_v snd_int)) snd_non)))), h⟩
abbrev s__law_fronts : Stmt := top 16
theorem sc__law_fronts : FnScope ["w", "wide", "found", "k", "bits", "j"] ["w", "wide"] (defScope s__law_fronts) := ⟨rfl, rfl, rfl, by decide +kernel, rfl, by decide +kernel, by decide +kernel⟩
theorem W__law_fronts {Pr : Program} {w : World} {K : PySem.W.Frag} {mg : Str → Option Value} {base : Heap} {k : Nat} {S : ASp} {S__law_next S__law_pick : ASp} (d : Dfn K mg "_law_fronts" s__law_fronts ["w", "wide"]) (c__law_next : Cal Pr w K mg base k "_law_next" ["w", "many"] [true, false] S__law_next) (c__law_pick : Cal Pr w K mg base k "_law_pick" ["w", "rows"] [true, false] S__law_pick) (z_range : mg "range" = none)
    (h : ∀ ms Qa, Mds [true, false] ms → S ms Qa → B__law_fronts S__law_next S__law_pick (endsD [true, false] ms Qa) (startE 6 ms)) : Cal Pr w K mg base (k + 1) "_law_fronts" ["w", "wide"] [true, false] S := by
  obtain ⟨a__law_next, d__law_next, F__law_next, m__law_next, p__law_next, b__law_next⟩ := c__law_next.ex
  obtain ⟨a__law_pick, d__law_pick, F__law_pick, m__law_pick, p__law_pick, b__law_pick⟩ := c__law_pick.ex
  have nd := sc__law_fronts.nd
  exact cal_mk d sc__law_fronts rfl fun f cdv A outer s H E hr => ⟨_, B__law_fronts S__law_next S__law_pick,
    (pss_cons (k_set 2 nd pe_dnewK)
    (pss_cons (ps_for PassesOwn.never rfl (pi_range1 rfl z_range (pa_cons (pe_call F__law_next hr rfl m__law_next p__law_next b__law_next .nil pass0 (pa_cons (pv 0) (pa_cons pe_int pa_nil))) pa_nil)) (k_name 3 nd)
    (pss_cons (k_set 4 nd (pe_join pe_str (k_lc [("j", 5)] rfl nd (pi_range1 rfl z_range (pa_cons (pe_call F__law_next hr rfl m__law_next p__law_next b__law_next .nil pass0 (pa_cons (pv 0) (pa_cons (pe_op op_addU (pv 1) pe_int) pa_nil))) pa_nil)) (fun _ _ _ _ _ => (k_name 5 nd)) (fun _ _ _ _ _ => pts_nil) (fun _ _ _ _ _ => (pe_call F__law_pick hr rfl m__law_pick p__law_pick b__law_pick .nil pass0 (pa_cons (pv 0) (pa_cons (pe_lst (pa_cons pe_str (pa_cons pe_str pa_nil))) pa_nil)))) (by kernel_rfl))))
    (pss_one (ps_asg (pe_call F__law_pick hr rfl m__law_pick p__law_pick b__law_pick .nil pass0 (pa_cons (pv 0) (pa_cons (pe_lst (pa_cons pe_str (pa_cons pe_str (pa_cons pe_str (pa_cons pe_str (pa_cons pe_non pa_nil)))))) pa_nil))) (pg_sub (pv 2) (pv 4) (set_any (hu_of hr)))))))
    (pss_one (ps_ret (pv 2))))),
    (snds_seq (snds_asg (by decide) snd_newK)
    (snds_seq (snds_for (by decide) (sndi_R1 (snda_cons (snd_call (snda_cons snd_v (snda_cons snd_int snda_nil))) snda_nil)) sndg_name
    (snds_seq (snds_asg (by decide) (snd_m1 prim_join snd_str (snd_lc (vs := [5]) (by decide) (sndi_R1 (snda_cons (snd_call (snda_cons snd_v (snda_cons (snd_2 prim_add snd_v snd_int) snda_nil))) snda_nil)) sndg_name sndt_yes (snd_call (snda_cons snd_v (snda_cons (snd_lst (snda_cons snd_str (snda_cons snd_str snda_nil))) snda_nil))))))
    (snds_setI (snd_call (snda_cons snd_v (snda_cons (snd_lst (snda_cons snd_str (snda_cons snd_str (snda_cons snd_str (snda_cons snd_str (snda_cons snd_non snda_nil)))))) snda_nil))) snd_v)))
    (snds_ret snd_v))), h⟩
abbrev s__law_number : Stmt := top 17
theorem sc__law_number : FnScope ["bits", "found", "bit"] ["bits"] (defScope s__law_number) := ⟨rfl, rfl, rfl, by decide +kernel, rfl, by decide +kernel, by decide +kernel⟩
theorem W__law_number {Pr : Program} {w : World} {K : PySem.W.Frag} {mg : Str → Option Value} {base : Heap} {k : Nat} {S : ASp} (d : Dfn K mg "_law_number" s__law_number ["bits"]) (z_int : mg "int" = none)
    (h : ∀ ms Qa, Mds [false] ms → S ms Qa → B__law_number  (endsD [false] ms Qa) (startE 3 ms)) : Cal Pr w K mg base (k + 1) "_law_number" ["bits"] [false] S := by
  have nd := sc__law_number.nd
  exact cal_mk d sc__law_number rfl fun f cdv A outer s H E hr => ⟨_, B__law_number ,
    (pss_cons (k_set 1 nd pe_int)
    (pss_cons (ps_for PassesOwn.never rfl (pi_any (pv 0)) (k_name 2 nd)
    (pss_one (k_set 1 nd (pe_op op_addU (pe_op op_mulU pe_int (pv 1)) (pe_callTy call_intU (by rfl) z_int (by decide +kernel) (pa_cons (pe_cmpR (op_eqU hr.units) (pv 2) pe_str (nomark _)) pa_nil))))))
    (pss_one (ps_ret (pv 1))))),
    (snds_seq (snds_asg (by decide) snd_int)
    (snds_seq (snds_for (by decide) (sndi_AF snd_v) sndg_name
    (snds_asg (by decide) (snd_2 prim_add (snd_2 prim_mul snd_int snd_v) (snd_n prim_int (snda_cons (snd_2 prim_eq snd_v snd_str) snda_nil)))))
    (snds_ret snd_v))), h⟩
abbrev s__law_is_cover : Stmt := top 18
theorem sc__law_is_cover : FnScope ["fronts", "low", "high", "wide", "bits", "many", "front"] ["fronts", "low", "high", "wide"] (defScope s__law_is_cover) := ⟨rfl, rfl, rfl, by decide +kernel, rfl, by decide +kernel, by decide +kernel⟩
theorem W__law_is_cover {Pr : Program} {w : World} {K : PySem.W.Frag} {mg : Str → Option Value} {base : Heap} {k : Nat} {S : ASp} {S__law_wide_bits S__law_number : ASp} (d : Dfn K mg "_law_is_cover" s__law_is_cover ["fronts", "low", "high", "wide"]) (c__law_wide_bits : Cal Pr w K mg base k "_law_wide_bits" ["wide"] [false] S__law_wide_bits) (c__law_number : Cal Pr w K mg base k "_law_number" ["bits"] [false] S__law_number) (z_len : mg "len" = none) (z_int : mg "int" = none)
    (h : ∀ ms Qa, Mds [false, false, false, false] ms → S ms Qa → B__law_is_cover S__law_wide_bits S__law_number (endsD [false, false, false, false] ms Qa) (startE 7 ms)) : Cal Pr w K mg base (k + 1) "_law_is_cover" ["fronts", "low", "high", "wide"] [false, false, false, false] S := by
  obtain ⟨a__law_wide_bits, d__law_wide_bits, F__law_wide_bits, m__law_wide_bits, p__law_wide_bits, b__law_wide_bits⟩ := c__law_wide_bits.ex
  obtain ⟨a__law_number, d__law_number, F__law_number, m__law_number, p__law_number, b__law_number⟩ := c__law_number.ex
  have nd := sc__law_is_cover.nd
  exact cal_mk d sc__law_is_cover rfl fun f cdv A outer s H E hr => ⟨_, B__law_is_cover S__law_wide_bits S__law_number,
    (pss_cons (ps_for PassesOwn.never rfl (pi_any (pe_call F__law_wide_bits hr rfl m__law_wide_bits p__law_wide_bits b__law_wide_bits .nil pass0 (pa_cons (pv 3) pa_nil))) (k_name 4 nd)
    (pss_cons (k_set 5 nd (pe_callB call_lenU (by rfl) z_len (by decide +kernel) (pa_cons (k_lc [("front", 6)] rfl nd (pi_any (pv 0)) (fun _ _ _ _ _ => (k_name 6 nd)) (fun _ _ _ _ _ => (pts_one (pt_cmpR (op_eqU hr.units) (pe_slice sl_any (pv 4) po_none (po_some (pe_callB call_lenU (by rfl) z_len (by decide +kernel) (pa_cons (pv 6) pa_nil)))) (pv 6) (nomark _)))) (fun _ _ _ _ _ => (pv 6)) (by kernel_rfl)) pa_nil)))
    (pss_one (ps_if (pt_cmpR (op_neU hr.units) (pv 5) (pe_callTy call_intU (by rfl) z_int (by decide +kernel) (pa_cons (pe_chain op_leU op_leU (pv 1) (pe_call F__law_number hr rfl m__law_number p__law_number b__law_number .nil pass0 (pa_cons (pv 4) pa_nil)) (pv 2)) pa_nil)) (nomark _)) (pss_one (ps_ret pe_bl)) pss_nil))))
    (pss_one (ps_ret pe_bl))),
    (snds_seq (snds_for (by decide) (sndi_AF (snd_call (snda_cons snd_v snda_nil))) sndg_name
    (snds_seq (snds_asg (by decide) (snd_n prim_len (snda_cons (snd_lc (vs := [6]) (by decide) (sndi_A snd_v) sndg_name (sndt_test (snd_2 prim_eq (snd_sl prim_sl snd_v sndo_none (sndo_some (snd_n prim_len (snda_cons snd_v snda_nil)))) snd_v)) snd_v) snda_nil)))
    (snds_if (sndt_test (snd_2 prim_ne snd_v (snd_n prim_int (snda_cons (snd_chain prim_cmp prim_cmp snd_v (snd_call (snda_cons snd_v snda_nil)) snd_v) snda_nil)))) (snds_ret snd_bl) snds_next)))
    (snds_ret snd_bl)), h⟩
abbrev s__law_fewest : Stmt := top 19
theorem sc__law_fewest : FnScope ["low", "high", "wide", "found", "size", "front", "numbers", "bits", "inside", "one"] ["low", "high", "wide"] (defScope s__law_fewest) := ⟨rfl, rfl, rfl, by decide +kernel, rfl, by decide +kernel, by decide +kernel⟩
theorem W__law_fewest {Pr : Program} {w : World} {K : PySem.W.Frag} {mg : Str → Option Value} {base : Heap} {k : Nat} {S : ASp} {S__law_wide_bits S__law_number : ASp} (d : Dfn K mg "_law_fewest" s__law_fewest ["low", "high", "wide"]) (c__law_wide_bits : Cal Pr w K mg base k "_law_wide_bits" ["wide"] [false] S__law_wide_bits) (c__law_number : Cal Pr w K mg base k "_law_number" ["bits"] [false] S__law_number) (z_range : mg "range" = none) (z_min : mg "min" = none) (z_max : mg "max" = none) (z_len : mg "len" = none) (z_tuple : mg "tuple" = none) (z_sorted : mg "sorted" = none)
    (h : ∀ ms Qa, Mds [false, false, false] ms → S ms Qa → B__law_fewest S__law_wide_bits S__law_number (endsD [false, false, false] ms Qa) (startE 10 ms)) : Cal Pr w K mg base (k + 1) "_law_fewest" ["low", "high", "wide"] [false, false, false] S := by
  obtain ⟨a__law_wide_bits, d__law_wide_bits, F__law_wide_bits, m__law_wide_bits, p__law_wide_bits, b__law_wide_bits⟩ := c__law_wide_bits.ex
  obtain ⟨a__law_number, d__law_number, F__law_number, m__law_number, p__law_number, b__law_number⟩ := c__law_number.ex
  have nd := sc__law_fewest.nd
  exact cal_mk d sc__law_fewest rfl fun f cdv A outer s H E hr => ⟨_, B__law_fewest S__law_wide_bits S__law_number,
    (pss_cons (k_set 3 nd (pe_lst pa_nil))
    (pss_cons (ps_for PassesOwn.never rfl (pi_range1 rfl z_range (pa_cons (pe_op op_addU (pv 2) pe_int) pa_nil)) (k_name 4 nd)
    (pss_one (ps_for PassesOwn.never rfl (pi_any (pe_call F__law_wide_bits hr rfl m__law_wide_bits p__law_wide_bits b__law_wide_bits .nil pass0 (pa_cons (pv 4) pa_nil))) (k_name 5 nd)
    (pss_cons (k_setLc 6 [("bits", 7)] rfl nd (pi_any (pe_call F__law_wide_bits hr rfl m__law_wide_bits p__law_wide_bits b__law_wide_bits .nil pass0 (pa_cons (pv 2) pa_nil))) (fun _ _ _ _ _ => (k_name 7 nd)) (fun _ _ _ _ _ => (pts_one (pt_cmpR (op_eqU hr.units) (pe_slice sl_any (pv 7) po_none (po_some (pv 4))) (pv 5) (nomark _)))) (fun _ _ _ _ _ => (pe_call F__law_number hr rfl m__law_number p__law_number b__law_number .nil pass0 (pa_cons (pv 7) pa_nil))) (by kernel_rfl) (sw_true rfl rfl rfl (by decide +kernel)))
    (pss_cons (k_set 8 nd (pe_and (pe_cmpR op_geU (pe_callB (call_minU rfl) (by rfl) z_min (by decide +kernel) (pa_cons (pv 6) pa_nil)) (pv 0) (nomark _)) (pe_one (pe_cmpR op_leU (pe_callB (call_maxU rfl) (by rfl) z_max (by decide +kernel) (pa_cons (pv 6) pa_nil)) (pv 1) (nomark _)))))
    (pss_one (ps_if (PW.pt (pw_and (pt_val (pv 8)) (pw_and1 (pt_cmpR (op_eqU hr.units) (k_lc [("one", 9)] rfl nd (pi_any (pv 3)) (fun _ _ _ _ _ => (k_name 9 nd)) (fun _ _ _ _ _ => (pts_one (pt_cmpR (op_eqU hr.units) (pe_slice sl_any (pv 5) po_none (po_some (pe_callB call_lenU (by rfl) z_len (by decide +kernel) (pa_cons (pv 9) pa_nil)))) (pv 9) (nomark _)))) (fun _ _ _ _ _ => (pv 9)) (by kernel_rfl)) (pe_lst pa_nil) (nomark _))))) (pss_one (ps_expr (pe_bm PySem.F.plainAttrs_list PySem.F.slot_list_append PySem.F.type_list_append mt_append (pv 3) (pa_cons (pv 5) pa_nil)))) pss_nil)))))))
    (pss_one (ps_ret (pe_callTy call_tupleU (by rfl) z_tuple (by decide +kernel) (pa_cons (pe_callB (call_sortedU rfl) (by rfl) z_sorted (by decide +kernel) (pa_cons (pv 3) pa_nil)) pa_nil)))))),
    (snds_seq (snds_asg (by decide) (snd_lst snda_nil))
    (snds_seq (snds_for (by decide) (sndi_R1 (snda_cons (snd_2 prim_add snd_v snd_int) snda_nil)) sndg_name
    (snds_for (by decide) (sndi_AF (snd_call (snda_cons snd_v snda_nil))) sndg_name
    (snds_seq (snds_asg (by decide) (snd_lc (vs := [7]) (by decide) (sndi_A (snd_call (snda_cons snd_v snda_nil))) sndg_name (sndt_test (snd_2 prim_eq (snd_sl prim_sl snd_v sndo_none (sndo_some snd_v)) snd_v)) (snd_call (snda_cons snd_v snda_nil))))
    (snds_seq (snds_asg (by decide) (snd_andV (snd_2 prim_cmp (snd_n prim_min (snda_cons snd_v snda_nil)) snd_v) (snd_2 prim_cmp (snd_n prim_max (snda_cons snd_v snda_nil)) snd_v)))
    (snds_if (sndt_and (sndt_B snd_v) (sndt_test (snd_2 prim_eq (snd_lc (vs := [9]) (by decide) (sndi_A snd_v) sndg_name (sndt_test (snd_2 prim_eq (snd_sl prim_sl snd_v sndo_none (sndo_some (snd_n prim_len (snda_cons snd_v snda_nil)))) snd_v)) snd_v) (snd_lst snda_nil)))) (snds_drop (snd_mutL priml_append (snda_cons snd_v snda_nil))) snds_next)))))
    (snds_ret (snd_n prim_tuple (snda_cons (snd_n prim_sorted (snda_cons snd_v snda_nil)) snda_nil))))), h⟩
abbrev s_law : Stmt := top 20
theorem sc_law : FnScope ["script", "w", "turn", "wide", "one", "other", "able", "bits", "k", "many", "low", "high", "seen"] ["script"] (defScope s_law) := ⟨rfl, rfl, rfl, by decide +kernel, rfl, by decide +kernel, by decide +kernel⟩
theorem W0_law {Pr : Program} {w : World} {K : PySem.W.Frag} {mg : Str → Option Value} {base : Heap} {k : Nat} {S : ASp} {S__law_draws S__law_next S__law_fronts S__law_pick S__law_wide_bits S__law_same S_value_by S__law_value S_same_fronts S_fronts_of_range S__law_fewest S__law_is_cover : ASp} {f : Addr} {fd : FuncData} (Fn : Fun K "law" "law" s_law f fd) (c__law_draws : Cal Pr w K mg base k "_law_draws" ["script", "many"] [true, false] S__law_draws) (c__law_next : Cal Pr w K mg base k "_law_next" ["w", "many"] [true, false] S__law_next) (c__law_fronts : Cal Pr w K mg base k "_law_fronts" ["w", "wide"] [true, false] S__law_fronts) (c__law_pick : Cal Pr w K mg base k "_law_pick" ["w", "rows"] [true, false] S__law_pick) (c__law_wide_bits : Cal Pr w K mg base k "_law_wide_bits" ["wide"] [false] S__law_wide_bits) (c__law_same : Cal Pr w K mg base k "_law_same" ["seen", "due"] [false, false] S__law_same) (c_value_by : Cal Pr w K mg base k "value_by" ["fronts", "bits"] [false, false] S_value_by) (c__law_value : Cal Pr w K mg base k "_law_value" ["fronts", "bits"] [true, false] S__law_value) (c_same_fronts : Cal Pr w K mg base k "same_fronts" ["one", "other", "wide"] [false, false, false] S_same_fronts) (c_fronts_of_range : Cal Pr w K mg base k "fronts_of_range" ["low", "high", "wide"] [false, false, false] S_fronts_of_range) (c__law_fewest : Cal Pr w K mg base k "_law_fewest" ["low", "high", "wide"] [false, false, false] S__law_fewest) (c__law_is_cover : Cal Pr w K mg base k "_law_is_cover" ["fronts", "low", "high", "wide"] [false, false, false, false] S__law_is_cover) (z_range : mg "range" = none) (z_dict : mg "dict" = none) (z_len : mg "len" = none)
    (h : ∀ ms Qa, Mds [true] ms → S ms Qa → B_law S__law_draws S__law_next S__law_fronts S__law_pick S__law_wide_bits S__law_same S_value_by S__law_value S_same_fronts S_fronts_of_range S__law_fewest S__law_is_cover (endsD [true] ms Qa) (startE 13 ms)) : FnOk Pr w K mg base CX0 (k + 1) f fd ["script"] (lift K [true] S) := by
  obtain ⟨a__law_draws, d__law_draws, F__law_draws, m__law_draws, p__law_draws, b__law_draws⟩ := c__law_draws.ex
  obtain ⟨a__law_next, d__law_next, F__law_next, m__law_next, p__law_next, b__law_next⟩ := c__law_next.ex
  obtain ⟨a__law_fronts, d__law_fronts, F__law_fronts, m__law_fronts, p__law_fronts, b__law_fronts⟩ := c__law_fronts.ex
  obtain ⟨a__law_pick, d__law_pick, F__law_pick, m__law_pick, p__law_pick, b__law_pick⟩ := c__law_pick.ex
  obtain ⟨a__law_wide_bits, d__law_wide_bits, F__law_wide_bits, m__law_wide_bits, p__law_wide_bits, b__law_wide_bits⟩ := c__law_wide_bits.ex
  obtain ⟨a__law_same, d__law_same, F__law_same, m__law_same, p__law_same, b__law_same⟩ := c__law_same.ex
  obtain ⟨a_value_by, d_value_by, F_value_by, m_value_by, p_value_by, b_value_by⟩ := c_value_by.ex
  obtain ⟨a__law_value, d__law_value, F__law_value, m__law_value, p__law_value, b__law_value⟩ := c__law_value.ex
  obtain ⟨a_same_fronts, d_same_fronts, F_same_fronts, m_same_fronts, p_same_fronts, b_same_fronts⟩ := c_same_fronts.ex
  obtain ⟨a_fronts_of_range, d_fronts_of_range, F_fronts_of_range, m_fronts_of_range, p_fronts_of_range, b_fronts_of_range⟩ := c_fronts_of_range.ex
  obtain ⟨a__law_fewest, d__law_fewest, F__law_fewest, m__law_fewest, p__law_fewest, b__law_fewest⟩ := c__law_fewest.ex
  obtain ⟨a__law_is_cover, d__law_is_cover, F__law_is_cover, m__law_is_cover, p__law_is_cover, b__law_is_cover⟩ := c__law_is_cover.ex
  have nd := sc_law.nd
  exact fnok_mk Fn sc_law rfl fun cdv A outer s H E hr => ⟨_, B_law S__law_draws S__law_next S__law_fronts S__law_pick S__law_wide_bits S__law_same S_value_by S__law_value S_same_fronts S_fronts_of_range S__law_fewest S__law_is_cover,
    (pss_cons (k_set 1 nd (pe_disp (pps_cons pe_str (pe_call F__law_draws hr rfl m__law_draws p__law_draws b__law_draws .nil pass0 (pa_cons (pv 0) (pa_cons pe_int pa_nil))) (pps_cons pe_str pe_int pps_nil)) (by rfl) (by rfl) (fun z => by cases z) (by decide)))
    (pss_cons (ps_for PassesOwn.never rfl (pi_range1 rfl z_range (pa_cons pe_int pa_nil)) (k_name 2 nd)
    (pss_cons (k_set 3 nd (pe_op op_addU pe_int (pe_call F__law_next hr rfl m__law_next p__law_next b__law_next .nil pass0 (pa_cons (pv 1) (pa_cons pe_int pa_nil)))))
    (pss_cons (ps_par (i := 4) (j := 5) (by rfl) nd rfl rfl (by decide) rfl rfl (pa_cons (pe_call F__law_fronts hr rfl m__law_fronts p__law_fronts b__law_fronts .nil pass0 (pa_cons (pv 1) (pa_cons (pv 3) pa_nil))) (pa_cons (pe_call F__law_fronts hr rfl m__law_fronts p__law_fronts b__law_fronts .nil pass0 (pa_cons (pv 1) (pa_cons (pv 3) pa_nil))) pa_nil)) (by rfl))
    (pss_cons (ps_if (pt_cmpR (op_eqU hr.units) (pe_call F__law_next hr rfl m__law_next p__law_next b__law_next .nil pass0 (pa_cons (pv 1) (pa_cons pe_int pa_nil))) pe_int (nomark _)) (pss_cons (k_set 5 nd (pe_callTy (call_dictU rfl) (by rfl) z_dict (by decide +kernel) (pa_cons (pv 4) pa_nil)))
    (pss_one (ps_asg (pe_call F__law_pick hr rfl m__law_pick p__law_pick b__law_pick .nil pass0 (pa_cons (pv 1) (pa_cons (pe_lst (pa_cons pe_str (pa_cons pe_non pa_nil))) pa_nil))) (pg_sub (pv 5) (pe_call F__law_pick hr rfl m__law_pick p__law_pick b__law_pick .nil pass0 (pa_cons (pv 1) (pa_cons (pe_call F__law_wide_bits hr rfl m__law_wide_bits p__law_wide_bits b__law_wide_bits .nil pass0 (pa_cons (pe_call F__law_next hr rfl m__law_next p__law_next b__law_next .nil pass0 (pa_cons (pv 1) (pa_cons (pe_op op_addU (pv 3) pe_int) pa_nil))) pa_nil)) pa_nil))) (set_any (hu_of hr)))))) pss_nil)
    (pss_cons (k_set 6 nd (pe_lst pa_nil))
    (pss_cons (ps_for PassesOwn.never rfl (pi_any (pe_call F__law_wide_bits hr rfl m__law_wide_bits p__law_wide_bits b__law_wide_bits .nil pass0 (pa_cons (pv 3) pa_nil))) (k_name 7 nd)
    (pss_cons (ps_if (pt_not (pt_val (pe_call F__law_same hr rfl m__law_same p__law_same b__law_same .nil pass0 (pa_cons (pe_call F_value_by hr rfl m_value_by p_value_by b_value_by .nil pass0 (pa_cons (pe_callTy (call_dictU rfl) (by rfl) z_dict (by decide +kernel) (pa_cons (pv 4) pa_nil)) (pa_cons (pv 7) pa_nil))) (pa_cons (pe_call F__law_value hr rfl m__law_value p__law_value b__law_value .nil pass0 (pa_cons (pv 4) (pa_cons (pv 7) pa_nil))) pa_nil))))) (pss_one (ps_ret pe_bl)) pss_nil)
    (pss_one (k_set 6 nd (pe_op op_addU (pv 6) (pe_ifExp (pt_cmpR (op_neU hr.units) (pe_call F__law_value hr rfl m__law_value p__law_value b__law_value .nil pass0 (pa_cons (pv 4) (pa_cons (pv 7) pa_nil))) (pe_call F__law_value hr rfl m__law_value p__law_value b__law_value .nil pass0 (pa_cons (pv 5) (pa_cons (pv 7) pa_nil))) (nomark _)) (pe_lst (pa_cons (pv 7) pa_nil)) (pe_lst pa_nil)))))))
    (pss_cons (ps_if (pt_not (pt_val (pe_call F__law_same hr rfl m__law_same p__law_same b__law_same .nil pass0 (pa_cons (pe_call F_same_fronts hr rfl m_same_fronts p_same_fronts b_same_fronts .nil pass0 (pa_cons (pe_callTy (call_dictU rfl) (by rfl) z_dict (by decide +kernel) (pa_cons (pv 4) pa_nil)) (pa_cons (pe_callTy (call_dictU rfl) (by rfl) z_dict (by decide +kernel) (pa_cons (pv 5) pa_nil)) (pa_cons (pv 3) pa_nil)))) (pa_cons (pe_ifExp (pt_cmpR (op_neU hr.units) (pv 6) (pe_lst pa_nil) (nomark _)) (pe_ix (ix_any (hu_of hr)) (pv 6) pe_int (fun _ _ => rfl)) pe_non) pa_nil))))) (pss_one (ps_ret pe_bl)) pss_nil)
    (pss_cons (k_set 7 nd (pe_join pe_str (k_lc [("k", 8)] rfl nd (pi_range1 rfl z_range (pa_cons (pe_call F__law_next hr rfl m__law_next p__law_next b__law_next .nil pass0 (pa_cons (pv 1) (pa_cons pe_int pa_nil))) pa_nil)) (fun _ _ _ _ _ => (k_name 8 nd)) (fun _ _ _ _ _ => pts_nil) (fun _ _ _ _ _ => (pe_call F__law_pick hr rfl m__law_pick p__law_pick b__law_pick .nil pass0 (pa_cons (pv 1) (pa_cons (pe_lst (pa_cons pe_str (pa_cons pe_str pa_nil))) pa_nil)))) (by kernel_rfl))))
    (pss_cons (ps_if (pt_not (pt_val (pe_call F__law_same hr rfl m__law_same p__law_same b__law_same .nil pass0 (pa_cons (pe_call F_value_by hr rfl m_value_by p_value_by b_value_by .nil pass0 (pa_cons (pe_callTy (call_dictU rfl) (by rfl) z_dict (by decide +kernel) (pa_cons (pv 4) pa_nil)) (pa_cons (pv 7) pa_nil))) (pa_cons (pe_call F__law_value hr rfl m__law_value p__law_value b__law_value .nil pass0 (pa_cons (pv 4) (pa_cons (pv 7) pa_nil))) pa_nil))))) (pss_one (ps_ret pe_bl)) pss_nil)
    (pss_cons (k_set 9 nd (pe_callB call_lenU (by rfl) z_len (by decide +kernel) (pa_cons (pe_call F__law_wide_bits hr rfl m__law_wide_bits p__law_wide_bits b__law_wide_bits .nil pass0 (pa_cons (pv 3) pa_nil)) pa_nil)))
    (pss_cons (k_set 10 nd (pe_call F__law_next hr rfl m__law_next p__law_next b__law_next .nil pass0 (pa_cons (pv 1) (pa_cons (pv 9) pa_nil))))
    (pss_cons (k_set 11 nd (pe_op op_addU (pv 10) (pe_call F__law_next hr rfl m__law_next p__law_next b__law_next .nil pass0 (pa_cons (pv 1) (pa_cons (pe_op op_sub (pv 9) (pv 10)) pa_nil)))))
    (pss_cons (k_set 12 nd (pe_call F_fronts_of_range hr rfl m_fronts_of_range p_fronts_of_range b_fronts_of_range .nil pass0 (pa_cons (pv 10) (pa_cons (pv 11) (pa_cons (pv 3) pa_nil)))))
    (pss_one (ps_if (PW.pt (pw_or (pt_not (pt_val (pe_call F__law_same hr rfl m__law_same p__law_same b__law_same .nil pass0 (pa_cons (pv 12) (pa_cons (pe_call F__law_fewest hr rfl m__law_fewest p__law_fewest b__law_fewest .nil pass0 (pa_cons (pv 10) (pa_cons (pv 11) (pa_cons (pv 3) pa_nil)))) pa_nil))))) (pw_or1 (pt_not (pt_val (pe_call F__law_is_cover hr rfl m__law_is_cover p__law_is_cover b__law_is_cover .nil pass0 (pa_cons (pv 12) (pa_cons (pv 10) (pa_cons (pv 11) (pa_cons (pv 3) pa_nil)))))))))) (pss_one (ps_ret pe_bl)) pss_nil)))))))))))))))
    (pss_one (ps_ret pe_bl)))),
    (snds_seq (snds_asg (by decide) (snd_disp (.cons (k := .inr "draws") (snd_call (snda_cons snd_v (snda_cons snd_int snda_nil))) (.cons (k := .inr "at") snd_int .nil))))
    (snds_seq (snds_for (by decide) (sndi_R1 (snda_cons snd_int snda_nil)) sndg_name
    (snds_seq (snds_asg (by decide) (snd_2 prim_add snd_int (snd_call (snda_cons snd_v (snda_cons snd_int snda_nil)))))
    (snds_seq (snds_par (by decide) (by decide) (snda_cons (snd_call (snda_cons snd_v (snda_cons snd_v snda_nil))) (snda_cons (snd_call (snda_cons snd_v (snda_cons snd_v snda_nil))) snda_nil)))
    (snds_cut (snds_if (sndt_test (snd_2 prim_eq (snd_call (snda_cons snd_v (snda_cons snd_int snda_nil))) snd_int)) (snds_seq (snds_asg (by decide) (snd_n prim_dict (snda_cons snd_v snda_nil)))
    (snds_setI (snd_call (snda_cons snd_v (snda_cons (snd_lst (snda_cons snd_str (snda_cons snd_non snda_nil))) snda_nil))) (snd_call (snda_cons snd_v (snda_cons (snd_call (snda_cons (snd_call (snda_cons snd_v (snda_cons (snd_2 prim_add snd_v snd_int) snda_nil))) snda_nil)) snda_nil))))) snds_next)
    (snds_seq (snds_asg (by decide) (snd_lst snda_nil))
    (snds_seq (snds_for (by decide) (sndi_AF (snd_call (snda_cons snd_v snda_nil))) sndg_name
    (snds_cut (snds_if (sndt_not (sndt_B (snd_call (snda_cons (snd_call (snda_cons (snd_n prim_dict (snda_cons snd_v snda_nil)) (snda_cons snd_v snda_nil))) (snda_cons (snd_call (snda_cons snd_v (snda_cons snd_v snda_nil))) snda_nil))))) (snds_ret snd_bl) snds_next)
    (snds_asg (by decide) (snd_2 prim_add snd_v (snd_if (sndt_test (snd_2 prim_ne (snd_call (snda_cons snd_v (snda_cons snd_v snda_nil))) (snd_call (snda_cons snd_v (snda_cons snd_v snda_nil))))) (snd_lst (snda_cons snd_v snda_nil)) (snd_lst snda_nil))))))
    (snds_cut (snds_if (sndt_not (sndt_B (snd_call (snda_cons (snd_call (snda_cons (snd_n prim_dict (snda_cons snd_v snda_nil)) (snda_cons (snd_n prim_dict (snda_cons snd_v snda_nil)) (snda_cons snd_v snda_nil)))) (snda_cons (snd_if (sndt_test (snd_2 prim_ne snd_v (snd_lst snda_nil))) (snd_2 prim_ix snd_v snd_int) snd_non) snda_nil))))) (snds_ret snd_bl) snds_next)
    (snds_seq (snds_asg (by decide) (snd_m1 prim_join snd_str (snd_lc (vs := [8]) (by decide) (sndi_R1 (snda_cons (snd_call (snda_cons snd_v (snda_cons snd_int snda_nil))) snda_nil)) sndg_name sndt_yes (snd_call (snda_cons snd_v (snda_cons (snd_lst (snda_cons snd_str (snda_cons snd_str snda_nil))) snda_nil))))))
    (snds_cut (snds_if (sndt_not (sndt_B (snd_call (snda_cons (snd_call (snda_cons (snd_n prim_dict (snda_cons snd_v snda_nil)) (snda_cons snd_v snda_nil))) (snda_cons (snd_call (snda_cons snd_v (snda_cons snd_v snda_nil))) snda_nil))))) (snds_ret snd_bl) snds_next)
    (snds_seq (snds_asg (by decide) (snd_n prim_len (snda_cons (snd_call (snda_cons snd_v snda_nil)) snda_nil)))
    (snds_seq (snds_asg (by decide) (snd_call (snda_cons snd_v (snda_cons snd_v snda_nil))))
    (snds_seq (snds_asg (by decide) (snd_2 prim_add snd_v (snd_call (snda_cons snd_v (snda_cons (snd_2 prim_sub snd_v snd_v) snda_nil)))))
    (snds_seq (snds_asg (by decide) (snd_call (snda_cons snd_v (snda_cons snd_v (snda_cons snd_v snda_nil)))))
    (snds_if (sndt_or (sndt_not (sndt_B (snd_call (snda_cons snd_v (snda_cons (snd_call (snda_cons snd_v (snda_cons snd_v (snda_cons snd_v snda_nil)))) snda_nil))))) (sndt_not (sndt_B (snd_call (snda_cons snd_v (snda_cons snd_v (snda_cons snd_v (snda_cons snd_v snda_nil)))))))) (snds_ret snd_bl) snds_next))))))))))))))
    (snds_ret snd_bl))), h⟩
end K22
namespace K22
open PySem L2 ML
def SRu (N : Nat) : ASp := fun ms Q => ∃ n, n ≤ N ∧ S_rb n ms Q
theorem cal_ru {Pr : Program} {w : World} {K : PySem.W.Frag} {mg : Str → Option Value} {base : Heap} (D : Dfn K mg "range_below" s_range_below ["low", "high", "front", "wide"]) (C : Cal Pr w K mg base 1 "two_to" ["n"] [false] S_two_to) (z_int : mg "int" = none) (z_len : mg "len" = none) : ∀ N, Cal Pr w K mg base (N + 2) "range_below" ["low", "high", "front", "wide"] [false, false, false, false] (SRu N)
  | 0 => W_range_below D C (cal_no D) z_int z_len fun ms Qa _ ⟨n, hn, h⟩ => ok_rb n _ (fun m e => absurd e (by omega)) ms Qa h
  | N + 1 => W_range_below D (C.mono (by omega)) (cal_ru D C z_int z_len N) z_int z_len fun ms Qa _ ⟨n, hn, h⟩ => ok_rb n _ (fun m e ms Q h => ⟨m, by omega, h⟩) ms Qa h
theorem rb_imp (ms : List M) (Q : M → List M → Prop) (h : S_range_below ms Q) : SRu 4 ms Q := by
  obtain ⟨lo, hi, w, hw, rfl, q⟩ := h
  exact ⟨w, hw, lo, hi, [], by simp, by simp; omega, q⟩
theorem all_ok {Pr : Program} {w : World} {K : PySem.W.Frag} {mg : Str → Option Value} {base : Heap} {f : Addr} {fd : FuncData} (Fn : Fun K "law" "law" s_law f fd) (D_two_to : Dfn K mg "two_to" s_two_to ["n"]) (D_digits_of : Dfn K mg "digits_of" s_digits_of ["n", "many"]) (D_value_by : Dfn K mg "value_by" s_value_by ["fronts", "bits"]) (D_same_fronts : Dfn K mg "same_fronts" s_same_fronts ["one", "other", "wide"]) (D_range_below : Dfn K mg "range_below" s_range_below ["low", "high", "front", "wide"]) (D_fronts_of_range : Dfn K mg "fronts_of_range" s_fronts_of_range ["low", "high", "wide"]) (D__law_draws : Dfn K mg "_law_draws" s__law_draws ["script", "many"]) (D__law_next : Dfn K mg "_law_next" s__law_next ["w", "many"]) (D__law_pick : Dfn K mg "_law_pick" s__law_pick ["w", "rows"]) (D__law_says : Dfn K mg "_law_says" s__law_says ["seen", "due"]) (D__law_same : Dfn K mg "_law_same" s__law_same ["seen", "due"]) (D__law_wide_bits : Dfn K mg "_law_wide_bits" s__law_wide_bits ["wide"]) (D__law_value : Dfn K mg "_law_value" s__law_value ["fronts", "bits"]) (D__law_fronts : Dfn K mg "_law_fronts" s__law_fronts ["w", "wide"]) (D__law_number : Dfn K mg "_law_number" s__law_number ["bits"]) (D__law_is_cover : Dfn K mg "_law_is_cover" s__law_is_cover ["fronts", "low", "high", "wide"]) (D__law_fewest : Dfn K mg "_law_fewest" s__law_fewest ["low", "high", "wide"])
    (z_range : mg "range" = none) (z_str : mg "str" = none) (z_len : mg "len" = none) (z_int : mg "int" = none) (z_tuple : mg "tuple" = none) (z_sorted : mg "sorted" = none) (z_abs : mg "abs" = none) (z_isinstance : mg "isinstance" = none) (z_bool : mg "bool" = none) (z_max : mg "max" = none) (z_min : mg "min" = none) (z_dict : mg "dict" = none) : FnOk Pr w K mg base CX0 100 f fd ["script"] (lift K [true] aspLaw) := by
  have C_two_to := W_two_to (Pr := Pr) (w := w) (base := base) (k := 0) (S := S_two_to) D_two_to  z_range fun ms Qa _ h => ok_two_to ms Qa h
  have C_digits_of := W_digits_of (Pr := Pr) (w := w) (base := base) (k := 0) (S := S_digits_of) D_digits_of  z_range z_str fun ms Qa _ h => ok_digits_of ms Qa h
  have C_value_by := W_value_by (Pr := Pr) (w := w) (base := base) (k := 0) (S := S_value_by) D_value_by  z_range z_len fun ms Qa _ h => ok_value_by ms Qa h
  have C_same_fronts := W_same_fronts (Pr := Pr) (w := w) (base := base) (k := 1) (S := S_same_fronts) D_same_fronts (C_two_to.mono (by decide)) (C_digits_of.mono (by decide)) (C_value_by.mono (by decide)) z_range fun ms Qa _ h => ok_same_fronts ms Qa h
  have C_range_below := (cal_ru D_range_below C_two_to z_int z_len 4).imp rb_imp
  have C_fronts_of_range := W_fronts_of_range (Pr := Pr) (w := w) (base := base) (k := 10) (S := S_fronts_of_range) D_fronts_of_range (C_range_below.mono (by decide)) z_tuple z_sorted fun ms Qa _ h => ok_fronts_of_range ms Qa h
  have C__law_draws := W__law_draws (Pr := Pr) (w := w) (base := base) (k := 0) (S := S__law_draws) D__law_draws  z_range z_len z_abs z_int fun ms Qa _ h => ok__law_draws ms Qa h
  have C__law_next := W__law_next (Pr := Pr) (w := w) (base := base) (k := 0) (S := S__law_next) D__law_next  z_len z_int fun ms Qa _ h => ok__law_next ms Qa h
  have C__law_pick := W__law_pick (Pr := Pr) (w := w) (base := base) (k := 1) (S := S__law_pick) D__law_pick (C__law_next.mono (by decide)) z_len fun ms Qa _ h => ok__law_pick ms Qa h
  
  have C_same0 := W__law_same (Pr := Pr) (w := w) (base := base) (k := 0) (S := S_same 0) D__law_same (cal_no D__law_same) z_isinstance z_tuple z_len z_range z_str z_int z_bool fun ms Qa _ h => ok_same 0 _ (fun m h => absurd h (by omega)) ms Qa h
  have C__law_same := W__law_same (Pr := Pr) (w := w) (base := base) (k := 1) (S := S_same 1) D__law_same C_same0 z_isinstance z_tuple z_len z_range z_str z_int z_bool fun ms Qa _ h => ok_same 1 _ (fun m h => by cases h; rfl) ms Qa h
  have C__law_wide_bits := W__law_wide_bits (Pr := Pr) (w := w) (base := base) (k := 0) (S := S__law_wide_bits) D__law_wide_bits  z_range z_sorted fun ms Qa _ h => ok__law_wide_bits ms Qa h
  have C__law_value := W__law_value (Pr := Pr) (w := w) (base := base) (k := 0) (S := S__law_value) D__law_value  z_len z_max fun ms Qa _ h => ok__law_value ms Qa h
  have C__law_fronts := W__law_fronts (Pr := Pr) (w := w) (base := base) (k := 2) (S := S__law_fronts) D__law_fronts (C__law_next.mono (by decide)) (C__law_pick.mono (by decide)) z_range fun ms Qa _ h => ok__law_fronts ms Qa h
  have C__law_number := W__law_number (Pr := Pr) (w := w) (base := base) (k := 0) (S := S__law_number) D__law_number  z_int fun ms Qa _ h => ok__law_number ms Qa h
  have C__law_is_cover := W__law_is_cover (Pr := Pr) (w := w) (base := base) (k := 1) (S := S__law_is_cover) D__law_is_cover (C__law_wide_bits.mono (by decide)) (C__law_number.mono (by decide)) z_len z_int fun ms Qa _ h => ok__law_is_cover ms Qa h
  have C__law_fewest := W__law_fewest (Pr := Pr) (w := w) (base := base) (k := 1) (S := S__law_fewest) D__law_fewest (C__law_wide_bits.mono (by decide)) (C__law_number.mono (by decide)) z_range z_min z_max z_len z_tuple z_sorted fun ms Qa _ h => ok__law_fewest ms Qa h
  exact W0_law (k := 99) (S := aspLaw) Fn (C__law_draws.mono (by decide)) (C__law_next.mono (by decide)) (C__law_fronts.mono (by decide)) (C__law_pick.mono (by decide)) (C__law_wide_bits.mono (by decide)) (C__law_same.mono (by decide)) (C_value_by.mono (by decide)) (C__law_value.mono (by decide)) (C_same_fronts.mono (by decide)) (C_fronts_of_range.mono (by decide)) (C__law_fewest.mono (by decide)) (C__law_is_cover.mono (by decide)) z_range z_dict z_len fun ms Qa _ h => ok_law ms Qa h
end K22
/-! the end, printed by gen.py; Sp_K22 holds all_ok -/
namespace K22
open PySem L2 ML
theorem all_mk {l : PySem.W.OpenLaw} {w : World} {K : PySem.W.Frag} {h : Heap} {mg : Str → Option Value} {fa f0 f1 f2 f3 f4 f5 f6 f7 f8 f9 f10 f11 f12 f13 f14 f15 f16 f17 : Addr} (X : K.In h) (G : h.Ns mainGlobals mg) (hfa : mg "law" = some (.ref fa))
    {od0 an0 od1 an1 od2 an2 od3 an3 od4 an4 od5 an5 od6 an6 od7 an7 od8 an8 od9 an9 od10 an10 od11 an11 od12 an12 od13 an13 od14 an14 od15 an15 od16 an16 od17 an17 : Option Addr} {sl0 sl1 sl2 sl3 sl4 sl5 sl6 sl7 sl8 sl9 sl10 sl11 sl12 sl13 sl14 sl15 sl16 sl17 : Array (Option Value)} {oc0 kV0 dc0 pm0 cd0 ct0 oc1 kV1 dc1 pm1 cd1 ct1 oc2 kV2 dc2 pm2 cd2 ct2 oc3 kV3 dc3 pm3 cd3 ct3 oc4 kV4 dc4 pm4 cd4 ct4 oc5 kV5 dc5 pm5 cd5 ct5 oc6 kV6 dc6 pm6 cd6 ct6 oc7 kV7 dc7 pm7 cd7 ct7 oc8 kV8 dc8 pm8 cd8 ct8 oc9 kV9 dc9 pm9 cd9 ct9 oc10 kV10 dc10 pm10 cd10 ct10 oc11 kV11 dc11 pm11 cd11 ct11 oc12 kV12 dc12 pm12 cd12 ct12 oc13 kV13 dc13 pm13 cd13 ct13 oc14 kV14 dc14 pm14 cd14 ct14 oc15 kV15 dc15 pm15 cd15 ct15 oc16 kV16 dc16 pm16 cd16 ct16 oc17 kV17 dc17 pm17 cd17 ct17 : Value}
    (a0 : PySem.W.nsIn K mainGlobals "two_to" = some (some (.ref f0))) (l0 : K.lookup f0 = some ⟨oc0, od0, .func (PySem.W.fnOf "two_to" "two_to" (defArgs s_two_to) (defBody s_two_to) (defScope s_two_to) .none kV0 dc0 pm0 an0 cd0 ct0), sl0⟩) (c0 : PySem.W.codeIn K cd0 "two_to" = true) (k0 : PySem.W.keepIn K (.ref f0) = true)
    (a1 : PySem.W.nsIn K mainGlobals "digits_of" = some (some (.ref f1))) (l1 : K.lookup f1 = some ⟨oc1, od1, .func (PySem.W.fnOf "digits_of" "digits_of" (defArgs s_digits_of) (defBody s_digits_of) (defScope s_digits_of) .none kV1 dc1 pm1 an1 cd1 ct1), sl1⟩) (c1 : PySem.W.codeIn K cd1 "digits_of" = true) (k1 : PySem.W.keepIn K (.ref f1) = true)
    (a2 : PySem.W.nsIn K mainGlobals "value_by" = some (some (.ref f2))) (l2 : K.lookup f2 = some ⟨oc2, od2, .func (PySem.W.fnOf "value_by" "value_by" (defArgs s_value_by) (defBody s_value_by) (defScope s_value_by) .none kV2 dc2 pm2 an2 cd2 ct2), sl2⟩) (c2 : PySem.W.codeIn K cd2 "value_by" = true) (k2 : PySem.W.keepIn K (.ref f2) = true)
    (a3 : PySem.W.nsIn K mainGlobals "same_fronts" = some (some (.ref f3))) (l3 : K.lookup f3 = some ⟨oc3, od3, .func (PySem.W.fnOf "same_fronts" "same_fronts" (defArgs s_same_fronts) (defBody s_same_fronts) (defScope s_same_fronts) .none kV3 dc3 pm3 an3 cd3 ct3), sl3⟩) (c3 : PySem.W.codeIn K cd3 "same_fronts" = true) (k3 : PySem.W.keepIn K (.ref f3) = true)
    (a4 : PySem.W.nsIn K mainGlobals "range_below" = some (some (.ref f4))) (l4 : K.lookup f4 = some ⟨oc4, od4, .func (PySem.W.fnOf "range_below" "range_below" (defArgs s_range_below) (defBody s_range_below) (defScope s_range_below) .none kV4 dc4 pm4 an4 cd4 ct4), sl4⟩) (c4 : PySem.W.codeIn K cd4 "range_below" = true) (k4 : PySem.W.keepIn K (.ref f4) = true)
    (a5 : PySem.W.nsIn K mainGlobals "fronts_of_range" = some (some (.ref f5))) (l5 : K.lookup f5 = some ⟨oc5, od5, .func (PySem.W.fnOf "fronts_of_range" "fronts_of_range" (defArgs s_fronts_of_range) (defBody s_fronts_of_range) (defScope s_fronts_of_range) .none kV5 dc5 pm5 an5 cd5 ct5), sl5⟩) (c5 : PySem.W.codeIn K cd5 "fronts_of_range" = true) (k5 : PySem.W.keepIn K (.ref f5) = true)
    (a6 : PySem.W.nsIn K mainGlobals "_law_draws" = some (some (.ref f6))) (l6 : K.lookup f6 = some ⟨oc6, od6, .func (PySem.W.fnOf "_law_draws" "_law_draws" (defArgs s__law_draws) (defBody s__law_draws) (defScope s__law_draws) .none kV6 dc6 pm6 an6 cd6 ct6), sl6⟩) (c6 : PySem.W.codeIn K cd6 "_law_draws" = true) (k6 : PySem.W.keepIn K (.ref f6) = true)
    (a7 : PySem.W.nsIn K mainGlobals "_law_next" = some (some (.ref f7))) (l7 : K.lookup f7 = some ⟨oc7, od7, .func (PySem.W.fnOf "_law_next" "_law_next" (defArgs s__law_next) (defBody s__law_next) (defScope s__law_next) .none kV7 dc7 pm7 an7 cd7 ct7), sl7⟩) (c7 : PySem.W.codeIn K cd7 "_law_next" = true) (k7 : PySem.W.keepIn K (.ref f7) = true)
    (a8 : PySem.W.nsIn K mainGlobals "_law_pick" = some (some (.ref f8))) (l8 : K.lookup f8 = some ⟨oc8, od8, .func (PySem.W.fnOf "_law_pick" "_law_pick" (defArgs s__law_pick) (defBody s__law_pick) (defScope s__law_pick) .none kV8 dc8 pm8 an8 cd8 ct8), sl8⟩) (c8 : PySem.W.codeIn K cd8 "_law_pick" = true) (k8 : PySem.W.keepIn K (.ref f8) = true)
    (a9 : PySem.W.nsIn K mainGlobals "_law_says" = some (some (.ref f9))) (l9 : K.lookup f9 = some ⟨oc9, od9, .func (PySem.W.fnOf "_law_says" "_law_says" (defArgs s__law_says) (defBody s__law_says) (defScope s__law_says) .none kV9 dc9 pm9 an9 cd9 ct9), sl9⟩) (c9 : PySem.W.codeIn K cd9 "_law_says" = true) (k9 : PySem.W.keepIn K (.ref f9) = true)
    (a10 : PySem.W.nsIn K mainGlobals "_law_same" = some (some (.ref f10))) (l10 : K.lookup f10 = some ⟨oc10, od10, .func (PySem.W.fnOf "_law_same" "_law_same" (defArgs s__law_same) (defBody s__law_same) (defScope s__law_same) .none kV10 dc10 pm10 an10 cd10 ct10), sl10⟩) (c10 : PySem.W.codeIn K cd10 "_law_same" = true) (k10 : PySem.W.keepIn K (.ref f10) = true)
    (a11 : PySem.W.nsIn K mainGlobals "_law_wide_bits" = some (some (.ref f11))) (l11 : K.lookup f11 = some ⟨oc11, od11, .func (PySem.W.fnOf "_law_wide_bits" "_law_wide_bits" (defArgs s__law_wide_bits) (defBody s__law_wide_bits) (defScope s__law_wide_bits) .none kV11 dc11 pm11 an11 cd11 ct11), sl11⟩) (c11 : PySem.W.codeIn K cd11 "_law_wide_bits" = true) (k11 : PySem.W.keepIn K (.ref f11) = true)
    (a12 : PySem.W.nsIn K mainGlobals "_law_value" = some (some (.ref f12))) (l12 : K.lookup f12 = some ⟨oc12, od12, .func (PySem.W.fnOf "_law_value" "_law_value" (defArgs s__law_value) (defBody s__law_value) (defScope s__law_value) .none kV12 dc12 pm12 an12 cd12 ct12), sl12⟩) (c12 : PySem.W.codeIn K cd12 "_law_value" = true) (k12 : PySem.W.keepIn K (.ref f12) = true)
    (a13 : PySem.W.nsIn K mainGlobals "_law_fronts" = some (some (.ref f13))) (l13 : K.lookup f13 = some ⟨oc13, od13, .func (PySem.W.fnOf "_law_fronts" "_law_fronts" (defArgs s__law_fronts) (defBody s__law_fronts) (defScope s__law_fronts) .none kV13 dc13 pm13 an13 cd13 ct13), sl13⟩) (c13 : PySem.W.codeIn K cd13 "_law_fronts" = true) (k13 : PySem.W.keepIn K (.ref f13) = true)
    (a14 : PySem.W.nsIn K mainGlobals "_law_number" = some (some (.ref f14))) (l14 : K.lookup f14 = some ⟨oc14, od14, .func (PySem.W.fnOf "_law_number" "_law_number" (defArgs s__law_number) (defBody s__law_number) (defScope s__law_number) .none kV14 dc14 pm14 an14 cd14 ct14), sl14⟩) (c14 : PySem.W.codeIn K cd14 "_law_number" = true) (k14 : PySem.W.keepIn K (.ref f14) = true)
    (a15 : PySem.W.nsIn K mainGlobals "_law_is_cover" = some (some (.ref f15))) (l15 : K.lookup f15 = some ⟨oc15, od15, .func (PySem.W.fnOf "_law_is_cover" "_law_is_cover" (defArgs s__law_is_cover) (defBody s__law_is_cover) (defScope s__law_is_cover) .none kV15 dc15 pm15 an15 cd15 ct15), sl15⟩) (c15 : PySem.W.codeIn K cd15 "_law_is_cover" = true) (k15 : PySem.W.keepIn K (.ref f15) = true)
    (a16 : PySem.W.nsIn K mainGlobals "_law_fewest" = some (some (.ref f16))) (l16 : K.lookup f16 = some ⟨oc16, od16, .func (PySem.W.fnOf "_law_fewest" "_law_fewest" (defArgs s__law_fewest) (defBody s__law_fewest) (defScope s__law_fewest) .none kV16 dc16 pm16 an16 cd16 ct16), sl16⟩) (c16 : PySem.W.codeIn K cd16 "_law_fewest" = true) (k16 : PySem.W.keepIn K (.ref f16) = true)
    (a17 : PySem.W.nsIn K mainGlobals "law" = some (some (.ref f17))) (l17 : K.lookup f17 = some ⟨oc17, od17, .func (PySem.W.fnOf "law" "law" (defArgs s_law) (defBody s_law) (defScope s_law) .none kV17 dc17 pm17 an17 cd17 ct17), sl17⟩) (c17 : PySem.W.codeIn K cd17 "law" = true) (k17 : PySem.W.keepIn K (.ref f17) = true)
    (z_range : PySem.W.nsIn K mainGlobals "range" = some none) (z_str : PySem.W.nsIn K mainGlobals "str" = some none) (z_len : PySem.W.nsIn K mainGlobals "len" = some none) (z_int : PySem.W.nsIn K mainGlobals "int" = some none) (z_tuple : PySem.W.nsIn K mainGlobals "tuple" = some none) (z_sorted : PySem.W.nsIn K mainGlobals "sorted" = some none) (z_abs : PySem.W.nsIn K mainGlobals "abs" = some none) (z_isinstance : PySem.W.nsIn K mainGlobals "isinstance" = some none) (z_bool : PySem.W.nsIn K mainGlobals "bool" = some none) (z_max : PySem.W.nsIn K mainGlobals "max" = some none) (z_min : PySem.W.nsIn K mainGlobals "min" = some none) (z_dict : PySem.W.nsIn K mainGlobals "dict" = some none) :
    ∃ fd : FuncData, (∀ (s : Shared) (v : Value), BindsTo s fd ⟨[v], []⟩ [("script", v)]) ∧ ∀ base : Heap, K.In base → base.Ns mainGlobals mg → FnOk l.prog w K mg base CX0 100 fa fd ["script"] (lift K [true] aspLaw) := by
  have e := hfa.symm.trans (PySem.W.mg_of X G a17)
  cases e
  have D_two_to : Dfn K mg "two_to" s_two_to ["n"] := ⟨⟨_, _, fun_mk (st := s_two_to) l0 c0 k0, PySem.W.mg_of X G a0, (fun_mk (st := s_two_to) l0 c0 k0).binds (ps := ["n"]) fun _ _ _ _ _ _ us hl => match us, hl with | [_], _ => rfl⟩⟩
  have D_digits_of : Dfn K mg "digits_of" s_digits_of ["n", "many"] := ⟨⟨_, _, fun_mk (st := s_digits_of) l1 c1 k1, PySem.W.mg_of X G a1, (fun_mk (st := s_digits_of) l1 c1 k1).binds (ps := ["n", "many"]) fun _ _ _ _ _ _ us hl => match us, hl with | [_, _], _ => rfl⟩⟩
  have D_value_by : Dfn K mg "value_by" s_value_by ["fronts", "bits"] := ⟨⟨_, _, fun_mk (st := s_value_by) l2 c2 k2, PySem.W.mg_of X G a2, (fun_mk (st := s_value_by) l2 c2 k2).binds (ps := ["fronts", "bits"]) fun _ _ _ _ _ _ us hl => match us, hl with | [_, _], _ => rfl⟩⟩
  have D_same_fronts : Dfn K mg "same_fronts" s_same_fronts ["one", "other", "wide"] := ⟨⟨_, _, fun_mk (st := s_same_fronts) l3 c3 k3, PySem.W.mg_of X G a3, (fun_mk (st := s_same_fronts) l3 c3 k3).binds (ps := ["one", "other", "wide"]) fun _ _ _ _ _ _ us hl => match us, hl with | [_, _, _], _ => rfl⟩⟩
  have D_range_below : Dfn K mg "range_below" s_range_below ["low", "high", "front", "wide"] := ⟨⟨_, _, fun_mk (st := s_range_below) l4 c4 k4, PySem.W.mg_of X G a4, (fun_mk (st := s_range_below) l4 c4 k4).binds (ps := ["low", "high", "front", "wide"]) fun _ _ _ _ _ _ us hl => match us, hl with | [_, _, _, _], _ => rfl⟩⟩
  have D_fronts_of_range : Dfn K mg "fronts_of_range" s_fronts_of_range ["low", "high", "wide"] := ⟨⟨_, _, fun_mk (st := s_fronts_of_range) l5 c5 k5, PySem.W.mg_of X G a5, (fun_mk (st := s_fronts_of_range) l5 c5 k5).binds (ps := ["low", "high", "wide"]) fun _ _ _ _ _ _ us hl => match us, hl with | [_, _, _], _ => rfl⟩⟩
  have D__law_draws : Dfn K mg "_law_draws" s__law_draws ["script", "many"] := ⟨⟨_, _, fun_mk (st := s__law_draws) l6 c6 k6, PySem.W.mg_of X G a6, (fun_mk (st := s__law_draws) l6 c6 k6).binds (ps := ["script", "many"]) fun _ _ _ _ _ _ us hl => match us, hl with | [_, _], _ => rfl⟩⟩
  have D__law_next : Dfn K mg "_law_next" s__law_next ["w", "many"] := ⟨⟨_, _, fun_mk (st := s__law_next) l7 c7 k7, PySem.W.mg_of X G a7, (fun_mk (st := s__law_next) l7 c7 k7).binds (ps := ["w", "many"]) fun _ _ _ _ _ _ us hl => match us, hl with | [_, _], _ => rfl⟩⟩
  have D__law_pick : Dfn K mg "_law_pick" s__law_pick ["w", "rows"] := ⟨⟨_, _, fun_mk (st := s__law_pick) l8 c8 k8, PySem.W.mg_of X G a8, (fun_mk (st := s__law_pick) l8 c8 k8).binds (ps := ["w", "rows"]) fun _ _ _ _ _ _ us hl => match us, hl with | [_, _], _ => rfl⟩⟩
  have D__law_says : Dfn K mg "_law_says" s__law_says ["seen", "due"] := ⟨⟨_, _, fun_mk (st := s__law_says) l9 c9 k9, PySem.W.mg_of X G a9, (fun_mk (st := s__law_says) l9 c9 k9).binds (ps := ["seen", "due"]) fun _ _ _ _ _ _ us hl => match us, hl with | [_, _], _ => rfl⟩⟩
  have D__law_same : Dfn K mg "_law_same" s__law_same ["seen", "due"] := ⟨⟨_, _, fun_mk (st := s__law_same) l10 c10 k10, PySem.W.mg_of X G a10, (fun_mk (st := s__law_same) l10 c10 k10).binds (ps := ["seen", "due"]) fun _ _ _ _ _ _ us hl => match us, hl with | [_, _], _ => rfl⟩⟩
  have D__law_wide_bits : Dfn K mg "_law_wide_bits" s__law_wide_bits ["wide"] := ⟨⟨_, _, fun_mk (st := s__law_wide_bits) l11 c11 k11, PySem.W.mg_of X G a11, (fun_mk (st := s__law_wide_bits) l11 c11 k11).binds (ps := ["wide"]) fun _ _ _ _ _ _ us hl => match us, hl with | [_], _ => rfl⟩⟩
  have D__law_value : Dfn K mg "_law_value" s__law_value ["fronts", "bits"] := ⟨⟨_, _, fun_mk (st := s__law_value) l12 c12 k12, PySem.W.mg_of X G a12, (fun_mk (st := s__law_value) l12 c12 k12).binds (ps := ["fronts", "bits"]) fun _ _ _ _ _ _ us hl => match us, hl with | [_, _], _ => rfl⟩⟩
  have D__law_fronts : Dfn K mg "_law_fronts" s__law_fronts ["w", "wide"] := ⟨⟨_, _, fun_mk (st := s__law_fronts) l13 c13 k13, PySem.W.mg_of X G a13, (fun_mk (st := s__law_fronts) l13 c13 k13).binds (ps := ["w", "wide"]) fun _ _ _ _ _ _ us hl => match us, hl with | [_, _], _ => rfl⟩⟩
  have D__law_number : Dfn K mg "_law_number" s__law_number ["bits"] := ⟨⟨_, _, fun_mk (st := s__law_number) l14 c14 k14, PySem.W.mg_of X G a14, (fun_mk (st := s__law_number) l14 c14 k14).binds (ps := ["bits"]) fun _ _ _ _ _ _ us hl => match us, hl with | [_], _ => rfl⟩⟩
  have D__law_is_cover : Dfn K mg "_law_is_cover" s__law_is_cover ["fronts", "low", "high", "wide"] := ⟨⟨_, _, fun_mk (st := s__law_is_cover) l15 c15 k15, PySem.W.mg_of X G a15, (fun_mk (st := s__law_is_cover) l15 c15 k15).binds (ps := ["fronts", "low", "high", "wide"]) fun _ _ _ _ _ _ us hl => match us, hl with | [_, _, _, _], _ => rfl⟩⟩
  have D__law_fewest : Dfn K mg "_law_fewest" s__law_fewest ["low", "high", "wide"] := ⟨⟨_, _, fun_mk (st := s__law_fewest) l16 c16 k16, PySem.W.mg_of X G a16, (fun_mk (st := s__law_fewest) l16 c16 k16).binds (ps := ["low", "high", "wide"]) fun _ _ _ _ _ _ us hl => match us, hl with | [_, _, _], _ => rfl⟩⟩
  refine ⟨PySem.W.fnOf "law" "law" (defArgs s_law) (defBody s_law) (defScope s_law) .none kV17 dc17 pm17 an17 cd17 ct17, fun s v => .of_eq rfl, fun base _ _ => ?_⟩
  exact all_ok (fun_mk (st := s_law) l17 c17 k17) D_two_to D_digits_of D_value_by D_same_fronts D_range_below D_fronts_of_range D__law_draws D__law_next D__law_pick D__law_says D__law_same D__law_wide_bits D__law_value D__law_fronts D__law_number D__law_is_cover D__law_fewest (PySem.W.mg_none_of X G z_range) (PySem.W.mg_none_of X G z_str) (PySem.W.mg_none_of X G z_len) (PySem.W.mg_none_of X G z_int) (PySem.W.mg_none_of X G z_tuple) (PySem.W.mg_none_of X G z_sorted) (PySem.W.mg_none_of X G z_abs) (PySem.W.mg_none_of X G z_isinstance) (PySem.W.mg_none_of X G z_bool) (PySem.W.mg_none_of X G z_max) (PySem.W.mg_none_of X G z_min) (PySem.W.mg_none_of X G z_dict)
theorem walk {l : PySem.W.OpenLaw} {q : Program} {loose : List Str} {XP : (Str → Option Value) → Heap → Prop} {YP : World → Heap → Prop} {d : DefRec} {K : Params → PySem.W.Frag} (hn : l.most = some 63) (hdf : d.params.defaults = [])
    (hY : ∀ (w : World) (h : Heap), YP w h → (K w.params).In h)
    (F : ∀ (w : World) (mg : Str → Option Value) (fa : Addr) (h : Heap), (K w.params).In h → h.Ns mainGlobals mg → mg d.name = some (.ref fa) →
      ∃ fd : FuncData, (∀ (s : Shared) (u : Value), BindsTo s fd ⟨[u], []⟩ [("script", u)]) ∧ ∀ base : Heap, (K w.params).In base → base.Ns mainGlobals mg → FnOk l.prog w (K w.params) mg base CX0 100 fa fd ["script"] (lift (K w.params) [true] aspLaw)) :
    PySem.W.WalkO q loose XP YP l.row.toRowW d [] (fun f vs => PySem.call f vs) :=
  L2.walk_of (n := 63) (k := 100) (x := "script") (CX := fun _ => CX0) (sp := fun w => lift (K w.params) [true] aspLaw) hn (by decide) hdf ⟨rfl, by decide, by decide⟩ hY F (fun _ _ a ns hl _ hS => law_sp hl hS) fun _ _ _ _ _ z => z
end K22
open PySem PySem.W PyProof.Rows
set_option maxRecDepth 100000 in
set_option maxHeartbeats 0 in
theorem PySem.Challenge.cw_shorthold_k22_fronts_and_their_ranges_holds : PySem.Challenge.rw_shorthold_k22_fronts_and_their_ranges.Holds := by
  w_on; o_law; k_head; (case hw => w_witness2)
  k_fill
  refine K22.walk (l := PySem.Challenge.rw_shorthold_k22_fronts_and_their_ranges) rfl rfl (fun w h Y => PySem.W.kIn_of Y) ?F
  case F =>
    intro w mg fa h KX G hmg
    refine' K22.all_mk KX G hmg ?a0 ?l0 ?c0 ?k0 ?a1 ?l1 ?c1 ?k1 ?a2 ?l2 ?c2 ?k2 ?a3 ?l3 ?c3 ?k3 ?a4 ?l4 ?c4 ?k4 ?a5 ?l5 ?c5 ?k5 ?a6 ?l6 ?c6 ?k6 ?a7 ?l7 ?c7 ?k7 ?a8 ?l8 ?c8 ?k8 ?a9 ?l9 ?c9 ?k9 ?a10 ?l10 ?c10 ?k10 ?a11 ?l11 ?c11 ?k11 ?a12 ?l12 ?c12 ?k12 ?a13 ?l13 ?c13 ?k13 ?a14 ?l14 ?c14 ?k14 ?a15 ?l15 ?c15 ?k15 ?a16 ?l16 ?c16 ?k16 ?a17 ?l17 ?c17 ?k17 ?z_range ?z_str ?z_len ?z_int ?z_tuple ?z_sorted ?z_abs ?z_isinstance ?z_bool ?z_max ?z_min ?z_dict
    (case a0 => k_is); (case l0 => k_is); (case c0 => k_is); (case k0 => k_is)
    (case a1 => k_is); (case l1 => k_is); (case c1 => k_is); (case k1 => k_is)
    (case a2 => k_is); (case l2 => k_is); (case c2 => k_is); (case k2 => k_is)
    (case a3 => k_is); (case l3 => k_is); (case c3 => k_is); (case k3 => k_is)
    (case a4 => k_is); (case l4 => k_is); (case c4 => k_is); (case k4 => k_is)
    (case a5 => k_is); (case l5 => k_is); (case c5 => k_is); (case k5 => k_is)
    (case a6 => k_is); (case l6 => k_is); (case c6 => k_is); (case k6 => k_is)
    (case a7 => k_is); (case l7 => k_is); (case c7 => k_is); (case k7 => k_is)
    (case a8 => k_is); (case l8 => k_is); (case c8 => k_is); (case k8 => k_is)
    (case a9 => k_is); (case l9 => k_is); (case c9 => k_is); (case k9 => k_is)
    (case a10 => k_is); (case l10 => k_is); (case c10 => k_is); (case k10 => k_is)
    (case a11 => k_is); (case l11 => k_is); (case c11 => k_is); (case k11 => k_is)
    (case a12 => k_is); (case l12 => k_is); (case c12 => k_is); (case k12 => k_is)
    (case a13 => k_is); (case l13 => k_is); (case c13 => k_is); (case k13 => k_is)
    (case a14 => k_is); (case l14 => k_is); (case c14 => k_is); (case k14 => k_is)
    (case a15 => k_is); (case l15 => k_is); (case c15 => k_is); (case k15 => k_is)
    (case a16 => k_is); (case l16 => k_is); (case c16 => k_is); (case k16 => k_is)
    (case a17 => k_is); (case l17 => k_is); (case c17 => k_is); (case k17 => k_is)
    (case z_range => k_is)
    (case z_str => k_is)
    (case z_len => k_is)
    (case z_int => k_is)
    (case z_tuple => k_is)
    (case z_sorted => k_is)
    (case z_abs => k_is)
    (case z_isinstance => k_is)
    (case z_bool => k_is)
    (case z_max => k_is)
    (case z_min => k_is)
    (case z_dict => k_is)
